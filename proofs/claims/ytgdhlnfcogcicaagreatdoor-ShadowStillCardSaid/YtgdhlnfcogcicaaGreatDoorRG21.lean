import Derived.Test.YtgdhlnfcogcicaaGreatDoorRF
import Derived.Test.YtgdhlnfcogcicaaGreatDoorRG1
import Derived.Test.YtgdhlnfcogcicaaGreatDoorRG2
import Derived.Test.YtgdhlnfcogcicaaGreatDoorRG4
import Derived.Test.YtgdhlnfcogcicaaGreatDoorRG6
import Derived.Test.YtgdhlnfcogcicaaGreatDoorRG11
import Derived.Test.YtgdhlnfcogcicaaGreatDoorRG16
import Derived.Test.YtgdhlnfcogcicaaGreatDoorRG17
set_option linter.all false
namespace Go.Sx
open Go.Proofs
set_option maxRecDepth 10000
set_option maxHeartbeats 100000000
theorem g39:(∀ N (a0:TWorld) (a1:Int) (a2:Int) (a3:Int) (a4:Int) (a5:TFact),OK (QeK N a0 a1 a2 a3 a4 a5) 11 [.agg (e61 a0),.v (.int .i64 a1),.v (.int .u64 a2),.v (.int .u64 a3),.v (.int .u64 a4),.agg (e66 a5)] [] (fun r=>.tup [.agg (e61 r.1),.v (.int .u64 r.2.1),.v (.int .i64 r.2.2)]) fun r=>[])∧(∀ N (a0:TWorld) (a2:Int) (a3:Int) (a4:Int) (a5:TFact),OK (QdT N a0 a2 a3 a4 a5) 11 [.agg (e61 a0),.v (.int .i64 5),.v (.int .u64 a2),.v (.int .u64 a3),.v (.int .u64 a4),.agg (e66 a5)] [] (fun r=>.tup [.agg (e61 r.1),.v (.int .u64 r.2.1),.v (.int .i64 r.2.2)]) fun r=>[])∧(∀ N (a0:TWorld) (a2:Int) (a3:Int) (a4:Int) (a5:TFact),OK (Qc5 N a0 a2 a3 a4 a5) 11 [.agg (e61 a0),.v (.int .i64 12),.v (.int .u64 a2),.v (.int .u64 a3),.v (.int .u64 a4),.agg (e66 a5)] [] (fun r=>.tup [.agg (e61 r.1),.v (.int .u64 r.2.1),.v (.int .i64 r.2.2)]) fun r=>[])∧(∀ N (a0:TWorld) (a2:Int) (a3:Int) (a4:Int) (a5:TFact),OK (Qda N a0 a2 a3 a4 a5) 11 [.agg (e61 a0),.v (.int .i64 17),.v (.int .u64 a2),.v (.int .u64 a3),.v (.int .u64 a4),.agg (e66 a5)] [] (fun r=>.tup [.agg (e61 r.1),.v (.int .u64 r.2.1),.v (.int .i64 r.2.2)]) fun r=>[]):=by
 refine ⟨fun N _ _ _ _ _ _=>rn Tryz.f11 [.cell 12 61,.tmp 13,.tmp 14] [] 57 (by kernel_rfl) ?_,fun N _ _ _ _ _=>rn Tryz.f11 [.cell 12 61,.tmp 13,.tmp 14] [] 57 (by kernel_rfl) ?_,fun N _ _ _ _ _=>rn Tryz.f11 [.cell 12 61,.tmp 13,.tmp 14] [] 57 (by kernel_rfl) ?_,fun N _ _ _ _ _=>rn Tryz.f11 [.cell 12 61,.tmp 13,.tmp 14] [] 57 (by kernel_rfl) ?_⟩<;>(rintro _ hw r hr C _ rfl hwf hf;simp only[Tryz.f11,Tryz.f11,Tryz.f11,Tryz.f11,Option.get!];(first|rw[QeK] at hr|rw[QdT] at hr|rw[Qc5] at hr|rw[Qda] at hr);repeat' first
 |(refine El.el hr ?_;intro hr)
 |(with_reducible intro h;refine bc_e hr h ?_;intro hr)
 |with_reducible intro _
 |simp only[go_sem,simprocAttr,hl37,hl77]
 |(with_reducible first|apply guard_of_f|apply guard_of_t|apply cond_of|apply doT_of_t|apply doT_of_f)
 |((first|with_reducible refine idx_s hr (by assumption) ?_ ?_|(with_reducible refine idx_e hr ?_ ?_;rotate_left;intro p;rotate_right));(·simp only[go_sem,simprocAttr]);intro hp hn hd hr;(try have hl37:=hd _ e37);(try simp only[go_sem,simprocAttr] at hl37);(try have hl77:=hd _ e77);(try simp only[go_sem,simprocAttr] at hl77))
 |(refine and_of' ?_ ?_;·first|assumption|omega)
 |(refine CallX.inl (f:=42) 400 (fn:=Tryz.f42) (rs:=[.tmp 14,.tmp 15]) (nt:=221) 1000 (by kernel_rfl) (fun x=>?_) _;simp only[Tryz.f42,Option.get!])
 |(refine CallX.inl (f:=89) 2400 (fn:=Tryz.f89) (rs:=[.tmp 4,.tmp 5]) (nt:=71) 1000 (by kernel_rfl) (fun x=>?_) _;simp only[Tryz.f89,Option.get!])
 |with_reducible refine CallX.c ?_ _
 |with_reducible refine OK.c hr hw ?_ (fun y hr=>?_) _
 |with_reducible refine OK.d hr hw ?_ (fun y hr=>?_) _
 |refine db 42 22 ⟨⟩ [([],[],[102,105,106,107,108,109,110,111,112],[]),([0],[],[102,105,106,107,108,109,110,111,112],[]),([],[],[102,103,104,106,107,108,109,110,111,112],[]),([],[],[103,104,105,109],[]),([3],[],[103,104,105,109],[]),([3,4],[],[103,104,105,109],[]),([],[],[103,104,105,106,107,108],[]),([3,4,5,6],[],[103,104,105],[]),([3,4,5,6,7],[],[103,104,105],[]),([3,4,5,6,7,8],[],[103,104,105,112],[]),([3,4,5,6,7,8],[],[103,104,105,111,113],[]),([0,1,2,3,4,5,6,7,8,9],[],[112],[]),([0,1,2,3,4,5,6,7,8,9,11],[],[112],[]),([0,1,2,3,4,5,6,7,8,9,10,11,12],[],[],[])] rfl rfl (by kernel_rfl) ?_ _
 |refine db 89 6 ⟨⟩ [([],[],[36,38,39,40,41,42,43,44,45,46,47,48],[]),([],[],[37,42,43,44,45],[]),([1],[],[37,42,43,44,45],[]),([1,2],[],[37,42,43,44,45],[]),([1,2,3],[],[37,42,43,44,45],[]),([],[],[37,38,39,40,41,44,45],[]),([5],[],[37,38,39,40,41,44,45],[]),([],[],[37,38,39,40,41,42,43],[]),([7],[],[37,38,39,40,41,42,43],[]),([1,2,3,4,5,6,7,8],[],[37],[]),([1,2,3,4,5,6,7,8,9],[],[37],[]),([1,2,3,4,5,6,7,8,9,10],[],[37,48],[]),([1,2,3,4,5,6,7,8,9,10],[],[37,47,49,50],[1152]),([0,1,2,3,4,5,6,7,8,9,10,11],[],[48],[]),([0,1,2,3,4,5,6,7,8,9,10,11,13],[],[48],[]),([0,1,2,3,4,5,6,7,8,9,10,11,13,14],[1152],[48],[]),([0,1,2,3,4,5,6,7,8,9,10,11,12,13,14,15],[],[],[])] rfl rfl (by kernel_rfl) ?_ _
 |refine db 89 8 ⟨⟩ [([],[],[55,57,58,59,60,61,62,63,64,65,66,67],[]),([],[],[56,61,62,63,64],[]),([1],[],[56,61,62,63,64],[]),([1,2],[],[56,61,62,63,64],[]),([1,2,3],[],[56,61,62,63,64],[]),([],[],[56,57,58,59,60,63,64],[]),([5],[],[56,57,58,59,60,63,64],[]),([],[],[56,57,58,59,60,61,62],[]),([7],[],[56,57,58,59,60,61,62],[]),([1,2,3,4,5,6,7,8],[],[56],[]),([1,2,3,4,5,6,7,8,9],[],[56],[]),([1,2,3,4,5,6,7,8,9,10],[],[56,67],[]),([1,2,3,4,5,6,7,8,9,10],[],[56,66,68,69],[1152]),([0,1,2,3,4,5,6,7,8,9,10,11],[],[67],[]),([0,1,2,3,4,5,6,7,8,9,10,11,13],[],[67],[]),([0,1,2,3,4,5,6,7,8,9,10,11,13,14],[1152],[67],[]),([0,1,2,3,4,5,6,7,8,9,10,11,12,13,14,15],[],[],[])] rfl rfl (by kernel_rfl) ?_ _
 |refine db 89 2 ⟨⟩ [([],[],[13,15,16,17,18,19,20,21,22,23,24,25],[]),([],[],[14,19,20,21,22],[]),([1],[],[14,19,20,21,22],[]),([1,2],[],[14,19,20,21,22],[]),([1,2,3],[],[14,19,20,21,22],[]),([],[],[14,15,16,17,18,21,22],[]),([5],[],[14,15,16,17,18,21,22],[]),([],[],[14,15,16,17,18,19,20],[]),([7],[],[14,15,16,17,18,19,20],[]),([1,2,3,4,5,6,7,8],[],[14],[]),([1,2,3,4,5,6,7,8,9],[],[14],[]),([1,2,3,4,5,6,7,8,9,10],[],[14,25],[]),([1,2,3,4,5,6,7,8,9,10],[],[14,24,26,27],[1152]),([0,1,2,3,4,5,6,7,8,9,10,11],[],[25],[]),([0,1,2,3,4,5,6,7,8,9,10,11,13],[],[25],[]),([0,1,2,3,4,5,6,7,8,9,10,11,13,14],[1152],[25],[]),([0,1,2,3,4,5,6,7,8,9,10,11,12,13,14,15],[],[],[])] rfl rfl (by kernel_rfl) ?_ _
 |(refine some_e hr ?_;rintro rfl;with_reducible refine ret_k ?_)
 |exact no_e hr
 |fail)
@[reducible,instance] def Qk1:=g39.1
@[reducible,instance] def Qk2:=g39.2.1
@[reducible,instance] def QkB:=g39.2.2.1
@[reducible,instance] def QkC:=g39.2.2.2
theorem slT {N:Nat} {l:List TThing}:QaB N l=some l:=rfl
theorem slU {N:Nat} {l:List Int}:QaH N l=some l:=rfl
theorem slM {N:Nat} {l:List TMark}:QaK N l=some l:=rfl
theorem coL {N:Nat} {a:TLocals}:Qed N a=some a:=by rw[Qed];unfold bnd;rfl
theorem coT {N:Nat} {a:TTable}:QcZ N a=some a:=by rw[QcZ];unfold bnd;rfl
def spc (p:TThing) (w:Nat):List D:=[.v (.int .i64 p.Header.Kind),.v (.int .i64 p.Header.Length),.v (.int .u32 p.Header.Map),.osl 1408 w 1 0 p.Fields.length]
def Ist7 (a0:TWorld) (a5:TFact) (i:Nat) (L:List (List D)) (st:St):Prop:=st.n=47∧st.t 1=.ept 64 26 10 0 0∧st.t 2=.ept 128 27 10 0 0∧st.t 10=.osl 448 30 4 0 a0.Things.length∧st.t 11=.v (.int .i64 (a0.Things.length:Int))∧st.t 12=.v (.int .i64 (i:Int)) ∧
 st.s 64=some (26,.arr true 61 10 [[.v (.int .i64 a0.Conf.PageWords),.v (.int .i64 a0.Conf.Pages),.osl 448 30 4 0 a0.Things.length,.isl 210 3 (a0.Locals.Slots.map e210),.isl 159 3 (a0.Locals.Scopes.map e159),.isl 3 1 (a0.Locals.Issued.map e3),.isl 132 3 (a0.Globals.Entries.map e132),.isl 132 3 (a0.Weaks.Entries.map e132),.isl 116 3 (a0.Marks.map e116),.isl 37 1 (a0.Roots.map e37)]] 0) ∧
 st.s 128=some (27,.arr true 61 10 [[.v (.int .i64 0),.v (.int .i64 0),.nsl,.nsl,.nsl,.nsl,.nsl,.nsl,.nsl,.nsl]] 0) ∧
 st.s 704=some (2,.arr true 66 3 [[.v (.bool a5.Failed),.v (.bool a5.Collected),.v (.int .u64 a5.Base)]] 0) ∧
 st.s 768=some (3,.arr true 61 10 [[.v (.int .i64 0),.v (.int .i64 0),.nsl,.nsl,.nsl,.nsl,.nsl,.nsl,.nsl,.nsl]] 0) ∧
 st.s 448=some (30,.arr true 77 4 L 0)
def Inv27 (a0:TWorld) (a5:TFact) (k:Nat) (p:TThing) (n:Nat) (st:St):Prop:=∃ i:Nat,i<=a0.Things.length∧n=a0.Things.length-i ∧
 ((i<=k∧Ist7 a0 a5 i (a0.Things.map e77) st)∨(k<i∧∃ w,Ist7 a0 a5 i ((a0.Things.map e77).set k (spc p w)) st∧st.s 1408=some (w,.arr false 37 1 (p.Fields.map e37) 0)))
theorem cloneF (G:Nat->Option (List D)) (a0:List Int):ACalls Tryz.prog G 82 [.isl 37 1 (a0.map e37)] [] (Eqs (.isl 37 1 (a0.map e37)) []):=by
 obtain _|⟨x,l⟩:=a0
 refine acalls_empty fun a cap=>?_
 obtain _|a:=a
 all_goals
  refine acalls_of_run (fn:=Tryz.f82) (body:=(Tryz.f82.body).get!) (rs:=[.tmp 2]) 1000 [] 8 (by kernel_rfl) (by kernel_rfl) (by kernel_rfl) (by kernel_rfl) (by kernel_rfl) (by simp) fun C _ hG hwf=>?_
  subst hG
  have hw2:=hwf
  simp only[WfL,Wf,List.length_map,and_true,List.length_cons,bytes37,top47] at hw2
  simp only[Tryz.f82,Option.get!]
  simp only[go_sem,simprocAttr]
  try refine ⟨by omega,?_⟩
  with_reducible refine ret_k ?_
  simp only[go_sem,simprocAttr]
theorem wI_nat {i n:Nat} (h:i<n) (hn:n<=140737488355328):wI ((i:Int)+1)=((i+1:Nat):Int):=by
 have e:wI ((i:Int)+1)=if ((i:Int)+1) % 18446744073709551616>=9223372036854775808 then ((i:Int)+1) % 18446744073709551616-18446744073709551616 else ((i:Int)+1) % 18446744073709551616:=by
  have e1:IntKind.bits .i64=64:=rfl
  have e2:IntKind.signed .i64=true:=rfl
  simp[wI,IntKind.wrap,e1,e2]
 rw[e]
 split<;>omega
theorem setSame {α:Type} {l:List α} {i:Nat} {x:α} (h:l[i]? = some x):l.set i x=l:=by
 apply List.ext_getElem?
 intro j
 rw[List.getElem?_set]
 split
 ·rename_i e
  subst e
  split
  ·exact h.symm
  ·rw[List.getElem?_eq_none (by omega)] at h;cases h
 ·rfl
instance Qk3:∀ N (a0:TWorld) (a2:Int) (a3:Int) (a4:Int) (a5:TFact),OK (QdV N a0 a2 a3 a4 a5) 11 [.agg (e61 a0),.v (.int .i64 7),.v (.int .u64 a2),.v (.int .u64 a3),.v (.int .u64 a4),.agg (e66 a5)] [] (fun r=>.tup [.agg (e61 r.1),.v (.int .u64 r.2.1),.v (.int .i64 r.2.2)]) fun r=>[]:=by
 refine fun N a0 a2 a3 a4 a5=>rnG Tryz.f11 [.cell 12 61,.tmp 13,.tmp 14] [] 57 (by kernel_rfl) ?_
 rintro _ hw r hr C x rfl hlb hwf hf
 have hlen:a0.Things.length<=140737488355328:=by
  simp only[WfL,Wf,e61,List.length_map,top47] at hwf
  exact hwf.1.2.2.1.2.1
 simp only[Tryz.f11,Option.get!]
 rw[QdV] at hr
 repeat' first
  |(refine El.el hr ?_;clear hr;intro hr)
  |(with_reducible intro h;refine bc_e hr h ?_;clear hr;intro hr)
  |with_reducible intro _
  |simp only[go_sem,simprocAttr]
  |(with_reducible first|apply guard_of_f|apply guard_of_t|apply cond_of)
  |(refine and_of' ?_ ?_;·first|assumption|omega)
  |(refine CallX.inl (f:=41) 0 (fn:=Tryz.f41) (rs:=[.cell 2 61]) (nt:=47) 1000 (by kernel_rfl) (fun x=>?_) _;simp only[Tryz.f41,Option.get!])
  |with_reducible refine CallX.c ?_ _
  |with_reducible refine OK.c hr hw ?_ (fun y hr=>?_) _
  |with_reducible refine OK.t (slT (N:=N) (l:=a0.Things)) hw ?_ ?_ _
  |(refine some_e hr ?_;rintro rfl;with_reducible refine Gh.no ?_;simp only[go_sem,simprocAttr])
  |with_reducible refine ret_k ?_
  |((first|refine bc_e (c:=true) hr rfl ?_|refine bc_e (c:=false) hr rfl ?_|refine bc_e hr (by assumption) ?_);clear hr;intro hr)
  |fail
 rename_i y _
 cases hz:(y.1 != 0) with
 | false=>rw[hz] at hr;exact no_e hr
 | true =>
 rw[hz,cond_true] at hr
 refine bnd_e hr fun p4 hp4 hr=>bnd_e hr fun p5 hp5 hr=>some_e hr ?_
 rintro rfl
 clear hr
 obtain ⟨hk0,hk1⟩:=getI_c hp4
 have hkd:=getI_d hp4 e77
 generalize hk:(wU (y.fst-1)).toNat=k at hkd
 have hkl:k<a0.Things.length:=by omega
 obtain ⟨hm0,hm1⟩:=getI_c hp5
 have hmd:=getI_d hp5 e37
 simp only[e37] at hmd
 refine LoopG.wide (id:=448) (v:=30) (E:=77) (z:=4) (es:=a0.Things.map e77) (by simp only[go_sem,simprocAttr]) (by intro h;rw[List.map_eq_nil_iff] at h;rw[h] at hkl;exact absurd hkl (by simp)) ?_ _
 refine LoopG.of (Inv27 a0 a5 k p4) 1000 a0.Things.length ?_ ?_ _
 ·refine ⟨0,Nat.zero_le _,rfl,.inl ⟨Nat.zero_le _,?_⟩⟩
  unfold Ist7
  simp only[go_sem,simprocAttr]
 ·rintro n st ⟨i,hi,rfl,hA⟩
  by_cases hil:i<a0.Things.length
  ·
   have hdc:decide ((i:Int)<(a0.Things.length:Int))=true:=decide_eq_true (by omega)
   rcases hA with ⟨hik,E1,E2,E3,E4,E5,E6,E7,E8,E9,E10,E11⟩ | ⟨hik,w,⟨E1,E2,E3,E4,E5,E6,E7,E8,E9,E10,E11⟩,E12⟩
   ·by_cases hik2:i=k
    ·subst hik2
     repeat' first
      |simp only[go_sem,simprocAttr,E1,E2,E3,E4,E5,E6,E7,E8,E9,E10,E11,hdc,hkd,Int.toNat_natCast]
      |(refine and_of' ?_ ?_;·first|assumption|omega)
      |(refine db 41 5 ⟨⟩ [([],[],[19,20,21,22],[1408]),([0],[],[19,20,21,22],[1408]),([],[],[17,18,20,21,22],[1408]),([],[],[17,18,19],[]),([3],[],[17,18,19],[]),([3,4],[1408],[17,18,19],[]),([0,1,2,3,4,5],[],[],[]),([0,1,2,3,4,5,6],[],[],[]),([0,1,2,3,4,5,6,7],[448,1408],[],[])] rfl rfl (by kernel_rfl) ?_ _)
      |(with_reducible refine OK.td (slU (N:=N) (l:=p4.Fields)) hw ?_ ?_ _)
      |fail
     refine ⟨a0.Things.length-(i+1),by omega,i+1,by omega,rfl,.inr ⟨by omega,_,?_,rfl⟩⟩
     unfold Ist7 spc
     simp only[go_sem,simprocAttr,E1,E2,E3,E4,E5,E6,E7,E8,E9,E10,E11,wI_nat hil hlen]
    ·have hq:=List.getElem?_eq_getElem hil
     generalize a0.Things[i]=q at hq
     have hqd:(a0.Things.map e77).getD i []=e77 q:=by rw[List.getD_eq_getElem?_getD,List.getElem?_map,hq];rfl
     have hqs:(a0.Things.map e77).set i (e77 q)=a0.Things.map e77:=setSame (by rw[List.getElem?_map,hq];rfl)
     simp only[e77] at hqd hqs
     repeat' first
      |simp only[go_sem,simprocAttr,E1,E2,E3,E4,E5,E6,E7,E8,E9,E10,E11,hdc,hqd,Int.toNat_natCast]
      |(refine and_of' ?_ ?_;·first|assumption|omega)
      |(refine db 41 5 ⟨⟩ [([],[],[19,20,21,22],[1408]),([0],[],[19,20,21,22],[1408]),([],[],[17,18,20,21,22],[1408]),([],[],[17,18,19],[]),([3],[],[17,18,19],[]),([3,4],[1408],[17,18,19],[]),([0,1,2,3,4,5],[],[],[]),([0,1,2,3,4,5,6],[],[],[]),([0,1,2,3,4,5,6,7],[448,1408],[],[])] rfl rfl (by kernel_rfl) ?_ _)
      |(with_reducible refine CallD.ofE (cloneF _ q.Fields) ?_ ?_ _)
      |fail
     refine ⟨a0.Things.length-(i+1),by omega,i+1,by omega,rfl,.inl ⟨by omega,?_⟩⟩
     unfold Ist7
     simp only[go_sem,simprocAttr,E1,E2,E3,E4,E5,E6,E7,E8,E9,E10,E11,wI_nat hil hlen,hqs]
   ·have hq:=List.getElem?_eq_getElem hil
    generalize a0.Things[i]=q at hq
    have hne:¬ k=i:=by omega
    have hLi:((a0.Things.map e77).set k (spc p4 w))[i]? = some (e77 q):=by rw[List.getElem?_set_ne hne,List.getElem?_map,hq];rfl
    have hLl:((a0.Things.map e77).set k (spc p4 w)).length=a0.Things.length:=by rw[List.length_set,List.length_map]
    generalize hL:(a0.Things.map e77).set k (spc p4 w)=L at hLi hLl E11
    have hqd:L.getD i []=e77 q:=by rw[List.getD_eq_getElem?_getD,hLi];rfl
    have hqs:L.set i (e77 q)=L:=setSame hLi
    simp only[e77] at hqd hqs
    repeat' first
     |simp only[go_sem,simprocAttr,E1,E2,E3,E4,E5,E6,E7,E8,E9,E10,E11,hdc,hqd,Int.toNat_natCast,hLl]
     |(refine and_of' ?_ ?_;·first|assumption|omega)
     |(refine db 41 5 ⟨⟩ [([],[],[19,20,21,22],[1408]),([0],[],[19,20,21,22],[1408]),([],[],[17,18,20,21,22],[1408]),([],[],[17,18,19],[]),([3],[],[17,18,19],[]),([3,4],[1408],[17,18,19],[]),([0,1,2,3,4,5],[],[],[]),([0,1,2,3,4,5,6],[],[],[]),([0,1,2,3,4,5,6,7],[448,1408],[],[])] rfl rfl (by kernel_rfl) ?_ _)
     |(with_reducible refine CallD.ofE (cloneF _ q.Fields) ?_ ?_ _)
     |fail
    refine ⟨a0.Things.length-(i+1),by omega,i+1,by omega,rfl,.inr ⟨by omega,w,?_,?_⟩⟩
    ·rw[hL]
     unfold Ist7
     simp only[go_sem,simprocAttr,E1,E2,E3,E4,E5,E6,E7,E8,E9,E10,E11,wI_nat hil hlen,hqs]
    ·simp only[go_sem,simprocAttr,E12]
  ·obtain rfl:i=a0.Things.length:=by omega
   rcases hA with ⟨hik,_⟩ | ⟨hik,w,⟨E1,E2,E3,E4,E5,E6,E7,E8,E9,E10,E11⟩,E12⟩
   ·omega
   have hdc:decide ((a0.Things.length:Int)<(a0.Things.length:Int))=false:=decide_eq_false (by omega)
   have hkd2:((a0.Things.map e77).set k (spc p4 w)).getD k []=spc p4 w:=by rw[List.getD_eq_getElem?_getD,List.getElem?_set_self (by rw[List.length_map];exact hkl)];rfl
   have hLl:((a0.Things.map e77).set k (spc p4 w)).length=a0.Things.length:=by rw[List.length_set,List.length_map]
   have hLk:((a0.Things.map e77).set k (spc p4 w))[k]? = some (spc p4 w):=List.getElem?_set_self (by rw[List.length_map];exact hkl)
   generalize hL:(a0.Things.map e77).set k (spc p4 w)=L at hkd2 hLl E11 hLk
   unfold spc at hkd2
   repeat' first
    |simp only[go_sem,simprocAttr,E1,E2,E3,E4,E5,E6,E7,E8,E9,E10,E11,E12,hdc,hLl,hk,hkd2,hmd,hz]
    |(refine and_of' ?_ ?_;·first|assumption|omega)
    |(refine db 41 7 ⟨⟩ [([],[],[29,30,32,33],[]),([0],[],[29,30,32,33],[]),([0,1],[],[29,30,32,33],[]),([],[],[26,27,28,32,33],[]),([3],[],[26,27,28,32,33],[]),([0,1,2,3,4],[],[32,33,35],[]),([],[],[26,27,28,29,30,31],[]),([6],[],[26,27,28,29,30,31],[]),([0,1,2,3,4,5,6,7],[],[35],[]),([0,1,2,3,4,6,7],[],[31,34],[]),([0,1,2,3,4,5,6,7,8,9],[64],[],[]),([0,1,2,3,4,5,6,7,8,9,10],[],[],[]),([0,1,2,3,4,5,6,7,8,9,10,11],[64],[],[]),([0,1,2,3,4,5,6,7,8,9,10,11,12],[],[],[]),([0,1,2,3,4,5,6,7,8,9,10,11,12,13],[64],[],[])] rfl rfl (by kernel_rfl) ?_ _)
    |(refine db 41 8 ⟨⟩ [([],[],[41,42],[]),([0],[],[41,42],[]),([0,1],[2560],[41,42],[]),([],[],[38,39,40],[2560]),([3],[],[38,39,40],[2560]),([0,1,2,3,4],[2752],[44],[]),([0,1,2,3,4],[],[43],[2752]),([0,1,2,3,4,5,6],[64],[],[]),([0,1,2,3,4,5,6,7],[],[],[]),([0,1,2,3,4,5,6,7,8],[64],[],[])] rfl rfl (by kernel_rfl) ?_ _)
    |(with_reducible refine OK.td (coL (N:=N) (a:=a0.Locals)) hw ?_ ?_ _;·(simp only[go_sem,simprocAttr];done))
    |(with_reducible refine OK.td (coT (N:=N) (a:=a0.Globals)) hw ?_ ?_ _;·(simp only[go_sem,simprocAttr];done))
    |(with_reducible refine OK.td (coT (N:=N) (a:=a0.Weaks)) hw ?_ ?_ _;·(simp only[go_sem,simprocAttr];done))
    |(with_reducible refine OK.td (slM (N:=N) (l:=a0.Marks)) hw ?_ ?_ _;·(simp only[go_sem,simprocAttr];done))
    |(with_reducible refine OK.td (slU (N:=N) (l:=a0.Roots)) hw ?_ ?_ _;·(simp only[go_sem,simprocAttr];done))
    |(with_reducible first|apply guard_of_f|apply guard_of_t|apply cond_of)
    |(refine CallX.inl (f:=42) 400 (fn:=Tryz.f42) (rs:=[.tmp 14,.tmp 15]) (nt:=221) 1000 (by kernel_rfl) (fun x=>?_) _;simp only[Tryz.f42,Option.get!])
    |fail
   refine Gh.narrow hlb (id:=448) (v:=30) (E:=77) (z:=4) (idF:=1408) (vF:=w) (E':=37) (z':=1) (fz:=0) (es:=L) (fs:=(p4.Fields.map e37).set a3.toNat [.v (.int .u64 a4)]) (by simp only[go_sem,simprocAttr,E11]) (by simp only[go_sem,simprocAttr]) ((a0.Things.map e77).set k (e77 ⟨p4.Header,p4.Fields.set a3.toNat a4⟩)) ?_ ?_ ?_ ?_
   ·rw[List.length_set,List.length_map,hLl]
   ·intro e he
    rcases List.mem_or_eq_of_mem_set he with h | rfl
    ·obtain ⟨q,_,rfl⟩:=List.mem_map.1 h
     rfl
    ·rfl
   ·intro j c e2 d2 h1 h2
    by_cases hj:j=k
    ·subst hj
     rw[List.getElem?_set_self (by rw[List.length_map];exact hkl)] at h1
     obtain rfl:=Option.some.inj h1
     obtain ⟨d,g1,g2⟩:∃ d,(spc p4 w)[c]? = some d∧((d2=d∧pureB d=true)∨(d=.osl 1408 w 1 0 ((p4.Fields.map e37).set a3.toNat [.v (.int .u64 a4)]).length∧d2=.isl 37 1 ((p4.Fields.map e37).set a3.toNat [.v (.int .u64 a4)]))):=by
      rcases c with _ | _ | _ | _ | c
      ·exact ⟨_,rfl,.inl ⟨(Option.some.inj h2).symm,rfl⟩⟩
      ·exact ⟨_,rfl,.inl ⟨(Option.some.inj h2).symm,rfl⟩⟩
      ·exact ⟨_,rfl,.inl ⟨(Option.some.inj h2).symm,rfl⟩⟩
      ·refine ⟨_,rfl,.inr ⟨?_,?_⟩⟩
       ·rw[List.length_set,List.length_map]
       ·rw[← Option.some.inj h2,List.map_set];rfl
      ·exact absurd h2 (by simp[e77])
     exact ⟨_,d,hLk,g1,g2⟩
    ·rw[List.getElem?_set_ne (Ne.symm hj),List.getElem?_map] at h1
     have h3:L[j]? = some e2:=by rw[← hL,List.getElem?_set_ne (Ne.symm hj),List.getElem?_map,h1]
     obtain ⟨q,_,rfl⟩:=Option.map_eq_some_iff.1 h1
     refine ⟨_,_,h3,h2,.inl ⟨rfl,?_⟩⟩
     rcases c with _ | _ | _ | _ | c
     ·rw[← Option.some.inj h2];rfl
     ·rw[← Option.some.inj h2];rfl
     ·rw[← Option.some.inj h2];rfl
     ·rw[← Option.some.inj h2];rfl
     ·exact absurd h2 (by simp[e77])
   ·simp only[go_sem,simprocAttr]
    with_reducible refine ret_k ?_
    simp only[go_sem,simprocAttr]
theorem cloneFM (G:Nat->Option (List D)) (a0:List TMark):ACalls Tryz.prog G 85 [.isl 116 3 (a0.map e116)] [] (Eqs (.isl 116 3 (a0.map e116)) []):=by
 obtain _|⟨x,l⟩:=a0
 refine acalls_empty fun a cap=>?_
 obtain _|a:=a
 all_goals
  refine acalls_of_run (fn:=Tryz.f85) (body:=(Tryz.f85.body).get!) (rs:=[.tmp 2]) 1000 [] 8 (by kernel_rfl) (by kernel_rfl) (by kernel_rfl) (by kernel_rfl) (by kernel_rfl) (by simp) fun C _ hG hwf=>?_
  subst hG
  have hw2:=hwf
  simp only[WfL,Wf,List.length_map,and_true,List.length_cons,bytes116,top47] at hw2
  simp only[Tryz.f85,Option.get!]
  simp only[go_sem,simprocAttr]
  try refine ⟨by omega,?_⟩
  with_reducible refine ret_k ?_
  simp only[go_sem,simprocAttr]
theorem spcD {a0:TWorld} {k:Nat} {p:TThing} {w:Nat} {F:List Int} (hk:k<a0.Things.length) (hF:F.length=p.Fields.length) (j c:Nat) (e2:List D) (d2:D) (h1:((a0.Things.map e77).set k (e77 ⟨p.Header,F⟩))[j]? = some e2) (h2:e2[c]? = some d2) :
 ∃ e d,((a0.Things.map e77).set k (spc p w))[j]? = some e∧e[c]? = some d∧((d2=d∧pureB d=true)∨(d=.osl 1408 w 1 0 (F.map e37).length∧d2=.isl 37 1 (F.map e37))):=by
 by_cases hj:j=k
 ·subst hj
  rw[List.getElem?_set_self (by rw[List.length_map];exact hk)] at h1
  obtain rfl:=Option.some.inj h1
  refine ⟨spc p w,?_⟩
  rcases c with _ | _ | _ | _ | c
  ·exact ⟨_,List.getElem?_set_self (by rw[List.length_map];exact hk),rfl,.inl ⟨(Option.some.inj h2).symm,rfl⟩⟩
  ·exact ⟨_,List.getElem?_set_self (by rw[List.length_map];exact hk),rfl,.inl ⟨(Option.some.inj h2).symm,rfl⟩⟩
  ·exact ⟨_,List.getElem?_set_self (by rw[List.length_map];exact hk),rfl,.inl ⟨(Option.some.inj h2).symm,rfl⟩⟩
  ·refine ⟨_,List.getElem?_set_self (by rw[List.length_map];exact hk),rfl,.inr ⟨?_,(Option.some.inj h2).symm⟩⟩
   rw[List.length_map,hF]
  ·exact absurd h2 (by simp[e77])
 ·rw[List.getElem?_set_ne (Ne.symm hj),List.getElem?_map] at h1
  have h3:((a0.Things.map e77).set k (spc p w))[j]? = some e2:=by rw[List.getElem?_set_ne (Ne.symm hj),List.getElem?_map,h1]
  obtain ⟨q,_,rfl⟩:=Option.map_eq_some_iff.1 h1
  refine ⟨_,_,h3,h2,.inl ⟨rfl,?_⟩⟩
  rcases c with _ | _ | _ | _ | c
  ·rw[← Option.some.inj h2];rfl
  ·rw[← Option.some.inj h2];rfl
  ·rw[← Option.some.inj h2];rfl
  ·rw[← Option.some.inj h2];rfl
  ·exact absurd h2 (by simp[e77])
theorem mapZ {l:List TThing}:∀ e∈l.map e77,e.length=4:=by
 intro e he
 obtain ⟨q,_,rfl⟩:=List.mem_map.1 he
 rfl
theorem mapZ2 {l:List TThing} {k:Nat} {x:TThing}:∀ e∈(l.map e77).set k (e77 x),e.length=4:=by
 intro e he
 rcases List.mem_or_eq_of_mem_set he with h | rfl
 ·exact mapZ e h
 ·rfl
instance Qk4:∀ N (a0:TWorld) (a2:Int) (a3:Int) (a4:Int) (a5:TFact),OK (QdX N a0 a2 a3 a4 a5) 11 [.agg (e61 a0),.v (.int .i64 9),.v (.int .u64 a2),.v (.int .u64 a3),.v (.int .u64 a4),.agg (e66 a5)] [] (fun r=>.tup [.agg (e61 r.1),.v (.int .u64 r.2.1),.v (.int .i64 r.2.2)]) fun r=>[]:=by
 refine fun N a0 a2 a3 a4 a5=>rnG Tryz.f11 [.cell 12 61,.tmp 13,.tmp 14] [] 57 (by kernel_rfl) ?_
 rintro _ hw r hr C x rfl hlb hwf hf
 have hlen:a0.Things.length<=140737488355328:=by
  simp only[WfL,Wf,e61,List.length_map,top47] at hwf
  exact hwf.1.2.2.1.2.1
 simp only[Tryz.f11,Option.get!]
 rw[QdX] at hr
 repeat' first
  |(refine El.el hr ?_;clear hr;intro hr)
  |(with_reducible intro h;refine bc_e hr h ?_;clear hr;intro hr)
  |with_reducible intro _
  |simp only[go_sem,simprocAttr]
  |(with_reducible first|apply guard_of_f|apply guard_of_t|apply cond_of)
  |(refine and_of' ?_ ?_;·first|assumption|omega)
  |(refine CallX.inl (f:=41) 0 (fn:=Tryz.f41) (rs:=[.cell 2 61]) (nt:=47) 1000 (by kernel_rfl) (fun x=>?_) _;simp only[Tryz.f41,Option.get!])
  |with_reducible refine CallX.c ?_ _
  |with_reducible refine OK.c hr hw ?_ (fun y hr=>?_) _
  |with_reducible refine OK.t (slT (N:=N) (l:=a0.Things)) hw ?_ ?_ _
  |(refine some_e hr ?_;rintro rfl;with_reducible refine Gh.no ?_;simp only[go_sem,simprocAttr])
  |with_reducible refine ret_k ?_
  |((first|refine bc_e (c:=true) hr rfl ?_|refine bc_e (c:=false) hr rfl ?_|refine bc_e hr (by assumption) ?_);clear hr;intro hr)
  |fail
 rename_i y _
 cases hz:(y.1 != 0) with
 | false=>rw[hz] at hr;exact no_e hr
 | true =>
 rw[hz,cond_true] at hr
 refine bnd_e hr fun p4 hp4 hr=>bnd_e hr fun p5 hp5 hr=>?_
 obtain ⟨hk0,hk1⟩:=getI_c hp4
 have hkd:=getI_d hp4 e77
 generalize hk:(wU (y.fst-1)).toNat=k at hkd
 have hkl:k<a0.Things.length:=by omega
 obtain ⟨hm0,hm1⟩:=getI_c hp5
 have hmd:=getI_d hp5 e37
 simp only[e37] at hmd
 refine LoopG.wide (id:=448) (v:=30) (E:=77) (z:=4) (es:=a0.Things.map e77) (by simp only[go_sem,simprocAttr]) (by intro h;rw[List.map_eq_nil_iff] at h;rw[h] at hkl;exact absurd hkl (by simp)) ?_ _
 refine LoopG.of (Inv27 a0 a5 k p4) 1000 a0.Things.length ?_ ?_ _
 ·refine ⟨0,Nat.zero_le _,rfl,.inl ⟨Nat.zero_le _,?_⟩⟩
  unfold Ist7
  simp only[go_sem,simprocAttr]
 ·rintro n st ⟨i,hi,rfl,hA⟩
  by_cases hil:i<a0.Things.length
  ·
   have hdc:decide ((i:Int)<(a0.Things.length:Int))=true:=decide_eq_true (by omega)
   rcases hA with ⟨hik,E1,E2,E3,E4,E5,E6,E7,E8,E9,E10,E11⟩ | ⟨hik,w,⟨E1,E2,E3,E4,E5,E6,E7,E8,E9,E10,E11⟩,E12⟩
   ·by_cases hik2:i=k
    ·subst hik2
     repeat' first
      |simp only[go_sem,simprocAttr,E1,E2,E3,E4,E5,E6,E7,E8,E9,E10,E11,hdc,hkd,Int.toNat_natCast]
      |(refine and_of' ?_ ?_;·first|assumption|omega)
      |(refine db 41 5 ⟨⟩ [([],[],[19,20,21,22],[1408]),([0],[],[19,20,21,22],[1408]),([],[],[17,18,20,21,22],[1408]),([],[],[17,18,19],[]),([3],[],[17,18,19],[]),([3,4],[1408],[17,18,19],[]),([0,1,2,3,4,5],[],[],[]),([0,1,2,3,4,5,6],[],[],[]),([0,1,2,3,4,5,6,7],[448,1408],[],[])] rfl rfl (by kernel_rfl) ?_ _)
      |(with_reducible refine OK.td (slU (N:=N) (l:=p4.Fields)) hw ?_ ?_ _)
      |fail
     refine ⟨a0.Things.length-(i+1),by omega,i+1,by omega,rfl,.inr ⟨by omega,_,?_,rfl⟩⟩
     unfold Ist7 spc
     simp only[go_sem,simprocAttr,E1,E2,E3,E4,E5,E6,E7,E8,E9,E10,E11,wI_nat hil hlen]
    ·have hq:=List.getElem?_eq_getElem hil
     generalize a0.Things[i]=q at hq
     have hqd:(a0.Things.map e77).getD i []=e77 q:=by rw[List.getD_eq_getElem?_getD,List.getElem?_map,hq];rfl
     have hqs:(a0.Things.map e77).set i (e77 q)=a0.Things.map e77:=setSame (by rw[List.getElem?_map,hq];rfl)
     simp only[e77] at hqd hqs
     repeat' first
      |simp only[go_sem,simprocAttr,E1,E2,E3,E4,E5,E6,E7,E8,E9,E10,E11,hdc,hqd,Int.toNat_natCast]
      |(refine and_of' ?_ ?_;·first|assumption|omega)
      |(refine db 41 5 ⟨⟩ [([],[],[19,20,21,22],[1408]),([0],[],[19,20,21,22],[1408]),([],[],[17,18,20,21,22],[1408]),([],[],[17,18,19],[]),([3],[],[17,18,19],[]),([3,4],[1408],[17,18,19],[]),([0,1,2,3,4,5],[],[],[]),([0,1,2,3,4,5,6],[],[],[]),([0,1,2,3,4,5,6,7],[448,1408],[],[])] rfl rfl (by kernel_rfl) ?_ _)
      |(with_reducible refine CallD.ofE (cloneF _ q.Fields) ?_ ?_ _)
      |fail
     refine ⟨a0.Things.length-(i+1),by omega,i+1,by omega,rfl,.inl ⟨by omega,?_⟩⟩
     unfold Ist7
     simp only[go_sem,simprocAttr,E1,E2,E3,E4,E5,E6,E7,E8,E9,E10,E11,wI_nat hil hlen,hqs]
   ·have hq:=List.getElem?_eq_getElem hil
    generalize a0.Things[i]=q at hq
    have hne:¬ k=i:=by omega
    have hLi:((a0.Things.map e77).set k (spc p4 w))[i]? = some (e77 q):=by rw[List.getElem?_set_ne hne,List.getElem?_map,hq];rfl
    have hLl:((a0.Things.map e77).set k (spc p4 w)).length=a0.Things.length:=by rw[List.length_set,List.length_map]
    generalize hL:(a0.Things.map e77).set k (spc p4 w)=L at hLi hLl E11
    have hqd:L.getD i []=e77 q:=by rw[List.getD_eq_getElem?_getD,hLi];rfl
    have hqs:L.set i (e77 q)=L:=setSame hLi
    simp only[e77] at hqd hqs
    repeat' first
     |simp only[go_sem,simprocAttr,E1,E2,E3,E4,E5,E6,E7,E8,E9,E10,E11,hdc,hqd,Int.toNat_natCast,hLl]
     |(refine and_of' ?_ ?_;·first|assumption|omega)
     |(refine db 41 5 ⟨⟩ [([],[],[19,20,21,22],[1408]),([0],[],[19,20,21,22],[1408]),([],[],[17,18,20,21,22],[1408]),([],[],[17,18,19],[]),([3],[],[17,18,19],[]),([3,4],[1408],[17,18,19],[]),([0,1,2,3,4,5],[],[],[]),([0,1,2,3,4,5,6],[],[],[]),([0,1,2,3,4,5,6,7],[448,1408],[],[])] rfl rfl (by kernel_rfl) ?_ _)
     |(with_reducible refine CallD.ofE (cloneF _ q.Fields) ?_ ?_ _)
     |fail
    refine ⟨a0.Things.length-(i+1),by omega,i+1,by omega,rfl,.inr ⟨by omega,w,?_,?_⟩⟩
    ·rw[hL]
     unfold Ist7
     simp only[go_sem,simprocAttr,E1,E2,E3,E4,E5,E6,E7,E8,E9,E10,E11,wI_nat hil hlen,hqs]
    ·simp only[go_sem,simprocAttr,E12]
  ·obtain rfl:i=a0.Things.length:=by omega
   rcases hA with ⟨hik,_⟩ | ⟨hik,w,⟨E1,E2,E3,E4,E5,E6,E7,E8,E9,E10,E11⟩,E12⟩
   ·omega
   have hdc:decide ((a0.Things.length:Int)<(a0.Things.length:Int))=false:=decide_eq_false (by omega)
   have hkd2:((a0.Things.map e77).set k (spc p4 w)).getD k []=spc p4 w:=by rw[List.getD_eq_getElem?_getD,List.getElem?_set_self (by rw[List.length_map];exact hkl)];rfl
   have hLl:((a0.Things.map e77).set k (spc p4 w)).length=a0.Things.length:=by rw[List.length_set,List.length_map]
   have hLk:((a0.Things.map e77).set k (spc p4 w))[k]? = some (spc p4 w):=List.getElem?_set_self (by rw[List.length_map];exact hkl)
   generalize hL:(a0.Things.map e77).set k (spc p4 w)=L at hkd2 hLl E11 hLk
   unfold spc at hkd2
   repeat' first
    |simp only[go_sem,simprocAttr,E1,E2,E3,E4,E5,E6,E7,E8,E9,E10,E11,E12,hdc,hLl,hk,hkd2,hmd,hz]
    |(refine and_of' ?_ ?_;·first|assumption|omega)
    |(refine db 41 7 ⟨⟩ [([],[],[29,30,32,33],[]),([0],[],[29,30,32,33],[]),([0,1],[],[29,30,32,33],[]),([],[],[26,27,28,32,33],[]),([3],[],[26,27,28,32,33],[]),([0,1,2,3,4],[],[32,33,35],[]),([],[],[26,27,28,29,30,31],[]),([6],[],[26,27,28,29,30,31],[]),([0,1,2,3,4,5,6,7],[],[35],[]),([0,1,2,3,4,6,7],[],[31,34],[]),([0,1,2,3,4,5,6,7,8,9],[64],[],[]),([0,1,2,3,4,5,6,7,8,9,10],[],[],[]),([0,1,2,3,4,5,6,7,8,9,10,11],[64],[],[]),([0,1,2,3,4,5,6,7,8,9,10,11,12],[],[],[]),([0,1,2,3,4,5,6,7,8,9,10,11,12,13],[64],[],[])] rfl rfl (by kernel_rfl) ?_ _)
    |(refine db 41 8 ⟨⟩ [([],[],[41,42],[]),([0],[],[41,42],[]),([0,1],[2560],[41,42],[]),([],[],[38,39,40],[2560]),([3],[],[38,39,40],[2560]),([0,1,2,3,4],[2752],[44],[]),([0,1,2,3,4],[],[43],[2752]),([0,1,2,3,4,5,6],[64],[],[]),([0,1,2,3,4,5,6,7],[],[],[]),([0,1,2,3,4,5,6,7,8],[64],[],[])] rfl rfl (by kernel_rfl) ?_ _)
    |(with_reducible refine OK.td (coL (N:=N) (a:=a0.Locals)) hw ?_ ?_ _;·(simp only[go_sem,simprocAttr];done))
    |(with_reducible refine OK.td (coT (N:=N) (a:=a0.Globals)) hw ?_ ?_ _;·(simp only[go_sem,simprocAttr];done))
    |(with_reducible refine OK.td (coT (N:=N) (a:=a0.Weaks)) hw ?_ ?_ _;·(simp only[go_sem,simprocAttr];done))
    |(with_reducible refine CallD.ofE (cloneFM _ a0.Marks) ?_ ?_ _)
    |(with_reducible refine CallD.ofE (cloneF _ a0.Roots) ?_ ?_ _)
    |(with_reducible first|apply guard_of_f|apply guard_of_t|apply cond_of)
    |(refine db 42 22 ⟨⟩ [([],[],[102,105,106,107,108,109,110,111,112],[]),([0],[],[102,105,106,107,108,109,110,111,112],[]),([],[],[102,103,104,106,107,108,109,110,111,112],[]),([],[],[103,104,105,109],[]),([3],[],[103,104,105,109],[]),([3,4],[],[103,104,105,109],[]),([],[],[103,104,105,106,107,108],[]),([3,4,5,6],[],[103,104,105],[]),([3,4,5,6,7],[],[103,104,105],[]),([3,4,5,6,7,8],[],[103,104,105,112],[]),([3,4,5,6,7,8],[],[103,104,105,111,113],[1408]),([0,1,2,3,4,5,6,7,8,9],[],[112],[]),([0,1,2,3,4,5,6,7,8,9,11],[1408],[112],[]),([0,1,2,3,4,5,6,7,8,9,10,11,12],[],[],[])] rfl rfl (by kernel_rfl) ?_ _)
    |(refine CallX.inl (f:=42) 400 (fn:=Tryz.f42) (rs:=[.tmp 14,.tmp 15]) (nt:=221) 1000 (by kernel_rfl) (fun x=>?_) _;simp only[Tryz.f42,Option.get!])
    |fail
   have hpk:(a0.Things.map e77).set k (e77 ⟨p4.Header,p4.Fields⟩)=a0.Things.map e77:=setSame (by
    rw[List.getD_eq_getElem?_getD,List.getElem?_eq_getElem (by rw[List.length_map];exact hkl),Option.getD_some] at hkd
    rw[List.getElem?_eq_getElem (by rw[List.length_map];exact hkl),hkd])
   have hD:=fun F hF=>spcD (a0:=a0) (w:=w) (F:=F) (p:=p4) hkl hF
   rw[hL] at hD
   have hD0:=hD p4.Fields rfl
   rw[hpk] at hD0
   refine OK.r (C:=(C.sub 0 _).sub 400 _) hr hw rfl ?_ (fun _=>rfl) (fun y6 hr=>?_) _
   ·refine (ro_world (C:=(C.sub 0 _).sub 400 _) hlb (id:=448) (v:=30) (E:=77) (z:=4) (idF:=1408) (vF:=w) (E':=37) (z':=1) (fz:=0) (es:=L) (fs:=p4.Fields.map e37) ?_ ?_ (a0.Things.map e77) (by rw[List.length_map,hLl]) mapZ hD0 (pre:=[.v (.int .i64 a0.Conf.PageWords),.v (.int .i64 a0.Conf.Pages)]) (post:=[.isl 210 3 (a0.Locals.Slots.map e210),.isl 159 3 (a0.Locals.Scopes.map e159),.isl 3 1 (a0.Locals.Issued.map e3),.isl 132 3 (a0.Globals.Entries.map e132),.isl 132 3 (a0.Weaks.Entries.map e132),.isl 116 3 (a0.Marks.map e116),.isl 37 1 (a0.Roots.map e37)]) (x:=.v (.int .u64 a4)) hLl.symm rfl rfl rfl)
    ·simp only[go_sem,simprocAttr,E11]
    ·simp only[go_sem,simprocAttr,E12]
   simp only[go_sem,simprocAttr,E1,E2,E3,E4,E5,E6,E7,E8,E9,E10,E11,E12,hLl,hk,hkd2,hmd]
   refine and_of' ⟨hm0,hm1⟩ ?_
   refine and_of' (by omega) ?_
   with_reducible apply cond_of
   ·rfl
   ·intro h
    rw[h,cond_true] at hr
    refine some_e hr ?_
    rintro rfl
    simp only[go_sem,simprocAttr,E1,E2,E3,E4,E5,E6,E7,E8,E9,E10,E11,E12,hLl,hk,hkd2,hmd]
    refine Gh.no ?_
    simp only[go_sem,simprocAttr]
    with_reducible refine ret_k ?_
    simp only[go_sem,simprocAttr]
   ·intro h
    rw[h,cond_false] at hr
    refine some_e hr ?_
    rintro rfl
    simp only[go_sem,simprocAttr,E1,E2,E3,E4,E5,E6,E7,E8,E9,E10,E11,E12,hLl,hk,hkd2,hmd]
    refine Gh.narrow hlb (id:=448) (v:=30) (E:=77) (z:=4) (idF:=1408) (vF:=w) (E':=37) (z':=1) (fz:=0) (es:=L) (fs:=(p4.Fields.map e37).set a3.toNat [.v (.int .u64 y6.1)]) (by simp only[go_sem,simprocAttr,E11]) (by simp only[go_sem,simprocAttr,E12]) ((a0.Things.map e77).set k (e77 ⟨p4.Header,p4.Fields.set a3.toNat y6.1⟩)) (by rw[List.length_set,List.length_map,hLl]) mapZ2 (by have:=hD (p4.Fields.set a3.toNat y6.1) (List.length_set ..);rw[List.map_set] at this;exact this) ?_
    simp only[go_sem,simprocAttr]
    with_reducible refine ret_k ?_
    simp only[go_sem,simprocAttr]
end Go.Sx
