import Derived.Test.YtgdhlnfcogcicaaGreatDoorQF
import Derived.Test.YtgdhlnfcogcicaaGreatDoorQG1
import Derived.Test.YtgdhlnfcogcicaaGreatDoorQG2
import Derived.Test.YtgdhlnfcogcicaaGreatDoorQG3
import Derived.Test.YtgdhlnfcogcicaaGreatDoorQG4
import Derived.Test.YtgdhlnfcogcicaaGreatDoorQG5
import Derived.Test.YtgdhlnfcogcicaaGreatDoorQG6
import Derived.Test.YtgdhlnfcogcicaaGreatDoorQG8
import Derived.Test.YtgdhlnfcogcicaaGreatDoorQG14
import Derived.Test.YtgdhlnfcogcicaaGreatDoorQG16
import Derived.Test.YtgdhlnfcogcicaaGreatDoorQG17
import Derived.Test.YtgdhlnfcogcicaaGreatDoorQG18
set_option linter.all false
namespace Go.Sx
open Go.Proofs
set_option maxRecDepth 10000
set_option maxHeartbeats 100000000
abbrev I_ref17_Match_l1:=fun N (a0:THeap) (a1:List TPin) (y2:List Int × Int) (Q:(Ex Bool (List Int))→Prop) n (st:St)=>∃ (v3:Int) (v4:List Int) (ex:_),ref17_Match_l1 N a0 a1 y2 n v3 v4=some ex∧Q ex∧((∃ w1664 w128,st.n=103∧st.s 1664=some (w1664,.arr false 3 1 (v4.map e3) 0)∧st.t 1=.isl 229 2 (a1.map e229)∧st.t 2=.ept 128 w128 6 0 0∧st.t 5=.isl 37 1 (y2.1.map e37)∧st.t 7=.osl 1664 w1664 1 0 v4.length∧st.t 8=.v (.int .i64 v3)∧st.s 128=some (w128,.arr true 42 6 [[.v (.int .i64 a0.Conf.PageWords),.v (.int .i64 a0.Conf.Pages),.isl 37 1 (a0.Words.map e37),.isl 306 4 (a0.Pages.map e306),.v (.int .i64 a0.Space),.v (.int .i64 a0.Bump)]] 0)))
abbrev I_ref17_Match_l2:=fun N (a0:THeap) (y16:List Int) (Q:(Ex Bool Unit)→Prop) n (st:St)=>∃ (v17:Int) (ex:_),ref17_Match_l2 N a0 y16 n v17=some ex∧Q ex∧((∃ w1664 w128,st.n=103∧st.s 1664=some (w1664,.arr false 3 1 (y16.map e3) 0)∧st.t 2=.ept 128 w128 6 0 0∧st.t 7=.osl 1664 w1664 1 0 y16.length∧st.t 9=.v (.int .i64 v17)∧st.s 128=some (w128,.arr true 42 6 [[.v (.int .i64 a0.Conf.PageWords),.v (.int .i64 a0.Conf.Pages),.isl 37 1 (a0.Words.map e37),.isl 306 4 (a0.Pages.map e306),.v (.int .i64 a0.Space),.v (.int .i64 a0.Bump)]] 0)))
abbrev I_ref09_Refers_l1:=fun N (a1:List Int) (y2:List Int × Int) (Q:(Ex Bool Unit)→Prop) n (st:St)=>∃ (v3:Int) (ex:_),ref09_Refers_l1 N a1 y2 n v3=some ex∧Q ex∧((st.n=36∧st.t 1=.isl 37 1 (a1.map e37)∧st.t 5=.isl 37 1 (y2.1.map e37)∧st.t 7=.v (.int .i64 v3)))
abbrev I_ref10_Begin_l1:=fun N (a0:THeap) (y3:List Int × Int) (Q:(List TPage)→Prop) n (st:St)=>∃ (v4:Int) (v5:List TPage) (ex:_),ref10_Begin_l1 N a0 y3 n v4 v5=some ex∧Q ex∧((∃ w1472 w64 w128 w256,st.n=61∧st.s 1472=some (w1472,.arr false 306 4 (v5.map e306) 0)∧st.t 1=.ept 64 w64 6 0 0∧st.t 2=.ept 128 w128 16 0 0∧st.t 4=.ept 256 w256 16 0 0∧st.t 5=.v (.int .i64 v4)∧st.s 64=some (w64,.arr true 42 6 [[.v (.int .i64 a0.Conf.PageWords),.v (.int .i64 a0.Conf.Pages),.isl 37 1 (a0.Words.map e37),.isl 306 4 (a0.Pages.map e306),.v (.int .i64 a0.Space),.v (.int .i64 a0.Bump)]] 0)∧st.s 128=some (w128,.arr true 265 16 [[.v (.int .i64 0),.v (.int .i64 0),.nsl,.nsl,.v (.int .i64 0),.v (.int .i64 0),.nsl,.nsl,.nsl,.v (.int .i64 0),.v (.int .i64 0),.v (.int .i64 0),.v (.int .i64 0),.v (.int .i64 0),.v (.int .i64 0),.v (.int .i64 0)]] 0)∧st.s 256=some (w256,.arr true 265 16 [[.v (.int .i64 a0.Conf.PageWords),.v (.int .i64 a0.Conf.Pages),.isl 37 1 (a0.Words.map e37),.osl 1472 w1472 4 0 v5.length,.v (.int .i64 a0.Space),.v (.int .i64 a0.Bump),.isl 37 1 (y3.1.map e37),.nsl,.nsl,.v (.int .i64 0),.v (.int .i64 0),.v (.int .i64 0),.v (.int .i64 0),.v (.int .i64 0),.v (.int .i64 0),.v (.int .i64 0)]] 0)))
abbrev I_ref17_Crowded_l1:=fun N (a0:THeap) (a1:Int) (Q:Int→Prop) n (st:St)=>∃ (v3:Int) (v4:Int) (ex:_),ref17_Crowded_l1 N a0 a1 n v3 v4=some ex∧Q ex∧((∃ w128,st.n=65∧st.t 1=.v (.int .u64 a1)∧st.t 2=.ept 128 w128 6 0 0∧st.t 5=.v (.int .i64 v3)∧st.t 6=.v (.int .i64 v4)∧st.s 128=some (w128,.arr true 42 6 [[.v (.int .i64 a0.Conf.PageWords),.v (.int .i64 a0.Conf.Pages),.isl 37 1 (a0.Words.map e37),.isl 306 4 (a0.Pages.map e306),.v (.int .i64 a0.Space),.v (.int .i64 a0.Bump)]] 0)))
theorem g37:(∀ N (a0:THeap) (a1:List TPin),OK (ref17_Match N a0 a1) 204 [.agg (e42 a0),.isl 229 2 (a1.map e229)] [] (fun r=>.v (.bool r)) fun r=>[])∧(∀ N (a0:THeap) (a1:List Int),OK (ref09_Refers N a0 a1) 206 [.agg (e42 a0),.isl 37 1 (a1.map e37)] [] (fun r=>.v (.bool r)) fun r=>[])∧(∀ N (a0:THeap),OK (ref10_Begin N a0) 208 [.agg (e42 a0)] [] (fun r=>.tup [.agg (e265 r.1),.v (.int .i64 r.2)]) fun r=>[])∧(∀ N (a0:THeap) (a1:Int),OK (ref17_Crowded N a0 a1) 260 [.agg (e42 a0),.v (.int .u64 a1)] [] (fun r=>.v (.bool r)) fun r=>[]):=by
 refine ⟨fun N _ _=>rn Tryz.f204 [.tmp 4] [] 103 (by kernel_rfl) ?_,fun N _ _=>rn Tryz.f206 [.tmp 4] [] 36 (by kernel_rfl) ?_,fun N _=>rn Tryz.f208 [.cell 2 265,.tmp 3] [] 61 (by kernel_rfl) ?_,fun N _ _=>rn Tryz.f260 [.tmp 4] [] 65 (by kernel_rfl) ?_⟩<;>(rintro _ hw r hr C _ rfl hwf hf;simp only[Tryz.f204,Tryz.f206,Tryz.f208,Tryz.f260,Option.get!];(first|rw[ref17_Match] at hr|rw[ref09_Refers] at hr|rw[ref10_Begin] at hr|rw[ref17_Crowded] at hr);repeat' first
 |(refine El.el hr ?_;intro hr)
 |(with_reducible intro h;refine bc_e hr h ?_;intro hr)
 |with_reducible intro _
 |(refine some_e hr ?_;rintro rfl;have hr:=hk;clear hk)
 |simp only[go_sem,simprocAttr,E,hl3,hl37,hl229,hl306]
 |(with_reducible first|apply guard_of_f|apply guard_of_t|apply cond_of|apply doT_of_t|apply doT_of_f)
 |((first|with_reducible refine idx_s hr (by assumption) ?_ ?_|(with_reducible refine idx_e hr ?_ ?_;rotate_left;intro p;rotate_right));(·simp only[go_sem,simprocAttr]);intro hp hn hd hr;(try have hl3:=hd _ e3);(try simp only[go_sem,simprocAttr] at hl3);(try have hl37:=hd _ e37);(try simp only[go_sem,simprocAttr] at hl37);(try have hl229:=hd _ e229);(try simp only[go_sem,simprocAttr] at hl229);(try have hl306:=hd _ e306);(try simp only[go_sem,simprocAttr] at hl306))
 |(refine and_of' ?_ ?_;·first|assumption|omega)
 |with_reducible refine CallX.c ?_ _
 |with_reducible refine OK.c hr hw ?_ (fun y hr=>?_) _
 |with_reducible refine OK.d hr hw ?_ (fun y hr=>?_) _
 |(with_reducible refine loop_e (I:=I_ref17_Match_l1 N _ _ _) hr 1000 N (fun ex hq hk=>⟨_,_,ex,hq,hk,?_⟩) ?_ _;rotate_left;clear hr;(try clear E);rintro n1 st ⟨v3,v4,ex,hr,hk,⟨_,_,E⟩⟩<;>(obtain _|n1:=n1<;>rw[ref17_Match_l1] at hr))
 |refine ⟨_,Nat.lt_succ_self _,_,_,_,hr,hk,?_⟩
 |(with_reducible refine loop_e (I:=I_ref17_Match_l2 N _ _) hr 1000 N (fun ex hq hk=>⟨_,ex,hq,hk,?_⟩) ?_ _;rotate_left;clear hr;(try clear E);rintro n2 st ⟨v17,ex,hr,hk,⟨_,_,E⟩⟩<;>(obtain _|n2:=n2<;>rw[ref17_Match_l2] at hr))
 |refine ⟨_,Nat.lt_succ_self _,_,_,hr,hk,?_⟩
 |(with_reducible refine loop_e (I:=I_ref09_Refers_l1 N _ _) hr 1000 N (fun ex hq hk=>⟨_,ex,hq,hk,?_⟩) ?_ _;rotate_left;clear hr;(try clear E);rintro n1 st ⟨v3,ex,hr,hk,E⟩<;>(obtain _|n1:=n1<;>rw[ref09_Refers_l1] at hr))
 |(with_reducible refine loop_e (I:=I_ref10_Begin_l1 N _ _) hr 1000 N (fun ex hq hk=>⟨_,_,ex,hq,hk,?_⟩) ?_ _;rotate_left;clear hr;(try clear E);rintro n1 st ⟨v4,v5,ex,hr,hk,⟨_,_,_,_,E⟩⟩<;>(obtain _|n1:=n1<;>rw[ref10_Begin_l1] at hr))
 |(with_reducible refine loop_e (I:=I_ref17_Crowded_l1 N _ _) hr 1000 N (fun ex hq hk=>⟨_,_,ex,hq,hk,?_⟩) ?_ _;rotate_left;clear hr;(try clear E);rintro n1 st ⟨v3,v4,ex,hr,hk,⟨_,E⟩⟩<;>(obtain _|n1:=n1<;>rw[ref17_Crowded_l1] at hr))
 |refine db 204 10 hf [([],[],[69,70,71,72,73,74,75,78,79,80,81,82],[]),([],[],[68,70,71,72,73,74,78,79,80,81,82],[]),([],[],[68,69,71,78,79,80,81,82],[]),([],[],[68,69,70,78,79,80,81,82],[]),([2,3],[],[68,69,78,79,80,81,82],[]),([2,3,4],[],[68,69,78,79,80,81,82],[]),([2,3,4,5],[],[68,69,78,79,80,81,82],[]),([1,2,3,4,5,6],[],[68,78,79,80,81,82],[]),([0,1,2,3,4,5,6,7],[],[78,79,80,81,82],[]),([0,1,2,3,4,5,6,7,8],[],[78,79,80,81,82],[]),([],[],[68,69,70,71,72,73,74,75,76,77,79],[]),([],[],[68,69,70,71,72,73,74,75,76,77,78],[]),([10,11],[],[68,69,70,71,72,73,74,75,76,77],[]),([10,11,12],[],[68,69,70,71,72,73,74,75,76,77],[]),([10,11,12,13],[],[68,69,70,71,72,73,74,75,76,77],[]),([0,1,2,3,4,5,6,7,8,9,10,11,12,13,14],[],[],[]),([0,1,2,3,4,5,6,7,8,9,10,11,12,13,14,15],[],[],[]),([0,1,2,3,4,5,6,7,8,9,10,11,12,13,14,15,16],[1664],[],[])] rfl rfl (by kernel_rfl) ?_ _
 |refine db 204 14 hf [([],[],[94,98,99,100,101],[]),([0],[],[94,98,99,100,101],[]),([],[],[92,93,98,99,100,101],[]),([0,1,2],[],[98,99,100,101],[]),([0,1,2,3],[],[98,99,100,101],[]),([0,1,2,3,4],[],[98,99,100,101],[]),([],[],[92,93,94,95,96,97,99],[]),([],[],[92,93,94,95,96,97,98],[]),([6,7],[],[92,93,94,95,96,97],[]),([6,7,8],[],[92,93,94,95,96,97],[]),([0,1,2,3,4,5,6,7,8,9],[],[],[])] rfl rfl (by kernel_rfl) ?_ _
 |refine db 260 9 hf [([],[],[7,44,45,46],[448]),([0],[],[7,44,45,46],[448]),([],[],[7,42,43,45],[448]),([],[],[7,42,43,44],[448]),([2,3],[],[7,42,43],[448]),([0,1,2,3,4],[],[7],[448]),([0,1,2,3,4,5],[],[7],[448]),([],[448],[42,43,44,45,46,47,48],[]),([0,1,2,3,4,5,6,7],[448],[],[])] rfl rfl (by kernel_rfl) ?_ _
 |(refine some_e hr ?_;rintro rfl;with_reducible refine ret_k ?_)
 |exact no_e hr
 |((first|refine bc_e (c:=true) hr rfl ?_|refine bc_e (c:=false) hr rfl ?_|refine bc_e hr (by assumption) ?_);intro hr)
 |fail)
@[reducible,instance] def ref17_Match_i:=g37.1
@[reducible,instance] def ref09_Refers_i:=g37.2.1
@[reducible,instance] def ref10_Begin_i:=g37.2.2.1
@[reducible,instance] def ref17_Crowded_i:=g37.2.2.2
instance shadow_Load_i:∀ N (a0:TWorld) (a1:Int),OK (shadow_Load N a0 a1) 28 [.agg (e61 a0),.v (.int .u64 a1)] [] (fun r=>.tup [.v (.int .u64 r.1),.v (.int .i64 r.2)]) fun r=>[]:=by
 refine fun N _ _=>rn Tryz.f28 [.tmp 4,.tmp 5] [] 36 (by kernel_rfl) ?_<;>(rintro _ hw r hr C _ rfl hwf hf;simp only[Tryz.f28,Option.get!];(rw[shadow_Load] at hr);repeat' first
 |(refine El.el hr ?_;intro hr)
 |(with_reducible intro h;refine bc_e hr h ?_;intro hr)
 |with_reducible intro _
 |simp only[go_sem,simprocAttr,hl37,hl77]
 |(with_reducible first|apply guard_of_f|apply guard_of_t|apply cond_of)
 |((first|with_reducible refine idx_s hr (by assumption) ?_ ?_|(with_reducible refine idx_e hr ?_ ?_;rotate_left;intro p;rotate_right));(·simp only[go_sem,simprocAttr]);intro hp hn hd hr;(try have hl37:=hd _ e37);(try simp only[go_sem,simprocAttr] at hl37);(try have hl77:=hd _ e77);(try simp only[go_sem,simprocAttr] at hl77))
 |(refine and_of' ?_ ?_;·first|assumption|omega)
 |with_reducible refine CallX.c ?_ _
 |with_reducible refine OK.c hr hw ?_ (fun y hr=>?_) _
 |(refine some_e hr ?_;rintro rfl;with_reducible refine ret_k ?_)
 |exact no_e hr
 |fail)
theorem slT {N:Nat} {l:List TThing}:slices_Clone_rules_Thing_rules_Thing N l=some l:=rfl
theorem slU {N:Nat} {l:List Int}:slices_Clone_uint64_uint64 N l=some l:=rfl
theorem slM {N:Nat} {l:List TMark}:slices_Clone_rules_Mark_rules_Mark N l=some l:=rfl
theorem coL {N:Nat} {a:TLocals}:copies_Locals N a=some a:=by rw[copies_Locals];unfold bnd;rfl
theorem coT {N:Nat} {a:TTable}:copies_Table N a=some a:=by rw[copies_Table];unfold bnd;rfl
def spc (p:TThing) (w:Nat):List D:=[.v (.int .i64 p.Header.Kind),.v (.int .i64 p.Header.Length),.v (.int .u32 p.Header.Map),.osl 1408 w 1 0 p.Fields.length]
def Ist (a0:TWorld) (i:Nat) (L:List (List D)) (st:St):Prop:=st.n=47∧st.t 1=.ept 64 23 10 0 0∧st.t 2=.ept 128 24 10 0 0∧st.t 10=.osl 448 27 4 0 a0.Things.length∧st.t 11=.v (.int .i64 (a0.Things.length:Int))∧st.t 12=.v (.int .i64 (i:Int)) ∧
 st.s 64=some (23,.arr true 61 10 [[.v (.int .i64 a0.Conf.PageWords),.v (.int .i64 a0.Conf.Pages),.osl 448 27 4 0 a0.Things.length,.isl 210 3 (a0.Locals.Slots.map e210),.isl 159 3 (a0.Locals.Scopes.map e159),.isl 3 1 (a0.Locals.Issued.map e3),.isl 132 3 (a0.Globals.Entries.map e132),.isl 132 3 (a0.Weaks.Entries.map e132),.isl 116 3 (a0.Marks.map e116),.isl 37 1 (a0.Roots.map e37)]] 0) ∧
 st.s 128=some (24,.arr true 61 10 [[.v (.int .i64 0),.v (.int .i64 0),.nsl,.nsl,.nsl,.nsl,.nsl,.nsl,.nsl,.nsl]] 0) ∧
 st.s 384=some (2,.arr true 61 10 [[.v (.int .i64 0),.v (.int .i64 0),.nsl,.nsl,.nsl,.nsl,.nsl,.nsl,.nsl,.nsl]] 0) ∧
 st.s 448=some (27,.arr true 77 4 L 0)
def Inv21 (a0:TWorld) (k:Nat) (p:TThing) (n:Nat) (st:St):Prop:=∃ i:Nat,i<=a0.Things.length∧n=a0.Things.length-i ∧
 ((i<=k∧Ist a0 i (a0.Things.map e77) st)∨(k<i∧∃ w,Ist a0 i ((a0.Things.map e77).set k (spc p w)) st∧st.s 1408=some (w,.arr false 37 1 (p.Fields.map e37) 0)))
theorem cloneF (G:Nat->Option (List D)) (a0:List Int):ACalls Tryz.prog G 82 [.isl 37 1 (a0.map e37)] [] (Eqs (.isl 37 1 (a0.map e37)) []):=by
 obtain _|⟨x,l⟩:=a0
 refine acalls_empty fun a cap=>?_
 obtain _|a:=a
 all_goals
  refine acalls_of_run (fn:=Tryz.f82) (body:=(Tryz.f82.body).get!) (rs:=[.tmp 2]) 1000 [] 8 (by kernel_rfl) (by kernel_rfl) (by kernel_rfl) (by kernel_rfl) (by kernel_rfl) (by simp) fun C _ hG hwf=>?_
  subst hG
  have hw2:=hwf
  simp only[WfL,Wf,List.length_map,and_true,List.length_cons,bytes37,top47] at hw2
  simp only[Tryz.f82,Option.get!]
  simp only[go_sem,simprocAttr]
  try refine ⟨by omega,?_⟩
  with_reducible refine ret_k ?_
  simp only[go_sem,simprocAttr]
theorem wI_nat {i n:Nat} (h:i<n) (hn:n<=140737488355328):wI ((i:Int)+1)=((i+1:Nat):Int):=by
 have e:wI ((i:Int)+1)=if ((i:Int)+1) % 18446744073709551616>=9223372036854775808 then ((i:Int)+1) % 18446744073709551616-18446744073709551616 else ((i:Int)+1) % 18446744073709551616:=by
  have e1:IntKind.bits .i64=64:=rfl
  have e2:IntKind.signed .i64=true:=rfl
  simp[wI,IntKind.wrap,e1,e2]
 rw[e]
 split<;>omega
theorem setSame {α:Type} {l:List α} {i:Nat} {x:α} (h:l[i]? = some x):l.set i x=l:=by
 apply List.ext_getElem?
 intro j
 rw[List.getElem?_set]
 split
 ·rename_i e
  subst e
  split
  ·exact h.symm
  ·rw[List.getElem?_eq_none (by omega)] at h;cases h
 ·rfl
instance shadow_Store_i:∀ N (a0:TWorld) (a1:Int) (a2:Int),OK (shadow_Store N a0 a1 a2) 30 [.agg (e61 a0),.v (.int .u64 a1),.v (.int .u64 a2)] [] (fun r=>.tup [.agg (e61 r.1),.v (.int .i64 r.2)]) fun r=>[]:=by
 refine fun N a0 a1 a2=>rnG Tryz.f30 [.cell 6 61,.tmp 7] [] 44 (by kernel_rfl) ?_
 rintro _ hw r hr C x rfl hlb hwf hf
 have hlen:a0.Things.length<=140737488355328:=by
  simp only[WfL,Wf,e61,List.length_map,top47] at hwf
  exact hwf.1.2.2.1.2.1
 simp only[Tryz.f30,Option.get!]
 rw[shadow_Store] at hr
 repeat' first
  |(refine El.el hr ?_;clear hr;intro hr)
  |(with_reducible intro h;refine bc_e hr h ?_;clear hr;intro hr)
  |with_reducible intro _
  |simp only[go_sem,simprocAttr]
  |(with_reducible first|apply guard_of_f|apply guard_of_t|apply cond_of)
  |(refine and_of' ?_ ?_;·first|assumption|omega)
  |(refine CallX.inl (f:=41) 0 (fn:=Tryz.f41) (rs:=[.cell 2 61]) (nt:=47) 1000 (by kernel_rfl) (fun x=>?_) _;simp only[Tryz.f41,Option.get!])
  |with_reducible refine CallX.c ?_ _
  |with_reducible refine OK.c hr hw ?_ (fun y hr=>?_) _
  |with_reducible refine OK.t (slT (N:=N) (l:=a0.Things)) hw ?_ ?_ _
  |(refine some_e hr ?_;rintro rfl;with_reducible refine Gh.no ?_;simp only[go_sem,simprocAttr])
  |with_reducible refine ret_k ?_
  |((first|refine bc_e (c:=true) hr rfl ?_|refine bc_e (c:=false) hr rfl ?_|refine bc_e hr (by assumption) ?_);clear hr;intro hr)
  |fail
 rename_i y _ _
 refine bnd_e hr fun p4 hp4 hr=>bnd_e hr fun p5 hp5 hr=>some_e hr ?_
 rintro rfl
 clear hr
 obtain ⟨hk0,hk1⟩:=getI_c hp4
 have hkd:=getI_d hp4 e77
 generalize hk:(wU (y.fst-1)).toNat=k at hkd
 have hkl:k<a0.Things.length:=by omega
 obtain ⟨hm0,hm1⟩:=getI_c hp5
 have hmd:=getI_d hp5 e37
 simp only[e37] at hmd
 refine LoopG.wide (id:=448) (v:=27) (E:=77) (z:=4) (es:=a0.Things.map e77) (by simp only[go_sem,simprocAttr]) (by intro h;rw[List.map_eq_nil_iff] at h;rw[h] at hkl;exact absurd hkl (by simp)) ?_ _
 refine LoopG.of (Inv21 a0 k p4) 1000 a0.Things.length ?_ ?_ _
 ·refine ⟨0,Nat.zero_le _,rfl,.inl ⟨Nat.zero_le _,?_⟩⟩
  unfold Ist
  simp only[go_sem,simprocAttr]
 ·rintro n st ⟨i,hi,rfl,hA⟩
  by_cases hil:i<a0.Things.length
  ·
   have hdc:decide ((i:Int)<(a0.Things.length:Int))=true:=decide_eq_true (by omega)
   rcases hA with ⟨hik,E1,E2,E3,E4,E5,E6,E7,E8,E9,E10⟩ | ⟨hik,w,⟨E1,E2,E3,E4,E5,E6,E7,E8,E9,E10⟩,E11⟩
   ·by_cases hik2:i=k
    ·subst hik2
     repeat' first
      |simp only[go_sem,simprocAttr,E1,E2,E3,E4,E5,E6,E7,E8,E9,E10,hdc,hkd,Int.toNat_natCast]
      |(refine and_of' ?_ ?_;·first|assumption|omega)
      |(refine db 41 5 ⟨⟩ [([],[],[19,20,21,22],[1408]),([0],[],[19,20,21,22],[1408]),([],[],[17,18,20,21,22],[1408]),([],[],[17,18,19],[]),([3],[],[17,18,19],[]),([3,4],[1408],[17,18,19],[]),([0,1,2,3,4,5],[],[],[]),([0,1,2,3,4,5,6],[],[],[]),([0,1,2,3,4,5,6,7],[448,1408],[],[])] rfl rfl (by kernel_rfl) ?_ _)
      |(with_reducible refine OK.td (slU (N:=N) (l:=p4.Fields)) hw ?_ ?_ _)
      |fail
     refine ⟨a0.Things.length-(i+1),by omega,i+1,by omega,rfl,.inr ⟨by omega,_,?_,rfl⟩⟩
     unfold Ist spc
     simp only[go_sem,simprocAttr,E1,E2,E3,E4,E5,E6,E7,E8,E9,E10,wI_nat hil hlen]
    ·have hq:=List.getElem?_eq_getElem hil
     generalize a0.Things[i]=q at hq
     have hqd:(a0.Things.map e77).getD i []=e77 q:=by rw[List.getD_eq_getElem?_getD,List.getElem?_map,hq];rfl
     have hqs:(a0.Things.map e77).set i (e77 q)=a0.Things.map e77:=setSame (by rw[List.getElem?_map,hq];rfl)
     simp only[e77] at hqd hqs
     repeat' first
      |simp only[go_sem,simprocAttr,E1,E2,E3,E4,E5,E6,E7,E8,E9,E10,hdc,hqd,Int.toNat_natCast]
      |(refine and_of' ?_ ?_;·first|assumption|omega)
      |(refine db 41 5 ⟨⟩ [([],[],[19,20,21,22],[1408]),([0],[],[19,20,21,22],[1408]),([],[],[17,18,20,21,22],[1408]),([],[],[17,18,19],[]),([3],[],[17,18,19],[]),([3,4],[1408],[17,18,19],[]),([0,1,2,3,4,5],[],[],[]),([0,1,2,3,4,5,6],[],[],[]),([0,1,2,3,4,5,6,7],[448,1408],[],[])] rfl rfl (by kernel_rfl) ?_ _)
      |(with_reducible refine CallD.ofE (cloneF _ q.Fields) ?_ ?_ _)
      |fail
     refine ⟨a0.Things.length-(i+1),by omega,i+1,by omega,rfl,.inl ⟨by omega,?_⟩⟩
     unfold Ist
     simp only[go_sem,simprocAttr,E1,E2,E3,E4,E5,E6,E7,E8,E9,E10,wI_nat hil hlen,hqs]
   ·have hq:=List.getElem?_eq_getElem hil
    generalize a0.Things[i]=q at hq
    have hne:¬ k=i:=by omega
    have hLi:((a0.Things.map e77).set k (spc p4 w))[i]? = some (e77 q):=by rw[List.getElem?_set_ne hne,List.getElem?_map,hq];rfl
    have hLl:((a0.Things.map e77).set k (spc p4 w)).length=a0.Things.length:=by rw[List.length_set,List.length_map]
    generalize hL:(a0.Things.map e77).set k (spc p4 w)=L at hLi hLl E10
    have hqd:L.getD i []=e77 q:=by rw[List.getD_eq_getElem?_getD,hLi];rfl
    have hqs:L.set i (e77 q)=L:=setSame hLi
    simp only[e77] at hqd hqs
    repeat' first
     |simp only[go_sem,simprocAttr,E1,E2,E3,E4,E5,E6,E7,E8,E9,E10,hdc,hqd,Int.toNat_natCast,hLl]
     |(refine and_of' ?_ ?_;·first|assumption|omega)
     |(refine db 41 5 ⟨⟩ [([],[],[19,20,21,22],[1408]),([0],[],[19,20,21,22],[1408]),([],[],[17,18,20,21,22],[1408]),([],[],[17,18,19],[]),([3],[],[17,18,19],[]),([3,4],[1408],[17,18,19],[]),([0,1,2,3,4,5],[],[],[]),([0,1,2,3,4,5,6],[],[],[]),([0,1,2,3,4,5,6,7],[448,1408],[],[])] rfl rfl (by kernel_rfl) ?_ _)
     |(with_reducible refine CallD.ofE (cloneF _ q.Fields) ?_ ?_ _)
     |fail
    refine ⟨a0.Things.length-(i+1),by omega,i+1,by omega,rfl,.inr ⟨by omega,w,?_,?_⟩⟩
    ·rw[hL]
     unfold Ist
     simp only[go_sem,simprocAttr,E1,E2,E3,E4,E5,E6,E7,E8,E9,E10,wI_nat hil hlen,hqs]
    ·simp only[go_sem,simprocAttr,E11]
  ·obtain rfl:i=a0.Things.length:=by omega
   rcases hA with ⟨hik,_⟩ | ⟨hik,w,⟨E1,E2,E3,E4,E5,E6,E7,E8,E9,E10⟩,E11⟩
   ·omega
   have hdc:decide ((a0.Things.length:Int)<(a0.Things.length:Int))=false:=decide_eq_false (by omega)
   have hkd2:((a0.Things.map e77).set k (spc p4 w)).getD k []=spc p4 w:=by rw[List.getD_eq_getElem?_getD,List.getElem?_set_self (by rw[List.length_map];exact hkl)];rfl
   have hLl:((a0.Things.map e77).set k (spc p4 w)).length=a0.Things.length:=by rw[List.length_set,List.length_map]
   have hLk:((a0.Things.map e77).set k (spc p4 w))[k]? = some (spc p4 w):=List.getElem?_set_self (by rw[List.length_map];exact hkl)
   generalize hL:(a0.Things.map e77).set k (spc p4 w)=L at hkd2 hLl E10 hLk
   unfold spc at hkd2
   repeat' first
    |simp only[go_sem,simprocAttr,E1,E2,E3,E4,E5,E6,E7,E8,E9,E10,E11,hdc,hLl,hk,hkd2,hmd]
    |(refine and_of' ?_ ?_;·first|assumption|omega)
    |(refine db 41 7 ⟨⟩ [([],[],[29,30,32,33],[]),([0],[],[29,30,32,33],[]),([0,1],[],[29,30,32,33],[]),([],[],[26,27,28,32,33],[]),([3],[],[26,27,28,32,33],[]),([0,1,2,3,4],[],[32,33,35],[]),([],[],[26,27,28,29,30,31],[]),([6],[],[26,27,28,29,30,31],[]),([0,1,2,3,4,5,6,7],[],[35],[]),([0,1,2,3,4,6,7],[],[31,34],[]),([0,1,2,3,4,5,6,7,8,9],[64],[],[]),([0,1,2,3,4,5,6,7,8,9,10],[],[],[]),([0,1,2,3,4,5,6,7,8,9,10,11],[64],[],[]),([0,1,2,3,4,5,6,7,8,9,10,11,12],[],[],[]),([0,1,2,3,4,5,6,7,8,9,10,11,12,13],[64],[],[])] rfl rfl (by kernel_rfl) ?_ _)
    |(refine db 41 8 ⟨⟩ [([],[],[41,42],[]),([0],[],[41,42],[]),([0,1],[2560],[41,42],[]),([],[],[38,39,40],[2560]),([3],[],[38,39,40],[2560]),([0,1,2,3,4],[2752],[44],[]),([0,1,2,3,4],[],[43],[2752]),([0,1,2,3,4,5,6],[64],[],[]),([0,1,2,3,4,5,6,7],[],[],[]),([0,1,2,3,4,5,6,7,8],[64],[],[])] rfl rfl (by kernel_rfl) ?_ _)
    |(with_reducible refine OK.td (coL (N:=N) (a:=a0.Locals)) hw ?_ ?_ _;·(simp only[go_sem,simprocAttr];done))
    |(with_reducible refine OK.td (coT (N:=N) (a:=a0.Globals)) hw ?_ ?_ _;·(simp only[go_sem,simprocAttr];done))
    |(with_reducible refine OK.td (coT (N:=N) (a:=a0.Weaks)) hw ?_ ?_ _;·(simp only[go_sem,simprocAttr];done))
    |(with_reducible refine OK.td (slM (N:=N) (l:=a0.Marks)) hw ?_ ?_ _;·(simp only[go_sem,simprocAttr];done))
    |(with_reducible refine OK.td (slU (N:=N) (l:=a0.Roots)) hw ?_ ?_ _;·(simp only[go_sem,simprocAttr];done))
    |fail
   refine Gh.narrow hlb (id:=448) (v:=27) (E:=77) (z:=4) (idF:=1408) (vF:=w) (E':=37) (z':=1) (fz:=0) (es:=L) (fs:=(p4.Fields.map e37).set y.snd.fst.toNat [.v (.int .u64 a2)]) (by simp only[go_sem,simprocAttr,E10]) (by simp only[go_sem,simprocAttr]) ((a0.Things.map e77).set k (e77 ⟨p4.Header,p4.Fields.set y.snd.fst.toNat a2⟩)) ?_ ?_ ?_ ?_
   ·rw[List.length_set,List.length_map,hLl]
   ·intro e he
    rcases List.mem_or_eq_of_mem_set he with h | rfl
    ·obtain ⟨q,_,rfl⟩:=List.mem_map.1 h
     rfl
    ·rfl
   ·intro j c e2 d2 h1 h2
    by_cases hj:j=k
    ·subst hj
     rw[List.getElem?_set_self (by rw[List.length_map];exact hkl)] at h1
     obtain rfl:=Option.some.inj h1
     obtain ⟨d,g1,g2⟩:∃ d,(spc p4 w)[c]? = some d∧((d2=d∧pureB d=true)∨(d=.osl 1408 w 1 0 ((p4.Fields.map e37).set y.snd.fst.toNat [.v (.int .u64 a2)]).length∧d2=.isl 37 1 ((p4.Fields.map e37).set y.snd.fst.toNat [.v (.int .u64 a2)]))):=by
      rcases c with _ | _ | _ | _ | c
      ·exact ⟨_,rfl,.inl ⟨(Option.some.inj h2).symm,rfl⟩⟩
      ·exact ⟨_,rfl,.inl ⟨(Option.some.inj h2).symm,rfl⟩⟩
      ·exact ⟨_,rfl,.inl ⟨(Option.some.inj h2).symm,rfl⟩⟩
      ·refine ⟨_,rfl,.inr ⟨?_,?_⟩⟩
       ·rw[List.length_set,List.length_map]
       ·rw[← Option.some.inj h2,List.map_set];rfl
      ·exact absurd h2 (by simp[e77])
     exact ⟨_,d,hLk,g1,g2⟩
    ·rw[List.getElem?_set_ne (Ne.symm hj),List.getElem?_map] at h1
     have h3:L[j]? = some e2:=by rw[← hL,List.getElem?_set_ne (Ne.symm hj),List.getElem?_map,h1]
     obtain ⟨q,_,rfl⟩:=Option.map_eq_some_iff.1 h1
     refine ⟨_,_,h3,h2,.inl ⟨rfl,?_⟩⟩
     rcases c with _ | _ | _ | _ | c
     ·rw[← Option.some.inj h2];rfl
     ·rw[← Option.some.inj h2];rfl
     ·rw[← Option.some.inj h2];rfl
     ·rw[← Option.some.inj h2];rfl
     ·exact absurd h2 (by simp[e77])
   ·simp only[go_sem,simprocAttr]
    with_reducible refine ret_k ?_
    simp only[go_sem,simprocAttr]
end Go.Sx
