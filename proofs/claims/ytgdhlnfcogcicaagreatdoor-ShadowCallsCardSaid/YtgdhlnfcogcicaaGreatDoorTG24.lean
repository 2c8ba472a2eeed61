import Derived.Test.YtgdhlnfcogcicaaGreatDoorTF
import Derived.Test.YtgdhlnfcogcicaaGreatDoorTG2
import Derived.Test.YtgdhlnfcogcicaaGreatDoorTG5
import Derived.Test.YtgdhlnfcogcicaaGreatDoorTG6
import Derived.Test.YtgdhlnfcogcicaaGreatDoorTG7
import Derived.Test.YtgdhlnfcogcicaaGreatDoorTG22
import Derived.Test.YtgdhlnfcogcicaaGreatDoorTG23
set_option linter.all false
namespace Go.Sx
open Go.Proofs
set_option maxRecDepth 10000
set_option maxHeartbeats 100000000
theorem slT {N:Nat} {l:List W5}:QaE N l=some l:=rfl
theorem slU {N:Nat} {l:List Int}:QaJ N l=some l:=rfl
theorem slM {N:Nat} {l:List Uz}:QaM N l=some l:=rfl
theorem coL {N:Nat} {a:Ws}:QeA N a=some a:=by rw[QeA];unfold bnd;rfl
theorem coT {N:Nat} {a:WC}:Qda N a=some a:=by rw[Qda];unfold bnd;rfl
def spc (p:W5) (w:Nat):List D:=[.v (.int .i64 p.Header.Kind),.v (.int .i64 p.Header.Length),.v (.int .u32 p.Header.Map),.osl 1408 w 1 0 p.Fields.length]
def Xcm (a0:Wm) (a5:UH) (i:Nat) (L:List (List D)) (st:St):Prop:=st.n=47/\st.t 1=.ept 64 26 10 0 0/\st.t 2=.ept 128 27 10 0 0/\st.t 10=.osl 448 30 4 0 a0.Things.length/\st.t 11=.v (.int .i64 (a0.Things.length:Int))/\st.t 12=.v (.int .i64 (i:Int)) /\
 st.s 64=some (26,.arr true 61 10 [[.v (.int .i64 a0.Conf.PageWords),.v (.int .i64 a0.Conf.Pages),.osl 448 30 4 0 a0.Things.length,.isl 210 3 (a0.Locals.Slots.map X4),.isl 159 3 (a0.Locals.Scopes.map X9),.isl 3 1 (a0.Locals.Issued.map e3),.isl 132 3 (a0.Globals.Entries.map XC),.isl 132 3 (a0.Weaks.Entries.map XC),.isl 116 3 (a0.Marks.map Yv),.isl 37 1 (a0.Roots.map e37)]] 0) /\
 st.s 128=some (27,.arr true 61 10 [[.v (.int .i64 0),.v (.int .i64 0),.nsl,.nsl,.nsl,.nsl,.nsl,.nsl,.nsl,.nsl]] 0) /\
 st.s 704=some (2,.arr true 66 3 [[.v (.bool a5.Failed),.v (.bool a5.Collected),.v (.int .u64 a5.Base)]] 0) /\
 st.s 768=some (3,.arr true 61 10 [[.v (.int .i64 0),.v (.int .i64 0),.nsl,.nsl,.nsl,.nsl,.nsl,.nsl,.nsl,.nsl]] 0) /\
 st.s 448=some (30,.arr true 77 4 L 0)
def Xmx (a0:Wm) (a5:UH) (k:Nat) (p:W5) (n:Nat) (st:St):Prop:=∃ i:Nat,i<=a0.Things.length/\n=a0.Things.length-i /\
 ((i<=k/\Xcm a0 a5 i (a0.Things.map e77) st)\/(k<i/\∃ w,Xcm a0 a5 i ((a0.Things.map e77).set k (spc p w)) st/\st.s 1408=some (w,.arr false 37 1 (p.Fields.map e37) 0)))
theorem Xce (G:Nat->Option (List D)) (a0:List Int):YF Tryz.prog G 82 [.isl 37 1 (a0.map e37)] [] (Eqs (.isl 37 1 (a0.map e37)) []):=by
 obtain _|⟨x,l⟩:=a0
 refine Yy λ a cap=>?_
 obtain _|a:=a
 all_goals
  refine X6 (fn:=Tryz.f82) (body:=(Tryz.f82.body).get!) (rs:=[.tmp 2]) 1000 [] 8 (by kernel_rfl) (by kernel_rfl) (by kernel_rfl) (by kernel_rfl) (by kernel_rfl) (by simp) λ C _ hG hwf=>?_
  subst hG
  have hw2:=hwf
  simp only[WfL,Wf,Wt,and_true,WM,Xa7,Xn] at hw2
  simp only[Tryz.f82,Option.get!]
  simp only[go_sem,simprocAttr]
  try refine ⟨by omega,?_⟩
  with_reducible refine XG ?_
  simp only[go_sem,simprocAttr]
theorem XaE {i n:Nat} (h:i<n) (hn:n<=140737488355328):wI ((i:Int)+1)=((i+1:Nat):Int):=by
 have e:wI ((i:Int)+1)=if ((i:Int)+1) % 18446744073709551616>=9223372036854775808 then ((i:Int)+1) % 18446744073709551616-18446744073709551616 else ((i:Int)+1) % 18446744073709551616:=by
  have e1:IntKind.bits .i64=64:=rfl
  have e2:IntKind.signed .i64=true:=rfl
  simp[wI,IntKind.wrap,e1,e2]
 rw[e]
 split<;>omega
theorem Xah {α:Type} {l:List α} {i:Nat} {x:α} (h:l[i]? = some x):l.set i x=l:=by
 apply Og
 intro j
 rw[Iq]
 split
 ·rename_i e
  subst e
  split
  ·exact h.symm
  ·rw[WK (by omega)] at h;cases h
 ·rfl
instance Qly:∀ N (a0:Wm) (a2:Int) (a3:Int) (a4:Int) (a5:UH),OK (Qeg N a0 a2 a3 a4 a5) 11 [.agg (e61 a0),.v (.int .i64 7),.v (.int .u64 a2),.v (.int .u64 a3),.v (.int .u64 a4),.agg (e66 a5)] [] (λ r=>.tup [.agg (e61 r.1),.v (.int .u64 r.2.1),.v (.int .i64 r.2.2)]) λ r=>[]:=by
 refine λ N a0 a2 a3 a4 a5=>rnG Tryz.f11 [.cell 12 61,.tmp 13,.tmp 14] [] 57 (by kernel_rfl) ?_
 rintro _ hw r hr C x rfl hlb hwf hf
 have hlen:a0.Things.length<=140737488355328:=by
  simp only[WfL,Wf,e61,Wt,Xn] at hwf
  exact hwf.1.2.2.1.2.1
 simp only[Tryz.f11,Option.get!]
 rw[Qeg] at hr
 repeat' first
  |(refine El.el hr ?_;clear hr;intro hr)
  |(with_reducible intro h;refine Xz hr h ?_;clear hr;intro hr)
  |with_reducible intro _
  |simp only[go_sem,simprocAttr]
  |(with_reducible first|apply Xg|apply Xf|apply Xs)
  |(refine Xl ?_ ?_;·first|assumption|omega)
  |(refine CallX.inl (f:=41) 0 (fn:=Tryz.f41) (rs:=[.cell 2 61]) (nt:=47) 1000 (by kernel_rfl) (λ x=>?_) _;simp only[Tryz.f41,Option.get!])
  |with_reducible refine CallX.c ?_ _
  |with_reducible refine OK.c hr hw ?_ (λ y hr=>?_) _
  |with_reducible refine OK.t (slT (N:=N) (l:=a0.Things)) hw ?_ ?_ _
  |(refine Xq hr ?_;rintro rfl;with_reducible refine Gh.no ?_;simp only[go_sem,simprocAttr])
  |with_reducible refine XG ?_
  |((first|refine Xz (c:=true) hr rfl ?_|refine Xz (c:=false) hr rfl ?_|refine Xz hr (by assumption) ?_);clear hr;intro hr)
  |fail
 rename_i y _
 cases hz:(y.1 != 0) with
 | false=>rw[hz] at hr;exact Yo hr
 | true =>
 rw[hz,We] at hr
 refine Jx hr λ p4 hp4 hr=>Jx hr λ p5 hp5 hr=>Xq hr ?_
 rintro rfl
 clear hr
 obtain ⟨hk0,hk1⟩:=Jh hp4
 have hkd:=Xc5 hp4 e77
 generalize hk:(wU (y.fst-1)).toNat=k at hkd
 have hkl:k<a0.Things.length:=by omega
 obtain ⟨hm0,hm1⟩:=Jh hp5
 have hmd:=Xc5 hp5 e37
 simp only[e37] at hmd
 refine LoopG.wide (id:=448) (v:=30) (E:=77) (z:=4) (es:=a0.Things.map e77) (by simp only[go_sem,simprocAttr]) (by intro h;rw[List.map_eq_nil_iff] at h;rw[h] at hkl;exact absurd hkl (by simp)) ?_ _
 refine LoopG.of (Xmx a0 a5 k p4) 1000 a0.Things.length ?_ ?_ _
 ·refine ⟨0,Ix _,rfl,.inl ⟨Ix _,?_⟩⟩
  unfold Xcm
  simp only[go_sem,simprocAttr]
 ·rintro n st ⟨i,hi,rfl,hA⟩
  by_cases hil:i<a0.Things.length
  ·
   have hdc:decide ((i:Int)<(a0.Things.length:Int))=true:=Wo (by omega)
   rcases hA with ⟨hik,E1,E2,E3,E4,E5,E6,E7,E8,E9,E10,E11⟩ | ⟨hik,w,⟨E1,E2,E3,E4,E5,E6,E7,E8,E9,E10,E11⟩,E12⟩
   ·by_cases hik2:i=k
    ·subst hik2
     repeat' first
      |simp only[go_sem,simprocAttr,E1,E2,E3,E4,E5,E6,E7,E8,E9,E10,E11,hdc,hkd,WD]
      |(refine Xl ?_ ?_;·first|assumption|omega)
      |(refine db 41 5 ⟨⟩ 17 [(0,60,[[],[1408]]),(1,60,[[],[1408]]),(0,59,[[],[1408]]),(0,7,[]),(8,7,[]),(24,7,[[1408],[]]),(63,0,[]),(127,0,[]),(255,0,[[448,1408],[]])] rfl rfl (by kernel_rfl) ?_ _)
      |(with_reducible refine OM (slU (N:=N) (l:=p4.Fields)) hw ?_ ?_ _)
      |fail
     refine ⟨a0.Things.length-(i+1),by omega,i+1,by omega,rfl,.inr ⟨by omega,_,?_,rfl⟩⟩
     unfold Xcm spc
     simp only[go_sem,simprocAttr,E1,E2,E3,E4,E5,E6,E7,E8,E9,E10,E11,XaE hil hlen]
    ·have hq:=Wc hil
     generalize a0.Things[i]=q at hq
     have hqd:(a0.Things.map e77).getD i []=e77 q:=by rw[Wk,W7,hq];rfl
     have hqs:(a0.Things.map e77).set i (e77 q)=a0.Things.map e77:=Xah (by rw[W7,hq];rfl)
     simp only[e77] at hqd hqs
     repeat' first
      |simp only[go_sem,simprocAttr,E1,E2,E3,E4,E5,E6,E7,E8,E9,E10,E11,hdc,hqd,WD]
      |(refine Xl ?_ ?_;·first|assumption|omega)
      |(refine db 41 5 ⟨⟩ 17 [(0,60,[[],[1408]]),(1,60,[[],[1408]]),(0,59,[[],[1408]]),(0,7,[]),(8,7,[]),(24,7,[[1408],[]]),(63,0,[]),(127,0,[]),(255,0,[[448,1408],[]])] rfl rfl (by kernel_rfl) ?_ _)
      |(with_reducible refine CallD.ofE (Xce _ q.Fields) ?_ ?_ _)
      |fail
     refine ⟨a0.Things.length-(i+1),by omega,i+1,by omega,rfl,.inl ⟨by omega,?_⟩⟩
     unfold Xcm
     simp only[go_sem,simprocAttr,E1,E2,E3,E4,E5,E6,E7,E8,E9,E10,E11,XaE hil hlen,hqs]
   ·have hq:=Wc hil
    generalize a0.Things[i]=q at hq
    have hne:¬ k=i:=by omega
    have hLi:((a0.Things.map e77).set k (spc p4 w))[i]? = some (e77 q):=by rw[Iy hne,W7,hq];rfl
    have hLl:((a0.Things.map e77).set k (spc p4 w)).length=a0.Things.length:=by rw[Wv,Wt]
    generalize hL:(a0.Things.map e77).set k (spc p4 w)=L at hLi hLl E11
    have hqd:L.getD i []=e77 q:=by rw[Wk,hLi];rfl
    have hqs:L.set i (e77 q)=L:=Xah hLi
    simp only[e77] at hqd hqs
    repeat' first
     |simp only[go_sem,simprocAttr,E1,E2,E3,E4,E5,E6,E7,E8,E9,E10,E11,hdc,hqd,WD,hLl]
     |(refine Xl ?_ ?_;·first|assumption|omega)
     |(refine db 41 5 ⟨⟩ 17 [(0,60,[[],[1408]]),(1,60,[[],[1408]]),(0,59,[[],[1408]]),(0,7,[]),(8,7,[]),(24,7,[[1408],[]]),(63,0,[]),(127,0,[]),(255,0,[[448,1408],[]])] rfl rfl (by kernel_rfl) ?_ _)
     |(with_reducible refine CallD.ofE (Xce _ q.Fields) ?_ ?_ _)
     |fail
    refine ⟨a0.Things.length-(i+1),by omega,i+1,by omega,rfl,.inr ⟨by omega,w,?_,?_⟩⟩
    ·rw[hL]
     unfold Xcm
     simp only[go_sem,simprocAttr,E1,E2,E3,E4,E5,E6,E7,E8,E9,E10,E11,XaE hil hlen,hqs]
    ·simp only[go_sem,simprocAttr,E12]
  ·obtain rfl:i=a0.Things.length:=by omega
   rcases hA with ⟨hik,_⟩ | ⟨hik,w,⟨E1,E2,E3,E4,E5,E6,E7,E8,E9,E10,E11⟩,E12⟩
   ·omega
   have hdc:decide ((a0.Things.length:Int)<(a0.Things.length:Int))=false:=Wl (by omega)
   have hkd2:((a0.Things.map e77).set k (spc p4 w)).getD k []=spc p4 w:=by rw[Wk,UJ (by rw[Wt];exact hkl)];rfl
   have hLl:((a0.Things.map e77).set k (spc p4 w)).length=a0.Things.length:=by rw[Wv,Wt]
   have hLk:((a0.Things.map e77).set k (spc p4 w))[k]? = some (spc p4 w):=UJ (by rw[Wt];exact hkl)
   generalize hL:(a0.Things.map e77).set k (spc p4 w)=L at hkd2 hLl E11 hLk
   unfold spc at hkd2
   repeat' first
    |simp only[go_sem,simprocAttr,E1,E2,E3,E4,E5,E6,E7,E8,E9,E10,E11,E12,hdc,hLl,hk,hkd2,hmd,hz]
    |(refine Xl ?_ ?_;·first|assumption|omega)
    |(refine db 41 7 ⟨⟩ 26 [(0,216,[]),(1,216,[]),(3,216,[]),(0,199,[]),(8,199,[]),(31,704,[[1984],[]]),(0,63,[[],[1984]]),(64,63,[[],[1984]]),(255,512,[[2176],[]]),(223,288,[[],[1984,2176]]),(1023,0,[[64],[]]),(2047,0,[]),(4095,0,[[64],[]]),(8191,0,[]),(16383,0,[[64],[]])] rfl rfl (by kernel_rfl) ?_ _)
    |(refine db 41 8 ⟨⟩ 38 [(0,24,[]),(1,24,[]),(3,24,[[2560],[]]),(0,7,[[],[2560]]),(8,7,[[],[2560]]),(31,64,[[2752],[]]),(31,32,[[],[2752]]),(127,0,[[64],[]]),(255,0,[]),(511,0,[[64],[]])] rfl rfl (by kernel_rfl) ?_ _)
    |(with_reducible refine OM (coL (N:=N) (a:=a0.Locals)) hw ?_ ?_ _;·(simp only[go_sem,simprocAttr];done))
    |(with_reducible refine OM (coT (N:=N) (a:=a0.Globals)) hw ?_ ?_ _;·(simp only[go_sem,simprocAttr];done))
    |(with_reducible refine OM (coT (N:=N) (a:=a0.Weaks)) hw ?_ ?_ _;·(simp only[go_sem,simprocAttr];done))
    |(with_reducible refine OM (slM (N:=N) (l:=a0.Marks)) hw ?_ ?_ _;·(simp only[go_sem,simprocAttr];done))
    |(with_reducible refine OM (slU (N:=N) (l:=a0.Roots)) hw ?_ ?_ _;·(simp only[go_sem,simprocAttr];done))
    |(with_reducible first|apply Xg|apply Xf|apply Xs)
    |(refine CallX.inl (f:=42) 400 (fn:=Tryz.f42) (rs:=[.tmp 14,.tmp 15]) (nt:=221) 1000 (by kernel_rfl) (λ x=>?_) _;simp only[Tryz.f42,Option.get!])
    |fail
   refine Gh.narrow hlb (id:=448) (v:=30) (E:=77) (z:=4) (idF:=1408) (vF:=w) (E':=37) (z':=1) (fz:=0) (es:=L) (fs:=(p4.Fields.map e37).set a3.toNat [.v (.int .u64 a4)]) (by simp only[go_sem,simprocAttr,E11]) (by simp only[go_sem,simprocAttr]) ((a0.Things.map e77).set k (e77 ⟨p4.Header,p4.Fields.set a3.toNat a4⟩)) ?_ ?_ ?_ ?_
   ·rw[Wv,Wt,hLl]
   ·intro e he
    rcases UB he with h | rfl
    ·obtain ⟨q,_,rfl⟩:=W8.1 h
     rfl
    ·rfl
   ·intro j c e2 d2 h1 h2
    by_cases hj:j=k
    ·subst hj
     rw[UJ (by rw[Wt];exact hkl)] at h1
     obtain rfl:=Ww h1
     obtain ⟨d,g1,g2⟩:∃ d,(spc p4 w)[c]? = some d/\((d2=d/\XaJ d=true)\/(d=.osl 1408 w 1 0 ((p4.Fields.map e37).set a3.toNat [.v (.int .u64 a4)]).length/\d2=.isl 37 1 ((p4.Fields.map e37).set a3.toNat [.v (.int .u64 a4)]))):=by
      rcases c with _ | _ | _ | _ | c
      ·exact ⟨_,rfl,.inl ⟨(Ww h2).symm,rfl⟩⟩
      ·exact ⟨_,rfl,.inl ⟨(Ww h2).symm,rfl⟩⟩
      ·exact ⟨_,rfl,.inl ⟨(Ww h2).symm,rfl⟩⟩
      ·refine ⟨_,rfl,.inr ⟨?_,?_⟩⟩
       ·rw[Wv,Wt]
       ·rw[← Ww h2,List.map_set];rfl
      ·exact absurd h2 (by simp[e77])
     exact ⟨_,d,hLk,g1,g2⟩
    ·rw[Iy (Ne.symm hj),W7] at h1
     have h3:L[j]? = some e2:=by rw[← hL,Iy (Ne.symm hj),W7,h1]
     obtain ⟨q,_,rfl⟩:=WW.1 h1
     refine ⟨_,_,h3,h2,.inl ⟨rfl,?_⟩⟩
     rcases c with _ | _ | _ | _ | c
     ·rw[← Ww h2];rfl
     ·rw[← Ww h2];rfl
     ·rw[← Ww h2];rfl
     ·rw[← Ww h2];rfl
     ·exact absurd h2 (by simp[e77])
   ·simp only[go_sem,simprocAttr]
    with_reducible refine XG ?_
    simp only[go_sem,simprocAttr]
theorem Xl9 (G:Nat->Option (List D)) (a0:List Uz):YF Tryz.prog G 85 [.isl 116 3 (a0.map Yv)] [] (Eqs (.isl 116 3 (a0.map Yv)) []):=by
 obtain _|⟨x,l⟩:=a0
 refine Yy λ a cap=>?_
 obtain _|a:=a
 all_goals
  refine X6 (fn:=Tryz.f85) (body:=(Tryz.f85.body).get!) (rs:=[.tmp 2]) 1000 [] 8 (by kernel_rfl) (by kernel_rfl) (by kernel_rfl) (by kernel_rfl) (by kernel_rfl) (by simp) λ C _ hG hwf=>?_
  subst hG
  have hw2:=hwf
  simp only[WfL,Wf,Wt,and_true,WM,Xb8,Xn] at hw2
  simp only[Tryz.f85,Option.get!]
  simp only[go_sem,simprocAttr]
  try refine ⟨by omega,?_⟩
  with_reducible refine XG ?_
  simp only[go_sem,simprocAttr]
theorem XpM {a0:Wm} {k:Nat} {p:W5} {w:Nat} {F:List Int} (hk:k<a0.Things.length) (hF:F.length=p.Fields.length) (j c:Nat) (e2:List D) (d2:D) (h1:((a0.Things.map e77).set k (e77 ⟨p.Header,F⟩))[j]? = some e2) (h2:e2[c]? = some d2) :
 ∃ e d,((a0.Things.map e77).set k (spc p w))[j]? = some e/\e[c]? = some d/\((d2=d/\XaJ d=true)\/(d=.osl 1408 w 1 0 (F.map e37).length/\d2=.isl 37 1 (F.map e37))):=by
 by_cases hj:j=k
 ·subst hj
  rw[UJ (by rw[Wt];exact hk)] at h1
  obtain rfl:=Ww h1
  refine ⟨spc p w,?_⟩
  rcases c with _ | _ | _ | _ | c
  ·exact ⟨_,UJ (by rw[Wt];exact hk),rfl,.inl ⟨(Ww h2).symm,rfl⟩⟩
  ·exact ⟨_,UJ (by rw[Wt];exact hk),rfl,.inl ⟨(Ww h2).symm,rfl⟩⟩
  ·exact ⟨_,UJ (by rw[Wt];exact hk),rfl,.inl ⟨(Ww h2).symm,rfl⟩⟩
  ·refine ⟨_,UJ (by rw[Wt];exact hk),rfl,.inr ⟨?_,(Ww h2).symm⟩⟩
   rw[Wt,hF]
  ·exact absurd h2 (by simp[e77])
 ·rw[Iy (Ne.symm hj),W7] at h1
  have h3:((a0.Things.map e77).set k (spc p w))[j]? = some e2:=by rw[Iy (Ne.symm hj),W7,h1]
  obtain ⟨q,_,rfl⟩:=WW.1 h1
  refine ⟨_,_,h3,h2,.inl ⟨rfl,?_⟩⟩
  rcases c with _ | _ | _ | _ | c
  ·rw[← Ww h2];rfl
  ·rw[← Ww h2];rfl
  ·rw[← Ww h2];rfl
  ·rw[← Ww h2];rfl
  ·exact absurd h2 (by simp[e77])
theorem Xo4 {l:List W5}:∀ e∈l.map e77,e.length=4:=by
 intro e he
 obtain ⟨q,_,rfl⟩:=W8.1 he
 rfl
theorem Xo5 {l:List W5} {k:Nat} {x:W5}:∀ e∈(l.map e77).set k (e77 x),e.length=4:=by
 intro e he
 rcases UB he with h | rfl
 ·exact Xo4 e h
 ·rfl
instance Qlz:∀ N (a0:Wm) (a2:Int) (a3:Int) (a4:Int) (a5:UH),OK (Qei N a0 a2 a3 a4 a5) 11 [.agg (e61 a0),.v (.int .i64 9),.v (.int .u64 a2),.v (.int .u64 a3),.v (.int .u64 a4),.agg (e66 a5)] [] (λ r=>.tup [.agg (e61 r.1),.v (.int .u64 r.2.1),.v (.int .i64 r.2.2)]) λ r=>[]:=by
 refine λ N a0 a2 a3 a4 a5=>rnG Tryz.f11 [.cell 12 61,.tmp 13,.tmp 14] [] 57 (by kernel_rfl) ?_
 rintro _ hw r hr C x rfl hlb hwf hf
 have hlen:a0.Things.length<=140737488355328:=by
  simp only[WfL,Wf,e61,Wt,Xn] at hwf
  exact hwf.1.2.2.1.2.1
 simp only[Tryz.f11,Option.get!]
 rw[Qei] at hr
 repeat' first
  |(refine El.el hr ?_;clear hr;intro hr)
  |(with_reducible intro h;refine Xz hr h ?_;clear hr;intro hr)
  |with_reducible intro _
  |simp only[go_sem,simprocAttr]
  |(with_reducible first|apply Xg|apply Xf|apply Xs)
  |(refine Xl ?_ ?_;·first|assumption|omega)
  |(refine CallX.inl (f:=41) 0 (fn:=Tryz.f41) (rs:=[.cell 2 61]) (nt:=47) 1000 (by kernel_rfl) (λ x=>?_) _;simp only[Tryz.f41,Option.get!])
  |with_reducible refine CallX.c ?_ _
  |with_reducible refine OK.c hr hw ?_ (λ y hr=>?_) _
  |with_reducible refine OK.t (slT (N:=N) (l:=a0.Things)) hw ?_ ?_ _
  |(refine Xq hr ?_;rintro rfl;with_reducible refine Gh.no ?_;simp only[go_sem,simprocAttr])
  |with_reducible refine XG ?_
  |((first|refine Xz (c:=true) hr rfl ?_|refine Xz (c:=false) hr rfl ?_|refine Xz hr (by assumption) ?_);clear hr;intro hr)
  |fail
 rename_i y _
 cases hz:(y.1 != 0) with
 | false=>rw[hz] at hr;exact Yo hr
 | true =>
 rw[hz,We] at hr
 refine Jx hr λ p4 hp4 hr=>Jx hr λ p5 hp5 hr=>?_
 obtain ⟨hk0,hk1⟩:=Jh hp4
 have hkd:=Xc5 hp4 e77
 generalize hk:(wU (y.fst-1)).toNat=k at hkd
 have hkl:k<a0.Things.length:=by omega
 obtain ⟨hm0,hm1⟩:=Jh hp5
 have hmd:=Xc5 hp5 e37
 simp only[e37] at hmd
 refine LoopG.wide (id:=448) (v:=30) (E:=77) (z:=4) (es:=a0.Things.map e77) (by simp only[go_sem,simprocAttr]) (by intro h;rw[List.map_eq_nil_iff] at h;rw[h] at hkl;exact absurd hkl (by simp)) ?_ _
 refine LoopG.of (Xmx a0 a5 k p4) 1000 a0.Things.length ?_ ?_ _
 ·refine ⟨0,Ix _,rfl,.inl ⟨Ix _,?_⟩⟩
  unfold Xcm
  simp only[go_sem,simprocAttr]
 ·rintro n st ⟨i,hi,rfl,hA⟩
  by_cases hil:i<a0.Things.length
  ·
   have hdc:decide ((i:Int)<(a0.Things.length:Int))=true:=Wo (by omega)
   rcases hA with ⟨hik,E1,E2,E3,E4,E5,E6,E7,E8,E9,E10,E11⟩ | ⟨hik,w,⟨E1,E2,E3,E4,E5,E6,E7,E8,E9,E10,E11⟩,E12⟩
   ·by_cases hik2:i=k
    ·subst hik2
     repeat' first
      |simp only[go_sem,simprocAttr,E1,E2,E3,E4,E5,E6,E7,E8,E9,E10,E11,hdc,hkd,WD]
      |(refine Xl ?_ ?_;·first|assumption|omega)
      |(refine db 41 5 ⟨⟩ 17 [(0,60,[[],[1408]]),(1,60,[[],[1408]]),(0,59,[[],[1408]]),(0,7,[]),(8,7,[]),(24,7,[[1408],[]]),(63,0,[]),(127,0,[]),(255,0,[[448,1408],[]])] rfl rfl (by kernel_rfl) ?_ _)
      |(with_reducible refine OM (slU (N:=N) (l:=p4.Fields)) hw ?_ ?_ _)
      |fail
     refine ⟨a0.Things.length-(i+1),by omega,i+1,by omega,rfl,.inr ⟨by omega,_,?_,rfl⟩⟩
     unfold Xcm spc
     simp only[go_sem,simprocAttr,E1,E2,E3,E4,E5,E6,E7,E8,E9,E10,E11,XaE hil hlen]
    ·have hq:=Wc hil
     generalize a0.Things[i]=q at hq
     have hqd:(a0.Things.map e77).getD i []=e77 q:=by rw[Wk,W7,hq];rfl
     have hqs:(a0.Things.map e77).set i (e77 q)=a0.Things.map e77:=Xah (by rw[W7,hq];rfl)
     simp only[e77] at hqd hqs
     repeat' first
      |simp only[go_sem,simprocAttr,E1,E2,E3,E4,E5,E6,E7,E8,E9,E10,E11,hdc,hqd,WD]
      |(refine Xl ?_ ?_;·first|assumption|omega)
      |(refine db 41 5 ⟨⟩ 17 [(0,60,[[],[1408]]),(1,60,[[],[1408]]),(0,59,[[],[1408]]),(0,7,[]),(8,7,[]),(24,7,[[1408],[]]),(63,0,[]),(127,0,[]),(255,0,[[448,1408],[]])] rfl rfl (by kernel_rfl) ?_ _)
      |(with_reducible refine CallD.ofE (Xce _ q.Fields) ?_ ?_ _)
      |fail
     refine ⟨a0.Things.length-(i+1),by omega,i+1,by omega,rfl,.inl ⟨by omega,?_⟩⟩
     unfold Xcm
     simp only[go_sem,simprocAttr,E1,E2,E3,E4,E5,E6,E7,E8,E9,E10,E11,XaE hil hlen,hqs]
   ·have hq:=Wc hil
    generalize a0.Things[i]=q at hq
    have hne:¬ k=i:=by omega
    have hLi:((a0.Things.map e77).set k (spc p4 w))[i]? = some (e77 q):=by rw[Iy hne,W7,hq];rfl
    have hLl:((a0.Things.map e77).set k (spc p4 w)).length=a0.Things.length:=by rw[Wv,Wt]
    generalize hL:(a0.Things.map e77).set k (spc p4 w)=L at hLi hLl E11
    have hqd:L.getD i []=e77 q:=by rw[Wk,hLi];rfl
    have hqs:L.set i (e77 q)=L:=Xah hLi
    simp only[e77] at hqd hqs
    repeat' first
     |simp only[go_sem,simprocAttr,E1,E2,E3,E4,E5,E6,E7,E8,E9,E10,E11,hdc,hqd,WD,hLl]
     |(refine Xl ?_ ?_;·first|assumption|omega)
     |(refine db 41 5 ⟨⟩ 17 [(0,60,[[],[1408]]),(1,60,[[],[1408]]),(0,59,[[],[1408]]),(0,7,[]),(8,7,[]),(24,7,[[1408],[]]),(63,0,[]),(127,0,[]),(255,0,[[448,1408],[]])] rfl rfl (by kernel_rfl) ?_ _)
     |(with_reducible refine CallD.ofE (Xce _ q.Fields) ?_ ?_ _)
     |fail
    refine ⟨a0.Things.length-(i+1),by omega,i+1,by omega,rfl,.inr ⟨by omega,w,?_,?_⟩⟩
    ·rw[hL]
     unfold Xcm
     simp only[go_sem,simprocAttr,E1,E2,E3,E4,E5,E6,E7,E8,E9,E10,E11,XaE hil hlen,hqs]
    ·simp only[go_sem,simprocAttr,E12]
  ·obtain rfl:i=a0.Things.length:=by omega
   rcases hA with ⟨hik,_⟩ | ⟨hik,w,⟨E1,E2,E3,E4,E5,E6,E7,E8,E9,E10,E11⟩,E12⟩
   ·omega
   have hdc:decide ((a0.Things.length:Int)<(a0.Things.length:Int))=false:=Wl (by omega)
   have hkd2:((a0.Things.map e77).set k (spc p4 w)).getD k []=spc p4 w:=by rw[Wk,UJ (by rw[Wt];exact hkl)];rfl
   have hLl:((a0.Things.map e77).set k (spc p4 w)).length=a0.Things.length:=by rw[Wv,Wt]
   have hLk:((a0.Things.map e77).set k (spc p4 w))[k]? = some (spc p4 w):=UJ (by rw[Wt];exact hkl)
   generalize hL:(a0.Things.map e77).set k (spc p4 w)=L at hkd2 hLl E11 hLk
   unfold spc at hkd2
   repeat' first
    |simp only[go_sem,simprocAttr,E1,E2,E3,E4,E5,E6,E7,E8,E9,E10,E11,E12,hdc,hLl,hk,hkd2,hmd,hz]
    |(refine Xl ?_ ?_;·first|assumption|omega)
    |(refine db 41 7 ⟨⟩ 26 [(0,216,[]),(1,216,[]),(3,216,[]),(0,199,[]),(8,199,[]),(31,704,[[1984],[]]),(0,63,[[],[1984]]),(64,63,[[],[1984]]),(255,512,[[2176],[]]),(223,288,[[],[1984,2176]]),(1023,0,[[64],[]]),(2047,0,[]),(4095,0,[[64],[]]),(8191,0,[]),(16383,0,[[64],[]])] rfl rfl (by kernel_rfl) ?_ _)
    |(refine db 41 8 ⟨⟩ 38 [(0,24,[]),(1,24,[]),(3,24,[[2560],[]]),(0,7,[[],[2560]]),(8,7,[[],[2560]]),(31,64,[[2752],[]]),(31,32,[[],[2752]]),(127,0,[[64],[]]),(255,0,[]),(511,0,[[64],[]])] rfl rfl (by kernel_rfl) ?_ _)
    |(with_reducible refine OM (coL (N:=N) (a:=a0.Locals)) hw ?_ ?_ _;·(simp only[go_sem,simprocAttr];done))
    |(with_reducible refine OM (coT (N:=N) (a:=a0.Globals)) hw ?_ ?_ _;·(simp only[go_sem,simprocAttr];done))
    |(with_reducible refine OM (coT (N:=N) (a:=a0.Weaks)) hw ?_ ?_ _;·(simp only[go_sem,simprocAttr];done))
    |(with_reducible refine CallD.ofE (Xl9 _ a0.Marks) ?_ ?_ _)
    |(with_reducible refine CallD.ofE (Xce _ a0.Roots) ?_ ?_ _)
    |(with_reducible first|apply Xg|apply Xf|apply Xs)
    |(refine db 42 22 ⟨⟩ 102 [(0,2041,[]),(1,2041,[]),(0,2039,[]),(0,142,[]),(8,142,[]),(24,142,[]),(0,126,[]),(120,14,[]),(248,14,[]),(504,1038,[]),(504,2574,[[],[1408]]),(1023,1024,[]),(3071,1024,[[1408],[]]),(8191,0,[])] rfl rfl (by kernel_rfl) ?_ _)
    |(refine CallX.inl (f:=42) 400 (fn:=Tryz.f42) (rs:=[.tmp 14,.tmp 15]) (nt:=221) 1000 (by kernel_rfl) (λ x=>?_) _;simp only[Tryz.f42,Option.get!])
    |fail
   have hpk:(a0.Things.map e77).set k (e77 ⟨p4.Header,p4.Fields⟩)=a0.Things.map e77:=Xah (by
    rw[Wk,Wc (by rw[Wt];exact hkl),Ul] at hkd
    rw[Wc (by rw[Wt];exact hkl),hkd])
   have hD:=λ F hF=>XpM (a0:=a0) (w:=w) (F:=F) (p:=p4) hkl hF
   rw[hL] at hD
   have hD0:=hD p4.Fields rfl
   rw[hpk] at hD0
   refine Sd (C:=(C.sub 0 _).sub 400 _) hr hw rfl ?_ (λ _=>rfl) (λ y6 hr=>?_) _
   ·refine (Xi8 (C:=(C.sub 0 _).sub 400 _) hlb (id:=448) (v:=30) (E:=77) (z:=4) (idF:=1408) (vF:=w) (E':=37) (z':=1) (fz:=0) (es:=L) (fs:=p4.Fields.map e37) ?_ ?_ (a0.Things.map e77) (by rw[Wt,hLl]) Xo4 hD0 (x:=.v (.int .u64 a4)) rfl ?_)
    ·simp only[go_sem,simprocAttr,E11]
    ·simp only[go_sem,simprocAttr,E12]
    ·exact ⟨_,_,by simp only[ZG,snap,upd,go_sem,simprocAttr,E11,E12,hLl];rfl,by simp only[Wt,hLl]⟩
   simp only[go_sem,simprocAttr,E1,E2,E3,E4,E5,E6,E7,E8,E9,E10,E11,E12,hLl,hk,hkd2,hmd]
   refine Xl ⟨hm0,hm1⟩ ?_
   refine Xl (by omega) ?_
   with_reducible apply Xs
   ·rfl
   ·intro h
    rw[h,We] at hr
    refine Xq hr ?_
    rintro rfl
    simp only[go_sem,simprocAttr,E1,E2,E3,E4,E5,E6,E7,E8,E9,E10,E11,E12,hLl,hk,hkd2,hmd]
    refine Gh.no ?_
    simp only[go_sem,simprocAttr]
    with_reducible refine XG ?_
    simp only[go_sem,simprocAttr]
   ·intro h
    rw[h,Wa] at hr
    refine Xq hr ?_
    rintro rfl
    simp only[go_sem,simprocAttr,E1,E2,E3,E4,E5,E6,E7,E8,E9,E10,E11,E12,hLl,hk,hkd2,hmd]
    refine Gh.narrow hlb (id:=448) (v:=30) (E:=77) (z:=4) (idF:=1408) (vF:=w) (E':=37) (z':=1) (fz:=0) (es:=L) (fs:=(p4.Fields.map e37).set a3.toNat [.v (.int .u64 y6.1)]) (by simp only[go_sem,simprocAttr,E11]) (by simp only[go_sem,simprocAttr,E12]) ((a0.Things.map e77).set k (e77 ⟨p4.Header,p4.Fields.set a3.toNat y6.1⟩)) (by rw[Wv,Wt,hLl]) Xo5 (by have:=hD (p4.Fields.set a3.toNat y6.1) (Wv ..);rw[List.map_set] at this;exact this) ?_
    simp only[go_sem,simprocAttr]
    with_reducible refine XG ?_
    simp only[go_sem,simprocAttr]
end Go.Sx
