import Derived.Test.YtgdhlnfcogcicaaGreatDoorTF
set_option linter.all false
namespace Go.Sx
open Go.Proofs
set_option maxRecDepth 10000
set_option maxHeartbeats 4000000
theorem X1:JC Tryz.prog 327=some (.i64,4):=by kernel_rfl
theorem Xny:Tryz.prog.underlying 327=some (.map 3 4):=by kernel_rfl
def Xag (e:WP):Bool:=!(e.Live||(e.Gen==4294967295))
def frU (l:List WP) (j:Nat):Bool:=match l[j]? with | some e=>Xag e | none=>false
def YS (xs:List Nat):List (Int×D):=xs.map λ (j:Nat)=>((j:Int),D.v (.bool true))
theorem Xkg {xs:List Nat} {k:Nat} (h:k∉xs):Vi (YS xs) (k:Int) (.v (.bool true))=YS (xs++[k]):=by
 induction xs with
 | nil=>rfl
 | cons x xs ih =>
  simp only[UN,not_or] at h
  have:¬ ((k:Int)=(x:Int)):=by omega
  simp only[YS,WV,Vi,Wh this,Ih]
  exact congrArg _ (ih h.2)
theorem Xe0 {xs:List Nat} {k:Nat} (h:xs.Nodup):Vj (YS xs) (k:Int)=YS (xs.filter (·!= k)):=by
 induction xs with
 | nil=>rfl
 | cons x xs ih =>
  simp only[Od] at h
  by_cases hx:k=x
  ·subst hx
   simp only[YS,WV,Vj,if_true,List.filter_cons,bne_self_eq_false,Ie,if_false]
   have:xs.filter (·!= k)=xs:=IO.2 λ y hy=>by simp;rintro rfl;exact h.1 hy
   rw[this]
  ·have h1:¬ ((k:Int)=(x:Int)):=by omega
   have h2:(x != k)=true:=by simp;omega
   simp only[YS,WV,Vj,Wh h1,List.filter_cons,h2,if_true]
   exact congrArg _ (ih h.2)
def left (l:List WP) (k:Nat):List Nat:=(List.range l.length).filter λ j=>decide (k<=j)||frU l j
theorem Xc3 (l:List WP):left l 0=List.range l.length:=IO.2 λ j _=>by simp
theorem Xcd (l:List WP) (k:Nat):(left l k).Nodup:=List.Pairwise.filter _ List.nodup_range
theorem Xe1 {l:List WP} {k:Nat} (h:frU l k=false):(left l k).filter (·!= k)=left l (k+1):=by
 unfold left
 rw[List.filter_filter]
 refine List.filter_congr λ j _=>?_
 by_cases hj:j=k
 ·subst hj;simp[h]
 ·have:(j != k)=true:=by simpa using hj
  rw[this,WN]
  have:decide (k<=j)=decide (k+1<=j):=decide_eq_decide.2 (by omega)
  rw[this]
theorem XhW {l:List WP} {k:Nat} (h:frU l k=true):left l k=left l (k+1):=by
 unfold left
 refine List.filter_congr λ j _=>?_
 by_cases hj:j=k
 ·subst hj;simp[h]
 ·have:decide (k<=j)=decide (k+1<=j):=decide_eq_decide.2 (by omega)
  rw[this]
theorem Xkh (l:List WP):left l l.length=(List.range l.length).filter (frU l):=List.filter_congr λ j hj=>by
 have:j<l.length:=by simpa using hj
 have:decide (l.length<=j)=false:=Wl (by omega)
 rw[this,IZ]
theorem Xc4 (l:List WP):(l.findIdx? Xag=none/\left l l.length=[])\/∃ k,l.findIdx? Xag=some k/\k∈left l l.length/\∀ j∈left l l.length,k<=j:=by
 rw[Xkh]
 cases h:l.findIdx? Xag with
 | none =>
  refine .inl ⟨rfl,?_⟩
  rw[List.findIdx?_eq_none_iff] at h
  refine List.filter_eq_nil_iff.2 λ j hj=>?_
  have hl:j<l.length:=by simpa using hj
  simp only[frU,Wc hl]
  simp[h _ (W6 hl)]
 | some k =>
  obtain ⟨hk,h1,h2⟩:=UW.1 h
  refine .inr ⟨k,rfl,Uq.2 ⟨by simpa using hk,by simp[frU,hk,h1]⟩,λ j hj=>?_⟩
  obtain ⟨hj1,hj2⟩:=Uq.1 hj
  rcases Uk j k with hlt | hge
  ·have:=h2 j hlt
   simp only[frU,Wc (show j<l.length by omega)] at hj2
   rw[hj2] at this;simp at this
  ·exact hge
theorem EntL.keys {P:Program} {M:Mem} {xs:List Nat}:∀ {l:List MapEntry},EntL P M .i64 l (YS xs)->l.map (·.key)=xs.map λ (j:Nat)=>Value.int .i64 (j:Int):=by
 intro l
 induction l generalizing xs with
 | nil=>intro h;simp only[EntL,YS,List.map_eq_nil_iff] at h;subst h;rfl
 | cons e l ih =>
  intro h
  simp only[EntL] at h
  obtain ⟨x,d,es',h1,h2,h3,h4⟩:=h
  cases xs with
  | nil=>simp[YS] at h1
  | cons y ys =>
   simp only[YS,WV,OA,Wi] at h1
   obtain ⟨⟨rfl,rfl⟩,rfl⟩:=h1
   simp only[WV,h2,OA,true_and]
   exact ih h4
theorem Xnz {P:Program} {M:Mem} {l:List WP} {ents:List MapEntry} (h:EntL P M .i64 ents (YS (left l l.length))) {x:Int} (hx:Xmf (l.length:Int) ents x):x=(((l.findIdx? Xag).getD l.length:Nat):Int):=by
 have hk:=h.keys
 obtain ⟨h1,h2,h3⟩:=hx
 have mem:∀ j,j∈left l l.length->∃ e∈ents,e.key=.int .i64 (j:Int):=λ j hj=>by
  have:Value.int .i64 (j:Int)∈ents.map (·.key):=by rw[hk];exact W8.2 ⟨j,hj,rfl⟩
  obtain ⟨e,he,h⟩:=W8.1 this
  exact ⟨e,he,h⟩
 have mem2:∀ e∈ents,∀ n,e.key=.int .i64 n->∃ j∈left l l.length,n=(j:Int):=λ e he n hn=>by
  have:e.key∈ents.map (·.key):=W8.2 ⟨e,he,rfl⟩
  rw[hk,hn] at this
  obtain ⟨j,hj,h⟩:=W8.1 this
  simp only[Value.int.injEq,true_and] at h
  exact ⟨j,hj,h.symm⟩
 rcases Xc4 l with ⟨g1,g2⟩ | ⟨k,g1,g2,g3⟩
 ·rw[g1]
  rcases h1 with h1 | ⟨e,he,hn⟩
  ·exact h1
  ·obtain ⟨j,hj,_⟩:=mem2 e he x hn
   rw[g2] at hj;cases hj
 ·rw[g1]
  obtain ⟨e,he,hn⟩:=mem k g2
  have:=h3 e he _ hn
  rcases h1 with h1 | ⟨e2,he2,hn2⟩
  ·have hl:k<l.length:=by have:=(Uq.1 g2).1;simpa using this
   simp only[Ul];omega
  ·obtain ⟨j,hj,rfl⟩:=mem2 e2 he2 x hn2
   have:=g3 j hj
   simp only[Ul];omega
theorem Xki (l:List WP):decide (((YS (left l l.length)).length:Int)>0)=(l.findIdx? Xag).isSome:=by
 rcases Xc4 l with ⟨g1,g2⟩ | ⟨k,g1,g2,g3⟩
 ·rw[g1,g2];rfl
 ·rw[g1]
  have:0<(left l l.length).length:=List.length_pos_of_mem g2
  simp only[YS,Wt,Option.isSome_some]
  exact Wo (by omega)
def Q1 (l:List WP) (st:St):Prop:=∃ v,st.n=54/\st.t 4=.omp 640 v/\st.s 640=some (v,.mp .i64 (YS (left l l.length)))/\st.t 8=.v (.int .i64 (l.length:Int))
def U1 (l:List WP) (n:Nat) (st:St):Prop:=∃ (k v w1:Nat),k<=l.length/\n=l.length-k/\st.n=54/\st.t 14=.v (.int .i64 (k:Int))/\st.t 13=.v (.int .i64 (l.length:Int))/\st.t 4=.omp 640 v/\st.s 640=some (v,.mp .i64 (YS (List.range k))) /\
 st.t 1=.ept 64 w1 1 0 0/\st.s 64=some (w1,.arr true 32 1 [[.isl 132 3 (l.map XC)]] 0)
def U2 (l:List WP) (n:Nat) (st:St):Prop:=∃ (k v w1:Nat),k<=l.length/\n=l.length-k/\st.n=54/\st.t 23=.v (.int .i64 (k:Int))/\st.t 22=.v (.int .i64 (l.length:Int))/\st.t 21=.isl 132 3 (l.map XC)/\st.t 4=.omp 640 v/\st.s 640=some (v,.mp .i64 (YS (left l k))) /\
 st.t 1=.ept 64 w1 1 0 0/\st.s 64=some (w1,.arr true 32 1 [[.isl 132 3 (l.map XC)]] 0)
theorem Qjt (G:Nat->Option (List D)) (hw:GW G) (N:Nat) (a0:WC) (r:Int×Bool) (hr:QgC N a0=some r):YF Tryz.prog G 231 [.agg (e32 a0)] [] (Eqs (.tup [.v (.int .i64 r.1),.v (.bool r.2)]) []):=by
 rw[QgC] at hr
 obtain rfl:=Ww hr
 clear hr
 obtain ⟨l⟩:=a0
 refine KQ (fn:=Tryz.f231) (body:=(Tryz.f231.body).get!) (rs:=[.tmp 2,.tmp 3]) [] 54 (by kernel_rfl) (by kernel_rfl) (by kernel_rfl) (by kernel_rfl) (by kernel_rfl) (by simp) λ C _ hG _ hwf a w hrel=>?_
 subst hG
 have hlen:l.length<=140737488355328:=by
  have h:=hwf
  simp only[WfL,Wf,e32,Wt] at h
  exact h.1.1.2.1
 simp only[Tryz.f231,Option.get!]
 refine Jo 6 _ none a w ?_
 simp only[Xfo,WV,UO,Ih,Uu]
 refine XaZ (Q:=Q1 l) ?_ [_,_,_,_,_] none a w ?_
 rotate_left
 ·simp only[WV,UO,Ih,Uu]
  refine YM 1000 _ hrel ?_
  simp only[go_sem,Nat.reduceAdd,Nat.reduceMul,Nat.reduceSub,Nat.reduceLT,Nat.reduceLeDiff,Nat.reduceEqDiff,Nat.reduceBEq,Nat.reduceBNe,Int.reduceBEq,Int.reduceBNe,Int.reduceEq,Int.reduceNe,Int.reduceMul,Int.reduceSub,Int.reduceLE,Int.reduceLT,Int.reduceGT,Int.reduceGE,Int.reduceNeg,Int.reduceAdd,Int.reduceToNat,reduceCtorEq,reduceIte,eq_self,X1]
  refine LoopG.of (U1 l) 1000 l.length ?_ ?_ _
  ·exact ⟨0,4,1,Ix _,rfl,by (first | rfl | (simp only[go_sem,Nat.reduceAdd,Nat.reduceMul,Nat.reduceSub,Nat.reduceLT,Nat.reduceLeDiff,Nat.reduceEqDiff,Nat.reduceBEq,Nat.reduceBNe,Int.reduceBEq,Int.reduceBNe,Int.reduceEq,Int.reduceNe,Int.reduceMul,Int.reduceSub,Int.reduceLE,Int.reduceLT,Int.reduceGT,Int.reduceGE,Int.reduceNeg,Int.reduceAdd,Int.reduceToNat,reduceCtorEq,reduceIte,eq_self,X1];done) | (simp only[go_sem,Nat.reduceAdd,Nat.reduceMul,Nat.reduceSub,Nat.reduceLT,Nat.reduceLeDiff,Nat.reduceEqDiff,Nat.reduceBEq,Nat.reduceBNe,Int.reduceBEq,Int.reduceBNe,Int.reduceEq,Int.reduceNe,Int.reduceMul,Int.reduceSub,Int.reduceLE,Int.reduceLT,Int.reduceGT,Int.reduceGE,Int.reduceNeg,Int.reduceAdd,Int.reduceToNat,reduceCtorEq,reduceIte,eq_self,X1];rfl)),by (first | rfl | (simp only[go_sem,Nat.reduceAdd,Nat.reduceMul,Nat.reduceSub,Nat.reduceLT,Nat.reduceLeDiff,Nat.reduceEqDiff,Nat.reduceBEq,Nat.reduceBNe,Int.reduceBEq,Int.reduceBNe,Int.reduceEq,Int.reduceNe,Int.reduceMul,Int.reduceSub,Int.reduceLE,Int.reduceLT,Int.reduceGT,Int.reduceGE,Int.reduceNeg,Int.reduceAdd,Int.reduceToNat,reduceCtorEq,reduceIte,eq_self,X1];done) | (simp only[go_sem,Nat.reduceAdd,Nat.reduceMul,Nat.reduceSub,Nat.reduceLT,Nat.reduceLeDiff,Nat.reduceEqDiff,Nat.reduceBEq,Nat.reduceBNe,Int.reduceBEq,Int.reduceBNe,Int.reduceEq,Int.reduceNe,Int.reduceMul,Int.reduceSub,Int.reduceLE,Int.reduceLT,Int.reduceGT,Int.reduceGE,Int.reduceNeg,Int.reduceAdd,Int.reduceToNat,reduceCtorEq,reduceIte,eq_self,X1];rfl)),by (first | rfl | (simp only[go_sem,Nat.reduceAdd,Nat.reduceMul,Nat.reduceSub,Nat.reduceLT,Nat.reduceLeDiff,Nat.reduceEqDiff,Nat.reduceBEq,Nat.reduceBNe,Int.reduceBEq,Int.reduceBNe,Int.reduceEq,Int.reduceNe,Int.reduceMul,Int.reduceSub,Int.reduceLE,Int.reduceLT,Int.reduceGT,Int.reduceGE,Int.reduceNeg,Int.reduceAdd,Int.reduceToNat,reduceCtorEq,reduceIte,eq_self,X1];done) | (simp only[go_sem,Nat.reduceAdd,Nat.reduceMul,Nat.reduceSub,Nat.reduceLT,Nat.reduceLeDiff,Nat.reduceEqDiff,Nat.reduceBEq,Nat.reduceBNe,Int.reduceBEq,Int.reduceBNe,Int.reduceEq,Int.reduceNe,Int.reduceMul,Int.reduceSub,Int.reduceLE,Int.reduceLT,Int.reduceGT,Int.reduceGE,Int.reduceNeg,Int.reduceAdd,Int.reduceToNat,reduceCtorEq,reduceIte,eq_self,X1];rfl)),by (first | rfl | (simp only[go_sem,Nat.reduceAdd,Nat.reduceMul,Nat.reduceSub,Nat.reduceLT,Nat.reduceLeDiff,Nat.reduceEqDiff,Nat.reduceBEq,Nat.reduceBNe,Int.reduceBEq,Int.reduceBNe,Int.reduceEq,Int.reduceNe,Int.reduceMul,Int.reduceSub,Int.reduceLE,Int.reduceLT,Int.reduceGT,Int.reduceGE,Int.reduceNeg,Int.reduceAdd,Int.reduceToNat,reduceCtorEq,reduceIte,eq_self,X1];done) | (simp only[go_sem,Nat.reduceAdd,Nat.reduceMul,Nat.reduceSub,Nat.reduceLT,Nat.reduceLeDiff,Nat.reduceEqDiff,Nat.reduceBEq,Nat.reduceBNe,Int.reduceBEq,Int.reduceBNe,Int.reduceEq,Int.reduceNe,Int.reduceMul,Int.reduceSub,Int.reduceLE,Int.reduceLT,Int.reduceGT,Int.reduceGE,Int.reduceNeg,Int.reduceAdd,Int.reduceToNat,reduceCtorEq,reduceIte,eq_self,X1];rfl)),by (first | rfl | (simp only[go_sem,Nat.reduceAdd,Nat.reduceMul,Nat.reduceSub,Nat.reduceLT,Nat.reduceLeDiff,Nat.reduceEqDiff,Nat.reduceBEq,Nat.reduceBNe,Int.reduceBEq,Int.reduceBNe,Int.reduceEq,Int.reduceNe,Int.reduceMul,Int.reduceSub,Int.reduceLE,Int.reduceLT,Int.reduceGT,Int.reduceGE,Int.reduceNeg,Int.reduceAdd,Int.reduceToNat,reduceCtorEq,reduceIte,eq_self,X1];done) | (simp only[go_sem,Nat.reduceAdd,Nat.reduceMul,Nat.reduceSub,Nat.reduceLT,Nat.reduceLeDiff,Nat.reduceEqDiff,Nat.reduceBEq,Nat.reduceBNe,Int.reduceBEq,Int.reduceBNe,Int.reduceEq,Int.reduceNe,Int.reduceMul,Int.reduceSub,Int.reduceLE,Int.reduceLT,Int.reduceGT,Int.reduceGE,Int.reduceNeg,Int.reduceAdd,Int.reduceToNat,reduceCtorEq,reduceIte,eq_self,X1];rfl)),by (first | rfl | (simp only[go_sem,Nat.reduceAdd,Nat.reduceMul,Nat.reduceSub,Nat.reduceLT,Nat.reduceLeDiff,Nat.reduceEqDiff,Nat.reduceBEq,Nat.reduceBNe,Int.reduceBEq,Int.reduceBNe,Int.reduceEq,Int.reduceNe,Int.reduceMul,Int.reduceSub,Int.reduceLE,Int.reduceLT,Int.reduceGT,Int.reduceGE,Int.reduceNeg,Int.reduceAdd,Int.reduceToNat,reduceCtorEq,reduceIte,eq_self,X1];done) | (simp only[go_sem,Nat.reduceAdd,Nat.reduceMul,Nat.reduceSub,Nat.reduceLT,Nat.reduceLeDiff,Nat.reduceEqDiff,Nat.reduceBEq,Nat.reduceBNe,Int.reduceBEq,Int.reduceBNe,Int.reduceEq,Int.reduceNe,Int.reduceMul,Int.reduceSub,Int.reduceLE,Int.reduceLT,Int.reduceGT,Int.reduceGE,Int.reduceNeg,Int.reduceAdd,Int.reduceToNat,reduceCtorEq,reduceIte,eq_self,X1];rfl)),by (first | rfl | (simp only[go_sem,Nat.reduceAdd,Nat.reduceMul,Nat.reduceSub,Nat.reduceLT,Nat.reduceLeDiff,Nat.reduceEqDiff,Nat.reduceBEq,Nat.reduceBNe,Int.reduceBEq,Int.reduceBNe,Int.reduceEq,Int.reduceNe,Int.reduceMul,Int.reduceSub,Int.reduceLE,Int.reduceLT,Int.reduceGT,Int.reduceGE,Int.reduceNeg,Int.reduceAdd,Int.reduceToNat,reduceCtorEq,reduceIte,eq_self,X1];done) | (simp only[go_sem,Nat.reduceAdd,Nat.reduceMul,Nat.reduceSub,Nat.reduceLT,Nat.reduceLeDiff,Nat.reduceEqDiff,Nat.reduceBEq,Nat.reduceBNe,Int.reduceBEq,Int.reduceBNe,Int.reduceEq,Int.reduceNe,Int.reduceMul,Int.reduceSub,Int.reduceLE,Int.reduceLT,Int.reduceGT,Int.reduceGE,Int.reduceNeg,Int.reduceAdd,Int.reduceToNat,reduceCtorEq,reduceIte,eq_self,X1];rfl))⟩
  ·rintro n st ⟨k,v,w1,hk,rfl,e0,e1,e2,e3,e4,e5,e6⟩
   by_cases h:k<l.length
   ·have hd:decide ((k:Int)<(l.length:Int))=true:=Wo (by omega)
    have hm:Vi (YS (List.range k)) (k:Int) (D.v (.bool true))=YS (List.range (k+1)):=by rw[Xkg (by simp),List.range_succ]
    have hkl:(YS (List.range k)).length=k:=by simp[YS]
    have hwI:wI ((k:Int)+1)=((k+1:Nat):Int):=by simp only[wI,IntKind.wrap,IntKind.bits,IntKind.signed];simp;omega
    simp only[go_sem,Nat.reduceAdd,Nat.reduceMul,Nat.reduceSub,Nat.reduceLT,Nat.reduceLeDiff,Nat.reduceEqDiff,Nat.reduceBEq,Nat.reduceBNe,Int.reduceBEq,Int.reduceBNe,Int.reduceEq,Int.reduceNe,Int.reduceMul,Int.reduceSub,Int.reduceLE,Int.reduceLT,Int.reduceGT,Int.reduceGE,Int.reduceNeg,Int.reduceAdd,Int.reduceToNat,reduceCtorEq,reduceIte,eq_self,X1,e0,e1,e2,e3,e4,e5,e6,hd,hm,hkl,hwI]
    refine ⟨by omega,l.length-(k+1),by omega,k+1,v,w1,by omega,rfl,?_,?_,?_,?_,?_,?_,?_⟩<;>(first | rfl | (simp only[go_sem,Nat.reduceAdd,Nat.reduceMul,Nat.reduceSub,Nat.reduceLT,Nat.reduceLeDiff,Nat.reduceEqDiff,Nat.reduceBEq,Nat.reduceBNe,Int.reduceBEq,Int.reduceBNe,Int.reduceEq,Int.reduceNe,Int.reduceMul,Int.reduceSub,Int.reduceLE,Int.reduceLT,Int.reduceGT,Int.reduceGE,Int.reduceNeg,Int.reduceAdd,Int.reduceToNat,reduceCtorEq,reduceIte,eq_self,X1,e0,e1,e2,e3,e4,e5,e6,hwI,hm];done) | (simp only[go_sem,Nat.reduceAdd,Nat.reduceMul,Nat.reduceSub,Nat.reduceLT,Nat.reduceLeDiff,Nat.reduceEqDiff,Nat.reduceBEq,Nat.reduceBNe,Int.reduceBEq,Int.reduceBNe,Int.reduceEq,Int.reduceNe,Int.reduceMul,Int.reduceSub,Int.reduceLE,Int.reduceLT,Int.reduceGT,Int.reduceGE,Int.reduceNeg,Int.reduceAdd,Int.reduceToNat,reduceCtorEq,reduceIte,eq_self,X1,e0,e1,e2,e3,e4,e5,e6,hwI,hm];rfl))
   ·obtain rfl:k=l.length:=by omega
    have hd:decide ((l.length:Int)<(l.length:Int))=false:=Wl (by omega)
    simp only[go_sem,Nat.reduceAdd,Nat.reduceMul,Nat.reduceSub,Nat.reduceLT,Nat.reduceLeDiff,Nat.reduceEqDiff,Nat.reduceBEq,Nat.reduceBNe,Int.reduceBEq,Int.reduceBNe,Int.reduceEq,Int.reduceNe,Int.reduceMul,Int.reduceSub,Int.reduceLE,Int.reduceLT,Int.reduceGT,Int.reduceGE,Int.reduceNeg,Int.reduceAdd,Int.reduceToNat,reduceCtorEq,reduceIte,eq_self,X1,e0,e1,e2,e3,e4,e5,e6,hd]
    refine LoopG.of (U2 l) 1000 l.length ?_ ?_ _
    ·refine ⟨0,v,w1,Ix _,rfl,?_,?_,?_,?_,?_,?_,?_,?_⟩<;>(first | rfl | (simp only[Xc3,go_sem,Nat.reduceAdd,Nat.reduceMul,Nat.reduceSub,Nat.reduceLT,Nat.reduceLeDiff,Nat.reduceEqDiff,Nat.reduceBEq,Nat.reduceBNe,Int.reduceBEq,Int.reduceBNe,Int.reduceEq,Int.reduceNe,Int.reduceMul,Int.reduceSub,Int.reduceLE,Int.reduceLT,Int.reduceGT,Int.reduceGE,Int.reduceNeg,Int.reduceAdd,Int.reduceToNat,reduceCtorEq,reduceIte,eq_self,X1,e0,e1,e2,e3,e4,e5,e6];done) | (simp only[Xc3,go_sem,Nat.reduceAdd,Nat.reduceMul,Nat.reduceSub,Nat.reduceLT,Nat.reduceLeDiff,Nat.reduceEqDiff,Nat.reduceBEq,Nat.reduceBNe,Int.reduceBEq,Int.reduceBNe,Int.reduceEq,Int.reduceNe,Int.reduceMul,Int.reduceSub,Int.reduceLE,Int.reduceLT,Int.reduceGT,Int.reduceGE,Int.reduceNeg,Int.reduceAdd,Int.reduceToNat,reduceCtorEq,reduceIte,eq_self,X1,e0,e1,e2,e3,e4,e5,e6];rfl))
    ·clear e0 e1 e2 e3 e4 e5 e6 hk h hd
     clear st v w1
     rintro n st ⟨k,v,w1,hk,rfl,e0,e1,e2,e3,e4,e5,e6,e7⟩
     by_cases h:k<l.length
     ·have hd:decide ((k:Int)<(l.length:Int))=true:=Wo (by omega)
      have hwI:wI ((k:Int)+1)=((k+1:Nat):Int):=by simp only[wI,IntKind.wrap,IntKind.bits,IntKind.signed];simp;omega
      have hg:(l.map XC).getD k []=XC l[k]:=by simp[h]
      have h0:(0:Int)<=(k:Int):=by omega
      have h1:(k:Int)<(l.length:Int):=by omega
      cases hL:l[k].Live with
      | true =>
       have hf:frU l k=false:=by simp[frU,h,Xag,hL]
       have hm:Vj (YS (left l k)) (k:Int)=YS (left l (k+1)):=by rw[Xe0 (Xcd l k),Xe1 hf]
       simp only[go_sem,Nat.reduceAdd,Nat.reduceMul,Nat.reduceSub,Nat.reduceLT,Nat.reduceLeDiff,Nat.reduceEqDiff,Nat.reduceBEq,Nat.reduceBNe,Int.reduceBEq,Int.reduceBNe,Int.reduceEq,Int.reduceNe,Int.reduceMul,Int.reduceSub,Int.reduceLE,Int.reduceLT,Int.reduceGT,Int.reduceGE,Int.reduceNeg,Int.reduceAdd,Int.reduceToNat,reduceCtorEq,reduceIte,eq_self,X1,e0,e1,e2,e3,e4,e5,e6,e7,hd,hm,hwI,hg,h0,h1,hL]
       refine ⟨l.length-(k+1),by omega,k+1,v,w1,by omega,rfl,?_,?_,?_,?_,?_,?_,?_,?_⟩<;>(first | rfl | (simp only[go_sem,Nat.reduceAdd,Nat.reduceMul,Nat.reduceSub,Nat.reduceLT,Nat.reduceLeDiff,Nat.reduceEqDiff,Nat.reduceBEq,Nat.reduceBNe,Int.reduceBEq,Int.reduceBNe,Int.reduceEq,Int.reduceNe,Int.reduceMul,Int.reduceSub,Int.reduceLE,Int.reduceLT,Int.reduceGT,Int.reduceGE,Int.reduceNeg,Int.reduceAdd,Int.reduceToNat,reduceCtorEq,reduceIte,eq_self,X1,e0,e1,e2,e3,e4,e5,e6,e7,hwI,hm];done) | (simp only[go_sem,Nat.reduceAdd,Nat.reduceMul,Nat.reduceSub,Nat.reduceLT,Nat.reduceLeDiff,Nat.reduceEqDiff,Nat.reduceBEq,Nat.reduceBNe,Int.reduceBEq,Int.reduceBNe,Int.reduceEq,Int.reduceNe,Int.reduceMul,Int.reduceSub,Int.reduceLE,Int.reduceLT,Int.reduceGT,Int.reduceGE,Int.reduceNeg,Int.reduceAdd,Int.reduceToNat,reduceCtorEq,reduceIte,eq_self,X1,e0,e1,e2,e3,e4,e5,e6,e7,hwI,hm];rfl))
      | false =>
       cases hG:(l[k].Gen==4294967295) with
       | true =>
        have hf:frU l k=false:=by simp only[frU,h,Wc,Xag,hL,hG];rfl
        have hm:Vj (YS (left l k)) (k:Int)=YS (left l (k+1)):=by rw[Xe0 (Xcd l k),Xe1 hf]
        simp only[go_sem,Nat.reduceAdd,Nat.reduceMul,Nat.reduceSub,Nat.reduceLT,Nat.reduceLeDiff,Nat.reduceEqDiff,Nat.reduceBEq,Nat.reduceBNe,Int.reduceBEq,Int.reduceBNe,Int.reduceEq,Int.reduceNe,Int.reduceMul,Int.reduceSub,Int.reduceLE,Int.reduceLT,Int.reduceGT,Int.reduceGE,Int.reduceNeg,Int.reduceAdd,Int.reduceToNat,reduceCtorEq,reduceIte,eq_self,X1,e0,e1,e2,e3,e4,e5,e6,e7,hd,hm,hwI,hg,h0,h1,hL,hG]
        refine ⟨l.length-(k+1),by omega,k+1,v,w1,by omega,rfl,?_,?_,?_,?_,?_,?_,?_,?_⟩<;>(first | rfl | (simp only[go_sem,Nat.reduceAdd,Nat.reduceMul,Nat.reduceSub,Nat.reduceLT,Nat.reduceLeDiff,Nat.reduceEqDiff,Nat.reduceBEq,Nat.reduceBNe,Int.reduceBEq,Int.reduceBNe,Int.reduceEq,Int.reduceNe,Int.reduceMul,Int.reduceSub,Int.reduceLE,Int.reduceLT,Int.reduceGT,Int.reduceGE,Int.reduceNeg,Int.reduceAdd,Int.reduceToNat,reduceCtorEq,reduceIte,eq_self,X1,e0,e1,e2,e3,e4,e5,e6,e7,hwI,hm];done) | (simp only[go_sem,Nat.reduceAdd,Nat.reduceMul,Nat.reduceSub,Nat.reduceLT,Nat.reduceLeDiff,Nat.reduceEqDiff,Nat.reduceBEq,Nat.reduceBNe,Int.reduceBEq,Int.reduceBNe,Int.reduceEq,Int.reduceNe,Int.reduceMul,Int.reduceSub,Int.reduceLE,Int.reduceLT,Int.reduceGT,Int.reduceGE,Int.reduceNeg,Int.reduceAdd,Int.reduceToNat,reduceCtorEq,reduceIte,eq_self,X1,e0,e1,e2,e3,e4,e5,e6,e7,hwI,hm];rfl))
       | false =>
        have hf:frU l k=true:=by simp only[frU,h,Wc,Xag,hL,hG];rfl
        have hm:YS (left l k)=YS (left l (k+1)):=by rw[XhW hf]
        rw[hm] at e5
        simp only[go_sem,Nat.reduceAdd,Nat.reduceMul,Nat.reduceSub,Nat.reduceLT,Nat.reduceLeDiff,Nat.reduceEqDiff,Nat.reduceBEq,Nat.reduceBNe,Int.reduceBEq,Int.reduceBNe,Int.reduceEq,Int.reduceNe,Int.reduceMul,Int.reduceSub,Int.reduceLE,Int.reduceLT,Int.reduceGT,Int.reduceGE,Int.reduceNeg,Int.reduceAdd,Int.reduceToNat,reduceCtorEq,reduceIte,eq_self,X1,e0,e1,e2,e3,e4,e5,e6,e7,hd,hwI,hg,h0,h1,hL,hG]
        refine ⟨l.length-(k+1),by omega,k+1,v,w1,by omega,rfl,?_,?_,?_,?_,?_,?_,?_,?_⟩<;>(first | rfl | (simp only[go_sem,Nat.reduceAdd,Nat.reduceMul,Nat.reduceSub,Nat.reduceLT,Nat.reduceLeDiff,Nat.reduceEqDiff,Nat.reduceBEq,Nat.reduceBNe,Int.reduceBEq,Int.reduceBNe,Int.reduceEq,Int.reduceNe,Int.reduceMul,Int.reduceSub,Int.reduceLE,Int.reduceLT,Int.reduceGT,Int.reduceGE,Int.reduceNeg,Int.reduceAdd,Int.reduceToNat,reduceCtorEq,reduceIte,eq_self,X1,e0,e1,e2,e3,e4,e5,e6,e7,hwI];done) | (simp only[go_sem,Nat.reduceAdd,Nat.reduceMul,Nat.reduceSub,Nat.reduceLT,Nat.reduceLeDiff,Nat.reduceEqDiff,Nat.reduceBEq,Nat.reduceBNe,Int.reduceBEq,Int.reduceBNe,Int.reduceEq,Int.reduceNe,Int.reduceMul,Int.reduceSub,Int.reduceLE,Int.reduceLT,Int.reduceGT,Int.reduceGE,Int.reduceNeg,Int.reduceAdd,Int.reduceToNat,reduceCtorEq,reduceIte,eq_self,X1,e0,e1,e2,e3,e4,e5,e6,e7,hwI];rfl))
     ·obtain rfl:k=l.length:=by omega
      have hd:decide ((l.length:Int)<(l.length:Int))=false:=Wl (by omega)
      simp only[go_sem,Nat.reduceAdd,Nat.reduceMul,Nat.reduceSub,Nat.reduceLT,Nat.reduceLeDiff,Nat.reduceEqDiff,Nat.reduceBEq,Nat.reduceBNe,Int.reduceBEq,Int.reduceBNe,Int.reduceEq,Int.reduceNe,Int.reduceMul,Int.reduceSub,Int.reduceLE,Int.reduceLT,Int.reduceGT,Int.reduceGE,Int.reduceNeg,Int.reduceAdd,Int.reduceToNat,reduceCtorEq,reduceIte,eq_self,X1,e0,e1,e2,e3,e4,e5,e6,e7,hd]
      refine ⟨v,?_,?_,?_,?_⟩<;>(first | rfl | (simp only[go_sem,Nat.reduceAdd,Nat.reduceMul,Nat.reduceSub,Nat.reduceLT,Nat.reduceLeDiff,Nat.reduceEqDiff,Nat.reduceBEq,Nat.reduceBNe,Int.reduceBEq,Int.reduceBNe,Int.reduceEq,Int.reduceNe,Int.reduceMul,Int.reduceSub,Int.reduceLE,Int.reduceLT,Int.reduceGT,Int.reduceGE,Int.reduceNeg,Int.reduceAdd,Int.reduceToNat,reduceCtorEq,reduceIte,eq_self,X1,e0,e1,e2,e3,e4,e5,e6,e7];done) | (simp only[go_sem,Nat.reduceAdd,Nat.reduceMul,Nat.reduceSub,Nat.reduceLT,Nat.reduceLeDiff,Nat.reduceEqDiff,Nat.reduceBEq,Nat.reduceBNe,Int.reduceBEq,Int.reduceBNe,Int.reduceEq,Int.reduceNe,Int.reduceMul,Int.reduceSub,Int.reduceLE,Int.reduceLT,Int.reduceGT,Int.reduceGE,Int.reduceNeg,Int.reduceAdd,Int.reduceToNat,reduceCtorEq,reduceIte,eq_self,X1,e0,e1,e2,e3,e4,e5,e6,e7];rfl))
 ·clear hrel a w
  rintro st a w hrel ⟨v,q1,q2,q3,q4⟩
  obtain ⟨h1,h2,M,β,h0,h3,I⟩:=id hrel
  have m4:=h3 4
  have m8:=h3 8
  rw[q2] at m4
  rw[q4] at m8
  simp only[Rep] at m4 m8
  obtain ⟨b,cb,hb,he⟩:=m4
  obtain ⟨x0,hx0,hob⟩:=I.obs 640 v _ q3
  rw[hb] at hx0
  obtain rfl:some (b,cb)=x0:=by simpa using hx0
  obtain ⟨rfl,l1,l2,ents,clock,g3,g4,g5,g6⟩:=hob
  have hkeys:∀ e∈ents.toList,∃ n,e.key=.int .i64 n:=λ e hee=>by
   have:e.key∈ents.toList.map (·.key):=W8.2 ⟨e,hee,rfl⟩
   rw[g4.keys] at this
   obtain ⟨j,_,hj⟩:=W8.1 this
   exact ⟨_,hj.symm⟩
  refine Xho Xny h1 (by rw[h2,q1];decide) (by decide) he m8.1 g3 g5 g6 hkeys ?_
  intro a' w' x hd' hs' hm' hf' hmin hsame
  have hx:=Xnz g4 hmin
  have hle:0<=x/\x<=l.length:=⟨by rw[hx];omega,hmin.2.1⟩
  have hr2:=hrel.same hsame hd' hs' (t':=λ i=>if i=4 then .omp 640 v else if i=8 then .v (.int .i64 x) else .any) (λ M β hall i=>by
   by_cases h4:i=4
   ·subst h4
    have:=hall 4
    rw[q2,he] at this
    rw[Wn rfl,hm'];exact this
   ·rw[Wh h4]
    by_cases h8:i=8
    ·subst h8
     rw[Wn rfl,hf']
     simp only[Rep]
     exact ⟨trivial,by rw[hx];exact Jl (by simp only[Xn];omega)⟩
    ·rw[Wh h8];simp[Rep])
  refine YM 1000 _ hr2 ?_
  have hl:=Xki l
  subst hx
  simp only[go_sem,Nat.reduceAdd,Nat.reduceMul,Nat.reduceSub,Nat.reduceLT,Nat.reduceLeDiff,Nat.reduceEqDiff,Nat.reduceBEq,Nat.reduceBNe,Int.reduceBEq,Int.reduceBNe,Int.reduceEq,Int.reduceNe,Int.reduceMul,Int.reduceSub,Int.reduceLE,Int.reduceLT,Int.reduceGT,Int.reduceGE,Int.reduceNeg,Int.reduceAdd,Int.reduceToNat,reduceCtorEq,reduceIte,eq_self,X1,q1,q3]
  with_reducible refine XG ?_
  rw[hl]
  simp only[go_sem,Nat.reduceAdd,Nat.reduceMul,Nat.reduceSub,Nat.reduceLT,Nat.reduceLeDiff,Nat.reduceEqDiff,Nat.reduceBEq,Nat.reduceBNe,Int.reduceBEq,Int.reduceBNe,Int.reduceEq,Int.reduceNe,Int.reduceMul,Int.reduceSub,Int.reduceLE,Int.reduceLT,Int.reduceGT,Int.reduceGE,Int.reduceNeg,Int.reduceAdd,Int.reduceToNat,reduceCtorEq,reduceIte,eq_self]
  exact ⟨rfl,rfl⟩
@[reducible,instance] def Qmj (N:Nat) (a0:WC):=OK.mk λ G hw r hr=>Qjt G hw N a0 r hr
theorem g2:(∀ N (a0:Ut),OK (Qav N a0) 56 [.agg (e23 a0)] [] (λ r=>.v (.bool r)) λ r=>[])/\(∀ N (a0:WE),OK (Qci N a0) 124 [.agg (e75 a0)] [] (λ r=>.v (.bool r)) λ r=>[])/\(∀ N (a0:Int) (a1:Int) (a2:Int),OK (Qbp N a0 a1 a2) 45 [.v (.int .i64 a0),.v (.int .u64 a1),.v (.int .u64 a2)] [] (λ r=>.tup [.agg (e75 r.1),.v (.bool r.2)]) λ r=>[])/\(∀ N (a0:Ws) (a1:Int),OK (Qgu N a0 a1) 111 [.agg (e29 a0),.v (.int .i64 a1)] [] (λ r=>.agg (e29 r)) λ r=>[])/\(∀ N (a0:WC) (a1:Int) (a2:WP),OK (Qgv N a0 a1 a2) 190 [.agg (e32 a0),.v (.int .i64 a1),.agg (XC a2)] [] (λ r=>.agg (e32 r)) λ r=>[])/\(∀ N (a0:Int),OK (Qgz N a0) 244 [.v (.int .i64 a0)] [] (λ r=>.v (.bool r)) λ r=>[])/\(∀ N (a0:Wz) (a1:Int) (a2:Int),OK (Qgp N a0 a1 a2) 297 [.agg (e42 a0),.v (.int .i64 a1),.v (.int .i64 a2)] [] (λ r=>.v (.int .u64 r)) λ r=>[])/\(∀ N (a0:W9) (a1:Int),OK (QeG N a0 a1) 266 [.agg (KH a0),.v (.int .u64 a1)] [] (λ r=>.agg (KH r)) λ r=>[])/\(∀ N (a0:Int),OK (Qae N a0) 134 [.v (.int .i64 a0)] [] (λ r=>.tup [.agg (e45 r.1),.v (.int .u64 r.2.1),.v (.int .i64 r.2.2)]) λ r=>[])/\(∀ N (a1:Int),OK (Qa2 N a1) 119 [.nsl,.v (.int .i64 a1)] [] (λ r=>.fsl 37 1 (r.map e37)) λ r=>[])/\(∀ N (a0:Int),OK (Qfv N a0) 193 [.v (.int .i64 a0)] [] (λ r=>.v (.bool r)) λ r=>[])/\(∀ N (a0:Int) (a1:Wm),OK (Qdc N a0 a1) 203 [.v (.int .u64 a0),.ept 1000000 0 10 0 0] [.arr true 61 10 [[.v (.int .i64 a1.Conf.PageWords),.v (.int .i64 a1.Conf.Pages),.isl 77 4 (a1.Things.map e77),.isl 210 3 (a1.Locals.Slots.map X4),.isl 159 3 (a1.Locals.Scopes.map X9),.isl 3 1 (a1.Locals.Issued.map e3),.isl 132 3 (a1.Globals.Entries.map XC),.isl 132 3 (a1.Weaks.Entries.map XC),.isl 116 3 (a1.Marks.map Yv),.isl 37 1 (a1.Roots.map e37)]] 0] (λ r=>.v (.bool r)) λ r=>[.arr true 61 10 [[.v (.int .i64 a1.Conf.PageWords),.v (.int .i64 a1.Conf.Pages),.isl 77 4 (a1.Things.map e77),.isl 210 3 (a1.Locals.Slots.map X4),.isl 159 3 (a1.Locals.Scopes.map X9),.isl 3 1 (a1.Locals.Issued.map e3),.isl 132 3 (a1.Globals.Entries.map XC),.isl 132 3 (a1.Weaks.Entries.map XC),.isl 116 3 (a1.Marks.map Yv),.isl 37 1 (a1.Roots.map e37)]] 0])/\(∀ N (a0:Uz) (a1:Int),OK (QfO N a0 a1) 182 [.agg (Yv a0),.ept 1000000 0 1 0 0] [.arr true 37 1 [[.v (.int .u64 a1)]] 0] (λ r=>.v (.bool r)) λ r=>[.arr true 37 1 [[.v (.int .u64 a1)]] 0]):=by
 refine ⟨λ N _=>rn Tryz.f56 [.tmp 2] [] 27 (by kernel_rfl) ?_,λ N _=>rn Tryz.f124 [.tmp 2] [] 40 (by kernel_rfl) ?_,λ N _ _ _=>rn Tryz.f45 [.cell 6 75,.tmp 7] [] 29 (by kernel_rfl) ?_,λ N _ _=>rn Tryz.f111 [.cell 4 29] [] 25 (by kernel_rfl) ?_,λ N _ _ _=>rn Tryz.f190 [.cell 6 32] [] 18 (by kernel_rfl) ?_,λ N _=>rn Tryz.f244 [.tmp 2] [] 9 (by kernel_rfl) ?_,λ N _ _ _=>rn Tryz.f297 [.tmp 6] [] 16 (by kernel_rfl) ?_,λ N _ _=>rn Tryz.f266 [.cell 4 265] [] 20 (by kernel_rfl) ?_,λ N _=>rn Tryz.f134 [.cell 2 45,.tmp 3,.tmp 4] [] 7 (by kernel_rfl) ?_,λ N _=>rn Tryz.f119 [.tmp 4] [1408] 27 (by kernel_rfl) ?_,λ N _=>rn Tryz.f193 [.tmp 2] [] 9 (by kernel_rfl) ?_,λ N _ _=>rn Tryz.f203 [.tmp 3] [] 10 (by kernel_rfl) ?_,λ N _ _=>rn Tryz.f182 [.tmp 3] [] 8 (by kernel_rfl) ?_⟩<;>(rintro _ hw r hr C _ rfl hwf hf;simp only[Tryz.f56,Tryz.f124,Tryz.f45,Tryz.f111,Tryz.f190,Tryz.f244,Tryz.f297,Tryz.f266,Tryz.f134,Tryz.f119,Tryz.f193,Tryz.f203,Tryz.f182,Option.get!];(first|rw[Qav] at hr|rw[Qci] at hr|rw[Qbp] at hr|rw[Qgu] at hr|rw[Qgv] at hr|rw[Qgz] at hr|rw[Qgp] at hr|rw[QeG] at hr|rw[Qae] at hr|rw[Qa2] at hr|rw[Qfv] at hr|rw[Qdc] at hr|rw[QfO] at hr);repeat' first
 |(refine El.el hr ?_;intro hr)
 |(with_reducible intro h;refine Xz hr h ?_;intro hr)
 |with_reducible intro _
 |simp only[go_sem,simprocAttr,Yw,YU,WO,Uo,Io]
 |(with_reducible first|apply Xg|apply Xf|apply Xs|apply Xx|apply Xy)
 |((first|with_reducible refine Ye hr (by assumption) ?_ ?_|(with_reducible refine Yd hr ?_ ?_;rotate_left;intro p;rotate_right));(·simp only[go_sem,simprocAttr,WO,Uo,Io]);intro hp hn hd hr;(try have Yw:=hd _ XC);(try simp only[go_sem,simprocAttr] at Yw);(try have YU:=hd _ X9);(try simp only[go_sem,simprocAttr] at YU))
 |(refine Xl ?_ ?_;·first|assumption|omega)
 |refine db 111 1 hf 5 [(0,1022,[[320],[]]),(0,505,[[],[320]]),(2,505,[[],[320]]),(0,39,[[],[320]]),(8,39,[[],[320]]),(0,31,[[],[320]]),(56,7,[[],[320]]),(120,7,[[],[320]]),(248,7,[[],[320]]),(510,1,[[],[320]]),(1023,0,[[320],[]]),(2047,0,[]),(4095,0,[[128],[]])] rfl rfl (by kernel_rfl) ?_ _
 |(refine Xq hr ?_;rintro rfl;with_reducible refine XG ?_)
 |exact Yo hr
 |fail)
@[reducible,instance] def QkX:=g2.1
@[reducible,instance] def QmP:=g2.2.1
@[reducible,instance] def QmQ:=g2.2.2.1
@[reducible,instance] def Qos:=g2.2.2.2.1
@[reducible,instance] def Qot:=g2.2.2.2.2.1
@[reducible,instance] def QnK:=g2.2.2.2.2.2.1
@[reducible,instance] def QlI:=g2.2.2.2.2.2.2.1
@[reducible,instance] def QnL:=g2.2.2.2.2.2.2.2.1
@[reducible,instance] def Qmk:=g2.2.2.2.2.2.2.2.2.1
@[reducible,instance] def Qjb:=g2.2.2.2.2.2.2.2.2.2.1
@[reducible,instance] def QlJ:=g2.2.2.2.2.2.2.2.2.2.2.1
@[reducible,instance] def Qky:=g2.2.2.2.2.2.2.2.2.2.2.2.1
@[reducible,instance] def QkY:=g2.2.2.2.2.2.2.2.2.2.2.2.2
end Go.Sx
