import Derived.Test.YtgdhlnfcogcicaaGreatDoorSC
set_option linter.all false
namespace Go.Sx
def Ok {α:Type} (o:Option α) (P:α->Prop):Prop:=∃ r,o=some r∧P r
section
variable {α β γ:Type} {P:β->Prop}
theorem bnd_eq (x:α) (f:α->Option β):bnd (some x) f=f x:=by unfold bnd;rfl
theorem bnd_no (f:α->Option β):bnd none f=none:=by unfold bnd;rfl
theorem grd_eq {p:Prop} [Decidable p] (h:p) (x:Option α):grd p x=x:=by unfold grd;rw[if_pos h]
theorem jn_eq {κ:Type} (k:κ) (f:κ->γ):jn k f=f k:=by unfold jn;rfl
theorem exK_ret (a:α) (f:α->γ) (k:β->γ):exK (.ret a) f k=f a:=by unfold exK;rfl
theorem exK_nxt (b:β) (f:α->γ) (k:β->γ):exK (.nxt b) f k=k b:=by unfold exK;rfl
theorem getI_nat (l:List α) (k:Nat):getI l (k:Int)=l[k]?:=by unfold getI;simp
theorem getI_of {l:List α} {i:Int} (h0:0<=i) (h1:i<l.length):getI l i=some (l[i.toNat]'(by omega)):=by
 unfold getI;rw[if_pos h0];exact List.getElem?_eq_getElem _
theorem getI_some_iff {l:List α} {i:Int} {p:α}:getI l i=some p↔0<=i∧l[i.toNat]? = some p:=by
 unfold getI
 by_cases h0:0<=i
 ·rw[if_pos h0];exact ⟨fun h=>⟨h0,h⟩,fun h=>h.2⟩
 ·rw[if_neg h0];exact ⟨fun h=>(by cases h),fun h=>absurd h.1 h0⟩
theorem getI_mem {l:List α} {i:Int} {p:α} (h:getI l i=some p):p∈l:=List.mem_of_getElem? (getI_some_iff.1 h).2
theorem getI_none {l:List α} {i:Int} (h:¬ (0<=i∧i<l.length)):getI l i=none:=by
 unfold getI;split
 ·exact List.getElem?_eq_none (by omega)
 ·rfl
theorem Ok.some {x:β} (h:P x):Ok (some x) P:=⟨x,rfl,h⟩
theorem Ok.bnd {o:Option α} {f:α->Option β} {Q:α->Prop} (h:Ok o Q) (k:∀ y,o=.some y->Q y->Ok (f y) P):Ok (Sx.bnd o f) P:=by
 obtain ⟨y,rfl,hq⟩:=h;rw[bnd_eq];exact k y rfl hq
theorem Ok.grd {p:Prop} [Decidable p] {x:Option β} (h:p) (k:Ok x P):Ok (Sx.grd p x) P:=by rw[grd_eq h];exact k
theorem Ok.jn {κ:Type} {k:κ} {f:κ->Option β} (h:Ok (f k) P):Ok (Sx.jn k f) P:=by rw[jn_eq];exact h
theorem Ok.bif {b:Bool} {x y:Option β} (h1:b=true->Ok x P) (h2:b=false->Ok y P):Ok (bif b then x else y) P:=by
 cases b
 ·exact h2 rfl
 ·exact h1 rfl
theorem Ok.get {l:List α} {i:Int} {f:α->Option β} (h0:0<=i) (h1:i<l.length) (k:∀ p,getI l i=.some p->Ok (f p) P):Ok (Sx.bnd (getI l i) f) P:=by
 rw[getI_of h0 h1,bnd_eq];exact k _ (getI_of h0 h1)
theorem Ok.mono {o:Option β} {Q:β->Prop} (h:Ok o Q) (k:∀ x,Q x->P x):Ok o P:=by
 obtain ⟨y,rfl,hq⟩:=h;exact ⟨y,rfl,k y hq⟩
theorem Ok.of_eq {o:Option β} {x:β} (h:o=.some x) (hp:P x):Ok o P:=⟨x,h,hp⟩
theorem Ok.isSome {o:Option β} (h:Ok o P):o≠none:=by obtain ⟨y,rfl,_⟩:=h;simp
theorem Ok.exk {α':Type} {o:Option (Ex α' α)} {f:α'->Option β} {k:α->Option β} {Q:Ex α' α->Prop} (h:Ok o Q) (h1:∀ a,Q (.ret a)->Ok (f a) P) (h2:∀ b,Q (.nxt b)->Ok (k b) P):Ok (Sx.bnd o fun e=>exK e f k) P:=by
 obtain ⟨y,rfl,hq⟩:=h
 rw[bnd_eq]
 cases y with
 | ret a=>rw[exK_ret];exact h1 a hq
 | nxt b=>rw[exK_nxt];exact h2 b hq
end
theorem wI_id {n:Int} (h1 : -9223372036854775808<=n) (h2:n<=9223372036854775807):wI n=n:=by
 have e:wI n=if n % 18446744073709551616>=9223372036854775808 then n % 18446744073709551616-18446744073709551616 else n % 18446744073709551616:=by
  have e1:IntKind.bits .i64=64:=rfl
  have e2:IntKind.signed .i64=true:=rfl
  simp[wI,IntKind.wrap,e1,e2]
 rw[e]
 split<;>omega
theorem wU_eq (n:Int):wU n=n % 18446744073709551616:=by
 have e1:IntKind.bits .u64=64:=rfl
 have e2:IntKind.signed .u64=false:=rfl
 simp[wU,IntKind.wrap,e1,e2]
theorem wU_id {n:Int} (h1:0<=n) (h2:n<=18446744073709551615):wU n=n:=by rw[wU_eq];omega
theorem wU_range (n:Int):0<=wU n∧wU n<=18446744073709551615:=by rw[wU_eq];omega
theorem wW_eq (n:Int):wW n=n % 4294967296:=by
 have e1:IntKind.bits .u32=32:=rfl
 have e2:IntKind.signed .u32=false:=rfl
 simp[wW,IntKind.wrap,e1,e2]
theorem wW_id {n:Int} (h1:0<=n) (h2:n<=4294967295):wW n=n:=by rw[wW_eq];omega
theorem sShl_one {n:Int} (h0:0<=n) (h1:n<=63):sShl .u64 1 n=2 ^ n.toNat:=by
 have e1:IntKind.bits .u64=64:=rfl
 have h:min n.toNat 64=n.toNat:=by omega
 have hp:(2:Int) ^ n.toNat<=2 ^ 63:=by
  have:2 ^ n.toNat<=2 ^ 63:=Nat.pow_le_pow_right (by omega) (by omega)
  exact_mod_cast this
 have hq:(0:Int)<=2 ^ n.toNat:=Int.pow_nonneg (by decide)
 show IntKind.wrap .u64 (1*2 ^ min n.toNat (IntKind.bits .u64))=_
 rw[e1,h,Int.one_mul]
 exact wU_id hq (by omega)
theorem sShr_u64 (a:Int) (k:Nat) (hk:k<=64) (h0:0<=a):sShr .u64 a k=a / 2 ^ k:=by
 have e1:IntKind.bits .u64=64:=rfl
 show a.fdiv (2 ^ min (k:Int).toNat (IntKind.bits .u64))=_
 rw[e1,Int.toNat_natCast,Nat.min_eq_left hk]
 exact Int.fdiv_eq_ediv_of_nonneg _ (Int.pow_nonneg (by decide))
theorem bAnd_mask (a:Int) (k:Nat) (hk:k<=63) (h0:0<=a) (h1:a<=18446744073709551615):bAnd .u64 a (2 ^ k-1)=a % 2 ^ k:=by
 obtain ⟨n,rfl⟩:=Int.eq_ofNat_of_zero_le h0
 have hb:IntKind.u64.bits=64:=rfl
 show IntKind.u64.wrap ((BitVec.ofInt IntKind.u64.bits n &&& BitVec.ofInt IntKind.u64.bits (2 ^ k-1)).toNat:Int)=_
 rw[hb]
 have hk2:(2:Int) ^ k-1=((2 ^ k-1:Nat):Int):=by
  have h1:=Nat.one_le_two_pow (n:=k)
  have h2:(2:Int) ^ k=((2 ^ k:Nat):Int):=by simp
  rw[h2];omega
 have e1:BitVec.ofInt 64 (n:Int)=BitVec.ofNat 64 n:=by simp
 have e2:BitVec.ofInt 64 ((2 ^ k-1:Nat):Int)=BitVec.ofNat 64 (2 ^ k-1):=by simp
 rw[hk2,e1,e2,BitVec.toNat_and,BitVec.toNat_ofNat,BitVec.toNat_ofNat]
 have hn:n % 2 ^ 64=n:=Nat.mod_eq_of_lt (by omega)
 have hp:2 ^ k<=2 ^ 63:=Nat.pow_le_pow_right (by omega) hk
 have hm:(2 ^ k-1) % 2 ^ 64=2 ^ k-1:=Nat.mod_eq_of_lt (by omega)
 rw[hn,hm,Nat.and_two_pow_sub_one_eq_mod]
 have hlt:n % 2 ^ k<2 ^ k:=Nat.mod_lt _ (Nat.two_pow_pos k)
 show wU _=_
 rw[wU_id (by omega) (by omega)]
 simp
end Go.Sx
namespace Go.Sx
def PT {α:Type} (o:Option α) (P:α->Prop):Prop:=∀ r,o=some r->P r
def tU (n:Int):Prop:=0<=n∧n<=18446744073709551615
def tW (n:Int):Prop:=0<=n∧n<=4294967295
def tL {α:Type} (T:α->Prop) (l:List α):Prop:=∀ x∈l,T x
def tE {α β:Type} (A:α->Prop) (B:β->Prop):Ex α β->Prop
 | .ret a=>A a
 | .nxt b=>B b
section
variable {α β γ:Type} {P:β->Prop} {T:α->Prop}
theorem PT.some {x:β} (h:P x):PT (some x) P:=fun r e=>Option.some.inj e▸h
theorem PT.no:PT none P:=fun r e=>by cases e
theorem PT.bnd {o:Option α} {f:α->Option β} {Q:α->Prop} (h:PT o Q) (k:∀ y,Q y->PT (f y) P):PT (Sx.bnd o f) P:=by
 cases o with
 | none=>rw[bnd_no];exact PT.no
 | some y=>rw[bnd_eq];exact k y (h y rfl)
theorem PT.bn {o:Option α} {f:α->Option β} (k:∀ y,PT (f y) P):PT (Sx.bnd o f) P:=by
 cases o with
 | none=>rw[bnd_no];exact PT.no
 | some y=>rw[bnd_eq];exact k y
theorem PT.grd {p:Prop} [Decidable p] {x:Option β} (k:PT x P):PT (Sx.grd p x) P:=by
 unfold Sx.grd
 split
 ·exact k
 ·exact PT.no
theorem PT.jn {κ:Type} {k:κ} {f:κ->Option β} {Q:κ->Prop} (h:Q k) (g:∀ j,Q j->PT (f j) P):PT (Sx.jn k f) P:=by rw[jn_eq];exact g k h
theorem PT.bif {b:Bool} {x y:Option β} (h1:PT x P) (h2:PT y P):PT (bif b then x else y) P:=by cases b;exact h2;exact h1
theorem PT.get {l:List α} {i:Int} {f:α->Option β} (h:tL T l) (k:∀ p,T p->PT (f p) P):PT (Sx.bnd (getI l i) f) P :=
 PT.bnd (Q:=T) (fun r e=>h r (getI_mem e)) k
theorem PT.exk {α':Type} {o:Option (Ex α' α)} {f:α'->Option β} {k:α->Option β} {A:α'->Prop} (h:PT o (tE A T)) (h1:∀ a,A a->PT (f a) P) (h2:∀ b,T b->PT (k b) P):PT (Sx.bnd o fun e=>exK e f k) P:=by
 refine PT.bnd h fun y hy=>?_
 cases y with
 | ret a=>rw[exK_ret];exact h1 a hy
 | nxt b=>rw[exK_nxt];exact h2 b hy
theorem PT.of {o:Option β} {r:β} (h:PT o P) (e:o=.some r):P r:=h r e
end
@[simp] theorem tE_ret {α β:Type} (A:α->Prop) (B:β->Prop) (a:α):tE A B (.ret a)=A a:=rfl
@[simp] theorem tE_nxt {α β:Type} (A:α->Prop) (B:β->Prop) (b:β):tE A B (.nxt b)=B b:=rfl
@[simp] theorem tU_lit (n:Nat):tU (no_index (OfNat.ofNat n):Int)=((OfNat.ofNat n:Nat)<=18446744073709551615):=by
 have:(no_index (OfNat.ofNat n):Int)=((n:Nat):Int):=rfl
 unfold tU
 rw[this]
 simp only[eq_iff_iff]
 show (0:Int)<=n∧(n:Int)<=18446744073709551615↔n<=18446744073709551615
 omega
@[simp] theorem tW_lit (n:Nat):tW (no_index (OfNat.ofNat n):Int)=((OfNat.ofNat n:Nat)<=4294967295):=by
 have:(no_index (OfNat.ofNat n):Int)=((n:Nat):Int):=rfl
 unfold tW
 rw[this]
 simp only[eq_iff_iff]
 show (0:Int)<=n∧(n:Int)<=4294967295↔n<=4294967295
 omega
@[simp] theorem tU_wU (n:Int):tU (wU n):=wU_range n
@[simp] theorem tW_wW (n:Int):tW (wW n):=by unfold tW;rw[wW_eq];omega
theorem wrap_u64 (n:Int):tU (IntKind.wrap .u64 n):=wU_range n
theorem wrap_u32 (n:Int):tW (IntKind.wrap .u32 n):=tW_wW n
@[simp] theorem tU_bAnd (a b:Int):tU (bAnd .u64 a b):=wrap_u64 _
@[simp] theorem tU_bOr (a b:Int):tU (bOr .u64 a b):=wrap_u64 _
@[simp] theorem tU_sShl (a b:Int):tU (sShl .u64 a b):=wrap_u64 _
@[simp] theorem tW_bAnd (a b:Int):tW (bAnd .u32 a b):=wrap_u32 _
theorem shr_r {a b:Int} (h:0<=a) (k:IntKind):0<=sShr k a b∧sShr k a b<=a:=by
 show 0<=a.fdiv _∧a.fdiv _<=a
 have hp:(0:Int)<2 ^ min b.toNat (IntKind.bits k):=Int.pow_pos (by decide)
 rw[Int.fdiv_eq_ediv_of_nonneg _ (by omega)]
 exact ⟨Int.ediv_nonneg h (by omega),Int.ediv_le_self _ h⟩
@[simp] theorem tU_sShr {a b:Int} (h:tU a):tU (sShr .u64 a b):=by
 have:=shr_r (b:=b) h.1 .u64
 unfold tU at *;omega
@[simp] theorem tW_sShr {a b:Int} (h:tW a):tW (sShr .u32 a b):=by
 have:=shr_r (b:=b) h.1 .u32
 unfold tW at *;omega
@[simp] theorem tU_tmod {a b:Int} (h:tU a):tU (a.tmod b):=by
 unfold tU at *
 rw[Int.tmod_eq_emod_of_nonneg h.1]
 by_cases hb:b=0
 ·subst hb;rw[Int.emod_zero];exact h
 ·have h1:=Int.emod_nonneg a hb
  have h2:a % b<=a:=by
   obtain ⟨n,rfl⟩:=Int.eq_ofNat_of_zero_le h.1
   rcases Int.natAbs_eq b with e | e
   ·rw[e,← Int.natCast_emod]
    have:=Nat.mod_le n b.natAbs
    omega
   ·rw[e,Int.emod_neg,← Int.natCast_emod]
    have:=Nat.mod_le n b.natAbs
    omega
  omega
section
variable {α:Type} {T:α->Prop}
@[simp] theorem tL_nil:tL T ([]:List α):=fun x h=>by cases h
@[simp] theorem tL_cons {x:α} {l:List α}:tL T (x::l)↔T x∧tL T l:=by unfold tL;simp
@[simp] theorem tL_append {a b:List α}:tL T (a++b)↔tL T a∧tL T b:=by
 unfold tL;simp only[List.mem_append];exact ⟨fun h=>⟨fun x hx=>h x (.inl hx),fun x hx=>h x (.inr hx)⟩,fun h x hx=>hx.elim (h.1 x) (h.2 x)⟩
@[simp] theorem tL_set {l:List α} {i:Nat} {x:α} (h:tL T l) (hx:T x):tL T (l.set i x):=fun y hy=>by
 rcases List.mem_or_eq_of_mem_set hy with h1 | h1
 ·exact h y h1
 ·rw[h1];exact hx
@[simp] theorem tL_take {l:List α} {i:Nat} (h:tL T l):tL T (l.take i):=fun y hy=>h y (List.mem_of_mem_take hy)
@[simp] theorem tL_drop {l:List α} {i:Nat} (h:tL T l):tL T (l.drop i):=fun y hy=>h y (List.mem_of_mem_drop hy)
@[simp] theorem tL_rep {n:Nat} {x:α} (h:T x):tL T (List.replicate n x):=fun y hy=>by rw[List.eq_of_mem_replicate hy];exact h
end
@[simp] theorem tU_ite {p:Prop} [Decidable p] {a b:Int} (ha:tU a) (hb:tU b):tU (if p then a else b):=by split;exact ha;exact hb
end Go.Sx
namespace Go.Sx
set_option maxHeartbeats 1000000
def tTHeader (s:THeader):Prop:=tW s.Map
def tTThing (s:TThing):Prop:=tTHeader s.Header∧(tL tU) s.Fields
def tTSlot (s:TSlot):Prop:=tU s.Ref
def tTLocals (s:TLocals):Prop:=(tL tTSlot) s.Slots
def tTEntry (s:TEntry):Prop:=tU s.Ref
def tTTable (s:TTable):Prop:=(tL tTEntry) s.Entries
def tTMark (s:TMark):Prop:=tU s.Id∧tU s.Base
def tTWorld (s:TWorld):Prop:=(tL tTThing) s.Things∧tTLocals s.Locals∧tTTable s.Globals∧tTTable s.Weaks∧(tL tTMark) s.Marks∧(tL tU) s.Roots
def tTHeap (s:THeap):Prop:=(tL tU) s.Words
def tTPin (s:TPin):Prop:=tU s.Ref
def tTEnv (s:TEnv):Prop:=tTHeap s.Heap∧tTLocals s.Locals∧tTTable s.Globals∧tTTable s.Weaks∧(tL tTPin) s.Pins∧(tL tU) s.Roots
def tTPair (s:TPair):Prop:=tTEnv s.Env∧tTWorld s.World∧(tL tU) s.Words
def tTFact (s:TFact):Prop:=tU s.Base
def tTDeed (s:TDeed):Prop:=tU s.A∧tU s.B∧tU s.C
def tTframes (s:Tframes):Prop:=tTLocals s.Locals
def tTWork (s:TWork):Prop:=tTHeap s.Heap∧(tL tU) s.Old∧(tL tU) s.Queue
def tTFinding (s:TFinding):Prop:=tU s.Addr
def tTField (s:TField):Prop:=tU s.Value
def tTasked (s:Tasked):Prop:=tTWorld s.World∧tU s.a∧tU s.b∧tU s.c
@[simp] theorem tL_set_TSlot {l:List TSlot} {i:Nat} {x:TSlot} (h:tL tTSlot l) (hx:tU x.Ref):tL tTSlot (l.set i x):=tL_set h hx
@[simp] theorem tL_set_TEntry {l:List TEntry} {i:Nat} {x:TEntry} (h:tL tTEntry l) (hx:tU x.Ref):tL tTEntry (l.set i x):=tL_set h hx
@[simp] theorem tL_set_TPin {l:List TPin} {i:Nat} {x:TPin} (h:tL tTPin l) (hx:tU x.Ref):tL tTPin (l.set i x):=tL_set h hx
@[simp] theorem tL_set_TMark {l:List TMark} {i:Nat} {x:TMark} (h:tL tTMark l) (hx:tU x.Id∧tU x.Base):tL tTMark (l.set i x):=tL_set h hx
@[simp] theorem tL_set_TThing {l:List TThing} {i:Nat} {x:TThing} (h:tL tTThing l) (hx:tW x.Header.Map∧(tL tU) x.Fields):tL tTThing (l.set i x):=tL_set h hx
attribute [local simp] tTHeader tTThing tTSlot tTLocals tTEntry tTTable tTMark tTWorld tTHeap tTPin tTEnv tTPair tTFact tTDeed tTframes tTWork tTFinding tTField tTasked
theorem QdY {N a0 a1} (ka0:tTPair a0):PT (QaY N a0 a1) (fun r=>tU r.1):=by
 rw[QaY]
 refine (PT.bn fun y1=>(PT.bif (PT.bn fun y2=>(PT.get (T:=tU) ?_ fun p3 h1=>(PT.some ?_))) (PT.bif (PT.bn fun y4=>(PT.get (T:=tU) ?_ fun p5 h2=>(PT.bn fun y6=>(PT.some ?_)))) (PT.jn (Q:=fun k=>∀ x8,PT (k x8) _) (fun x8=>(PT.bif (PT.bn fun y9=>(PT.get (T:=tU) ?_ fun p10 h3=>(PT.some ?_))) (PT.bn fun y11=>(PT.get (T:=tU) ?_ fun p12 h4=>(PT.some ?_))))) fun j2 hj2=>(PT.bif (hj2 _) (PT.jn (Q:=fun k=>∀ x7,PT (k x7) _) (fun x7=>(hj2 _)) fun j1 hj1=>(PT.bif (hj1 _) (hj1 _))))))))
 all_goals simp_all (maxDischargeDepth:=9)
theorem Qhb {N a0 a1} (ka0:tTPair a0):PT (QbJ N a0 a1) (fun r=>tTDeed r.1):=by
 rw[QbJ]
 refine (PT.bn fun y1=>(PT.bn fun p2=>(PT.bif (PT.bn fun y3=>(PT.grd (PT.bn fun y4=>(PT.some ?_)))) (PT.jn (Q:=fun k=>∀ x5,PT (k x5) _) (fun x5=>(PT.bif (PT.bn fun y6=>(PT.bn fun y7=>(PT.bif (PT.bn fun y8=>(PT.some ?_)) (PT.some ?_)))) (PT.bif (PT.bn fun y9=>(PT.some ?_)) (PT.bnd (QdY ?_) fun y10 h1=>(PT.bn fun y11=>(PT.bn fun y12=>(PT.jn (Q:=fun k=>∀ x16 x17 x18,tU x18->PT (k x16 x17 x18) _) (fun x16 x17 x18 h2=>(PT.bif (PT.bnd (QdY ?_) fun y19 h3=>(PT.some ?_)) (PT.some ?_))) fun j2 hj2=>(PT.bif (PT.bnd (QdY ?_) fun y14 h4=>(hj2 _ _ _ ?_)) (PT.bn fun y13=>(PT.bif (PT.bnd (QdY ?_) fun y15 h5=>(hj2 _ _ _ ?_)) (hj2 _ _ _ ?_))))))))))) fun j1 hj1=>(PT.bif (hj1 _) (hj1 _))))))
 all_goals simp_all (maxDischargeDepth:=9)
theorem Qjn {N a0}:PT (Qc0 N a0) (fun r=>tTWorld r.1):=by
 rw[Qc0]
 refine (PT.bn fun y1=>(PT.bif (PT.some ?_) (PT.some ?_)))
 all_goals simp_all (maxDischargeDepth:=9)
theorem Qjo {N a0}:PT (Qfg N a0) (fun r=>tTHeap r.1):=by
 rw[Qfg]
 refine (PT.bn fun y1=>(PT.bif (PT.some ?_) (PT.grd (PT.grd (PT.some ?_)))))
 all_goals simp_all (maxDischargeDepth:=9)
theorem Qjp {N a0}:PT (QeF N a0) (fun r=>tTEnv r.1):=by
 rw[QeF]
 refine (PT.bnd (Qjo) fun y1 h1=>(PT.some ?_))
 all_goals simp_all (maxDischargeDepth:=9)
theorem QgV {N a0}:PT (Qbv N a0) (fun r=>tTPair r.1):=by
 rw[Qbv]
 refine (PT.bn fun y1=>(PT.bnd (Qjp) fun y2 h1=>(PT.bnd (Qjn) fun y3 h2=>(PT.bn fun y4=>(PT.some ?_)))))
 all_goals simp_all (maxDischargeDepth:=9)
theorem QfY {N a0} (ka0:tTTable a0):∀ n v1 v2,(tL tU) v2->PT (QaV N a0 n v1 v2) (tL tU)
 | 0,_,_,_=>by rw[QaV];exact PT.no
 | n+1,v1,v2,kv2=>by
  have ih:=QfY (N:=N) (a0:=a0) ka0 n
  rw[QaV]
  refine (PT.bif (PT.bn fun y3=>(PT.bif (PT.get (T:=tTEntry) ?_ fun p4 h1=>(PT.bif (PT.get (T:=tTEntry) ?_ fun p5 h2=>(PT.grd (ih _ _ ?_))) (ih _ _ ?_))) (PT.some ?_))) (PT.some ?_))
  all_goals (clear ih;simp_all (maxDischargeDepth:=9))
theorem Qhp {N a0 n v1 v2} (ka0:tTTable a0) (kv2:(tL tU) v2):PT (QaV N a0 n v1 v2) (tL tU):=QfY ka0 n _ _ kv2
theorem Qew {N a0} (ka0:tTTable a0):PT (QaR N a0) (tL tU):=by
 rw[QaR]
 refine (PT.bnd (Qhp ?_ ?_) fun y6 h1=>(PT.some ?_))
 all_goals simp_all (maxDischargeDepth:=9)
theorem QfZ {N a0} (ka0:tTLocals a0):∀ n v1 v2,(tL tU) v2->PT (QaW N a0 n v1 v2) (tL tU)
 | 0,_,_,_=>by rw[QaW];exact PT.no
 | n+1,v1,v2,kv2=>by
  have ih:=QfZ (N:=N) (a0:=a0) ka0 n
  rw[QaW]
  refine (PT.bif (PT.bn fun y3=>(PT.bif (PT.get (T:=tTSlot) ?_ fun p4 h1=>(PT.bif (PT.get (T:=tTSlot) ?_ fun p5 h2=>(PT.grd (ih _ _ ?_))) (ih _ _ ?_))) (PT.some ?_))) (PT.some ?_))
  all_goals (clear ih;simp_all (maxDischargeDepth:=9))
theorem Qhq {N a0 n v1 v2} (ka0:tTLocals a0) (kv2:(tL tU) v2):PT (QaW N a0 n v1 v2) (tL tU):=QfZ ka0 n _ _ kv2
theorem QfO {N a0} (ka0:tTLocals a0):PT (QbC N a0) (tL tU):=by
 rw[QbC]
 refine (PT.bnd (Qhq ?_ ?_) fun y6 h1=>(PT.some ?_))
 all_goals simp_all (maxDischargeDepth:=9)
theorem Qf0 {N a1} (ka1:(tL tU) a1):∀ n v3 v4 v5,(tL tTEntry) v5->PT (QaF N a1 n v3 v4 v5) (tL tTEntry)
 | 0,_,_,_,_=>by rw[QaF];exact PT.no
 | n+1,v3,v4,v5,kv5=>by
  have ih:=Qf0 (N:=N) (a1:=a1) ka1 n
  rw[QaF]
  refine (PT.grd (PT.bif (PT.get (T:=tTEntry) ?_ fun p6 h1=>(PT.bif (PT.get (T:=tU) ?_ fun p7 h2=>(PT.get (T:=tTEntry) ?_ fun p8 h3=>(ih _ _ _ ?_))) (ih _ _ _ ?_))) (PT.some ?_)))
  all_goals (clear ih;simp_all (maxDischargeDepth:=9))
theorem Qhr {N a1 n v3 v4 v5} (ka1:(tL tU) a1) (kv5:(tL tTEntry) v5):PT (QaF N a1 n v3 v4 v5) (tL tTEntry):=Qf0 ka1 n _ _ _ kv5
theorem QfP {N a0 a1} (ka0:tTTable a0) (ka1:(tL tU) a1):PT (QbZ N a0 a1) (fun r=>tTTable r.1):=by
 rw[QbZ]
 refine (PT.bn fun y1=>(PT.bif (PT.some ?_) (PT.bnd (Qew ?_) fun y2 h1=>(PT.grd (PT.bif (PT.some ?_) (PT.grd (PT.bnd (Qhr ?_ ?_) fun y9 h2=>(PT.some ?_))))))))
 all_goals simp_all (maxDischargeDepth:=9)
theorem Qfy {N a0 y2} (ka0:tTWorld a0):∀ n v4 v5,(tL tU) v5->PT (Qal N a0 y2 n v4 v5) (tL tU)
 | 0,_,_,_=>by rw[Qal];exact PT.no
 | n+1,v4,v5,kv5=>by
  have ih:=Qfy (N:=N) (a0:=a0) (y2:=y2) ka0 n
  rw[Qal]
  refine (PT.grd (PT.bif (PT.get (T:=tU) ?_ fun p6 h1=>(PT.bif (PT.get (T:=tU) ?_ fun p7 h2=>(PT.bn fun p8=>(PT.bif (PT.get (T:=tU) ?_ fun p9 h3=>(ih _ _ ?_)) (ih _ _ ?_)))) (ih _ _ ?_))) (PT.some ?_)))
  all_goals (clear ih;simp_all (maxDischargeDepth:=9))
theorem QgH {N a0 y2 n v4 v5} (ka0:tTWorld a0) (kv5:(tL tU) v5):PT (Qal N a0 y2 n v4 v5) (tL tU):=Qfy ka0 n _ _ kv5
theorem Qf1 {N a0} (ka0:tTWorld a0):PT (Qa4 N a0) (fun r=>tTWorld r.1):=by
 rw[Qa4]
 refine (PT.bn fun y1=>(PT.bif (PT.some ?_) (PT.bn fun y2=>(PT.bnd (Qew ?_) fun y3 h1=>(PT.bnd (QgH ?_ ?_) fun y10 h2=>(PT.bnd (QfP ?_ ?_) fun y11 h3=>(PT.some ?_)))))))
 all_goals simp_all (maxDischargeDepth:=9)
theorem Qgx {N a0 a1 a2} (ka1:tU a1) (ka2:tU a2):PT (Qbo N a0 a1 a2) (fun r=>tTHeader r.1):=by
 rw[Qbo]
 refine (PT.bif (PT.bif (PT.some ?_) (PT.some ?_)) (PT.some ?_))
 all_goals simp_all (maxDischargeDepth:=9)
theorem Qf2 {N a0 a1} (ka0:tTLocals a0) (ka1:tU a1):PT (Qc2 N a0 a1) (fun r=>tTLocals r.1):=by
 rw[Qc2]
 refine (PT.bn fun y1=>(PT.bif (PT.some ?_) (PT.bif (PT.some ?_) (PT.bif (PT.some ?_) (PT.bn fun p2=>(PT.bn fun y3=>(PT.bn fun p4=>(PT.bif (PT.some ?_) (PT.bif (PT.some ?_) (PT.grd (PT.grd (PT.grd (PT.grd (PT.some ?_))))))))))))))
 all_goals simp_all (maxDischargeDepth:=9)
theorem QeC {N a0}:PT (Qa5 N a0) (fun r=>tU r.1):=by
 rw[Qa5]
 refine (PT.bn fun y1=>(PT.bif (PT.some ?_) (PT.some ?_)))
 all_goals simp_all (maxDischargeDepth:=9) []
theorem Qf3 {N a0 a1 a2} (ka0:tTLocals a0):PT (QdF N a0 a1 a2) (fun r=>tU r.1):=by
 rw[QdF]
 refine (PT.bn fun y1=>(PT.bif (PT.some ?_) (PT.bif (PT.some ?_) (PT.bif (PT.some ?_) (PT.bn fun p2=>(PT.bif (PT.some ?_) (PT.bif (PT.some ?_) (PT.get (T:=tTSlot) ?_ fun p3 h1=>(PT.bif (PT.some ?_) (PT.get (T:=tTSlot) ?_ fun p4 h2=>(PT.bif (PT.some ?_) (PT.get (T:=tTSlot) ?_ fun p5 h3=>(PT.some ?_)))))))))))))
 all_goals simp_all (maxDischargeDepth:=9)
theorem QeN {N a0 a1 a2} (ka0:tTTable a0):PT (Qcv N a0 a1 a2) (fun r=>tU r.1):=by
 rw[Qcv]
 refine (PT.bn fun y1=>(PT.bif (PT.some ?_) (PT.bif (PT.some ?_) (PT.bif (PT.some ?_) (PT.bif (PT.some ?_) (PT.get (T:=tTEntry) ?_ fun p2 h1=>(PT.bif (PT.some ?_) (PT.get (T:=tTEntry) ?_ fun p3 h2=>(PT.bif (PT.some ?_) (PT.get (T:=tTEntry) ?_ fun p4 h3=>(PT.bif (PT.some ?_) (PT.get (T:=tTEntry) ?_ fun p5 h4=>(PT.some ?_)))))))))))))
 all_goals simp_all (maxDischargeDepth:=9)
theorem Qeq {N a0 a1} (ka0:tTWorld a0) (ka1:tU a1):PT (Qao N a0 a1) (fun r=>tU r.1):=by
 rw[Qao]
 refine (PT.bn fun y1=>(PT.bif (PT.some ?_) (PT.bif (PT.some ?_) (PT.bn fun y2=>(PT.bif (PT.some ?_) (PT.bif (PT.bnd (Qf3 ?_) fun y3 h1=>(PT.some ?_)) (PT.bif (PT.bnd (QeN ?_) fun y4 h2=>(PT.some ?_)) (PT.bnd (QeN ?_) fun y5 h3=>(PT.some ?_)))))))))
 all_goals simp_all (maxDischargeDepth:=9)
theorem Qgl {N a0 a1} (ka0:tTTable a0) (ka1:tU a1):∀ n v2,PT (Qa6 N a0 a1 n v2) (tE (fun r=>tTTable r.1) (fun _=>True))
 | 0,_=>by rw[Qa6];exact PT.no
 | n+1,v2=>by
  have ih:=Qgl (N:=N) (a0:=a0) (a1:=a1) ka0 ka1 n
  rw[Qa6]
  refine (PT.grd (PT.bif (PT.get (T:=tTEntry) ?_ fun p3 h1=>(PT.bif (PT.get (T:=tTEntry) ?_ fun p4 h2=>(PT.bif (PT.get (T:=tTEntry) ?_ fun p5 h3=>(PT.get (T:=tTEntry) ?_ fun p6 h4=>(PT.get (T:=tTEntry) ?_ fun p7 h5=>(PT.some ?_)))) (ih _))) (ih _))) (PT.some ?_)))
  all_goals (clear ih;simp_all (maxDischargeDepth:=9))
theorem Qib {N a0 a1 n v2} (ka0:tTTable a0) (ka1:tU a1):PT (Qa6 N a0 a1 n v2) (tE (fun r=>tTTable r.1) (fun _=>True)):=Qgl ka0 ka1 n _
theorem Qf4 {N a0 a1} (ka0:tTTable a0) (ka1:tU a1):PT (Qbx N a0 a1) (fun r=>tTTable r.1):=by
 rw[Qbx]
 refine (PT.bn fun y1=>(PT.bif (PT.some ?_) (PT.grd (PT.exk (Qib ?_ ?_) (fun r h1=>(PT.some ?_)) fun y8 h2=>(PT.grd (PT.bif (PT.some ?_) (PT.grd (PT.grd (PT.some ?_)))))))))
 all_goals simp_all (maxDischargeDepth:=9)
theorem Qi8 {N a0 a1 a2} (ka0:tTLocals a0):PT (QeR N a0 a1 a2) (fun r=>tTLocals r.1):=by
 rw[QeR]
 refine (PT.bn fun y1=>(PT.bif (PT.some ?_) (PT.bif (PT.some ?_) (PT.bif (PT.some ?_) (PT.jn (Q:=fun k=>∀ _,PT (k ()) _) (fun _=>(PT.bif (PT.some ?_) (PT.grd (PT.grd (PT.some ?_))))) fun j1 hj1=>(PT.bif (PT.bif (PT.some ?_) (hj1 ())) (hj1 ())))))))
 all_goals simp_all (maxDischargeDepth:=9)
theorem QgE {N a0 a1} (ka0:tTLocals a0):PT (QcX N a0 a1) (fun r=>tTLocals r.1):=by
 rw[QcX]
 refine (PT.bnd (Qi8 ?_) fun y1 h1=>(PT.some ?_))
 all_goals simp_all (maxDischargeDepth:=9)
theorem Qjq {N a0 a1} (ka0:tTLocals a0):PT (Qfh N a0 a1) tTLocals:=by
 rw[Qfh]
 refine (PT.bn fun p1=>(PT.grd (PT.grd (PT.grd (PT.grd (PT.some ?_))))))
 all_goals simp_all (maxDischargeDepth:=9)
theorem QgW {N a0} (ka0:tTLocals a0):PT (QdG N a0) (fun r=>tTLocals r.1):=by
 rw[QdG]
 refine (PT.bn fun y1=>(PT.bif (PT.some ?_) (PT.bif (PT.some ?_) (PT.bn fun p2=>(PT.bif (PT.some ?_) (PT.bnd (Qjq ?_) fun y3 h1=>(PT.some ?_)))))))
 all_goals simp_all (maxDischargeDepth:=9)
theorem Qe0 {N a0 a1} (ka0:tTWorld a0) (ka1:tU a1):PT (Qbz N a0 a1) (fun r=>tTWorld r.1∧tU r.2):=by
 rw[Qbz]
 refine (PT.bif (PT.some ?_) (PT.bnd (Qf2 ?_ ?_) fun y1 h1=>(PT.bnd (QeC) fun y2 h2=>(PT.some ?_))))
 all_goals simp_all (maxDischargeDepth:=9)
theorem QgX {N a0 a1 a2 a3} (ka0:tTWorld a0) (ka1:tU a1) (ka3:tU a3):PT (Qd8 N a0 a1 a2 a3) tTWorld:=by
 rw[Qd8]
 refine (PT.grd (PT.get (T:=tTThing) ?_ fun p1 h1=>(PT.grd (PT.get (T:=tU) ?_ fun p2 h2=>(PT.get (T:=tTThing) ?_ fun p3 h3=>(PT.some ?_))))))
 all_goals simp_all (maxDischargeDepth:=9)
theorem Qhs {N a0 a1 a2} (ka0:tTWorld a0) (ka2:tU a2):PT (QcF N a0 a1 a2) (fun r=>tTWorld r.1∧tU r.2):=by
 rw[QcF]
 refine (PT.jn (Q:=fun k=>∀ x3 x4 x5 x6 x7,(tL tTEntry) x3->(tL tTEntry) x4->PT (k x3 x4 x5 x6 x7) _) (fun x3 x4 x5 x6 x7 h1 h2=>(PT.bnd (QeC) fun y8 h3=>(PT.some ?_))) fun j1 hj1=>(PT.bif (PT.bnd (Qf4 ?_ ?_) fun y1 h4=>(hj1 _ _ _ _ _ ?_ ?_)) (PT.bnd (Qf4 ?_ ?_) fun y2 h5=>(hj1 _ _ _ _ _ ?_ ?_))))
 all_goals simp_all (maxDischargeDepth:=9)
theorem Qgm {N a0 a1 a2} (ka0:tTLocals a0):PT (Qcw N a0 a1 a2) (fun r=>tTLocals r.1):=by
 rw[Qcw]
 refine (PT.bnd (Qf3 ?_) fun y1 h1=>(PT.bif (PT.some ?_) (PT.grd (PT.get (T:=tTSlot) ?_ fun p2 h2=>(PT.some ?_)))))
 all_goals simp_all (maxDischargeDepth:=9)
theorem Qjr {N a0 a1 a2} (ka0:tTTable a0) (ka2:tTEntry a2):PT (Qfi N a0 a1 a2) tTTable:=by
 rw[Qfi]
 refine (PT.grd (PT.get (T:=tTEntry) ?_ fun p1 h1=>(PT.some ?_)))
 all_goals simp_all (maxDischargeDepth:=9)
theorem QeD {N a0 a1 a2} (ka0:tTTable a0):PT (QbA N a0 a1 a2) (fun r=>tTTable r.1):=by
 rw[QbA]
 refine (PT.bnd (QeN ?_) fun y1 h1=>(PT.bif (PT.some ?_) (PT.bnd (Qjr ?_ ?_) fun y2 h2=>(PT.some ?_))))
 all_goals simp_all (maxDischargeDepth:=9)
theorem Qic {N a0 a1} (ka0:tTWorld a0) (ka1:tU a1):PT (Qdq N a0 a1) tTWorld:=by
 rw[Qdq]
 refine (PT.bn fun y1=>(PT.bif (PT.bnd (Qgm ?_) fun y2 h1=>(PT.some ?_)) (PT.bif (PT.bnd (QeD ?_) fun y3 h2=>(PT.some ?_)) (PT.bnd (QeD ?_) fun y4 h3=>(PT.some ?_)))))
 all_goals simp_all (maxDischargeDepth:=9)
theorem Qi9 {N a0 a1 a2 a3} (ka0:tTWorld a0) (ka2:tU a2) (ka3:tU a3):PT (Qec N a0 a1 a2 a3) (fun r=>tTWorld r.1∧tU r.2):=by
 rw[Qec]
 refine (PT.bn fun y1=>(PT.grd (PT.bif (PT.get (T:=tTMark) ?_ fun p2 h1=>(PT.get (T:=tTMark) ?_ fun p3 h2=>(PT.get (T:=tTMark) ?_ fun p4 h3=>(PT.bif (PT.grd (PT.grd (PT.grd (PT.some ?_)))) (PT.some ?_))))) (PT.bif (PT.get (T:=tTMark) ?_ fun p7 h4=>(PT.get (T:=tTMark) ?_ fun p8 h5=>(PT.get (T:=tTMark) ?_ fun p9 h6=>(PT.some ?_)))) (PT.grd (PT.some ?_))))))
 all_goals simp_all (maxDischargeDepth:=9)
theorem Qja {N a0 a1 a2 a3 a4 a5} (ka0:tTWorld a0) (ka2:tU a2) (ka3:tU a3) (ka4:tU a4) (ka5:tTFact a5):PT (Qed N a0 a1 a2 a3 a4 a5) (fun r=>tTWorld r.1∧tU r.2.1):=by
 rw[Qed]
 refine (PT.bn fun y1=>(PT.bif (PT.some ?_) (PT.jn (Q:=fun k=>∀ x3,tU x3->PT (k x3) _) (fun x3 h1=>(PT.jn (Q:=fun k=>∀ x5,PT (k x5) _) (fun x5=>(PT.bif (PT.jn (Q:=fun k=>∀ x7 x8 x9 x10 x11 x12 x13 x14 x15 x16,(tL tTThing) x9->(tL tTSlot) x10->(tL tTEntry) x13->(tL tTEntry) x14->(tL tTMark) x15->(tL tU) x16->PT (k x7 x8 x9 x10 x11 x12 x13 x14 x15 x16) _) (fun x7 x8 x9 x10 x11 x12 x13 x14 x15 x16 h2 h3 h4 h5 h6 h7=>(PT.bnd (Qgx ?_ ?_) fun y17 h8=>(PT.grd (PT.grd (PT.grd (PT.grd (PT.bnd (Qe0 ?_ ?_) fun y18 h9=>(PT.some ?_)))))))) fun j4 hj4=>(PT.bif (PT.bnd (Qf1 ?_) fun y6 h10=>(hj4 _ _ _ _ _ _ _ _ _ _ ?_ ?_ ?_ ?_ ?_ ?_)) (hj4 _ _ _ _ _ _ _ _ _ _ ?_ ?_ ?_ ?_ ?_ ?_))) (PT.bif (PT.get (T:=tTThing) ?_ fun p19 h11=>(PT.some ?_)) (PT.bif (PT.get (T:=tTThing) ?_ fun p20 h12=>(PT.some ?_)) (PT.bif (PT.get (T:=tTThing) ?_ fun p21 h13=>(PT.get (T:=tU) ?_ fun p22 h14=>(PT.some ?_))) (PT.bif (PT.bnd (QgX ?_ ?_ ?_) fun y23 h15=>(PT.some ?_)) (PT.bif (PT.get (T:=tTThing) ?_ fun p24 h16=>(PT.get (T:=tU) ?_ fun p25 h17=>(PT.bnd (Qe0 ?_ ?_) fun y26 h18=>(PT.some ?_)))) (PT.bif (PT.bnd (Qeq ?_ ?_) fun y27 h19=>(PT.bnd (QgX ?_ ?_ ?_) fun y28 h20=>(PT.some ?_))) (PT.bif (PT.bnd (Qeq ?_ ?_) fun y29 h21=>(PT.bif (PT.some ?_) (PT.some ?_))) (PT.bif (PT.bnd (Qe0 ?_ ?_) fun y30 h22=>(PT.some ?_)) (PT.jn (Q:=fun k=>∀ x31,PT (k x31) _) (fun x31=>(PT.bif (PT.bnd (Qhs ?_ ?_) fun y32 h23=>(PT.some ?_)) (PT.jn (Q:=fun k=>∀ x34,PT (k x34) _) (fun x34=>(PT.bif (PT.bnd (Qic ?_ ?_) fun y35 h24=>(PT.some ?_)) (PT.bif (PT.bnd (QgE ?_) fun y36 h25=>(PT.some ?_)) (PT.bif (PT.bnd (QgW ?_) fun y37 h26=>(PT.bnd (Qe0 ?_ ?_) fun y38 h27=>(PT.some ?_))) (PT.bnd (Qi9 ?_ ?_ ?_) fun y39 h28=>(PT.some ?_)))))) fun j7 hj7=>(PT.bif (hj7 _) (PT.jn (Q:=fun k=>∀ x33,PT (k x33) _) (fun x33=>(hj7 _)) fun j6 hj6=>(PT.bif (hj6 _) (hj6 _))))))) fun j5 hj5=>(PT.bif (hj5 _) (hj5 _))))))))))))) fun j3 hj3=>(PT.bif (hj3 _) (PT.jn (Q:=fun k=>∀ x4,PT (k x4) _) (fun x4=>(hj3 _)) fun j2 hj2=>(PT.bif (hj2 _) (hj2 _)))))) fun j1 hj1=>(PT.bif (PT.bif (PT.bnd (Qeq ?_ ?_) fun y2 h29=>(hj1 _ ?_)) (hj1 _ ?_)) (hj1 _ ?_)))))
 all_goals simp_all (maxDischargeDepth:=9)
theorem Qht {N a0 a1 a2 a3 a4} (ka0:tTEnv a0) (ka1:tTEnv a1) (ka3:tU a3):PT (QcG N a0 a1 a2 a3 a4) tTFact:=by
 rw[QcG]
 refine (PT.jn (Q:=fun k=>∀ x1,PT (k x1) _) (fun x1=>(PT.jn (Q:=fun k=>∀ x2,PT (k x2) _) (fun x2=>(PT.bif (PT.bif (PT.some ?_) (PT.some ?_)) (PT.some ?_))) fun j2 hj2=>(PT.bif (hj2 _) (hj2 _)))) fun j1 hj1=>(PT.bif (hj1 _) (PT.bif (hj1 _) (hj1 _))))
 all_goals simp_all (maxDischargeDepth:=9)
theorem QdD {N a0 a1} (ka0:(tL tU) a0) (ka1:tU a1):PT (Qbs N a0 a1) (fun r=>tU r.1):=by
 rw[Qbs]
 refine (PT.bn fun y1=>(PT.bif (PT.some ?_) (PT.get (T:=tU) ?_ fun p2 h1=>(PT.some ?_))))
 all_goals simp_all (maxDischargeDepth:=9) []
theorem Qfw {N a0} (ka0:tTHeader a0):PT (Qb0 N a0) (fun r=>tU r.1):=by
 rw[Qb0]
 refine (PT.bn fun y1=>(PT.bif (PT.some ?_) (PT.some ?_)))
 all_goals simp_all (maxDischargeDepth:=9)
theorem Qfx {N a0} (ka0:tU a0):PT (Qbi N a0) (fun r=>tTHeader r.1):=by
 rw[Qbi]
 refine (PT.bnd (Qfw ?_) fun y1 h1=>(PT.bif (PT.some ?_) (PT.bif (PT.some ?_) (PT.some ?_))))
 all_goals simp_all (maxDischargeDepth:=9)
theorem Qgv {N a0 a1} (ka0:tTHeap a0) (ka1:tU a1):PT (Qbt N a0 a1) (fun r=>tTHeader r.1):=by
 rw[Qbt]
 refine (PT.bn fun y1=>(PT.bif (PT.some ?_) (PT.bn fun y2=>(PT.bif (PT.some ?_) (PT.bn fun p3=>(PT.bnd (QdD ?_ ?_) fun y4 h1=>(PT.bnd (Qfx ?_) fun y5 h2=>(PT.jn (Q:=fun k=>∀ _,PT (k ()) _) (fun _=>(PT.bn fun y6=>(PT.bif (PT.bif (PT.some ?_) (PT.bif (PT.bif (PT.some ?_) (PT.bif (PT.some ?_) (PT.some ?_))) (PT.some ?_))) (PT.bif (PT.bif (PT.some ?_) (PT.bif (PT.some ?_) (PT.some ?_))) (PT.some ?_))))) fun j1 hj1=>(PT.bif (PT.bif (PT.some ?_) (PT.bif (PT.some ?_) (PT.bif (PT.some ?_) (hj1 ())))) (PT.bif (PT.some ?_) (PT.bif (PT.some ?_) (hj1 ()))))))))))))
 all_goals simp_all (maxDischargeDepth:=9)
theorem Qhu {N a0 a1 a2}:PT (Qb9 N a0 a1 a2) (fun r=>tU r.1):=by
 rw[Qb9]
 refine (PT.bn fun y1=>(PT.bif (PT.some ?_) (PT.bif (PT.some ?_) (PT.bif (PT.some ?_) (PT.bif (PT.some ?_) (PT.bif (PT.some ?_) (PT.some ?_)))))))
 all_goals simp_all (maxDischargeDepth:=9) []
theorem Qf5 {N a0 a1 p2} (ka0:tTHeap a0):∀ n v3 v4,(tL tU) v4->PT (Qbp N a0 a1 p2 n v3 v4) (tE (fun r=>(tL tU) r.1) (tL tU))
 | 0,_,_,_=>by rw[Qbp];exact PT.no
 | n+1,v3,v4,kv4=>by
  have ih:=Qf5 (N:=N) (a0:=a0) (a1:=a1) (p2:=p2) ka0 n
  rw[Qbp]
  refine (PT.bif (PT.bnd (Qhu) fun y5 h1=>(PT.bnd (Qgv ?_ ?_) fun y6 h2=>(PT.bif (PT.some ?_) (PT.grd (PT.bif (PT.some ?_) (PT.bn fun y7=>(ih _ _ ?_))))))) (PT.some ?_))
  all_goals (clear ih;simp_all (maxDischargeDepth:=9))
theorem Qhv {N a0 a1 p2 n v3 v4} (ka0:tTHeap a0) (kv4:(tL tU) v4):PT (Qbp N a0 a1 p2 n v3 v4) (tE (fun r=>(tL tU) r.1) (tL tU)):=Qf5 ka0 n _ _ kv4
theorem Qjb {N a0 a1} (ka0:tTHeap a0):PT (QaJ N a0 a1) (fun r=>(tL tU) r.1):=by
 rw[QaJ]
 refine (PT.bn fun y1=>(PT.bif (PT.some ?_) (PT.bif (PT.some ?_) (PT.bif (PT.some ?_) (PT.bn fun p2=>(PT.bif (PT.some ?_) (PT.bif (PT.some ?_) (PT.exk (Qhv ?_ ?_) (fun r h1=>(PT.some ?_)) fun y8 h2=>(PT.some ?_)))))))))
 all_goals simp_all (maxDischargeDepth:=9)
theorem Qf6 {N a0 a1} (ka0:tTHeap a0) (ka1:tU a1):PT (Qcx N a0 a1) (fun r=>tTHeader r.1):=by
 rw[Qcx]
 refine (PT.bn fun y1=>(PT.bif (PT.some ?_) (PT.bif (PT.some ?_) (PT.bnd (Qgv ?_ ?_) fun y2 h1=>(PT.bif (PT.bif (PT.some ?_) (PT.some ?_)) (PT.some ?_))))))
 all_goals simp_all (maxDischargeDepth:=9)
theorem QfI {N a0} (ka0:tTHeap a0):∀ n v2 v3,(tL tU) v3->PT (Qa0 N a0 n v2 v3) (tE (fun r=>(tL tU) r.1) (tL tU))
 | 0,_,_,_=>by rw[Qa0];exact PT.no
 | n+1,v2,v3,kv3=>by
  have ih:=QfI (N:=N) (a0:=a0) ka0 n
  rw[Qa0]
  refine (PT.bif (PT.bnd (Qjb ?_) fun y4 h1=>(PT.bif (PT.some ?_) (PT.grd (ih _ _ ?_)))) (PT.some ?_))
  all_goals (clear ih;simp_all (maxDischargeDepth:=9))
theorem QgY {N a0 n v2 v3} (ka0:tTHeap a0) (kv3:(tL tU) v3):PT (Qa0 N a0 n v2 v3) (tE (fun r=>(tL tU) r.1) (tL tU)):=QfI ka0 n _ _ kv3
theorem Qid {N a0} (ka0:tTHeap a0):PT (Qdr N a0) (fun r=>(tL tU) r.1):=by
 rw[Qdr]
 refine (PT.bn fun y1=>(PT.bif (PT.some ?_) (PT.exk (QgY ?_ ?_) (fun r h1=>(PT.some ?_)) fun y5 h2=>(PT.some ?_))))
 all_goals simp_all (maxDischargeDepth:=9)
theorem Qfz {N a0 y1} (ka0:tTHeap a0) (ky1:(fun r=>(tL tU) r.1) y1):∀ n v2 v3,(tL tU) v3->PT (QaB N a0 y1 n v2 v3) (tL tU)
 | 0,_,_,_=>by rw[QaB];exact PT.no
 | n+1,v2,v3,kv3=>by
  have ih:=Qfz (N:=N) (a0:=a0) (y1:=y1) ka0 ky1 n
  rw[QaB]
  refine (PT.bif (PT.get (T:=tU) ?_ fun p4 h1=>(PT.bnd (Qgv ?_ ?_) fun y5 h2=>(PT.bif (PT.get (T:=tU) ?_ fun p6 h3=>(PT.grd (ih _ _ ?_))) (ih _ _ ?_)))) (PT.some ?_))
  all_goals (clear ih;simp_all (maxDischargeDepth:=9))
theorem QgI {N a0 y1 n v2 v3} (ka0:tTHeap a0) (ky1:(fun r=>(tL tU) r.1) y1) (kv3:(tL tU) v3):PT (QaB N a0 y1 n v2 v3) (tL tU):=Qfz ka0 ky1 n _ _ kv3
theorem Qhw {N a0} (ka0:tTHeap a0):PT (Qa7 N a0) (fun r=>(tL tU) r.1):=by
 rw[Qa7]
 refine (PT.bnd (Qid ?_) fun y1 h1=>(PT.bnd (QgI ?_ ?_ ?_) fun y7 h2=>(PT.some ?_)))
 all_goals simp_all (maxDischargeDepth:=9)
theorem Qjc {N a0 a1 a2} (ka0:(tL tU) a0) (ka1:tU a1):PT (QdH N a0 a1 a2) (fun r=>(tL tU) r.1):=by
 rw[QdH]
 refine (PT.bif (PT.some ?_) (PT.bn fun y1=>(PT.bif (PT.some ?_) (PT.grd (PT.grd (PT.some ?_))))))
 all_goals simp_all (maxDischargeDepth:=9) []
theorem QiP {N a0} (ka0:tTHeap a0):PT (QdP N a0) (fun r=>tTWork r.1):=by
 rw[QdP]
 refine (PT.bn fun y1=>(PT.bif (PT.some ?_) (PT.bn fun y2=>(PT.bif (PT.some ?_) (PT.bnd (Qhw ?_) fun y3 h1=>(PT.grd (PT.bn fun y8=>(PT.some ?_))))))))
 all_goals simp_all (maxDischargeDepth:=9)
theorem Qgn {N a0} (ka0:tU a0):PT (Qcy N a0) (fun r=>tU r.1):=by
 rw[Qcy]
 refine (PT.bif (PT.some ?_) (PT.bif (PT.some ?_) (PT.some ?_)))
 all_goals simp_all (maxDischargeDepth:=9) []
theorem QfQ {N a2 y1} (ka2:(tL tU) a2):∀ n v2 v3,(tL tU) v3->PT (Qbb N a2 y1 n v2 v3) (tL tU)
 | 0,_,_,_=>by rw[Qbb];exact PT.no
 | n+1,v2,v3,kv3=>by
  have ih:=QfQ (N:=N) (a2:=a2) (y1:=y1) ka2 n
  rw[Qbb]
  refine (PT.bif (PT.get (T:=tU) ?_ fun p4 h1=>(PT.get (T:=tU) ?_ fun p5 h2=>(ih _ _ ?_))) (PT.some ?_))
  all_goals (clear ih;simp_all (maxDischargeDepth:=9) [])
theorem Qhc {N a2 y1 n v2 v3} (ka2:(tL tU) a2) (kv3:(tL tU) v3):PT (Qbb N a2 y1 n v2 v3) (tL tU):=QfQ ka2 n _ _ kv3
theorem Qe1 {N a0 a1 a2} (ka0:(tL tU) a0) (ka1:tU a1) (ka2:(tL tU) a2):PT (QbT N a0 a1 a2) (fun r=>(tL tU) r.1):=by
 rw[QbT]
 refine (PT.bn fun y1=>(PT.bif (PT.some ?_) (PT.grd (PT.bnd (Qhc ?_ ?_) fun y6 h1=>(PT.some ?_)))))
 all_goals simp_all (maxDischargeDepth:=9) []
theorem QfC {N a0 a1 a2} (ka0:(tL tU) a0) (ka1:tU a1) (ka2:tU a2):PT (Qct N a0 a1 a2) (fun r=>(tL tU) r.1):=by
 rw[Qct]
 refine (PT.bnd (Qe1 ?_ ?_ ?_) fun y1 h1=>(PT.some ?_))
 all_goals simp_all (maxDischargeDepth:=9) []
theorem QgF {N a0 a1} (ka0:tTWork a0) (ka1:tU a1):PT (QdJ N a0 a1) tTWork:=by
 rw[QdJ]
 refine (PT.grd (PT.grd (PT.some ?_)))
 all_goals simp_all (maxDischargeDepth:=9)
theorem QiQ {N a0 a1} (ka0:tTWork a0):PT (Qc7 N a0 a1) (fun r=>tTWork r.1∧tU r.2.1):=by
 rw[Qc7]
 refine (PT.grd (PT.jn (Q:=fun k=>∀ _,PT (k ()) _) (fun _=>(PT.bn fun y4=>(PT.bif (PT.some ?_) (PT.bn fun y5=>(PT.grd (PT.grd (PT.bn fun p13=>(PT.bn fun p14=>(PT.bn fun p15=>(PT.some ?_)))))))))) fun j1 hj1=>(PT.bif (PT.bn fun p1=>(PT.bn fun p2=>(PT.bif (PT.bn fun p3=>(PT.bn fun p10=>(PT.bn fun p11=>(PT.bn fun p12=>(PT.some ?_))))) (hj1 ())))) (hj1 ()))))
 all_goals simp_all (maxDischargeDepth:=9)
theorem Qjd {N a0 a1 a2 a3} (ka0:(tL tU) a0) (ka1:tU a1) (ka2:tU a2):PT (Qeg N a0 a1 a2 a3) (fun r=>(tL tU) r.1):=by
 rw[Qeg]
 refine (PT.bnd (Qjc ?_ ?_) fun y1 h1=>(PT.bif (PT.some ?_) (PT.bnd (Qe1 ?_ ?_ ?_) fun y2 h2=>(PT.some ?_))))
 all_goals simp_all (maxDischargeDepth:=9) []
theorem Qhx {N a0} (ka0:tU a0):PT (QcJ N a0) (fun r=>tU r.1):=by
 rw[QcJ]
 refine (PT.bif (PT.some ?_) (PT.some ?_))
 all_goals simp_all (maxDischargeDepth:=9) []
theorem Qf7 {N a0 a1} (ka0:tTWork a0) (ka1:tU a1):PT (Qca N a0 a1) (fun r=>tTWork r.1∧tU r.2.1):=by
 rw[Qca]
 refine (PT.bif (PT.some ?_) (PT.bn fun y1=>(PT.bif (PT.some ?_) (PT.bn fun y2=>(PT.bif (PT.some ?_) (PT.bnd (QdD ?_ ?_) fun y3 h1=>(PT.bnd (Qgn ?_) fun y4 h2=>(PT.bif (PT.some ?_) (PT.bn fun y5=>(PT.bif (PT.some ?_) (PT.bif (PT.some ?_) (PT.bn fun y6=>(PT.bif (PT.bnd (QgF ?_ ?_) fun y7 h3=>(PT.some ?_)) (PT.bn fun p8=>(PT.bif (PT.grd (PT.bn fun p9=>(PT.bn fun y14=>(PT.bnd (QgF ?_ ?_) fun y15 h4=>(PT.some ?_))))) (PT.bnd (Qfx ?_) fun y16 h5=>(PT.bn fun y17=>(PT.bnd (QiQ ?_) fun y18 h6=>(PT.bif (PT.some ?_) (PT.bnd (Qjd ?_ ?_ ?_) fun y19 h7=>(PT.bnd (Qhx ?_) fun y20 h8=>(PT.bnd (QfC ?_ ?_ ?_) fun y21 h9=>(PT.grd (PT.grd (PT.some ?_)))))))))))))))))))))))))
 all_goals simp_all (maxDischargeDepth:=9)
theorem QfR {N a1} (ka1:(tL tU) a1):∀ n v1 v2 v3 v4 v5 v6 v7 v8 v9 v10 v11 v12 v13 v14 v15 v16 v17 v18,(tL tU) v4->(tL tU) v8->(tL tU) v10->(tL tU) v18->PT (Qbc N a1 n v1 v2 v3 v4 v5 v6 v7 v8 v9 v10 v11 v12 v13 v14 v15 v16 v17 v18) (tE (fun r=>tTWork r.1∧(tL tU) r.2.1) (fun r=>(tL tU) r.2.2.1∧(tL tU) r.2.2.2.2.2.2.1∧(tL tU) r.2.2.2.2.2.2.2.2.1∧(tL tU) r.2.2.2.2.2.2.2.2.2.2.2.2.2.2.2.2))
 | 0,_,_,_,_,_,_,_,_,_,_,_,_,_,_,_,_,_,_,_,_,_,_=>by rw[Qbc];exact PT.no
 | n+1,v1,v2,v3,v4,v5,v6,v7,v8,v9,v10,v11,v12,v13,v14,v15,v16,v17,v18,kv4,kv8,kv10,kv18=>by
  have ih:=QfR (N:=N) (a1:=a1) ka1 n
  rw[Qbc]
  refine (PT.bif (PT.get (T:=tU) ?_ fun p19 h1=>(PT.bnd (Qf7 ?_ ?_) fun y20 h2=>(PT.bif (PT.some ?_) (PT.grd (ih _ _ _ _ _ _ _ _ _ _ _ _ _ _ _ _ _ _ ?_ ?_ ?_ ?_))))) (PT.some ?_))
  all_goals (clear ih;simp_all (maxDischargeDepth:=9))
theorem Qhd {N a1 n v1 v2 v3 v4 v5 v6 v7 v8 v9 v10 v11 v12 v13 v14 v15 v16 v17 v18} (ka1:(tL tU) a1) (kv4:(tL tU) v4) (kv8:(tL tU) v8) (kv10:(tL tU) v10) (kv18:(tL tU) v18):PT (Qbc N a1 n v1 v2 v3 v4 v5 v6 v7 v8 v9 v10 v11 v12 v13 v14 v15 v16 v17 v18) (tE (fun r=>tTWork r.1∧(tL tU) r.2.1) (fun r=>(tL tU) r.2.2.1∧(tL tU) r.2.2.2.2.2.2.1∧(tL tU) r.2.2.2.2.2.2.2.2.1∧(tL tU) r.2.2.2.2.2.2.2.2.2.2.2.2.2.2.2.2)):=QfR ka1 n _ _ _ _ _ _ _ _ _ _ _ _ _ _ _ _ _ _ kv4 kv8 kv10 kv18
theorem QiR {N a0 a1} (ka0:tTWork a0) (ka1:(tL tU) a1):PT (QdQ N a0 a1) (fun r=>tTWork r.1∧(tL tU) r.2.1):=by
 rw[QdQ]
 refine (PT.exk (Qhd ?_ ?_ ?_ ?_ ?_) (fun r h1=>(PT.some ?_)) fun y21 h2=>(PT.some ?_))
 all_goals simp_all (maxDischargeDepth:=9)
theorem QgZ {N a0 a1} (ka0:tTWork a0) (ka1:tU a1):PT (Qd9 N a0 a1) tTHeader:=by
 rw[Qd9]
 refine (PT.bnd (QdD ?_ ?_) fun y1 h1=>(PT.bnd (Qfx ?_) fun y2 h2=>(PT.some ?_)))
 all_goals simp_all (maxDischargeDepth:=9)
theorem Qf8 {N p1 y3} (kp1:tU p1):∀ n v4 v5 v6 v7 v8 v9 v10 v11 v12 v13 v14 v15 v16 v17 v18 v19 v20,(tL tU) v7->(tL tU) v11->(tL tU) v13->PT (Qbq N p1 y3 n v4 v5 v6 v7 v8 v9 v10 v11 v12 v13 v14 v15 v16 v17 v18 v19 v20) (tE (fun r=>tTWork r.1) (fun r=>(tL tU) r.2.2.1∧(tL tU) r.2.2.2.2.2.2.1∧(tL tU) r.2.2.2.2.2.2.2.2.1))
 | 0,_,_,_,_,_,_,_,_,_,_,_,_,_,_,_,_,_,_,_,_=>by rw[Qbq];exact PT.no
 | n+1,v4,v5,v6,v7,v8,v9,v10,v11,v12,v13,v14,v15,v16,v17,v18,v19,v20,kv7,kv11,kv13=>by
  have ih:=Qf8 (N:=N) (p1:=p1) (y3:=y3) kp1 n
  rw[Qbq]
  refine (PT.bif (PT.bn fun p21=>(PT.bnd (QdD ?_ ?_) fun y22 h1=>(PT.bnd (Qf7 ?_ ?_) fun y23 h2=>(PT.bif (PT.some ?_) (PT.bnd (QfC ?_ ?_ ?_) fun y24 h3=>(ih _ _ _ _ _ _ _ _ _ _ _ _ _ _ _ _ _ ?_ ?_ ?_)))))) (PT.some ?_))
  all_goals (clear ih;simp_all (maxDischargeDepth:=9))
theorem Qhy {N p1 y3 n v4 v5 v6 v7 v8 v9 v10 v11 v12 v13 v14 v15 v16 v17 v18 v19 v20} (kp1:tU p1) (kv7:(tL tU) v7) (kv11:(tL tU) v11) (kv13:(tL tU) v13):PT (Qbq N p1 y3 n v4 v5 v6 v7 v8 v9 v10 v11 v12 v13 v14 v15 v16 v17 v18 v19 v20) (tE (fun r=>tTWork r.1) (fun r=>(tL tU) r.2.2.1∧(tL tU) r.2.2.2.2.2.2.1∧(tL tU) r.2.2.2.2.2.2.2.2.1)):=Qf8 kp1 n _ _ _ _ _ _ _ _ _ _ _ _ _ _ _ _ _ kv7 kv11 kv13
theorem Qje {N a0} (ka0:tTWork a0):PT (Qeh N a0) (fun r=>tTWork r.1):=by
 rw[Qeh]
 refine (PT.bif (PT.some ?_) (PT.get (T:=tU) ?_ fun p1 h1=>(PT.bnd (QgZ ?_ ?_) fun y2 h2=>(PT.bn fun y3=>(PT.exk (Qhy ?_ ?_ ?_ ?_) (fun r h3=>(PT.some ?_)) fun y25 h4=>(PT.some ?_))))))
 all_goals simp_all (maxDischargeDepth:=9)
theorem Qgo {N}:∀ n v1 v2 v3 v4 v5 v6 v7 v8 v9 v10 v11 v12 v13 v14 v15 v16,(tL tU) v3->(tL tU) v7->(tL tU) v9->PT (QbB N n v1 v2 v3 v4 v5 v6 v7 v8 v9 v10 v11 v12 v13 v14 v15 v16) (fun r=>tTWork r.1)
 | 0,_,_,_,_,_,_,_,_,_,_,_,_,_,_,_,_,_,_,_=>by rw[QbB];exact PT.no
 | n+1,v1,v2,v3,v4,v5,v6,v7,v8,v9,v10,v11,v12,v13,v14,v15,v16,kv3,kv7,kv9=>by
  have ih:=Qgo (N:=N) n
  rw[QbB]
  refine (PT.bnd (Qje ?_) fun y17 h1=>(PT.bif (PT.some ?_) (PT.bif (PT.some ?_) (ih _ _ _ _ _ _ _ _ _ _ _ _ _ _ _ _ ?_ ?_ ?_))))
  all_goals (clear ih;simp_all (maxDischargeDepth:=9))
theorem Qie {N n v1 v2 v3 v4 v5 v6 v7 v8 v9 v10 v11 v12 v13 v14 v15 v16} (kv3:(tL tU) v3) (kv7:(tL tU) v7) (kv9:(tL tU) v9):PT (QbB N n v1 v2 v3 v4 v5 v6 v7 v8 v9 v10 v11 v12 v13 v14 v15 v16) (fun r=>tTWork r.1):=Qgo n _ _ _ _ _ _ _ _ _ _ _ _ _ _ _ _ kv3 kv7 kv9
theorem Qjs {N a0} (ka0:tTWork a0):PT (QeJ N a0) (fun r=>tTWork r.1):=by
 rw[QeJ]
 refine (PT.bnd (Qie ?_ ?_ ?_) fun r h1=>(PT.some ?_))
 all_goals simp_all (maxDischargeDepth:=9)
theorem QiS {N a0 a1} (ka0:tTWork a0) (ka1:tU a1):PT (QdR N a0 a1) tU:=by
 rw[QdR]
 refine (PT.bn fun y1=>(PT.bif (PT.some ?_) (PT.bnd (QdD ?_ ?_) fun y2 h1=>(PT.bnd (Qgn ?_) fun y3 h2=>(PT.some ?_)))))
 all_goals simp_all (maxDischargeDepth:=9)
theorem Qf9 {N a0 v4 p5 v1 v2} (ka0:tTWork a0):∀ n v7 v8,(tL tU) v8->PT (Qbr N a0 v4 p5 v1 v2 n v7 v8) (tL tU)
 | 0,_,_,_=>by rw[Qbr];exact PT.no
 | n+1,v7,v8,kv8=>by
  have ih:=Qf9 (N:=N) (a0:=a0) (v4:=v4) (p5:=p5) (v1:=v1) (v2:=v2) ka0 n
  rw[Qbr]
  refine (PT.bif (PT.get (T:=tU) ?_ fun p9 h1=>(ih _ _ ?_)) (PT.some ?_))
  all_goals (clear ih;simp_all (maxDischargeDepth:=9))
theorem Qhz {N a0 v4 p5 v1 v2 n v7 v8} (ka0:tTWork a0) (kv8:(tL tU) v8):PT (Qbr N a0 v4 p5 v1 v2 n v7 v8) (tL tU):=Qf9 ka0 n _ _ kv8
theorem Qga {N a0} (ka0:tTWork a0):∀ n v1 v2 v3 v4,(tL tU) v3->PT (QaX N a0 n v1 v2 v3 v4) (fun r=>(tL tU) r.2.1)
 | 0,_,_,_,_,_=>by rw[QaX];exact PT.no
 | n+1,v1,v2,v3,v4,kv3=>by
  have ih:=Qga (N:=N) (a0:=a0) ka0 n
  rw[QaX]
  refine (PT.grd (PT.bif (PT.bn fun p5=>(PT.bif (ih _ _ _ _ ?_) (PT.bif (ih _ _ _ _ ?_) (PT.bn fun p6=>(PT.bnd (Qhz ?_ ?_) fun y10 h1=>(ih _ _ _ _ ?_)))))) (PT.some ?_)))
  all_goals (clear ih;simp_all (maxDischargeDepth:=9))
theorem QhA {N a0 n v1 v2 v3 v4} (ka0:tTWork a0) (kv3:(tL tU) v3):PT (QaX N a0 n v1 v2 v3 v4) (fun r=>(tL tU) r.2.1):=Qga ka0 n _ _ _ _ kv3
theorem Qjf {N a0} (ka0:tTWork a0):PT (Qei N a0) tTWork:=by
 rw[Qei]
 refine (PT.grd (PT.grd (PT.bnd (QhA ?_ ?_) fun y11 h1=>(PT.some ?_))))
 all_goals simp_all (maxDischargeDepth:=9)
theorem Qgb {N a0} (ka0:tTWork a0):∀ n v1 v2 v3,(tL tU) v2->PT (QaG N a0 n v1 v2 v3) (fun r=>(tL tU) r.1)
 | 0,_,_,_,_=>by rw[QaG];exact PT.no
 | n+1,v1,v2,v3,kv2=>by
  have ih:=Qgb (N:=N) (a0:=a0) ka0 n
  rw[QaG]
  refine (PT.bif (PT.get (T:=tU) ?_ fun p4 h1=>(PT.bn fun y5=>(PT.bn fun y6=>(PT.bif (ih _ _ _ ?_) (PT.get (T:=tU) ?_ fun p7 h2=>(PT.bn fun y8=>(PT.bif (ih _ _ _ ?_) (PT.get (T:=tU) ?_ fun p9 h3=>(PT.bnd (QgZ ?_ ?_) fun y10 h4=>(PT.bnd (Qfw ?_) fun y11 h5=>(PT.get (T:=tU) ?_ fun p12 h6=>(PT.grd (PT.grd (PT.bnd (Qe1 ?_ ?_ ?_) fun y13 h7=>(ih _ _ _ ?_))))))))))))))) (PT.some ?_))
  all_goals (clear ih;simp_all (maxDischargeDepth:=9))
theorem QhB {N a0 n v1 v2 v3} (ka0:tTWork a0) (kv2:(tL tU) v2):PT (QaG N a0 n v1 v2 v3) (fun r=>(tL tU) r.1):=Qgb ka0 n _ _ _ kv2
theorem Qjg {N a0} (ka0:tTWork a0):PT (Qej N a0) tTWork:=by
 rw[Qej]
 refine (PT.bnd (QhB ?_ ?_) fun y14 h1=>(PT.some ?_))
 all_goals simp_all (maxDischargeDepth:=9)
theorem QfA {N a2 y5 y6} (ka2:(tL tU) a2) (ky5:(fun r=>tTWork r.1∧(tL tU) r.2.1) y5) (ky6:(fun r=>tTWork r.1) y6):∀ n v7 v8 v9,(tL tU) v9->PT (QaM N a2 y5 y6 n v7 v8 v9) (fun r=>(tL tU) r.2)
 | 0,_,_,_,_=>by rw[QaM];exact PT.no
 | n+1,v7,v8,v9,kv9=>by
  have ih:=QfA (N:=N) (a2:=a2) (y5:=y5) (y6:=y6) ka2 ky5 ky6 n
  rw[QaM]
  refine (PT.bif (PT.get (T:=tU) ?_ fun p10 h1=>(PT.jn (Q:=fun k=>∀ x14 x15,tU x14->PT (k x14 x15) _) (fun x14 x15 h2=>(PT.grd (ih _ _ _ ?_))) fun j3 hj3=>(PT.bif (PT.get (T:=tU) ?_ fun p11 h3=>(PT.bnd (QiS ?_ ?_) fun y12 h4=>(PT.jn (Q:=fun k=>∀ x13,PT (k x13) _) (fun x13=>(hj3 _ _ ?_)) fun j2 hj2=>(PT.bif (hj2 _) (hj2 _))))) (hj3 _ _ ?_)))) (PT.some ?_))
  all_goals (clear ih;simp_all (maxDischargeDepth:=9))
theorem QgJ {N a2 y5 y6 n v7 v8 v9} (ka2:(tL tU) a2) (ky5:(fun r=>tTWork r.1∧(tL tU) r.2.1) y5) (ky6:(fun r=>tTWork r.1) y6) (kv9:(tL tU) v9):PT (QaM N a2 y5 y6 n v7 v8 v9) (fun r=>(tL tU) r.2):=QfA ka2 ky5 ky6 n _ _ _ kv9
theorem QhC {N a0 a1 a2} (ka0:tTHeap a0) (ka1:(tL tU) a1) (ka2:(tL tU) a2):PT (QcK N a0 a1 a2) (fun r=>tTHeap r.1∧(tL tU) r.2.1∧(tL tU) r.2.2.1):=by
 rw[QcK]
 refine (PT.bn fun y1=>(PT.bif (PT.some ?_) (PT.jn (Q:=fun k=>∀ _,PT (k ()) _) (fun _=>(PT.some ?_)) fun j1 hj1=>(PT.bn fun y2=>(PT.bif (hj1 ()) (PT.bn fun y3=>(PT.bif (hj1 ()) (PT.bnd (QiP ?_) fun y4 h1=>(PT.bnd (QiR ?_ ?_) fun y5 h2=>(PT.bif (PT.some ?_) (PT.bnd (Qjs ?_) fun y6 h3=>(PT.bif (PT.some ?_) (PT.bnd (QgJ ?_ ?_ ?_ ?_) fun y16 h4=>(PT.bnd (Qjg ?_) fun y17 h5=>(PT.bnd (Qjf ?_) fun y18 h6=>(PT.jn (Q:=fun k=>∀ x20,PT (k x20) _) (fun x20=>(PT.some ?_)) fun j4 hj4=>(PT.bif (PT.bn fun p19=>(hj4 _)) (hj4 _))))))))))))))))))
 all_goals simp_all (maxDischargeDepth:=9)
theorem QfJ {N a0} (ka0:tTEnv a0):∀ n v3 v4,(tL tU) v4->PT (Qa1 N a0 n v3 v4) (tL tU)
 | 0,_,_,_=>by rw[Qa1];exact PT.no
 | n+1,v3,v4,kv4=>by
  have ih:=QfJ (N:=N) (a0:=a0) ka0 n
  rw[Qa1]
  refine (PT.bif (PT.get (T:=tTPin) ?_ fun p5 h1=>(PT.grd (ih _ _ ?_))) (PT.some ?_))
  all_goals (clear ih;simp_all (maxDischargeDepth:=9))
theorem Qg0 {N a0 n v3 v4} (ka0:tTEnv a0) (kv4:(tL tU) v4):PT (Qa1 N a0 n v3 v4) (tL tU):=QfJ ka0 n _ _ kv4
theorem Qif {N a0} (ka0:tTEnv a0):PT (Qdt N a0) (tL tU):=by
 rw[Qdt]
 refine (PT.grd (PT.bnd (QfO ?_) fun y1 h1=>(PT.grd (PT.bnd (Qew ?_) fun y2 h2=>(PT.grd (PT.bnd (Qg0 ?_ ?_) fun y6 h3=>(PT.some ?_)))))))
 all_goals simp_all (maxDischargeDepth:=9)
theorem Qgc {N a0 a1} (ka0:tTLocals a0) (ka1:(tL tU) a1):∀ n v3 v4 v5,(tL tTSlot) v5->PT (Qa8 N a0 a1 n v3 v4 v5) (tE (fun r=>tTLocals r.1) (tL tTSlot))
 | 0,_,_,_,_=>by rw[Qa8];exact PT.no
 | n+1,v3,v4,v5,kv5=>by
  have ih:=Qgc (N:=N) (a0:=a0) (a1:=a1) ka0 ka1 n
  rw[Qa8]
  refine (PT.grd (PT.bif (PT.get (T:=tTSlot) ?_ fun p6 h1=>(PT.bif (ih _ _ _ ?_) (PT.get (T:=tU) ?_ fun p7 h2=>(PT.bif (PT.some ?_) (PT.get (T:=tU) ?_ fun p8 h3=>(PT.get (T:=tTSlot) ?_ fun p9 h4=>(ih _ _ _ ?_))))))) (PT.some ?_)))
  all_goals (clear ih;simp_all (maxDischargeDepth:=9))
theorem QhD {N a0 a1 n v3 v4 v5} (ka0:tTLocals a0) (ka1:(tL tU) a1) (kv5:(tL tTSlot) v5):PT (Qa8 N a0 a1 n v3 v4 v5) (tE (fun r=>tTLocals r.1) (tL tTSlot)):=Qgc ka0 ka1 n _ _ _ kv5
theorem Qjh {N a0 a1} (ka0:tTLocals a0) (ka1:(tL tU) a1):PT (Qek N a0 a1) (fun r=>tTLocals r.1):=by
 rw[Qek]
 refine (PT.bn fun y1=>(PT.bif (PT.some ?_) (PT.bnd (QfO ?_) fun y2 h1=>(PT.bif (PT.some ?_) (PT.grd (PT.exk (QhD ?_ ?_ ?_) (fun r h2=>(PT.some ?_)) fun y10 h3=>(PT.some ?_)))))))
 all_goals simp_all (maxDischargeDepth:=9)
theorem QfB {N a0 y4 y5 y6 y7 y8 y9} (ka0:tTEnv a0) (ky4:(fun r=>tTHeap r.1∧(tL tU) r.2.1∧(tL tU) r.2.2.1) y4) (ky5:(tL tU) y5) (ky6:(tL tU) y6) (ky7:(fun r=>tTLocals r.1) y7) (ky8:(fun r=>tTTable r.1) y8) (ky9:(fun r=>tTTable r.1) y9):∀ n v10 v11,(tL tTPin) v11->PT (QaN N a0 y4 y5 y6 y7 y8 y9 n v10 v11) (tL tTPin)
 | 0,_,_,_=>by rw[QaN];exact PT.no
 | n+1,v10,v11,kv11=>by
  have ih:=QfB (N:=N) (a0:=a0) (y4:=y4) (y5:=y5) (y6:=y6) (y7:=y7) (y8:=y8) (y9:=y9) ka0 ky4 ky5 ky6 ky7 ky8 ky9 n
  rw[QaN]
  refine (PT.bif (PT.get (T:=tU) ?_ fun p12 h1=>(PT.get (T:=tTPin) ?_ fun p13 h2=>(PT.grd (ih _ _ ?_)))) (PT.some ?_))
  all_goals (clear ih;simp_all (maxDischargeDepth:=9))
theorem QgK {N a0 y4 y5 y6 y7 y8 y9 n v10 v11} (ka0:tTEnv a0) (ky4:(fun r=>tTHeap r.1∧(tL tU) r.2.1∧(tL tU) r.2.2.1) y4) (ky5:(tL tU) y5) (ky6:(tL tU) y6) (ky7:(fun r=>tTLocals r.1) y7) (ky8:(fun r=>tTTable r.1) y8) (ky9:(fun r=>tTTable r.1) y9) (kv11:(tL tTPin) v11):PT (QaN N a0 y4 y5 y6 y7 y8 y9 n v10 v11) (tL tTPin):=QfB ka0 ky4 ky5 ky6 ky7 ky8 ky9 n _ _ kv11
theorem Qgd {N a0} (ka0:tTEnv a0):PT (Qcb N a0) (fun r=>tTEnv r.1):=by
 rw[Qcb]
 refine (PT.bn fun y1=>(PT.bif (PT.some ?_) (PT.bnd (Qif ?_) fun y2 h1=>(PT.bnd (Qew ?_) fun y3 h2=>(PT.bnd (QhC ?_ ?_ ?_) fun y4 h3=>(PT.bif (PT.some ?_) (PT.bnd (QfO ?_) fun y5 h4=>(PT.bnd (Qew ?_) fun y6 h5=>(PT.grd (PT.grd (PT.grd (PT.grd (PT.bnd (Qjh ?_ ?_) fun y7 h6=>(PT.grd (PT.bnd (QfP ?_ ?_) fun y8 h7=>(PT.bnd (QfP ?_ ?_) fun y9 h8=>(PT.bnd (QgK ?_ ?_ ?_ ?_ ?_ ?_ ?_ ?_) fun y14 h9=>(PT.some ?_))))))))))))))))))
 all_goals simp_all (maxDischargeDepth:=9)
theorem Qac {N a0}:PT (Qab N a0) (fun r=>tTEnv r.1∧tU r.2.1):=by
 rw[Qab]
 refine (PT.some ?_)
 all_goals simp_all (maxDischargeDepth:=9)
theorem QiT {N a0 a1} (ka0:tTHeap a0):PT (QdS N a0 a1) (fun r=>tTHeap r.1∧tU r.2.1):=by
 rw[QdS]
 refine (PT.grd (PT.bn fun y1=>(PT.bn fun y2=>(PT.jn (Q:=fun k=>∀ _,PT (k ()) _) (fun _=>(PT.bn fun y5=>(PT.bif (PT.some ?_) (PT.bif (PT.some ?_) (PT.bn fun y6=>(PT.bn fun p11=>(PT.bn fun p12=>(PT.bn fun p13=>(PT.some ?_))))))))) fun j1 hj1=>(PT.bif (hj1 ()) (PT.bn fun p3=>(PT.bif (hj1 ()) (PT.bn fun p4=>(PT.bif (hj1 ()) (PT.bif (hj1 ()) (PT.bn fun p14=>(PT.bn fun p15=>(PT.bn fun p16=>(PT.some ?_))))))))))))))
 all_goals simp_all (maxDischargeDepth:=9)
theorem QiU {N a0 a1 a2} (ka0:tTHeap a0):PT (QdT N a0 a1 a2) (fun r=>tTHeap r.1∧tU r.2.1):=by
 rw[QdT]
 refine (PT.bn fun y1=>(PT.bif (PT.some ?_) (PT.bn fun y2=>(PT.bn fun y3=>(PT.bif (PT.some ?_) (PT.bn fun y4=>(PT.some ?_)))))))
 all_goals simp_all (maxDischargeDepth:=9)
theorem Qji {N a0 a1 a2} (ka0:tTHeap a0) (ka1:tU a1) (ka2:tTHeader a2):PT (Qel N a0 a1 a2) (fun r=>tTHeap r.1):=by
 rw[Qel]
 refine (PT.bnd (Qfw ?_) fun y1 h1=>(PT.bn fun y2=>(PT.bif (PT.some ?_) (PT.bif (PT.some ?_) (PT.grd (PT.grd (PT.bnd (Qe1 ?_ ?_ ?_) fun y3 h2=>(PT.bif (PT.some ?_) (PT.some ?_)))))))))
 all_goals simp_all (maxDischargeDepth:=9)
theorem Qg1 {N a0 a1} (ka0:tTHeap a0) (ka1:tTHeader a1):PT (Qea N a0 a1) (fun r=>tTHeap r.1∧tU r.2.1):=by
 rw[Qea]
 refine (PT.bn fun y1=>(PT.bif (PT.some ?_) (PT.bn fun y2=>(PT.bif (PT.some ?_) (PT.bn fun y3=>(PT.bn fun y4=>(PT.bnd (QiT ?_) fun y5 h1=>(PT.jn (Q:=fun k=>∀ x7 x8 x9 x10 x11 x12 x13 x14,tU x7->(tL tU) x11->PT (k x7 x8 x9 x10 x11 x12 x13 x14) _) (fun x7 x8 x9 x10 x11 x12 x13 x14 h2 h3=>(PT.bif (PT.some ?_) (PT.bnd (Qji ?_ ?_ ?_) fun y15 h4=>(PT.some ?_)))) fun j1 hj1=>(PT.bif (PT.bnd (QiU ?_) fun y6 h5=>(hj1 _ _ _ _ _ _ _ _ ?_ ?_)) (hj1 _ _ _ _ _ _ _ _ ?_ ?_))))))))))
 all_goals simp_all (maxDischargeDepth:=9)
theorem QiV {N a0 a1} (ka0:tTEnv a0) (ka1:tTHeader a1):PT (QdU N a0 a1) (fun r=>tTEnv r.1∧tU r.2.1):=by
 rw[QdU]
 refine (PT.bn fun y1=>(PT.bif (PT.some ?_) (PT.bnd (Qg1 ?_ ?_) fun y2 h1=>(PT.jn (Q:=fun k=>∀ x5 x6 x7 x8 x9 x10 x11 x12 x13 x14 x15 x16 x17 x18 x19 x20 x21 x22 x23 x24 x25,tU x5->(tL tU) x9->(tL tTSlot) x13->(tL tTEntry) x16->(tL tTEntry) x17->(tL tTPin) x18->(tL tU) x19->(tL tU) x22->PT (k x5 x6 x7 x8 x9 x10 x11 x12 x13 x14 x15 x16 x17 x18 x19 x20 x21 x22 x23 x24 x25) _) (fun x5 x6 x7 x8 x9 x10 x11 x12 x13 x14 x15 x16 x17 x18 x19 x20 x21 x22 x23 x24 x25 h2 h3 h4 h5 h6 h7 h8 h9=>(PT.bif (PT.some ?_) (PT.some ?_))) fun j1 hj1=>(PT.bif (PT.bnd (Qgd ?_) fun y3 h10=>(PT.bif (PT.some ?_) (PT.bnd (Qg1 ?_ ?_) fun y4 h11=>(hj1 _ _ _ _ _ _ _ _ _ _ _ _ _ _ _ _ _ _ _ _ _ ?_ ?_ ?_ ?_ ?_ ?_ ?_ ?_)))) (hj1 _ _ _ _ _ _ _ _ _ _ _ _ _ _ _ _ _ _ _ _ _ ?_ ?_ ?_ ?_ ?_ ?_ ?_ ?_))))))
 all_goals simp_all (maxDischargeDepth:=9)
theorem Qe2 {N a0 a1} (ka0:tTEnv a0) (ka1:tU a1):PT (QbU N a0 a1) (fun r=>tTEnv r.1∧tU r.2.1):=by
 rw[QbU]
 refine (PT.bif (PT.some ?_) (PT.bnd (Qf2 ?_ ?_) fun y1 h1=>(PT.bif (PT.bnd (Qac) fun y2 h2=>(PT.some ?_)) (PT.bnd (QeC) fun y3 h3=>(PT.some ?_)))))
 all_goals simp_all (maxDischargeDepth:=9)
theorem Qig {N a0 a1 a2 a3} (ka0:tTEnv a0) (ka2:tU a2) (ka3:tU a3):PT (Qdu N a0 a1 a2 a3) (fun r=>tTEnv r.1∧tU r.2.1):=by
 rw[Qdu]
 refine (PT.bif (PT.bnd (Qac) fun y1 h1=>(PT.some ?_)) (PT.bnd (Qgx ?_ ?_) fun y2 h2=>(PT.jn (Q:=fun k=>∀ _,PT (k ()) _) (fun _=>(PT.bnd (Qac) fun y4 h3=>(PT.some ?_))) fun j1 hj1=>(PT.bif (hj1 ()) (PT.bn fun y3=>(PT.bif (hj1 ()) (PT.bnd (Qf2 ?_ ?_) fun y5 h4=>(PT.bif (PT.bnd (Qac) fun y6 h5=>(PT.some ?_)) (PT.bnd (QiV ?_ ?_) fun y7 h6=>(PT.bif (PT.bnd (Qac) fun y8 h7=>(PT.some ?_)) (PT.bnd (Qe2 ?_ ?_) fun y9 h8=>(PT.some ?_))))))))))))
 all_goals simp_all (maxDischargeDepth:=9)
theorem QbI {N a0 a1} (ka0:tTEnv a0) (ka1:tU a1):PT (QaH N a0 a1) (fun r=>tU r.1):=by
 rw[QaH]
 refine (PT.bn fun y1=>(PT.bif (PT.some ?_) (PT.bif (PT.some ?_) (PT.bn fun y2=>(PT.bif (PT.some ?_) (PT.bif (PT.bnd (Qf3 ?_) fun y3 h1=>(PT.some ?_)) (PT.bif (PT.bnd (QeN ?_) fun y4 h2=>(PT.some ?_)) (PT.bnd (QeN ?_) fun y5 h3=>(PT.some ?_)))))))))
 all_goals simp_all (maxDischargeDepth:=9)
theorem Qe3 {N a0 a1} (ka0:tTEnv a0) (ka1:tU a1):PT (QbV N a0 a1) (fun r=>tU r.1):=by
 rw[QbV]
 refine (PT.bnd (QbI ?_ ?_) fun y1 h1=>(PT.bif (PT.bif (PT.some ?_) (PT.some ?_)) (PT.some ?_)))
 all_goals simp_all (maxDischargeDepth:=9)
theorem Qgy {N a0 a1 a2 a3} (ka0:tTEnv a0) (ka1:tU a1) (ka2:tU a2):PT (Qc8 N a0 a1 a2 a3) (fun r=>tU r.1):=by
 rw[Qc8]
 refine (PT.bnd (Qe3 ?_ ?_) fun y1 h1=>(PT.bif (PT.some ?_) (PT.bnd (Qf6 ?_ ?_) fun y2 h2=>(PT.bif (PT.some ?_) (PT.bn fun y3=>(PT.bif (PT.some ?_) (PT.some ?_)))))))
 all_goals simp_all (maxDischargeDepth:=9)
theorem Qgz {N a0 a1 a2} (ka0:tTHeap a0) (ka1:tU a1):PT (Qc9 N a0 a1 a2) (fun r=>tU r.1):=by
 rw[Qc9]
 refine (PT.bnd (Qf6 ?_ ?_) fun y1 h1=>(PT.bif (PT.some ?_) (PT.bif (PT.some ?_) (PT.bif (PT.some ?_) (PT.bnd (QdD ?_ ?_) fun y2 h2=>(PT.some ?_))))))
 all_goals simp_all (maxDischargeDepth:=9)
theorem Qhe {N a0 a1 a2 a3} (ka0:tTHeap a0) (ka1:tU a1) (ka3:tU a3):PT (QbP N a0 a1 a2 a3) (fun r=>tTHeap r.1):=by
 rw[QbP]
 refine (PT.bnd (Qgz ?_ ?_) fun y1 h1=>(PT.bif (PT.some ?_) (PT.bnd (QfC ?_ ?_ ?_) fun y2 h2=>(PT.some ?_))))
 all_goals simp_all (maxDischargeDepth:=9)
theorem QiW {N a0 a1 a2 a3 a4} (ka0:tTEnv a0) (ka2:tU a2) (ka3:tU a3) (ka4:tU a4):PT (QdV N a0 a1 a2 a3 a4) (fun r=>tTEnv r.1∧tU r.2.1):=by
 rw[QdV]
 refine (PT.jn (Q:=fun k=>∀ x3 x4 x5,tU x3->PT (k x3 x4 x5) _) (fun x3 x4 x5 h1=>(PT.bif (PT.bnd (Qac) fun y6 h2=>(PT.some ?_)) (PT.bnd (Qgz ?_ ?_) fun y7 h3=>(PT.bif (PT.some ?_) (PT.bif (PT.bnd (Qe2 ?_ ?_) fun y8 h4=>(PT.some ?_)) (PT.jn (Q:=fun k=>∀ x11,tU x11->PT (k x11) _) (fun x11 h5=>(PT.bnd (Qhe ?_ ?_ ?_) fun y12 h6=>(PT.some ?_))) fun j2 hj2=>(PT.bif (PT.bnd (QbI ?_ ?_) fun y9 h7=>(PT.bif (PT.bnd (Qac) fun y10 h8=>(PT.some ?_)) (hj2 _ ?_))) (hj2 _ ?_)))))))) fun j1 hj1=>(PT.bif (PT.bnd (Qgy ?_ ?_ ?_) fun y1 h9=>(hj1 _ _ _ ?_)) (PT.bnd (Qgy ?_ ?_ ?_) fun y2 h10=>(hj1 _ _ _ ?_))))
 all_goals simp_all (maxDischargeDepth:=9)
theorem QiX {N a0 a1 a2 a3} (ka0:tTEnv a0) (ka2:tU a2) (ka3:tU a3):PT (QdW N a0 a1 a2 a3) (fun r=>tTEnv r.1∧tU r.2.1):=by
 rw[QdW]
 refine (PT.jn (Q:=fun k=>∀ x1,PT (k x1) _) (fun x1=>(PT.bif (PT.bnd (Qe3 ?_ ?_) fun y2 h1=>(PT.bif (PT.bnd (Qac) fun y3 h2=>(PT.some ?_)) (PT.bnd (Qf6 ?_ ?_) fun y4 h3=>(PT.bif (PT.some ?_) (PT.some ?_))))) (PT.bif (PT.bnd (QbI ?_ ?_) fun y5 h4=>(PT.bif (PT.bnd (Qac) fun y6 h5=>(PT.some ?_)) (PT.bnd (QbI ?_ ?_) fun y7 h6=>(PT.bif (PT.bnd (Qac) fun y8 h7=>(PT.some ?_)) (PT.bif (PT.some ?_) (PT.some ?_)))))) (PT.bnd (QbI ?_ ?_) fun y9 h8=>(PT.bif (PT.bnd (Qac) fun y10 h9=>(PT.some ?_)) (PT.bnd (Qe2 ?_ ?_) fun y11 h10=>(PT.some ?_))))))) fun j1 hj1=>(PT.bif (hj1 _) (hj1 _)))
 all_goals simp_all (maxDischargeDepth:=9)
theorem QhE {N a0 a1 a2} (ka0:tTEnv a0) (ka2:tU a2):PT (QcL N a0 a1 a2) (fun r=>tTEnv r.1∧tU r.2.1):=by
 rw[QcL]
 refine (PT.bnd (Qe3 ?_ ?_) fun y1 h1=>(PT.bif (PT.bnd (Qac) fun y2 h2=>(PT.some ?_)) (PT.jn (Q:=fun k=>∀ x3 x4,(tL tTEntry) x4->PT (k x3 x4) _) (fun x3 x4 h3=>(PT.bnd (Qf4 ?_ ?_) fun y5 h4=>(PT.bif (PT.bnd (Qac) fun y6 h5=>(PT.some ?_)) (PT.jn (Q:=fun k=>∀ x7 x8,(tL tTEntry) x7->(tL tTEntry) x8->PT (k x7 x8) _) (fun x7 x8 h6 h7=>(PT.bnd (QeC) fun y9 h8=>(PT.some ?_))) fun j2 hj2=>(PT.bif (hj2 _ _ ?_ ?_) (hj2 _ _ ?_ ?_)))))) fun j1 hj1=>(PT.bif (hj1 _ _ ?_) (hj1 _ _ ?_)))))
 all_goals simp_all (maxDischargeDepth:=9)
theorem Qih {N a0 a1 a2} (ka0:tTEnv a0) (ka2:tU a2):PT (Qdv N a0 a1 a2) (fun r=>tTEnv r.1∧tU r.2.1):=by
 rw[Qdv]
 refine (PT.bif (PT.bnd (Qac) fun y1 h1=>(PT.some ?_)) (PT.bnd (QbI ?_ ?_) fun y2 h2=>(PT.bif (PT.bnd (Qac) fun y3 h3=>(PT.some ?_)) (PT.bn fun y4=>(PT.jn (Q:=fun k=>∀ _,PT (k ()) _) (fun _=>(PT.bif (PT.bnd (Qgm ?_) fun y6 h4=>(PT.some ?_)) (PT.bif (PT.bnd (QeD ?_) fun y7 h5=>(PT.some ?_)) (PT.bnd (QeD ?_) fun y8 h6=>(PT.some ?_))))) fun j2 hj2=>(PT.jn (Q:=fun k=>∀ _,PT (k ()) _) (fun _=>(PT.bnd (Qac) fun y5 h7=>(PT.some ?_))) fun j1 hj1=>(PT.bif (PT.bif (hj1 ()) (PT.bif (PT.bif (hj1 ()) (PT.bif (PT.bif (hj1 ()) (hj2 ())) (hj2 ()))) (PT.bif (PT.bif (hj1 ()) (hj2 ())) (hj2 ())))) (PT.bif (PT.bif (hj1 ()) (PT.bif (PT.bif (hj1 ()) (hj2 ())) (hj2 ()))) (PT.bif (PT.bif (hj1 ()) (hj2 ())) (hj2 ()))))))))))
 all_goals simp_all (maxDischargeDepth:=9)
theorem Qii {N a0 a1 a2} (ka0:tTEnv a0) (ka2:tU a2):PT (Qdw N a0 a1 a2) (fun r=>tTEnv r.1∧tU r.2.1):=by
 rw[Qdw]
 refine (PT.bif (PT.bif (PT.bnd (Qac) fun y1 h1=>(PT.some ?_)) (PT.bnd (QgE ?_) fun y2 h2=>(PT.bif (PT.bnd (Qac) fun y3 h3=>(PT.some ?_)) (PT.some ?_)))) (PT.bnd (QbI ?_ ?_) fun y4 h4=>(PT.bif (PT.bnd (Qac) fun y5 h5=>(PT.some ?_)) (PT.bnd (QgW ?_) fun y6 h6=>(PT.bif (PT.bnd (Qac) fun y7 h7=>(PT.some ?_)) (PT.bnd (Qe2 ?_ ?_) fun y8 h8=>(PT.some ?_)))))))
 all_goals simp_all (maxDischargeDepth:=9)
theorem QfD {N a0 a1 a2} (ka0:tTHeap a0) (ka1:tU a1):PT (QbW N a0 a1 a2) tTHeap:=by
 rw[QbW]
 refine (PT.grd (PT.bn fun y1=>(PT.bn fun p2=>(PT.bn fun p3=>(PT.some ?_)))))
 all_goals simp_all (maxDischargeDepth:=9)
theorem QhF {N a0 a1 a2} (ka0:tTHeap a0) (ka1:(tL tTPin) a1) (ka2:tU a2):PT (QcM N a0 a1 a2) (fun r=>tTHeap r.1∧(tL tTPin) r.2.1):=by
 rw[QcM]
 refine (PT.bn fun y1=>(PT.bif (PT.some ?_) (PT.bif (PT.some ?_) (PT.bn fun y2=>(PT.bif (PT.some ?_) (PT.grd (PT.get (T:=tTPin) ?_ fun p3 h1=>(PT.get (T:=tTPin) ?_ fun p4 h2=>(PT.get (T:=tTPin) ?_ fun p5 h3=>(PT.bif (PT.grd (PT.grd (PT.grd (PT.bnd (QfD ?_ ?_) fun y7 h4=>(PT.some ?_))))) (PT.bnd (QfD ?_ ?_) fun y8 h5=>(PT.some ?_))))))))))))
 all_goals simp_all (maxDischargeDepth:=9)
theorem Qjt {N a0 a1 a2} (ka0:tTHeap a0) (ka1:(tL tTPin) a1) (ka2:tU a2):PT (QeK N a0 a1 a2) (fun r=>tTHeap r.1∧(tL tTPin) r.2.1∧tU r.2.2.1):=by
 rw[QeK]
 refine (PT.bn fun y1=>(PT.bif (PT.some ?_) (PT.bif (PT.some ?_) (PT.bn fun y2=>(PT.bif (PT.some ?_) (PT.bn fun y3=>(PT.jn (Q:=fun k=>∀ _,PT (k ()) _) (fun _=>(PT.grd (PT.jn (Q:=fun k=>∀ x11,(tL tTPin) x11->PT (k x11) _) (fun x11 h1=>(PT.bnd (QfD ?_ ?_) fun y12 h2=>(PT.some ?_))) fun j2 hj2=>(PT.bif (PT.get (T:=tTPin) ?_ fun p9 h3=>(PT.get (T:=tTPin) ?_ fun p10 h4=>(hj2 _ ?_))) (PT.grd (hj2 _ ?_)))))) fun j1 hj1=>(PT.bif (PT.get (T:=tTPin) ?_ fun p4 h5=>(PT.bif (PT.some ?_) (PT.bif (PT.bif (PT.some ?_) (PT.bn fun y5=>(PT.bif (PT.some ?_) (hj1 ())))) (PT.bn fun y6=>(PT.bif (PT.some ?_) (hj1 ())))))) (PT.bif (PT.bif (PT.some ?_) (PT.bn fun y7=>(PT.bif (PT.some ?_) (hj1 ())))) (PT.bn fun y8=>(PT.bif (PT.some ?_) (hj1 ()))))))))))))
 all_goals simp_all (maxDischargeDepth:=9)
theorem Qjj {N a0 a1 a2} (ka0:tTEnv a0) (ka2:tU a2):PT (Qem N a0 a1 a2) (fun r=>tTEnv r.1∧tU r.2.1):=by
 rw[Qem]
 refine (PT.bnd (Qe3 ?_ ?_) fun y1 h1=>(PT.bif (PT.bnd (Qac) fun y2 h2=>(PT.some ?_)) (PT.bif (PT.bnd (QhF ?_ ?_ ?_) fun y3 h3=>(PT.bif (PT.bnd (Qac) fun y4 h4=>(PT.some ?_)) (PT.some ?_))) (PT.bnd (Qjt ?_ ?_ ?_) fun y5 h5=>(PT.bif (PT.bnd (Qac) fun y6 h6=>(PT.some ?_)) (PT.some ?_))))))
 all_goals simp_all (maxDischargeDepth:=9)
theorem Qjk {N a0 a1 a2 a3 a4} (ka0:tTEnv a0) (ka2:tU a2) (ka3:tU a3) (ka4:tU a4):PT (Qen N a0 a1 a2 a3 a4) (fun r=>tTEnv r.1∧tU r.2.1):=by
 rw[Qen]
 refine (PT.bn fun y1=>(PT.bif (PT.bnd (Qac) fun y2 h1=>(PT.some ?_)) (PT.jn (Q:=fun k=>∀ x4,PT (k x4) _) (fun x4=>(PT.bif (PT.bnd (Qig ?_ ?_ ?_) fun y5 h2=>(PT.some ?_)) (PT.jn (Q:=fun k=>∀ x8,PT (k x8) _) (fun x8=>(PT.bif (PT.bnd (QiW ?_ ?_ ?_ ?_) fun y9 h3=>(PT.some ?_)) (PT.jn (Q:=fun k=>∀ x12,PT (k x12) _) (fun x12=>(PT.bif (PT.bnd (QiX ?_ ?_ ?_) fun y13 h4=>(PT.some ?_)) (PT.jn (Q:=fun k=>∀ x14,PT (k x14) _) (fun x14=>(PT.bif (PT.bnd (QhE ?_ ?_) fun y15 h5=>(PT.some ?_)) (PT.jn (Q:=fun k=>∀ x17,PT (k x17) _) (fun x17=>(PT.bif (PT.bnd (Qih ?_ ?_) fun y18 h6=>(PT.some ?_)) (PT.jn (Q:=fun k=>∀ x19,PT (k x19) _) (fun x19=>(PT.bif (PT.bnd (Qii ?_ ?_) fun y20 h7=>(PT.some ?_)) (PT.jn (Q:=fun k=>∀ x21,PT (k x21) _) (fun x21=>(PT.bif (PT.bnd (Qjj ?_ ?_) fun y22 h8=>(PT.some ?_)) (PT.bnd (Qac) fun y23 h9=>(PT.some ?_)))) fun j13 hj13=>(PT.bif (hj13 _) (hj13 _))))) fun j12 hj12=>(PT.bif (hj12 _) (hj12 _))))) fun j11 hj11=>(PT.bif (hj11 _) (PT.jn (Q:=fun k=>∀ x16,PT (k x16) _) (fun x16=>(hj11 _)) fun j10 hj10=>(PT.bif (hj10 _) (hj10 _))))))) fun j9 hj9=>(PT.bif (hj9 _) (hj9 _))))) fun j8 hj8=>(PT.bif (hj8 _) (PT.jn (Q:=fun k=>∀ x11,PT (k x11) _) (fun x11=>(hj8 _)) fun j7 hj7=>(PT.bif (hj7 _) (PT.jn (Q:=fun k=>∀ x10,PT (k x10) _) (fun x10=>(hj7 _)) fun j6 hj6=>(PT.bif (hj6 _) (hj6 _))))))))) fun j5 hj5=>(PT.bif (hj5 _) (PT.jn (Q:=fun k=>∀ x7,PT (k x7) _) (fun x7=>(hj5 _)) fun j4 hj4=>(PT.bif (hj4 _) (PT.jn (Q:=fun k=>∀ x6,PT (k x6) _) (fun x6=>(hj4 _)) fun j3 hj3=>(PT.bif (hj3 _) (hj3 _))))))))) fun j2 hj2=>(PT.bif (hj2 _) (PT.jn (Q:=fun k=>∀ x3,PT (k x3) _) (fun x3=>(hj2 _)) fun j1 hj1=>(PT.bif (hj1 _) (hj1 _)))))))
 all_goals simp_all (maxDischargeDepth:=9)
theorem Qij {N a0 a1} (ka0:tTPair a0) (ka1:tTDeed a1):PT (Qb2 N a0 a1) (fun r=>tTPair r.1∧tU r.2.1):=by
 rw[Qb2]
 refine (PT.bif (PT.bnd (Qgd ?_) fun y1 h1=>(PT.jn (Q:=fun k=>∀ x3 x4 x5 x6 x7 x8 x9 x10 x11 x12 x13 x14 x15 x16 x17 x18 x19 x20 x21 x22 x23 x24 x25,(tL tU) x5->(tL tTSlot) x9->(tL tTEntry) x12->(tL tTEntry) x13->(tL tTPin) x14->(tL tU) x15->(tL tTThing) x18->(tL tTSlot) x19->(tL tTEntry) x22->(tL tTEntry) x23->(tL tTMark) x24->(tL tU) x25->PT (k x3 x4 x5 x6 x7 x8 x9 x10 x11 x12 x13 x14 x15 x16 x17 x18 x19 x20 x21 x22 x23 x24 x25) _) (fun x3 x4 x5 x6 x7 x8 x9 x10 x11 x12 x13 x14 x15 x16 x17 x18 x19 x20 x21 x22 x23 x24 x25 h2 h3 h4 h5 h6 h7 h8 h9 h10 h11 h12 h13=>(PT.some ?_)) fun j1 hj1=>(PT.bif (PT.bnd (Qf1 ?_) fun y2 h14=>(hj1 _ _ _ _ _ _ _ _ _ _ _ _ _ _ _ _ _ _ _ _ _ _ _ ?_ ?_ ?_ ?_ ?_ ?_ ?_ ?_ ?_ ?_ ?_ ?_)) (hj1 _ _ _ _ _ _ _ _ _ _ _ _ _ _ _ _ _ _ _ _ _ _ _ ?_ ?_ ?_ ?_ ?_ ?_ ?_ ?_ ?_ ?_ ?_ ?_)))) (PT.bnd (Qjk ?_ ?_ ?_ ?_) fun y26 h15=>(PT.bnd (Qht ?_ ?_ ?_) fun y27 h16=>(PT.bnd (Qja ?_ ?_ ?_ ?_ ?_) fun y28 h17=>(PT.jn (Q:=fun k=>∀ x29 x30 x31 x32 x33 x34 x35 x36 x37 x38,(tL tTThing) x31->(tL tTSlot) x32->(tL tTEntry) x35->(tL tTEntry) x36->(tL tTMark) x37->(tL tU) x38->PT (k x29 x30 x31 x32 x33 x34 x35 x36 x37 x38) _) (fun x29 x30 x31 x32 x33 x34 x35 x36 x37 x38 h18 h19 h20 h21 h22 h23=>(PT.bif (PT.bif (PT.grd (PT.grd (PT.some ?_))) (PT.some ?_)) (PT.some ?_))) fun j2 hj2=>(PT.bif (hj2 _ _ _ _ _ _ _ _ _ _ ?_ ?_ ?_ ?_ ?_ ?_) (hj2 _ _ _ _ _ _ _ _ _ _ ?_ ?_ ?_ ?_ ?_ ?_)))))))
 all_goals simp_all (maxDischargeDepth:=9)
theorem Qjl {N a0 a1} (ka0:tTWorld a0):PT (Qeo N a0 a1) (fun r=>tTWorld r.1):=by
 rw[Qeo]
 refine (PT.bn fun y1=>(PT.bif (PT.grd (PT.bn fun y2=>(PT.grd (PT.some ?_)))) (PT.bif (PT.bif (PT.grd (PT.bn fun y3=>(PT.bn fun y4=>(PT.get (T:=tTThing) ?_ fun p5 h1=>(PT.some ?_))))) (PT.some ?_)) (PT.bif (PT.grd (PT.bn fun y6=>(PT.bn fun y7=>(PT.bn fun y8=>(PT.grd (PT.some ?_)))))) (PT.bif (PT.grd (PT.bn fun y9=>(PT.grd (PT.some ?_)))) (PT.bif (PT.bn fun y10=>(PT.some ?_)) (PT.bif (PT.grd (PT.some ?_)) (PT.some ?_))))))))
 all_goals simp_all (maxDischargeDepth:=9)
end Go.Sx
namespace Go.Sx
def BIG:Nat:=1099511627776
theorem span_eq {ws:List Int} (hl:ws.length<=BIG) (N:Nat) (a k:Int) (hk : -1<=k∧k<=1000000000000000000):Qee N ws a k =
 some (if 4096<=a∧a<=4096+ws.length then (a-4096,decide (a+k<=4096+ws.length)) else (0,false)):=by
 unfold BIG at hl
 simp only[Qee,Bool.cond_decide]
 rw[wU_id (n:=(ws.length:Int)) (by omega) (by omega),wU_id (n:=4096+(ws.length:Int)) (by omega) (by omega)]
 by_cases h1:a<4096
 ·rw[if_pos h1,if_neg (by omega)]
 ·rw[if_neg h1]
  by_cases h2:a>4096+ws.length
  ·rw[if_pos h2,if_neg (by omega)]
  ·rw[if_neg h2,if_pos (by omega),wU_id (n:=a-4096) (by omega) (by omega),wI_id (n:=a-4096) (by omega) (by omega),wI_id (by omega) (by omega)]
   congr 2
   exact decide_eq_decide.2 (by omega)
def inW (ws:List Int) (a:Int):Prop:=4096<=a∧a<4096+ws.length
instance (ws:List Int) (a:Int):Decidable (inW ws a):=by unfold inW;infer_instance
def ix (a:Int):Nat:=(a-4096).toNat
theorem Load_eq {ws:List Int} (hl:ws.length<=BIG) (N:Nat) (a:Int):Qbs N ws a=some (if inW ws a then (ws.getD (ix a) 0,0) else (0,2)):=by
 simp only[Qbs,QfE,span_eq hl N a 1 (by omega),bnd_eq]
 by_cases h:4096<=a∧a<=4096+ws.length
 ·simp only[if_pos h]
  by_cases h2:inW ws a
  ·have h3:a+1<=4096+ws.length:=by unfold inW at h2;omega
   simp only[if_pos h2,h3,decide_true,Bool.not_true,cond_false,bnd_eq]
   have h4:(a-4096).toNat<ws.length:=by unfold inW at h2;omega
   rw[show ((0:Int) != 0)=false from rfl,cond_false,getI_of (by omega) (by unfold inW at h2;omega),bnd_eq]
   simp[ix,List.getD,h4]
  ·have h3:¬ a+1<=4096+ws.length:=by unfold inW at h2;omega
   simp only[if_neg h2,h3,decide_false,Bool.not_false,cond_true,bnd_eq]
   rfl
 ·have h2:¬ inW ws a:=by unfold inW;omega
  simp only[if_neg h,if_neg h2,Bool.not_false,cond_true,bnd_eq]
  rfl
def ovr (ws l:List Int) (i:Nat):List Int:=ws.take i++l++ws.drop (i+l.length)
theorem ovr_length {ws l:List Int} {i:Nat} (h:i+l.length<=ws.length):(ovr ws l i).length=ws.length:=by
 simp[ovr];omega
theorem ovr_get {ws l:List Int} {i:Nat} (h:i+l.length<=ws.length) (j:Nat):(ovr ws l i)[j]? = if i<=j∧j<i+l.length then l[j-i]? else ws[j]?:=by
 unfold ovr
 have hm:(ws.take i).length=i:=by simp only[List.length_take];omega
 by_cases h1:j<i
 ·rw[if_neg (by omega),List.append_assoc,List.getElem?_append_left (by omega),List.getElem?_take,if_pos h1]
 ·by_cases h2:j<i+l.length
  ·rw[if_pos (by omega),List.getElem?_append_left (by rw[List.length_append];omega),List.getElem?_append_right (by omega),hm]
  ·rw[if_neg (by omega),List.getElem?_append_right (by rw[List.length_append];omega),List.getElem?_drop,List.length_append,hm]
   congr 1
   omega
theorem ovr_getD {ws l:List Int} {i:Nat} (h:i+l.length<=ws.length) (j:Nat):(ovr ws l i).getD j 0=if i<=j∧j<i+l.length then l.getD (j-i) 0 else ws.getD j 0:=by
 simp only[List.getD_eq_getElem?_getD,ovr_get h]
 split<;>rfl
theorem Write_l1 {l:List Int} (y:Int×Bool) (i:Nat) (N:Nat) (ws:List Int) (hi:y.1=i) (h:i+l.length<=ws.length) (hl:ws.length<=BIG):∀ (n k:Nat) (v:List Int),k<=l.length->l.length-k<n->v=ovr ws (l.take k) i ->
 Qbb N l y n (k:Int) v=some (ovr ws l i)
 | 0,k,v,_,hn,_=>by omega
 | n+1,k,v,hk,hn,hv=>by
  unfold BIG at hl
  rw[Qbb]
  have hlt:(l.take k).length=k:=by simp;omega
  have hvl:v.length=ws.length:=by rw[hv];exact ovr_length (by rw[hlt];omega)
  by_cases h1:k<l.length
  ·have e1:decide ((k:Int)<((l.length:Nat):Int))=true:=by simp;omega
   have e2:wI (y.1+(k:Int))=((i+k:Nat):Int):=by rw[hi,wI_id (by omega) (by omega)];simp
   have e3:wI ((k:Int)+1)=((k+1:Nat):Int):=by rw[wI_id (by omega) (by omega)];simp
   rw[e1,cond_true,getI_of (by omega) (by omega),bnd_eq,e2,getI_of (by omega) (by omega),bnd_eq,e3]
   refine Write_l1 y i N ws hi h (by unfold BIG;omega) n (k+1) _ (by omega) (by omega) ?_
   rw[hv]
   simp only[Int.toNat_natCast]
   apply List.ext_getElem?
   intro j
   have hlt2:(l.take (k+1)).length=k+1:=by simp only[List.length_take];omega
   rw[List.getElem?_set,ovr_length (by omega),ovr_get (by omega),ovr_get (by omega),hlt,hlt2]
   by_cases hj:i+k=j
   ·subst hj
    rw[if_pos rfl,if_pos (by omega),if_pos (by omega),List.getElem?_take,if_pos (by omega),Nat.add_sub_cancel_left,List.getElem?_eq_getElem h1]
   ·rw[if_neg hj]
    by_cases hj2:i<=j∧j<i+k
    ·rw[if_pos hj2,if_pos (by omega),List.getElem?_take,List.getElem?_take,if_pos (by omega),if_pos (by omega)]
    ·rw[if_neg hj2,if_neg (by omega)]
  ·have e1:decide ((k:Int)<((l.length:Nat):Int))=false:=by simp;omega
   rw[e1,cond_false,hv,List.take_of_length_le (by omega)]
def inWs (ws:List Int) (a:Int) (k:Nat):Prop:=4096<=a∧a+k<=4096+ws.length
instance (ws:List Int) (a:Int) (k:Nat):Decidable (inWs ws a k):=by unfold inWs;infer_instance
theorem Write_eq {ws l:List Int} (hl:ws.length<=BIG) (h2:l.length<=BIG) {N:Nat} (hN:l.length<N) (a:Int):QbT N ws a l=some (if inWs ws a l.length then (ovr ws l (ix a),0) else ([],2)):=by
 simp only[QbT]
 rw[span_eq hl N a _ (by unfold BIG at h2;omega),bnd_eq]
 by_cases h:inWs ws a l.length
 ·have h3:4096<=a∧a<=4096+ws.length:=by unfold inWs at h;omega
  have h4:a+(l.length:Int)<=4096+ws.length:=by unfold inWs at h;omega
  simp only[if_pos h,if_pos h3,h4,decide_true,Bool.not_true,cond_false]
  rw[grd_eq (by unfold BIG at hl;omega)]
  have:=Write_l1 (l:=l) (a-4096,true) (ix a) N ws (by unfold ix;simp;omega) (by unfold ix;omega) hl N 0 ws (by omega) (by omega) (by simp[ovr])
  rw[show ((0:Nat):Int)=0 from rfl] at this
  rw[this,bnd_eq]
 ·by_cases h3:4096<=a∧a<=4096+ws.length
  ·have h4:¬ a+(l.length:Int)<=4096+ws.length:=by unfold inWs at h;omega
   simp only[if_neg h,if_pos h3,h4,decide_false,Bool.not_false,cond_true]
  ·simp only[if_neg h,if_neg h3,Bool.not_false,cond_true]
theorem Store_eq {ws:List Int} (hl:ws.length<=BIG) {N:Nat} (hN:1<N) (a v:Int):Qct N ws a v=some (if inW ws a then (ws.set (ix a) v,0) else ([],2)):=by
 simp only[Qct]
 rw[Write_eq (l:=[v]) hl (by unfold BIG;simp) (by simpa using hN),bnd_eq]
 by_cases h:inW ws a
 ·have h1:inWs ws a [v].length:=by unfold inW at h;unfold inWs;simp only[List.length_cons,List.length_nil];omega
  simp only[if_pos h,if_pos h1]
  congr 2
  unfold ovr
  have hlt:ix a<ws.length:=by unfold inW at h;unfold ix;omega
  simp[List.set_eq_take_append_cons_drop,hlt]
 ·have h1:¬ inWs ws a [v].length:=by unfold inW at h;unfold inWs;simp only[List.length_cons,List.length_nil];omega
  simp only[if_neg h,if_neg h1]
theorem Read_eq {ws:List Int} (hl:ws.length<=BIG) (N:Nat) (a:Int) (k:Nat) (hk:k<=1000000000):QdH N ws a (k:Int)=some (if inWs ws a k then ((ws.drop (ix a)).take k,0) else ([],2)):=by
 simp only[QdH]
 have e1:decide ((k:Int)<0)=false:=decide_eq_false (by omega)
 rw[e1,cond_false,span_eq hl N a _ (by omega),bnd_eq]
 unfold BIG at hl
 by_cases h:inWs ws a k
 ·have h3:4096<=a∧a<=4096+ws.length:=by unfold inWs at h;omega
  have h4:a+(k:Int)<=4096+ws.length:=by unfold inWs at h;omega
  simp only[if_pos h,if_pos h3,h4,decide_true,Bool.not_true,cond_false]
  rw[wI_id (n:=a-4096+(k:Int)) (by omega) (by omega),grd_eq (by omega),grd_eq (by omega)]
  have e2:(a-4096+(k:Int)).toNat-(a-4096).toNat=k:=by omega
  rw[e2];rfl
 ·by_cases h3:4096<=a∧a<=4096+ws.length
  ·have h4:¬ a+(k:Int)<=4096+ws.length:=by unfold inWs at h;omega
   simp only[if_neg h,if_pos h3,h4,decide_false,Bool.not_false,cond_true]
  ·simp only[if_neg h,if_neg h3,Bool.not_false,cond_true]
theorem Move_eq {ws:List Int} (hl:ws.length<=BIG) {N:Nat} (to a:Int) (k:Nat) (hk:k<=1000000000) (hN:k<N):Qeg N ws to a (k:Int) =
 some (if inWs ws a k∧inWs ws to k then (ovr ws ((ws.drop (ix a)).take k) (ix to),0) else ([],2)):=by
 simp only[Qeg]
 rw[Read_eq hl N a k hk,bnd_eq]
 by_cases h:inWs ws a k
 ·have hlen:((ws.drop (ix a)).take k).length=k:=by unfold inWs at h;simp[ix];omega
  simp only[if_pos h]
  rw[show ((0:Int) != 0)=false from rfl,cond_false,Write_eq hl (by rw[hlen];unfold BIG;omega) (by rw[hlen];exact hN),bnd_eq,hlen]
  by_cases h2:inWs ws to k
  ·rw[if_pos h2,if_pos ⟨h,h2⟩]
  ·rw[if_neg h2,if_neg (fun h3=>h2 h3.2)]
 ·simp only[if_neg h]
  rw[show ((2:Int) != 0)=true from rfl,cond_true,if_neg (fun h3=>h h3.1)]
end Go.Sx
namespace Go.Sx
def validH (d:THeader):Bool:=decide (0<=d.Kind∧d.Kind<=3∧0<=d.Length∧d.Length<=255)&&(if d.Kind=1 then decide (d.Length<=32)&&decide (d.Map % 18446744073709551616<2 ^ d.Length.toNat) else decide (d.Map=0))
theorem validH_eq (N:Nat) (d:THeader):QbR N d=some (validH d):=by
 simp only[QbR,Bool.cond_decide,validH]
 by_cases h1:d.Kind<0
 ·rw[if_pos h1,decide_eq_false (by omega),Bool.false_and]
 rw[if_neg h1]
 by_cases h2:d.Kind>3
 ·rw[if_pos h2,decide_eq_false (by omega),Bool.false_and]
 rw[if_neg h2]
 by_cases h3:d.Length<0
 ·rw[if_pos h3,decide_eq_false (by omega),Bool.false_and]
 rw[if_neg h3]
 by_cases h4:d.Length>255
 ·rw[if_pos h4,decide_eq_false (by omega),Bool.false_and]
 rw[if_neg h4,decide_eq_true (p:=0<=d.Kind∧d.Kind<=3∧0<=d.Length∧d.Length<=255) (by omega),Bool.true_and]
 by_cases h5:d.Kind=1
 ·rw[if_pos h5,h5,show ((1:Int) != 1)=false from rfl,cond_false]
  by_cases h6:d.Length<=32
  ·rw[if_pos h6,wU_id (n:=d.Length) (by omega) (by omega),grd_eq (by omega),sShl_one (by omega) (by omega),wU_eq,decide_eq_true h6,Bool.true_and]
  ·rw[if_neg h6,decide_eq_false h6,Bool.false_and]
 ·have:(d.Kind != 1)=true:=by simpa using h5
  rw[if_neg h5,this,cond_true]
  congr 1
theorem validH_b {d:THeader} (h:validH d=true):0<=d.Kind∧d.Kind<=3∧0<=d.Length∧d.Length<=255:=by
 unfold validH at h
 simp only[Bool.and_eq_true,decide_eq_true_eq] at h
 exact h.1
def sizeH (d:THeader):Int:=if validH d then d.Length+1 else 0
theorem sizeH_eq (N:Nat) (d:THeader):QbE N d=some (sizeH d):=by
 simp only[QbE,validH_eq,bnd_eq,sizeH]
 cases h:validH d with
 | false=>rfl
 | true=>have:=validH_b h;simp[wI_id (n:=d.Length+1) (by omega) (by omega)]
theorem sizeH_nn (d:THeader):0<=sizeH d∧sizeH d<=256:=by
 unfold sizeH
 split
 ·rename_i h;have:=validH_b h;omega
 ·omega
def encH (d:THeader):Int:=wU (wU (wU (1+wU (4*wU d.Kind))+wU (16*wU d.Length))+sShl .u64 (wU d.Map) 16)
theorem encH_eq (N:Nat) (d:THeader):Qb0 N d=some (if validH d then (encH d,0) else (0,1)):=by
 simp only[Qb0,validH_eq,bnd_eq]
 cases h:validH d<;>rfl
def rawH (w:Int):THeader:=⟨wI (bAnd .u64 (sShr .u64 w 2) 3),wI (bAnd .u64 (sShr .u64 w 4) 4095),wW (sShr .u64 w 16)⟩
def okH (w:Int):Bool:=validH (rawH w)&&(encH (rawH w)==w)
def decH (w:Int):THeader:=if okH w then rawH w else ⟨0,0,0⟩
theorem decH_eq (N:Nat) (w:Int):Qbi N w=some (decH w,okH w):=by
 show Qbi N w=_
 simp only[Qbi]
 rw[encH_eq N (THeader.mk _ _ _),bnd_eq]
 show _=some (decH w,okH w)
 unfold decH okH rawH
 cases h:validH (rawH w) with
 | false=>unfold rawH at h;simp only[h];rfl
 | true =>
  unfold rawH at h
  simp only[h,if_true,Bool.true_and]
  rw[show ((0:Int) != 0)=false from rfl,cond_false]
  by_cases h2:encH ⟨wI (bAnd .u64 (sShr .u64 w 2) 3),wI (bAnd .u64 (sShr .u64 w 4) 4095),wW (sShr .u64 w 16)⟩=w
  ·simp[h2]
  ·rw[show (encH ⟨wI (bAnd .u64 (sShr .u64 w 2) 3),wI (bAnd .u64 (sShr .u64 w 4) 4095),wW (sShr .u64 w 16)⟩ != w)=true by simpa using h2,show (encH ⟨wI (bAnd .u64 (sShr .u64 w 2) 3),wI (bAnd .u64 (sShr .u64 w 4) 4095),wW (sShr .u64 w 16)⟩==w)=false by simpa using h2]
   rfl
theorem decH_valid (w:Int):validH (decH w)=true:=by
 unfold decH
 split
 ·rename_i h;unfold okH at h;simp only[Bool.and_eq_true] at h;exact h.1
 ·rfl
theorem decH_size (w:Int):sizeH (decH w)=(decH w).Length+1∧1<=sizeH (decH w)∧sizeH (decH w)<=256:=by
 have h:=decH_valid w
 have:=validH_b h
 unfold sizeH
 rw[if_pos h]
 omega
def ptrH (d:THeader) (i:Int):Bool:=validH d&&(decide (0<=i∧i<d.Length)&&(decide (d.Kind=2)||(decide (d.Kind=1)&&(bAnd .u32 (sShr .u32 d.Map (wU i)) 1==1))))
theorem ptrH_eq (N:Nat) (d:THeader) (i:Int):Qbm N d i=some (ptrH d i):=by
 simp only[Qbm,validH_eq,bnd_eq,ptrH,Bool.cond_decide]
 cases h:validH d with
 | false=>rfl
 | true =>
  simp only[Bool.not_true,cond_false,Bool.true_and]
  by_cases h1:i<0
  ·rw[if_pos h1,decide_eq_false (by omega),Bool.false_and]
  rw[if_neg h1]
  by_cases h2:i>=d.Length
  ·rw[if_pos h2,decide_eq_false (by omega),Bool.false_and]
  rw[if_neg h2,decide_eq_true (p:=0<=i∧i<d.Length) (by omega),Bool.true_and,grd_eq (wU_range i).1]
  by_cases h3:d.Kind=2
  ·simp[h3]
  ·by_cases h4:d.Kind=1
   ·simp[h4]
   ·have e1:(d.Kind==2)=false:=by simpa using h3
    have e2:(d.Kind==1)=false:=by simpa using h4
    simp[e1,e2,h3,h4]
def ptrsFrom (d:THeader):Nat->Int->List Int
 | 0,_=>[]
 | k+1,i=>(if ptrH d i then [i] else [])++ptrsFrom d k (i+1)
def ptrsH (d:THeader):List Int:=if validH d then ptrsFrom d d.Length.toNat 0 else []
theorem ptrsFrom_mem {d:THeader}:∀ {k:Nat} {i x:Int},x∈ptrsFrom d k i->i<=x∧x<i+k∧ptrH d x=true
 | 0,i,x,h=>by simp[ptrsFrom] at h
 | k+1,i,x,h=>by
  simp only[ptrsFrom,List.mem_append] at h
  rcases h with h | h
  ·split at h
   ·rename_i hp;simp at h;subst h;exact ⟨by omega,by omega,hp⟩
   ·simp at h
  ·have:=ptrsFrom_mem h;exact ⟨by omega,by omega,this.2.2⟩
theorem ptrsFrom_len {d:THeader}:∀ {k:Nat} {i:Int},(ptrsFrom d k i).length<=k
 | 0,i=>by simp[ptrsFrom]
 | k+1,i=>by
  have:=ptrsFrom_len (d:=d) (k:=k) (i:=i+1)
  simp only[ptrsFrom,List.length_append]
  split<;>simp<;>omega
theorem Pointers_l1 (N:Nat) (d:THeader) (hv:validH d=true):∀ (n:Nat) (i:Int) (v:List Int),0<=i->i<=d.Length->(d.Length-i).toNat<n->v.length<=1000-(d.Length-i).toNat->v.length+(d.Length-i).toNat<=1000 ->
 Qbf N d n i v=some (v++ptrsFrom d (d.Length-i).toNat i)
 | 0,i,v,_,_,h,_,_=>by omega
 | n+1,i,v,h0,h1,h2,h3,h4=>by
  have hb:=validH_b hv
  rw[Qbf]
  by_cases h:i<d.Length
  ·obtain ⟨k,hk⟩:∃ k,(d.Length-i).toNat=k+1:=⟨(d.Length-i).toNat-1,by omega⟩
   have hk2:(d.Length-(i+1)).toNat=k:=by omega
   rw[decide_eq_true h,cond_true,validH_eq,bnd_eq,hv,cond_true,ptrH_eq,bnd_eq,hk,wI_id (n:=i+1) (by omega) (by omega)]
   simp only[ptrsFrom]
   cases hp:ptrH d i with
   | true =>
    rw[cond_true,grd_eq (by omega),Pointers_l1 N d hv n (i+1) _ (by omega) (by omega) (by omega) (by rw[List.length_append];simp only[List.length_cons,List.length_nil];omega) (by rw[List.length_append];simp only[List.length_cons,List.length_nil];omega),hk2]
    simp
   | false =>
    rw[cond_false,Pointers_l1 N d hv n (i+1) _ (by omega) (by omega) (by omega) (by omega) (by omega),hk2]
    simp
  ·rw[decide_eq_false h,cond_false,show (d.Length-i).toNat=0 by omega]
   simp[ptrsFrom]
theorem ptrsH_eq {N:Nat} (hN:300<N) (d:THeader):Qd2 N d=some (ptrsH d):=by
 simp only[Qd2,ptrsH]
 cases hv:validH d with
 | true =>
  have hb:=validH_b hv
  rw[Pointers_l1 N d hv N 0 [] (by omega) (by omega) (by omega) (by simp only[List.length_nil];omega) (by simp only[List.length_nil];omega),bnd_eq]
  simp
 | false =>
  obtain ⟨n,rfl⟩:∃ n,N=n+1:=⟨N-1,by omega⟩
  rw[Qbf,validH_eq,bnd_eq,hv,cond_false]
  cases h:decide ((0:Int)<d.Length)<;>simp[bnd_eq]
def fwdOK (w:Int):Bool:=decide (w.tmod 4=2)&&decide (sShr .u64 w 2<4294967296)
theorem target_eq (N:Nat) (w:Int):Qcy N w=some (if fwdOK w then (sShr .u64 w 2,true) else (0,false)):=by
 simp only[Qcy,fwdOK,Bool.cond_decide]
 by_cases h1:w.tmod 4=2
 ·by_cases h2:sShr .u64 w 2>=4294967296
  ·have h3:¬ sShr .u64 w 2<4294967296:=by omega
   simp[h1,h2,h3]
  ·have h3:sShr .u64 w 2<4294967296:=by omega
   simp[h1,h2,h3]
 ·have:(w.tmod 4 != 2)=true:=by simpa using h1
  simp[this,h1]
theorem forward_eq (N:Nat) (a:Int):QcJ N a=some (if a>=4294967296 then (0,1) else (wU (wU (4*a)+2),0)):=by
 simp only[QcJ,Bool.cond_decide]
 split<;>rfl
end Go.Sx
namespace Go.Sx
def vconf (c:TConf):Bool:=decide (16<=c.PageWords∧c.PageWords<=64∧c.PageWords % 4=0∧8<=c.Pages∧c.Pages<=64)
theorem vconf_iff {c:TConf}:vconf c=true↔16<=c.PageWords∧c.PageWords<=64∧c.PageWords % 4=0∧8<=c.Pages∧c.Pages<=64:=by simp[vconf]
theorem vconf_eq (N:Nat) (c:TConf):Qak N c=some (vconf c):=by
 simp only[Qak,Bool.cond_decide,vconf]
 by_cases h1:c.PageWords>=16
 ·rw[if_pos h1]
  by_cases h2:c.PageWords<=64
  ·rw[if_pos h2]
   have e:c.PageWords.tmod 4=c.PageWords % 4:=Int.tmod_eq_emod_of_nonneg (by omega)
   rw[e]
   by_cases h3:c.PageWords % 4=0
   ·rw[h3,show ((0:Int)==0)=true from rfl,cond_true]
    by_cases h4:c.Pages>=8
    ·rw[if_pos h4]
     congr 1
     exact decide_eq_decide.2 (by omega)
    ·rw[if_neg h4,decide_eq_false (by omega)]
   ·rw[show (c.PageWords % 4==0)=false by simpa using h3,cond_false,decide_eq_false (by omega)]
  ·rw[if_neg h2,decide_eq_false (by omega)]
 ·rw[if_neg h1,decide_eq_false (by omega)]
def limC (c:TConf):Int:=if vconf c then c.Pages / 4 else 0
theorem lim_eq (N:Nat) (c:TConf):Qez N c=some (limC c):=by
 simp only[Qez,vconf_eq,bnd_eq,limC]
 cases h:vconf c with
 | false=>rfl
 | true =>
  have:=vconf_iff.1 h
  simp only[Bool.not_true,cond_false,if_true]
  rw[Int.tdiv_eq_ediv_of_nonneg (by omega),wI_id (by omega) (by omega)]
def smC (c:TConf):Int:=if vconf c then c.PageWords / 4 else 0
theorem sm_eq (N:Nat) (c:TConf):Qcl N c=some (smC c):=by
 simp only[Qcl,vconf_eq,bnd_eq,smC]
 cases h:vconf c with
 | false=>rfl
 | true =>
  have:=vconf_iff.1 h
  simp only[Bool.not_true,cond_false,if_true]
  rw[Int.tdiv_eq_ediv_of_nonneg (by omega),wI_id (by omega) (by omega)]
def needC (c:TConf) (w:Int):Int :=
 if vconf c=true∧1<=w then (if w<=c.PageWords / 4 then 0 else if c.PageWords>=w then 1 else if 2*c.PageWords>=w then 2 else if 3*c.PageWords>=w then 3 else if 4*c.PageWords>=w then 4 else -1) else -1
theorem need_l1 (N:Nat) (c:TConf) (w:Int) (hc:vconf c=true) (k:Int) (hk:1<=k∧k<=4) (n:Nat):QbD N c w (n+1) k=if k*c.PageWords>=w then some (.ret k) else QbD N c w n (k+1):=by
 have h:=vconf_iff.1 hc
 have hm:0<=k*c.PageWords∧k*c.PageWords<=256:=by
  constructor
  ·exact Int.mul_nonneg (by omega) (by omega)
  ·have:=Int.mul_le_mul (a:=k) (b:=c.PageWords) (c:=4) (d:=64) (by omega) (by omega) (by omega) (by omega)
   omega
 rw[QbD,decide_eq_true (by omega),cond_true,Bool.cond_decide,wI_id (n:=k*c.PageWords) (by omega) (by omega),wI_id (n:=k+1) (by omega) (by omega)]
theorem need_eq {N:Nat} (hN:10<=N) (c:TConf) (w:Int):QdE N c w=some (needC c w):=by
 simp only[QdE,vconf_eq,sm_eq,bnd_eq,needC,smC]
 cases hc:vconf c with
 | false=>simp
 | true =>
  have h:=vconf_iff.1 hc
  simp only[Bool.not_true,cond_false,if_true,Bool.cond_decide]
  by_cases h1:w<1
  ·rw[if_pos h1,if_neg (show ¬ (True∧1<=w) from fun h=>by omega)]
  rw[if_neg h1,if_pos (show True∧1<=w from ⟨trivial,by omega⟩)]
  by_cases h2:w<=c.PageWords / 4
  ·rw[if_pos h2,if_pos h2]
  rw[if_neg h2,if_neg h2]
  obtain ⟨n,rfl⟩:∃ n,N=n+5:=⟨N-5,by omega⟩
  rw[need_l1 _ c w hc 1 (by omega),need_l1 _ c w hc (1+1) (by omega),need_l1 _ c w hc (1+1+1) (by omega),need_l1 _ c w hc (1+1+1+1) (by omega)]
  rw[show QbD (n+5) c w (n+1) (1+1+1+1+1)=some (.nxt ()) by rw[QbD,decide_eq_false (by omega),cond_false]]
  simp only[Int.one_mul,show (1:Int)+1=2 from rfl,show (2:Int)+1=3 from rfl,show (3:Int)+1=4 from rfl]
  by_cases h3:c.PageWords>=w
  ·simp only[if_pos h3,bnd_eq,exK_ret]
  simp only[if_neg h3]
  by_cases h4:2*c.PageWords>=w
  ·simp only[if_pos h4,bnd_eq,exK_ret]
  simp only[if_neg h4]
  by_cases h5:3*c.PageWords>=w
  ·simp only[if_pos h5,bnd_eq,exK_ret]
  simp only[if_neg h5]
  by_cases h6:4*c.PageWords>=w
  ·simp only[if_pos h6,bnd_eq,exK_ret]
  ·simp only[if_neg h6,bnd_eq,exK_nxt]
theorem needC_r (c:TConf) (w:Int) : -1<=needC c w∧needC c w<=4:=by
 unfold needC;repeat' split
 all_goals omega
theorem pw_mul {c:TConf} (hc:vconf c=true) {i:Int} (h0:0<=i) (h1:i<c.Pages):0<=i*c.PageWords∧i*c.PageWords+c.PageWords<=c.Pages*c.PageWords∧c.Pages*c.PageWords<=4096:=by
 have h:=vconf_iff.1 hc
 refine ⟨Int.mul_nonneg h0 (by omega),?_,?_⟩
 ·have:=Int.mul_le_mul_of_nonneg_right (a:=i+1) (b:=c.Pages) (c:=c.PageWords) (by omega) (by omega)
  rw[Int.add_mul] at this
  omega
 ·have:=Int.mul_le_mul (a:=c.Pages) (b:=c.PageWords) (c:=64) (d:=64) (by omega) (by omega) (by omega) (by omega)
  omega
def addrC (c:TConf) (p o:Int):Int:=4096+p*c.PageWords+o
theorem addr_eq (N:Nat) (c:TConf) (p o:Int):Qb9 N c p o=some (if vconf c=false then (0,1) else if 0<=p∧p<c.Pages∧0<=o∧o<c.PageWords then (addrC c p o,0) else (0,2)):=by
 simp only[Qb9,vconf_eq,bnd_eq,Bool.cond_decide]
 cases hc:vconf c with
 | false=>simp
 | true =>
  have h:=vconf_iff.1 hc
  simp only[Bool.not_true,cond_false]
  rw[if_neg (show ¬ (true=false) by simp)]
  by_cases h1:p<0
  ·rw[if_pos h1,if_neg (by omega)]
  rw[if_neg h1]
  by_cases h2:p>=c.Pages
  ·rw[if_pos h2,if_neg (by omega)]
  rw[if_neg h2]
  by_cases h3:o<0
  ·rw[if_pos h3,if_neg (by omega)]
  rw[if_neg h3]
  by_cases h4:o>=c.PageWords
  ·rw[if_pos h4,if_neg (by omega)]
  rw[if_neg h4,if_pos (by omega)]
  have hm:=pw_mul hc (i:=p) (by omega) (by omega)
  rw[wI_id (n:=p*c.PageWords) (by omega) (by omega),wI_id (n:=4096+p*c.PageWords) (by omega) (by omega),wI_id (n:=4096+p*c.PageWords+o) (by omega) (by omega),wU_id (by omega) (by omega)]
  rfl
theorem of_eq (N:Nat) (c:TConf) (a:Int):QdN N c a=some (if vconf c=false then (0,0,1) else if 4096<=a∧a<4096+c.Pages*c.PageWords then ((a-4096) / c.PageWords,(a-4096) % c.PageWords,0) else (0,0,2)):=by
 simp only[QdN,vconf_eq,bnd_eq,Bool.cond_decide]
 cases hc:vconf c with
 | false=>simp
 | true =>
  have h:=vconf_iff.1 hc
  have hm:=pw_mul hc (i:=0) (by omega) (by omega)
  simp only[Bool.not_true,cond_false]
  rw[if_neg (show ¬ (true=false) by simp)]
  rw[wI_id (n:=c.Pages*c.PageWords) (by omega) (by omega),wI_id (n:=4096+c.Pages*c.PageWords) (by omega) (by omega),wU_id (n:=4096+c.Pages*c.PageWords) (by omega) (by omega)]
  by_cases h1:a<4096
  ·rw[if_pos h1,if_neg (by omega)]
  rw[if_neg h1]
  by_cases h2:a>=4096+c.Pages*c.PageWords
  ·rw[if_pos h2,if_neg (by omega)]
  rw[if_neg h2,if_pos (by omega),grd_eq (by omega),grd_eq (by omega)]
  rw[wU_id (n:=a-4096) (by omega) (by omega),wI_id (n:=a-4096) (by omega) (by omega),Int.tdiv_eq_ediv_of_nonneg (by omega),Int.tmod_eq_emod_of_nonneg (by omega)]
  have hd:0<=(a-4096) / c.PageWords:=Int.ediv_nonneg (by omega) (by omega)
  have hd2:(a-4096) / c.PageWords<=a-4096:=Int.ediv_le_self _ (by omega)
  rw[wI_id (by omega) (by omega)]
theorem of_page {c:TConf} (hc:vconf c=true) {a:Int} (h1:4096<=a) (h2:a<4096+c.Pages*c.PageWords) :
 0<=(a-4096) / c.PageWords∧(a-4096) / c.PageWords<c.Pages∧0<=(a-4096) % c.PageWords∧(a-4096) % c.PageWords<c.PageWords∧a=addrC c ((a-4096) / c.PageWords) ((a-4096) % c.PageWords):=by
 have h:=vconf_iff.1 hc
 refine ⟨Int.ediv_nonneg (by omega) (by omega),Int.ediv_lt_of_lt_mul (by omega) (by omega),Int.emod_nonneg _ (by omega),Int.emod_lt_of_pos _ (by omega),?_⟩
 have:=Int.mul_ediv_add_emod (a-4096) c.PageWords
 unfold addrC
 rw[Int.mul_comm] at this
 omega
theorem of_addr {c:TConf} (hc:vconf c=true) {p o:Int} (h0:0<=o) (h1:o<c.PageWords):(addrC c p o-4096) / c.PageWords=p∧(addrC c p o-4096) % c.PageWords=o:=by
 have h:=vconf_iff.1 hc
 have e:addrC c p o-4096=o+c.PageWords*p:=by unfold addrC;rw[Int.mul_comm p];omega
 rw[e,Int.add_mul_ediv_left _ _ (by omega),Int.add_mul_emod_self_left,Int.ediv_eq_zero_of_lt h0 h1,Int.emod_eq_of_lt h0 h1]
 exact ⟨by omega,rfl⟩
def pageZ:TPage:=⟨0,0,0,0⟩
def pg (ps:List TPage) (i:Int):TPage:=ps.getD i.toNat pageZ
theorem getI_pg {ps:List TPage} {i:Int} {p:TPage} (h:getI ps i=some p):pg ps i=p:=by
 have:=(getI_some_iff.1 h).2
 simp[pg,this]
theorem tails_l1 (N:Nat) (ps:List TPage) (sp:Int) (hl:ps.length<=BIG):∀ (n:Nat) (c i:Int),0<=i->0<=c->c<=BIG*2->i<=BIG*2->(ps.length:Int)+c-i<=BIG*2->(ps.length-i).toNat<n ->
 Ok (Qdd N ps sp n c i) fun r=>c<=r∧∀ m,0<=m->m<r-c->i+m<ps.length∧(pg ps (i+m)).Kind=3
 | 0,c,i,_,_,_,_,_,h=>by omega
 | n+1,c,i,h0,hc,hc2,hi,hs,hn=>by
  unfold BIG at *
  rw[Qdd]
  refine Ok.bif (fun h=>?_) fun h=>Ok.some ⟨Int.le_refl _,fun m h1 h2=>by omega⟩
  have h1:i<ps.length:=by simpa using h
  refine Ok.get h0 h1 fun p hp=>Ok.bif (fun hk=>?_) fun hk=>Ok.some ⟨Int.le_refl _,fun m h1 h2=>by omega⟩
  refine Ok.get h0 h1 fun p' hp'=>Ok.bif (fun hk2=>?_) fun hk=>Ok.some ⟨Int.le_refl _,fun m h1 h2=>by omega⟩
  rw[wI_id (n:=c+1) (by omega) (by omega),wI_id (n:=i+1) (by omega) (by omega)]
  refine (tails_l1 N ps sp (by unfold BIG;omega) n (c+1) (i+1) (by omega) (by omega) (by unfold BIG;omega) (by unfold BIG;omega) (by unfold BIG;omega) (by omega)).mono fun r hr=>⟨by omega,fun m h2 h3=>?_⟩
  by_cases hm:m=0
  ·subst hm;rw[Int.add_zero];exact ⟨h1,by rw[getI_pg hp];simpa using hk⟩
  ·have:=hr.2 (m-1) (by omega) (by omega)
   rw[show i+1+(m-1)=i+m by omega] at this
   exact this
theorem tails_ok {N:Nat} {ps:List TPage} (sp i:Int) (hl:ps.length<N) (hl2:ps.length<=100000000) (h0:0<=i) (hi:i<=100000000):Ok (Qe8 N ps i sp) fun r=>0<=r∧∀ m,1<=m->m<=r->i+m<ps.length∧(pg ps (i+m)).Kind=3:=by
 rw[Qe8,wI_id (n:=i+1) (by omega) (by omega)]
 refine Ok.bnd (tails_l1 N ps sp (by unfold BIG;omega) N 0 (i+1) (by omega) (by omega) (by unfold BIG;omega) (by unfold BIG;omega) (by unfold BIG;omega) (by omega)) fun r _ h=>Ok.some ⟨h.1,fun m h1 h2=>?_⟩
 have:=h.2 (m-1) (by omega) (by omega)
 rwa[show i+1+(m-1)=i+m by omega] at this
theorem pins_eq (N:Nat) (n:Int):Qfn N n=some (decide (0<=n∧n<=2147483647)):=by
 simp only[Qfn,Bool.cond_decide]
 split
 ·congr 1;exact decide_eq_decide.2 (by omega)
 ·rw[decide_eq_false (by omega)]
end Go.Sx
namespace Go.Sx
structure PgOK (h:THeap) (i:Int):Prop where
 kind:0<=(pg h.Pages i).Kind∧(pg h.Pages i).Kind<=3
 space:0<=(pg h.Pages i).Space∧(pg h.Pages i).Space<=1
 pins:0<=(pg h.Pages i).Pins∧(pg h.Pages i).Pins<=2147483647
 free:(pg h.Pages i).Kind=0->pg h.Pages i=pageZ
 small:(pg h.Pages i).Kind=1->0<=(pg h.Pages i).Used∧(pg h.Pages i).Used<=h.Conf.PageWords
 large:(pg h.Pages i).Kind=2->1<=needC h.Conf (pg h.Pages i).Used∧∀ m,1<=m->m<needC h.Conf (pg h.Pages i).Used->i+m<h.Pages.length∧(pg h.Pages (i+m)).Kind=3
structure PropH (h:THeap):Prop where
 conf:vconf h.Conf=true
 words:(h.Words.length:Int)=h.Conf.Pages*h.Conf.PageWords
 pages:(h.Pages.length:Int)=h.Conf.Pages
 space:0<=h.Space∧h.Space<=1
 bump:h.Bump = -1∨(0<=h.Bump∧h.Bump<h.Pages.length∧(pg h.Pages h.Bump).Kind=1)
 pgs:∀ i:Int,0<=i->i<h.Pages.length->PgOK h i
 first:(pg h.Pages 0).Kind≠3
def PL (h:THeap) (i:Int):Ex Bool Unit->Prop
 | .ret a=>a=false
 | .nxt _=>(∀ j,i<=j->j<h.Pages.length->PgOK h j)∧(i=0->(0:Int)<h.Pages.length->(pg h.Pages 0).Kind≠3)
theorem proper_l1 {N:Nat} {h:THeap} (hc:vconf h.Conf=true) (hN:100000<N) (hl:(h.Pages.length:Int)=h.Conf.Pages):∀ (n:Nat) (due i:Int),0<=i->0<=due->due<=4->(h.Pages.length-i).toNat<n->(i=0->due=0) ->
 Ok (Qby N h n due i) (PL h i)
 | 0,due,i,_,_,_,hn,_=>by omega
 | n+1,due,i,h0,hd,hd4,hn,hi0=>by
  have hv:=vconf_iff.1 hc
  rw[Qby]
  refine Ok.bif (fun h1=>?_) fun h1=>Ok.some ⟨fun j hj hj2=>?_,fun hi hpos=>?_⟩
  rotate_left
  ·have:¬ i<h.Pages.length:=by simpa using h1
   omega
  ·have:¬ i<h.Pages.length:=by simpa using h1
   omega
  have hlt:i<h.Pages.length:=by simpa using h1
  refine Ok.get h0 hlt fun p hp=>?_
  have hpg:=getI_pg hp
  refine Ok.bif (fun _=>Ok.some rfl) fun g1=>?_
  refine Ok.bif (fun _=>Ok.some rfl) fun g2=>?_
  refine Ok.bif (fun _=>Ok.some rfl) fun g3=>?_
  rw[pins_eq,bnd_eq]
  refine Ok.bif (fun _=>Ok.some rfl) fun g4=>?_
  simp only[Bool.not_eq_false',beq_iff_eq,decide_eq_false_iff_not,decide_eq_true_eq,Int.not_lt,Int.not_le] at g1 g2 g3 g4
  have hk3:p.Kind=3↔0<due:=by
   have e:(p.Kind==3)=decide (due>0):=g1
   by_cases hx:p.Kind=3
   ·have:(p.Kind==3)=true:=by simpa using hx
    rw[this] at e
    have:=of_decide_eq_true e.symm
    exact ⟨fun _=>this,fun _=>hx⟩
   ·have:(p.Kind==3)=false:=by simpa using hx
    rw[this] at e
    have:=of_decide_eq_false e.symm
    exact ⟨fun h=>absurd h hx,fun h=>absurd h this⟩
  have next:∀ (due':Int),0<=due'->due'<=4->PgOK h i->Ok (Qby N h n (if 0<wI (due'-1) then wI (due'-1) else 0) (wI (i+1))) (PL h i):=by
   intro due' hd1 hd2 hok
   rw[wI_id (n:=i+1) (by omega) (by omega),wI_id (n:=due'-1) (by omega) (by omega)]
   refine (proper_l1 hc hN hl n _ (i+1) (by omega) (by split<;>omega) (by split<;>omega) (by omega) (by omega)).mono fun e he=>?_
   cases e with
   | ret a=>exact he
   | nxt b =>
   obtain ⟨k1,k2⟩:=he
   refine ⟨fun j hj hj2=>?_,fun hi hpos hk=>?_⟩
   ·by_cases hji:j=i
    ·subst hji;exact hok
    ·exact k1 j (by omega) hj2
   ·subst hi
    rw[hpg] at hk
    have:=hk3.1 hk
    have:=hi0 rfl
    omega
  refine Ok.jn ?_
  refine Ok.bif (fun q0=>Ok.bif (fun _=>Ok.some rfl) fun q1=>?_) fun q0=>Ok.jn (Ok.bif (fun q1=>Ok.bif (fun _=>Ok.some rfl) fun q2=>Ok.bif (fun _=>Ok.some rfl) fun q3=>?_) fun q1=>Ok.jn (Ok.bif (fun q2=>?_) fun q2=>Ok.bif (fun q3=>Ok.bif (fun _=>Ok.some rfl) fun q4=>Ok.bif (fun _=>Ok.some rfl) fun q5=>?_) fun q3=>Ok.some rfl))
  ·refine next due hd hd4 ?_
   have hk:p.Kind=0:=by simpa using q0
   simp only[Bool.not_eq_false',Bool.and_eq_true,beq_iff_eq] at q1
   have hz:pg h.Pages i=pageZ:=by
    rw[hpg];cases p;simp only at q1;obtain ⟨rfl,rfl,rfl,rfl⟩:=q1;rfl
   refine ⟨by rw[hz];decide,by rw[hz];decide,by rw[hz];decide,fun _=>hz,fun e=>?_,fun e=>?_⟩
   ·rw[hz] at e;cases e
   ·rw[hz] at e;cases e
  ·refine next due hd hd4 ?_
   have hk:p.Kind=1:=by simpa using q1
   simp only[decide_eq_false_iff_not,Int.not_lt] at q2 q3
   exact ⟨by rw[hpg];omega,by rw[hpg];omega,by rw[hpg];omega,fun e=>by rw[hpg] at e;omega,fun _=>by rw[hpg];omega,fun e=>by rw[hpg] at e;omega⟩
  ·have hk:p.Kind=2:=by simpa using q2
   rw[need_eq (by omega),bnd_eq]
   refine Ok.bif (fun _=>Ok.some rfl) fun q3=>?_
   refine Ok.bnd (tails_ok (N:=N) (ps:=h.Pages) p.Space i (by omega) (by omega) h0 (by omega)) fun t _ ht=>?_
   refine Ok.bif (fun _=>Ok.some rfl) fun q4=>?_
   have hr:=needC_r h.Conf p.Used
   have hn1:1<=needC h.Conf p.Used:=by have:=of_decide_eq_false q3;omega
   have hn2:needC h.Conf p.Used-1<=t:=by
    have:=of_decide_eq_false q4
    rw[wI_id (by omega) (by omega)] at this
    omega
   refine next _ (by omega) (by omega) ?_
   exact ⟨by rw[hpg];omega,by rw[hpg];omega,by rw[hpg];omega,fun e=>by rw[hpg] at e;omega,fun e=>by rw[hpg] at e;omega,fun _=>by rw[hpg];exact ⟨hn1,fun m h1 h2=>ht.2 m h1 (by omega)⟩⟩
  ·refine next due hd hd4 ?_
   have hk:p.Kind=3:=by simpa using q3
   exact ⟨by rw[hpg];omega,by rw[hpg];omega,by rw[hpg];omega,fun e=>by rw[hpg] at e;omega,fun e=>by rw[hpg] at e;omega,fun e=>by rw[hpg] at e;omega⟩
theorem proper_ok {N:Nat} (hN:100000<N) {h:THeap} (hw:h.Words.length<=100000) (hp:h.Pages.length<=100000):Ok (Qaw N h) fun b=>b=true->PropH h:=by
 rw[Qaw,vconf_eq,bnd_eq]
 refine Ok.bif (fun _=>Ok.some fun e=>by cases e) fun g1=>?_
 have hc:vconf h.Conf=true:=by simpa using g1
 have hv:=vconf_iff.1 hc
 have hm:=pw_mul hc (i:=0) (by omega) (by omega)
 refine Ok.bif (fun _=>Ok.some fun e=>by cases e) fun g2=>?_
 refine Ok.bif (fun _=>Ok.some fun e=>by cases e) fun g3=>?_
 refine Ok.bif (fun _=>Ok.some fun e=>by cases e) fun g4=>?_
 refine Ok.bif (fun _=>Ok.some fun e=>by cases e) fun g5=>?_
 have e2:(h.Words.length:Int)=h.Conf.Pages*h.Conf.PageWords:=by
  have:(h.Words.length:Int)=wI (h.Conf.Pages*h.Conf.PageWords):=by simpa using g2
  rwa[wI_id (by omega) (by omega)] at this
 have e3:(h.Pages.length:Int)=h.Conf.Pages:=by simpa using g3
 have e4:0<=h.Space∧h.Space<=1:=⟨by simpa using g4,by simpa using g5⟩
 have main:(h.Bump = -1∨(0<=h.Bump∧h.Bump<h.Pages.length∧(pg h.Pages h.Bump).Kind=1))->Ok (bnd (Qby N h N 0 0) fun e=>exK e (fun r=>some r) fun y12=>some true) fun b=>b=true->PropH h:=by
  intro hb
  refine Ok.exk (proper_l1 (N:=N) (h:=h) hc hN e3 N 0 0 (by omega) (by omega) (by omega) (by omega) (by omega)) (fun a hq=>?_) fun b hq=>Ok.some fun _=>?_
  ·have ha:a=false:=hq
   subst ha
   exact Ok.some fun e=>by cases e
  ·obtain ⟨k1,k2⟩:=hq
   exact ⟨hc,e2,e3,e4,hb,k1,k2 rfl (by omega)⟩
 refine Ok.jn (Ok.bif (fun b1=>Ok.bif (fun _=>Ok.some fun e=>by cases e) fun b2=>Ok.bif (fun _=>Ok.some fun e=>by cases e) fun b3=>?_) fun b1=>main (.inl (by simpa using b1)))
 have h2:0<=h.Bump:=by simpa using b2
 have h3:h.Bump<h.Pages.length:=by simpa using b3
 refine Ok.get h2 h3 fun p hp=>Ok.bif (fun _=>Ok.some fun e=>by cases e) fun b4=>main (.inr ⟨h2,h3,?_⟩)
 rw[getI_pg hp];simpa using b4
end Go.Sx
namespace Go.Sx
theorem dlt {a b:Int} (h:decide (a<b)=true):a<b:=of_decide_eq_true h
theorem pg_set {ps:List TPage} {i j:Int} (p:TPage) (hi:0<=i) (hi2:i<ps.length) (hj:0<=j):pg (ps.set i.toNat p) j=if j=i then p else pg ps j:=by
 unfold pg
 simp only[List.getD_eq_getElem?_getD,List.getElem?_set]
 by_cases h:j=i
 ·subst h;rw[if_pos rfl,if_pos rfl,if_pos (by omega)];rfl
 ·rw[if_neg (by omega),if_neg h]
theorem inuse_l1 (N:Nat) (ps:List TPage) (hl:ps.length<=100000000):∀ (n:Nat) (c i:Int),0<=i->0<=c->c<=i->i<=ps.length->(ps.length-i).toNat<n->Ok (Qco N ps n c i) fun r=>0<=r∧r<=ps.length
 | 0,c,i,_,_,_,_,h=>by omega
 | n+1,c,i,h0,hc,hci,hi,hn=>by
  rw[Qco]
  refine Ok.bif (fun h=>?_) fun h=>Ok.some ⟨hc,by omega⟩
  have h1:i<ps.length:=dlt h
  refine Ok.get h0 h1 fun p hp=>?_
  rw[wI_id (n:=c+1) (by omega) (by omega),wI_id (n:=i+1) (by omega) (by omega)]
  refine Ok.bif (fun _=>?_) fun _=>?_
  ·exact inuse_l1 N ps hl n (c+1) (i+1) (by omega) (by omega) (by omega) (by omega) (by omega)
  ·exact inuse_l1 N ps hl n c (i+1) (by omega) (by omega) (by omega) (by omega) (by omega)
theorem inuse_ok {N:Nat} {ps:List TPage} (hl:ps.length<=100000000) (hN:ps.length<N):Ok (Qe9 N ps) fun r=>0<=r∧r<=ps.length :=
 Ok.bnd (inuse_l1 N ps hl N 0 0 (by omega) (by omega) (by omega) (by omega) (by omega)) fun r _ h=>Ok.some h
def RunOK (ps:List TPage) (i k:Int):Prop:=0<=i∧1<=k∧i+k<=ps.length∧∀ m,0<=m->m<k->(pg ps (i+m)).Kind=0
theorem runs_l1 (N:Nat) (ps:List TPage) (hl:ps.length<=100000000):∀ (n:Nat) (i:Int) (rs:List TRun),0<=i->i<=ps.length->(ps.length-i).toNat<n->rs.length<=i->(∀ r∈rs,RunOK ps r.From r.Len) ->
 Ok (QbG N ps n i rs) fun out=>out.length<=ps.length∧∀ r∈out,RunOK ps r.From r.Len
 | 0,i,rs,_,_,h,_,_=>by omega
 | n+1,i,rs,h0,hi,hn,hlen,hrs=>by
  rw[QbG]
  refine Ok.bif (fun h=>?_) fun h=>Ok.some ⟨by omega,hrs⟩
  have h1:i<ps.length:=dlt h
  refine Ok.get h0 h1 fun p hp=>?_
  have hpg:=getI_pg hp
  rw[wI_id (n:=i+1) (by omega) (by omega)]
  refine Ok.bif (fun _=>runs_l1 N ps hl n (i+1) rs (by omega) (by omega) (by omega) (by omega) hrs) fun hk=>?_
  have hk:p.Kind=0:=by simpa using hk
  have new:Ok (grd ((rs.length+1)*16<=140737488355328) (QbG N ps n (i+1) (rs++[TRun.mk i 1]))) fun out=>out.length<=ps.length∧∀ r∈out,RunOK ps r.From r.Len:=by
   refine Ok.grd (by omega) (runs_l1 N ps hl n (i+1) _ (by omega) (by omega) (by omega) (by rw[List.length_append];simp only[List.length_cons,List.length_nil];omega) fun r hr=>?_)
   rcases List.mem_append.1 hr with hr | hr
   ·exact hrs r hr
   ·have:r=TRun.mk i 1:=by simpa using hr
    subst this
    refine ⟨h0,by show (1:Int)<=1;omega,by show i+1<=_;omega,fun m h1 h2=>?_⟩
    have h2:m<1:=h2
    have:m=0:=by omega
    subst this
    show (pg ps (i+0)).Kind=0
    rw[Int.add_zero,hpg];exact hk
  refine Ok.grd (by omega) (Ok.jn (Ok.bif (fun hp1=>?_) fun _=>new))
  have hp1:0<(rs.length:Int):=of_decide_eq_true hp1
  rw[wI_id (n:=((rs.length:Nat):Int)-1) (by omega) (by omega)]
  refine Ok.get (by omega) (by omega) fun q hq=>Ok.get (by omega) (by omega) fun q' hq'=>?_
  obtain rfl:q=q':=Option.some.inj (hq.symm.trans hq')
  have hqm:=hrs q (getI_mem hq)
  have hb:=hqm.2.2.1
  rw[wI_id (n:=q.From+q.Len) (by have:=hqm.1;have:=hqm.2.1;omega) (by omega)]
  refine Ok.bif (fun he=>?_) fun _=>new
  have he:q.From+q.Len=i:=by simpa using he
  refine Ok.get (by omega) (by omega) fun q2 hq2=>Ok.get (by omega) (by omega) fun q3 hq3=>?_
  obtain rfl:q=q2:=Option.some.inj (hq.symm.trans hq2)
  obtain rfl:q=q3:=Option.some.inj (hq.symm.trans hq3)
  have:=hqm.1
  have:=hqm.2.1
  rw[wI_id (n:=q.Len+1) (by omega) (by omega)]
  refine runs_l1 N ps hl n (i+1) _ (by omega) (by omega) (by omega) (by rw[List.length_set];omega) fun r hr=>?_
  rcases List.mem_or_eq_of_mem_set hr with hr | hr
  ·exact hrs r hr
  ·subst hr
   refine ⟨hqm.1,by show 1<=q.Len+1;omega,by show q.From+(q.Len+1)<=_;omega,fun m h1 h2=>?_⟩
   show (pg ps (q.From+m)).Kind=0
   have h2:m<q.Len+1:=h2
   by_cases hm:m<q.Len
   ·exact hqm.2.2.2 m h1 hm
   ·have:q.From+m=i:=by omega
    rw[this,hpg];exact hk
theorem runs_ok {N:Nat} {ps:List TPage} (hl:ps.length<=100000000) (hN:ps.length<N):Ok (QfV N ps) fun out=>out.length<=ps.length∧∀ r∈out,RunOK ps r.From r.Len :=
 Ok.bnd (runs_l1 N ps hl N 0 [] (by omega) (by omega) (by omega) (by simp) (by simp)) fun r _ h=>Ok.some h
theorem RunOK.less {ps:List TPage} {i k j:Int} (h:RunOK ps i k) (h1:1<=j) (h2:j<=k):RunOK ps i j:=⟨h.1,h1,by have:=h.2.2.1;omega,fun m a b=>h.2.2.2 m a (by omega)⟩
theorem first_l1 (N:Nat) (ps:List TPage) (k:Int) (rs:List TRun) (hl:rs.length<=100000000) (hrs:∀ r∈rs,RunOK ps r.From r.Len):∀ (n:Nat) (i:Int),0<=i->i<=rs.length->(rs.length-i).toNat<n ->
 Ok (Qcm N k rs n i) fun e=>∀ a,e=.ret a->RunOK ps a k
 | 0,i,_,_,h=>by omega
 | n+1,i,h0,hi,hn=>by
  rw[Qcm]
  refine Ok.bif (fun h=>?_) fun h=>Ok.some fun a e=>by cases e
  have h1:i<rs.length:=dlt h
  rw[wI_id (n:=i+1) (by omega) (by omega)]
  have next:=first_l1 N ps k rs hl hrs n (i+1) (by omega) (by omega) (by omega)
  refine Ok.bif (fun hk=>?_) fun _=>next
  refine Ok.get h0 h1 fun p hp=>Ok.bif (fun hk2=>?_) fun _=>next
  refine Ok.get h0 h1 fun p' hp'=>Ok.some fun a e=>?_
  obtain rfl:p=p':=Option.some.inj (hp.symm.trans hp')
  cases e
  have hk:1<=k:=of_decide_eq_true hk
  have hk2:k<=p.Len:=of_decide_eq_true hk2
  exact (hrs p (getI_mem hp)).less hk hk2
theorem first_ok {N:Nat} {ps:List TPage} (k:Int) (hl:ps.length<=100000000) (hN:ps.length<N):Ok (Qc5 N ps k) fun i=>i = -1∨RunOK ps i k:=by
 refine Ok.bnd (runs_ok hl hN) fun rs _ h=>?_
 refine Ok.exk (first_l1 N ps k rs (by omega) h.2 N 0 (by omega) (by omega) (by omega)) (fun a q=>Ok.some (.inr (q a rfl))) fun _ _=>Ok.some (.inl rfl)
def Taken (ps out:List TPage) (i k:Int) (first rest:TPage):Prop:=out.length=ps.length∧∀ j,0<=j->pg out j=if j=i then first else if i<=j∧j<i+k then rest else pg ps j
theorem take_l1 (N:Nat) (ps:List TPage) (i k:Int) (f r:TPage) (hl:ps.length<=100000000) (hi:0<=i) (hk:i+k<=ps.length):∀ (n:Nat) (m:Int) (v:List TPage),0<=m->(m<=k∨m=0)->(k-m).toNat<n->v.length=ps.length->(∀ j,0<=j->pg v j=if i<=j∧j<i+m then r else pg ps j) ->
 Ok (QdB N i k f r n m v) fun e=>(∀ o,e=.nxt o->o.length=ps.length∧∀ j,0<=j->pg o j=if i<=j∧j<i+k then r else pg ps j)∧(∀ o,e=.ret o->o.2=20∧o.1=[])∧((∀ j,m<=j->j<k->(pg ps (i+j)).Kind=0)->∀ o,e≠.ret o)
 | 0,m,v,_,_,h,_,_=>by omega
 | n+1,m,v,h0,hm,hn,hv,hpg=>by
  rw[QdB]
  refine Ok.bif (fun h=>?_) fun h=>Ok.some ⟨fun o e=>?_,fun o e=>(by cases e),fun _ o e=>(by cases e)⟩
  rotate_left
  ·cases e
   have:¬ m<k:=of_decide_eq_false h
   refine ⟨hv,fun j hj=>?_⟩
   rw[hpg j hj]
   by_cases hc:i<=j∧j<i+m
   ·rw[if_pos hc,if_pos (by omega)]
   ·rw[if_neg hc,if_neg (by omega)]
  have h1:m<k:=dlt h
  rw[wI_id (n:=i+m) (by omega) (by omega),wI_id (n:=m+1) (by omega) (by omega)]
  refine Ok.get (by omega) (by omega) fun p hp=>?_
  have hpk:p=pg ps (i+m):=by rw[← getI_pg hp,hpg _ (by omega),if_neg (by omega)]
  refine Ok.bif (fun hk2=>Ok.some ⟨fun o e=>(by cases e),fun o e=>(by cases e;exact ⟨rfl,rfl⟩),fun hall=>?_⟩) fun hk2=>?_
  ·have:=hall m (by omega) h1
   rw[← hpk] at this
   simp[this] at hk2
  refine Ok.get (by omega) (by omega) fun p' hp'=>?_
  refine (take_l1 N ps i k f r hl hi hk n (m+1) _ (by omega) (by omega) (by omega) (by rw[List.length_set];exact hv) fun j hj=>?_).mono fun e he=>⟨he.1,he.2.1,fun hall=>he.2.2 fun j a b=>hall j (by omega) b⟩
  rw[pg_set r (by omega) (by omega) hj,hpg j hj]
  by_cases hc:j=i+m
  ·rw[if_pos hc,if_pos (by omega)]
  ·rw[if_neg hc]
   by_cases hd:i<=j∧j<i+m
   ·rw[if_pos hd,if_pos (by omega)]
   ·rw[if_neg hd,if_neg (by omega)]
theorem take_ok {N:Nat} {ps:List TPage} (i k:Int) (f r:TPage) (hl:ps.length<=1000000) (hN:1000000<N) (hk1:1<=k) (hk2:k<=1000000):Ok (QeT N ps i k f r) fun o=>(o.2=0->0<=i∧i+k<=ps.length∧Taken ps o.1 i k f r)∧(o.2≠0->o.1=[])∧(RunOK ps i k->o.2=0):=by
 rw[QeT]
 refine Ok.bif (fun h=>Ok.some ⟨fun e=>(by cases e),fun _=>rfl,fun hr=>?_⟩) fun h1=>?_
 ·have:=of_decide_eq_true h;have:=hr.1;omega
 have h1:¬ i<0:=of_decide_eq_false h1
 refine Ok.bif (fun h=>Ok.some ⟨fun e=>(by cases e),fun _=>rfl,fun hr=>?_⟩) fun h2=>?_
 ·have:=of_decide_eq_true h;have:=hr.2.2.1;omega
 have h2:¬ i>=(ps.length:Int):=of_decide_eq_false h2
 rw[wI_id (n:=((ps.length:Nat):Int)-i) (by omega) (by omega)]
 refine Ok.bif (fun h=>Ok.some ⟨fun e=>(by cases e),fun _=>rfl,fun hr=>?_⟩) fun h3=>?_
 ·have:=of_decide_eq_true h;have:=hr.2.2.1;omega
 have h3:¬ k>(ps.length:Int)-i:=of_decide_eq_false h3
 refine Ok.grd (by omega) (Ok.exk (take_l1 N ps i k f r (by omega) (by omega) (by omega) N 0 ps (by omega) (by omega) (by omega) rfl fun j hj=>(by rw[if_neg (by omega)])) (fun a q=>?_) fun o q=>?_)
 ·obtain ⟨e1,e2⟩:=q.2.1 a rfl
  refine Ok.some ⟨fun e=>(by rw[e1] at e;cases e),fun _=>e2,fun hr=>?_⟩
  exact absurd rfl (q.2.2 (fun j a b=>hr.2.2.2 j a b) a)
 ·obtain ⟨e1,e2⟩:=q.1 o rfl
  refine Ok.get (by omega) (by omega) fun p hp=>Ok.some ⟨fun _=>⟨by omega,by omega,⟨by rw[List.length_set];exact e1,fun j hj=>?_⟩⟩,fun e=>absurd rfl e,fun _=>rfl⟩
  rw[pg_set f (by omega) (by omega) hj,e2 j hj]
theorem small_ok {N:Nat} {ps:List TPage} (i sp:Int) (hl:ps.length<=1000000) (hN:1000000<N):Ok (Qc6 N ps i sp) fun o=>(o.2=0->0<=i∧i+1<=ps.length∧Taken ps o.1 i 1 ⟨1,sp,0,0⟩ ⟨0,0,0,0⟩)∧(o.2≠0->o.1=[])∧(RunOK ps i 1->0<=sp->sp<=1->o.2=0):=by
 rw[Qc6]
 refine Ok.bif (fun h=>Ok.some ⟨fun e=>(by cases e),fun _=>rfl,fun _ h1 h2=>?_⟩) fun h1=>?_
 ·have:=of_decide_eq_true h;omega
 refine Ok.bif (fun h=>Ok.some ⟨fun e=>(by cases e),fun _=>rfl,fun _ h1 h2=>?_⟩) fun h2=>?_
 ·have:=of_decide_eq_true h;omega
 refine Ok.bnd (take_ok i 1 ⟨1,sp,0,0⟩ ⟨0,0,0,0⟩ hl hN (by omega) (by omega)) fun y _ hy=>Ok.some ⟨hy.1,hy.2.1,fun hr _ _=>hy.2.2 hr⟩
theorem large_ok {N:Nat} {ps:List TPage} (c:TConf) (i sp w:Int) (hl:ps.length<=1000000) (hN:1000000<N):Ok (Qfa N c ps i sp w) fun o=>(o.2=0->0<=i∧i+needC c w<=ps.length∧1<=needC c w∧Taken ps o.1 i (needC c w) ⟨2,sp,w,0⟩ ⟨3,sp,0,0⟩)∧(o.2≠0->o.1=[]):=by
 rw[Qfa,need_eq (by omega),bnd_eq]
 refine Ok.bif (fun h=>Ok.some ⟨fun e=>(by cases e),fun _=>rfl⟩) fun h0=>?_
 have h0:¬ needC c w<1:=of_decide_eq_false h0
 refine Ok.bif (fun h=>Ok.some ⟨fun e=>(by cases e),fun _=>rfl⟩) fun h1=>?_
 refine Ok.bif (fun h=>Ok.some ⟨fun e=>(by cases e),fun _=>rfl⟩) fun h2=>?_
 have hr:=needC_r c w
 refine Ok.bnd (take_ok i (needC c w) ⟨2,sp,w,0⟩ ⟨3,sp,0,0⟩ hl hN (by omega) (by omega)) fun y _ hy=>Ok.some ⟨fun e=>?_,hy.2.1⟩
 obtain ⟨a,b,c'⟩:=hy.1 e
 exact ⟨a,b,by omega,c'⟩
end Go.Sx
namespace Go.Sx
def HB (h:THeap):Prop:=h.Words.length<=100000∧h.Pages.length<=100000
def NB (N:Nat):Prop:=10000000<N
def zH:THeap:=⟨⟨0,0⟩,[],[],0,0⟩
theorem zH_HB:HB zH:=⟨by decide,by decide⟩
def wd (ws:List Int) (a:Int):Int:=ws.getD (ix a) 0
def hdA (ws:List Int) (a:Int):THeader:=decH (wd ws a)
def szA (ws:List Int) (a:Int):Int:=(hdA ws a).Length+1
theorem szA_eq (ws:List Int) (a:Int):sizeH (hdA ws a)=szA ws a∧1<=szA ws a∧szA ws a<=256:=by
 have:=decH_size (wd ws a)
 unfold szA hdA
 omega
def pgi (c:TConf) (a:Int):Int:=(a-4096) / c.PageWords
def pgo (c:TConf) (a:Int):Int:=(a-4096) % c.PageWords
structure AtOK (h:THeap) (a:Int):Prop where
 rng:4096<=a∧a<4096+h.Conf.Pages*h.Conf.PageWords
 kind:(pg h.Pages (pgi h.Conf a)).Kind=1∨(pg h.Pages (pgi h.Conf a)).Kind=2
 ok:okH (wd h.Words a)=true
 used:pgo h.Conf a<(pg h.Pages (pgi h.Conf a)).Used
 small:(pg h.Pages (pgi h.Conf a)).Kind=1->pgo h.Conf a+szA h.Words a<=(pg h.Pages (pgi h.Conf a)).Used
 large:(pg h.Pages (pgi h.Conf a)).Kind=2->pgo h.Conf a=0∧szA h.Words a=(pg h.Pages (pgi h.Conf a)).Used
theorem at_ok {N:Nat} (hN:NB N) {h:THeap} (hb:HB h) (a:Int):Ok (Qbt N h a) fun r=>r.2=0->PropH h∧Qaw N h=some true∧AtOK h a∧r.1=hdA h.Words a:=by
 unfold NB at hN
 rw[Qbt]
 refine Ok.bnd (proper_ok (N:=N) (by omega) hb.1 hb.2) fun b eb hp=>?_
 refine Ok.bif (fun _=>Ok.some fun e=>by cases e) fun hb1=>?_
 have hbt:b=true:=by simpa using hb1
 subst hbt
 have hp:=hp rfl
 rw[of_eq,bnd_eq,hp.conf,if_neg (by simp)]
 have hv:=vconf_iff.1 hp.conf
 by_cases hr:4096<=a∧a<4096+h.Conf.Pages*h.Conf.PageWords
 rotate_left
 ·rw[if_neg hr];exact Ok.bif (fun _=>Ok.some fun e=>by cases e) fun e=>by cases e
 rw[if_pos hr,show (a-4096) / h.Conf.PageWords=pgi h.Conf a from rfl,show (a-4096) % h.Conf.PageWords=pgo h.Conf a from rfl]
 have hof:=of_page hp.conf hr.1 hr.2
 refine Ok.bif (fun e=>by cases e) fun _=>?_
 show Ok (bnd (getI h.Pages (pgi h.Conf a)) _) _
 have hl:=hp.pages
 have h0:0<=pgi h.Conf a:=hof.1
 have h1:pgi h.Conf a<h.Pages.length:=by have:pgi h.Conf a<h.Conf.Pages:=hof.2.1;omega
 refine Ok.get h0 h1 fun p hpp=>?_
 have hpg:=getI_pg hpp
 have hin:inW h.Words a:=by unfold inW;have:=hp.words;omega
 rw[Load_eq (by unfold BIG;have:=hb.1;omega),bnd_eq,if_pos hin]
 show Ok (bnd (Qbi N (wd h.Words a)) _) _
 rw[decH_eq,bnd_eq]
 show Ok (jn _ _) _
 have hsz:=szA_eq h.Words a
 have hpo:pgo h.Conf a<h.Conf.PageWords:=hof.2.2.2.1
 have hpo0:0<=pgo h.Conf a:=hof.2.2.1
 have rest:okH (wd h.Words a)=true->(p.Kind=1∨p.Kind=2)->pgo h.Conf a<p.Used->Ok (α:=THeader×Int) (bnd (QbE N (decH (wd h.Words a))) fun y6 =>
  bif (p.Kind==1) then (bif (decide ((wI (pgo h.Conf a+y6))>p.Used)) then some ((THeader.mk 0 0 0),19)
   else bif (p.Kind==2) then (bif (pgo h.Conf a != 0) then some ((THeader.mk 0 0 0),19)
    else bif (y6 != p.Used) then some ((THeader.mk 0 0 0),19)
    else some (decH (wd h.Words a),0))
   else some (decH (wd h.Words a),0))
  else bif (p.Kind==2) then (bif (pgo h.Conf a != 0) then some ((THeader.mk 0 0 0),19)
   else bif (y6 != p.Used) then some ((THeader.mk 0 0 0),19)
   else some (decH (wd h.Words a),0))
  else some (decH (wd h.Words a),0)) fun r=>r.2=0->PropH h∧Qaw N h=some true∧AtOK h a∧r.1=hdA h.Words a:=by
  intro ho hk hu
  rw[sizeH_eq,bnd_eq]
  have e1:sizeH (decH (wd h.Words a))=szA h.Words a:=hsz.1
  rw[e1,wI_id (by omega) (by omega)]
  refine Ok.bif (fun k1=>?_) fun k1=>?_
  ·have k1:p.Kind=1:=by simpa using k1
   refine Ok.bif (fun _=>Ok.some fun e=>by cases e) fun k2=>?_
   have k2:¬ pgo h.Conf a+szA h.Words a>p.Used:=of_decide_eq_false k2
   refine Ok.bif (fun k3=>by rw[k1] at k3;cases k3) fun _=>Ok.some fun _=>⟨hp,eb,⟨hr,by rw[hpg];exact hk,ho,by rw[hpg];exact hu,fun _=>by rw[hpg];omega,fun e=>by rw[hpg,k1] at e;cases e⟩,rfl⟩
  ·have k1:¬ p.Kind=1:=by simpa using k1
   have k2:p.Kind=2:=by omega
   refine Ok.bif (fun _=>?_) fun k3=>by rw[k2] at k3;cases k3
   refine Ok.bif (fun _=>Ok.some fun e=>by cases e) fun k3=>?_
   refine Ok.bif (fun _=>Ok.some fun e=>by cases e) fun k4=>Ok.some fun _=>⟨hp,eb,⟨hr,by rw[hpg];exact hk,ho,by rw[hpg];exact hu,fun e=>by rw[hpg] at e;omega,fun _=>⟨by simpa using k3,by rw[hpg];simpa using k4⟩⟩,rfl⟩
 refine Ok.jn (Ok.bif (fun k1=>Ok.bif (fun _=>Ok.some fun e=>by cases e) fun k2=>Ok.bif (fun _=>Ok.some fun e=>by cases e) fun k3=>Ok.bif (fun _=>Ok.some fun e=>by cases e) fun k4=>?_) fun k1=>Ok.bif (fun _=>Ok.some fun e=>by cases e) fun k3=>Ok.bif (fun _=>Ok.some fun e=>by cases e) fun k4=>?_)
 ·exact rest (by simpa using k4) (.inr (by simpa using k2)) (by have k5:¬ (pgo h.Conf a>=p.Used):=of_decide_eq_false k3;omega)
 ·exact rest (by simpa using k4) (.inl (by simpa using k1)) (by have k5:¬ (pgo h.Conf a>=p.Used):=of_decide_eq_false k3;omega)
theorem get_ok {N:Nat} (hN:NB N) {h:THeap} (hb:HB h) (a:Int):Ok (Qcx N h a) fun r=>r.2=0->PropH h∧Qaw N h=some true∧AtOK h a∧r.1=hdA h.Words a∧r.1.Kind≠0:=by
 have hN':=hN
 unfold NB at hN
 rw[Qcx]
 refine Ok.bnd (proper_ok (N:=N) (by omega) hb.1 hb.2) fun b eb hp=>?_
 refine Ok.bif (fun _=>Ok.some fun e=>by cases e) fun hb1=>?_
 refine Ok.bif (fun _=>Ok.some fun e=>by cases e) fun _=>?_
 refine Ok.bnd (at_ok hN' hb a) fun y ey hy=>?_
 refine Ok.bif (fun k1=>Ok.bif (fun _=>Ok.some fun e=>by cases e) fun k2=>Ok.some fun e=>?_) fun k1=>Ok.some fun e=>?_
 ·obtain ⟨q1,q2,q3,q4⟩:=hy e
  exact ⟨q1,q2,q3,q4,by simpa using k2⟩
 ·exact absurd e (by simpa using k1)
theorem field_ok {N:Nat} (hN:NB N) {h:THeap} (hb:HB h) (a i:Int):Ok (Qc9 N h a i) fun r=>r.2=0->PropH h∧AtOK h a∧0<=i∧i<(hdA h.Words a).Length:=by
 rw[Qc9]
 refine Ok.bnd (get_ok hN hb a) fun y ey hy=>?_
 refine Ok.bif (fun k=>Ok.some fun e=>absurd e (by simpa using k)) fun k1=>?_
 refine Ok.bif (fun _=>Ok.some fun e=>by cases e) fun k2=>?_
 refine Ok.bif (fun _=>Ok.some fun e=>by cases e) fun k3=>?_
 obtain ⟨q1,q2,q3,q4,q5⟩:=hy (by simpa using k1)
 rw[Load_eq (by unfold BIG;have:=hb.1;omega),bnd_eq]
 refine Ok.some fun _=>⟨q1,q3,?_,?_⟩
 ·have:=of_decide_eq_false k2;omega
 ·have:=of_decide_eq_false k3;rw[q4] at this;omega
theorem setField_ok {N:Nat} (hN:NB N) {h:THeap} (hb:HB h) (a i v:Int):Ok (QbP N h a i v) fun r=>HB r.1:=by
 rw[QbP]
 refine Ok.bnd (field_ok hN hb a i) fun y ey hy=>?_
 refine Ok.bif (fun _=>Ok.some zH_HB) fun k1=>?_
 have hN':=hN
 unfold NB at hN'
 rw[Store_eq (by unfold BIG;have:=hb.1;omega) (by omega),bnd_eq]
 refine Ok.some ?_
 split
 ·exact ⟨by rw[List.length_set];exact hb.1,hb.2⟩
 ·exact ⟨by simp,hb.2⟩
theorem fields_ok {N:Nat} (hN:NB N) {h:THeap} (hb:HB h) (a:Int):Ok (QeI N h a) fun r=>r.1.length<=256:=by
 rw[QeI]
 refine Ok.bnd (get_ok hN hb a) fun y ey hy=>?_
 refine Ok.bif (fun _=>Ok.some (by simp)) fun k1=>?_
 obtain ⟨q1,q2,q3,q4,q5⟩:=hy (by simpa using k1)
 have hsz:=szA_eq h.Words a
 have hlen:y.1.Length=szA h.Words a-1:=by rw[q4];unfold szA;omega
 obtain ⟨k,hk⟩:=Int.eq_ofNat_of_zero_le (a:=y.1.Length) (by omega)
 rw[hk,Read_eq (by unfold BIG;have:=hb.1;omega) N _ k (by omega),bnd_eq]
 refine Ok.some ?_
 split
 ·simp only[List.length_take];omega
 ·simp
theorem init_ok {N:Nat} (hN:NB N) {h:THeap} (hb:HB h) (a:Int) (hd:THeader):Ok (Qel N h a hd) fun r=>HB r.1:=by
 have hN':=hN
 unfold NB at hN'
 rw[Qel,encH_eq,bnd_eq]
 refine Ok.bnd (proper_ok (N:=N) (by omega) hb.1 hb.2) fun b eb hp=>?_
 refine Ok.bif (fun _=>Ok.some zH_HB) fun _=>?_
 refine Ok.bif (fun _=>Ok.some zH_HB) fun k1=>?_
 have hv:validH hd=true:=by
  cases hv:validH hd with
  | true=>rfl
  | false=>rw[hv] at k1;cases k1
 have hb2:=validH_b hv
 refine Ok.grd (by omega) (Ok.grd (by omega) ?_)
 rw[if_pos hv,Write_eq (by unfold BIG;have:=hb.1;omega) (by unfold BIG;simp;omega) (by simp;omega),bnd_eq]
 split
 ·rename_i hin
  refine Ok.bif (fun e=>by cases e) fun _=>Ok.some ⟨?_,hb.2⟩
  have hb1:=hb.1
  rw[ovr_length]
  ·exact hb1
  ·unfold inWs at hin;unfold ix;omega
 ·exact Ok.bif (fun _=>Ok.some zH_HB) fun e=>by cases e
end Go.Sx
namespace Go.Sx
theorem has_l1 (N:Nat) (l:List Int) (v:Int) (hl:l.length<=1000000000):∀ (n k:Nat),k<=l.length->l.length-k<n->Qd0 N l v n (k:Int)=some (if (l.drop k).contains v then .ret true else .nxt ())
 | 0,k,_,h=>by omega
 | n+1,k,hk,hn=>by
  rw[Qd0]
  by_cases h:k<l.length
  ·have e1:decide ((k:Int)<((l.length:Nat):Int))=true:=decide_eq_true (by omega)
   rw[e1,cond_true,getI_nat,List.getElem?_eq_getElem h,bnd_eq,wI_id (by omega) (by omega)]
   rw[show ((k:Int)+1)=((k+1:Nat):Int) by omega,has_l1 N l v hl n (k+1) (by omega) (by omega)]
   rw[List.drop_eq_getElem_cons h,List.contains_cons]
   by_cases h2:l[k]=v
   ·subst h2;simp
   ·rw[show (l[k]==v)=false by simpa using h2,cond_false,show (v==l[k])=false by simpa using fun e=>h2 e.symm,Bool.false_or]
  ·have e1:decide ((k:Int)<((l.length:Nat):Int))=false:=decide_eq_false (by omega)
   rw[e1,cond_false,List.drop_eq_nil_of_le (by omega)]
   simp
theorem has_eq {N:Nat} {l:List Int} (v:Int) (hl:l.length<=1000000000) (hN:l.length<N):QbM N l v=some (l.contains v):=by
 have h:=has_l1 N l v hl N 0 (by omega) (by omega)
 rw[show ((0:Nat):Int)=0 from rfl,List.drop_zero] at h
 rw[QbM,h,bnd_eq]
 cases l.contains v
 ·simp[exK_nxt]
 ·simp[exK_ret]
structure ObjL (N:Nat) (h:THeap) (l:List Int):Prop where
 at_:∀ a∈l,AtOK h a
 ev:∀ a∈l,Qbt N h a=some (hdA h.Words a,0)
 pw:l.Pairwise fun a b=>a+szA h.Words a<=b
def onPage (h:THeap) (i:Int) (l:List Int):Prop:=∀ a∈l,addrC h.Conf i 0<=a∧pgi h.Conf a=i
theorem addr_mono {c:TConf} {i o p:Int} (h:o<=p):addrC c i o<=addrC c i p:=by unfold addrC;omega
theorem pgi_addr {c:TConf} (hc:vconf c=true) {p o:Int} (h0:0<=o) (h1:o<c.PageWords):pgi c (addrC c p o)=p∧pgo c (addrC c p o)=o:=of_addr hc h0 h1
theorem pgi_eq {c:TConf} (hc:vconf c=true) {a:Int} (h:4096<=a∧a<4096+c.Pages*c.PageWords):a=addrC c (pgi c a) (pgo c a)∧0<=pgi c a∧pgi c a<c.Pages∧0<=pgo c a∧pgo c a<c.PageWords:=by
 have:=of_page hc h.1 h.2
 exact ⟨this.2.2.2.2,this.1,this.2.1,this.2.2.1,this.2.2.2.1⟩
def Upto (N:Nat) (h:THeap) (i o:Int) (l:List Int):Prop:=ObjL N h l∧onPage h i l∧(∀ a∈l,a+szA h.Words a<=addrC h.Conf i o)∧(l.length:Int)<=o
theorem ObjL.snoc {N:Nat} {h:THeap} {l:List Int} {a:Int} (hl:ObjL N h l) (ha:AtOK h a) (hev:Qbt N h a=some (hdA h.Words a,0)) (hle:∀ b∈l,b+szA h.Words b<=a):ObjL N h (l++[a]):=by
 refine ⟨fun x hx=>?_,fun x hx=>?_,?_⟩
 ·rcases List.mem_append.1 hx with hx | hx
  ·exact hl.at_ x hx
  ·have:x=a:=by simpa using hx
   subst this;exact ha
 ·rcases List.mem_append.1 hx with hx | hx
  ·exact hl.ev x hx
  ·have:x=a:=by simpa using hx
   subst this;exact hev
 ·rw[List.pairwise_append]
  refine ⟨hl.pw,by simp,fun b hb c hc=>?_⟩
  have:c=a:=by simpa using hc
  subst this;exact hle b hb
def PageL (N:Nat) (h:THeap) (i:Int) (l:List Int):Prop:=ObjL N h l∧onPage h i l∧(l.length:Int)<=64
def PageQ (N:Nat) (h:THeap) (i:Int):Ex (List Int×Int) (List Int)->Prop
 | .ret r=>r=([],19)
 | .nxt l=>PageL N h i l
theorem QjA {N:Nat} (hN:NB N) {h:THeap} (hb:HB h) (hp:PropH h) {i:Int} (h0:0<=i) (h1:i<h.Pages.length) (hk:(pg h.Pages i).Kind=1∨(pg h.Pages i).Kind=2):∀ (n:Nat) (o:Int) (l:List Int),0<=o->(65-o).toNat<n->Upto N h i o l->((pg h.Pages i).Kind=1->o<=(pg h.Pages i).Used)->((pg h.Pages i).Kind=2->o=0) ->
 Ok (Qbp N h i (pg h.Pages i) n o l) (PageQ N h i)
 | 0,o,l,_,hn,hu,k1,k2=>by
  have hv:=vconf_iff.1 hp.conf
  have ho:=(hp.pgs i h0 h1).small
  rcases hk with hk | hk
  ·have:=k1 hk;have:=ho hk;omega
  ·have:=k2 hk;omega
 | n+1,o,l,ho0,hn,hu,k1,k2=>by
  have hv:=vconf_iff.1 hp.conf
  have hsm:=(hp.pgs i h0 h1).small
  have hpl:=hp.pages
  have hle64:(l.length:Int)<=64:=by
   have:=hu.2.2.2
   rcases hk with hk | hk
   ·have:=k1 hk;have:=hsm hk;omega
   ·have:=k2 hk;omega
  rw[Qbp]
  refine Ok.bif (fun hlt=>?_) fun _=>Ok.some ⟨hu.1,hu.2.1,hle64⟩
  have hlt:o<(pg h.Pages i).Used:=of_decide_eq_true hlt
  have hopw:o<h.Conf.PageWords:=by
   rcases hk with hk | hk
   ·have:=hsm hk;omega
   ·have:=k2 hk;omega
  rw[addr_eq,hp.conf,bnd_eq,if_neg (by simp),if_pos (by omega)]
  dsimp only
  refine Ok.bnd (at_ok hN hb (addrC h.Conf i o)) fun y ey hy=>?_
  refine Ok.bif (fun _=>Ok.some rfl) fun hy0=>?_
  obtain ⟨_,_,hat,hhd⟩:=hy (by simpa using hy0)
  have hpi:=pgi_addr hp.conf (p:=i) ho0 hopw
  have hsz:=szA_eq h.Words (addrC h.Conf i o)
  have hev:Qbt N h (addrC h.Conf i o)=some (hdA h.Words (addrC h.Conf i o),0):=by
   rw[ey];congr 1;exact Prod.ext hhd (by simpa using hy0)
  have hobj:ObjL N h (l++[addrC h.Conf i o]):=hu.1.snoc hat hev hu.2.2.1
  have hon:onPage h i (l++[addrC h.Conf i o]):=by
   intro x hx
   rcases List.mem_append.1 hx with hx | hx
   ·exact hu.2.1 x hx
   ·have:x=addrC h.Conf i o:=by simpa using hx
    subst this;exact ⟨addr_mono ho0,hpi.1⟩
  have hlen1:((l++[addrC h.Conf i o]).length:Int)=l.length+1:=by simp
  have hlo:=hu.2.2.2
  refine Ok.grd (by omega) (Ok.bif (fun kk=>Ok.some ⟨hobj,hon,by have:=k2 (by simpa using kk);omega⟩) fun kk=>?_)
  have kk:(pg h.Pages i).Kind=1:=by
   rcases hk with hk | hk
   ·exact hk
   ·rw[hk] at kk;cases kk
  rw[hhd,sizeH_eq,bnd_eq]
  rw[hsz.1]
  have hs:=hat.small (by rw[hpi.1];exact kk)
  rw[hpi.1,hpi.2] at hs
  have:=hsm kk
  rw[wI_id (by omega) (by omega)]
  refine QjA hN hb hp h0 h1 hk n _ _ (by omega) (by omega) ⟨hobj,hon,fun x hx=>?_,by omega⟩ (fun _=>by omega) (fun e=>by rw[kk] at e;cases e)
  rcases List.mem_append.1 hx with hx | hx
  ·have:=hu.2.2.1 x hx
   have:=addr_mono (c:=h.Conf) (i:=i) (o:=o) (p:=o+szA h.Words (addrC h.Conf i o)) (by omega)
   omega
  ·have:x=addrC h.Conf i o:=by simpa using hx
   subst this
   unfold addrC;omega
theorem PageL.nil (N:Nat) (h:THeap) (i:Int):PageL N h i []:=⟨⟨by simp,by simp,by simp⟩,fun a ha=>by simp at ha,by simp⟩
theorem Qkx {N:Nat} (hN:NB N) {h:THeap} (hb:HB h) (i:Int):Ok (QaJ N h i) fun r=>(r.2≠0->r.1=[])∧r.1.length<=64∧(PropH h->PageL N h i r.1):=by
 have hN':=hN
 unfold NB at hN'
 rw[QaJ]
 refine Ok.bnd (proper_ok (N:=N) (by omega) hb.1 hb.2) fun b eb hp=>?_
 refine Ok.bif (fun _=>Ok.some ⟨fun _=>rfl,by simp,fun _=>PageL.nil N h i⟩) fun hb1=>?_
 have hp:=hp (by simpa using hb1)
 refine Ok.bif (fun _=>Ok.some ⟨fun _=>rfl,by simp,fun _=>PageL.nil N h i⟩) fun h0=>?_
 refine Ok.bif (fun _=>Ok.some ⟨fun _=>rfl,by simp,fun _=>PageL.nil N h i⟩) fun h1=>?_
 have h0:0<=i:=by have:=of_decide_eq_false h0;omega
 have h1:i<h.Pages.length:=by have:=of_decide_eq_false h1;omega
 refine Ok.get h0 h1 fun p hpp=>?_
 have hpg:=getI_pg hpp
 subst hpg
 refine Ok.bif (fun _=>Ok.some ⟨fun _=>rfl,by simp,fun _=>PageL.nil N h i⟩) fun k0=>?_
 refine Ok.bif (fun _=>Ok.some ⟨fun _=>rfl,by simp,fun _=>PageL.nil N h i⟩) fun k3=>?_
 have hkk:=(hp.pgs i h0 h1).kind
 have k0:¬ (pg h.Pages i).Kind=0:=by simpa using k0
 have k3:¬ (pg h.Pages i).Kind=3:=by simpa using k3
 refine Ok.exk (QjA hN hb hp h0 h1 (by omega) N 0 [] (by omega) (by omega) ⟨⟨by simp,by simp,by simp⟩,fun a ha=>by simp at ha,by simp,by simp⟩ (fun k=>((hp.pgs i h0 h1).small k).1) (fun _=>rfl)) (fun a q=>?_) fun l q=>?_
 ·have:a=([],19):=q
  subst this
  exact Ok.some ⟨fun _=>rfl,by simp,fun _=>PageL.nil N h i⟩
 ·have q:PageL N h i l:=q
  exact Ok.some ⟨fun e=>absurd rfl e,by have:=q.2.2;dsimp only;omega,fun _=>q⟩
theorem need_le {c:TConf} (hc:vconf c=true) {w:Int} (h:1<=needC c w):w<=needC c w*c.PageWords:=by
 unfold needC at h ⊢
 by_cases h0:vconf c=true∧1<=w
 ·rw[if_pos h0] at h ⊢
  by_cases h1:w<=c.PageWords / 4
  ·rw[if_pos h1] at h;omega
  rw[if_neg h1] at h ⊢
  by_cases h2:c.PageWords>=w
  ·rw[if_pos h2];omega
  rw[if_neg h2] at h ⊢
  by_cases h3:2*c.PageWords>=w
  ·rw[if_pos h3];omega
  rw[if_neg h3] at h ⊢
  by_cases h4:3*c.PageWords>=w
  ·rw[if_pos h4];omega
  rw[if_neg h4] at h ⊢
  by_cases h5:4*c.PageWords>=w
  ·rw[if_pos h5];omega
  rw[if_neg h5] at h;omega
 ·rw[if_neg h0] at h;omega
theorem obj_end {h:THeap} (hp:PropH h) {a:Int} (ha:AtOK h a):∃ k,1<=k∧pgi h.Conf a+k<=h.Conf.Pages∧a+szA h.Words a<=addrC h.Conf (pgi h.Conf a+k) 0∧∀ m,1<=m->m<k->(pg h.Pages (pgi h.Conf a+m)).Kind=3:=by
 have hv:=vconf_iff.1 hp.conf
 obtain ⟨e,q0,q1,q2,q3⟩:=pgi_eq hp.conf ha.rng
 have hpl:=hp.pages
 rcases ha.kind with hk | hk
 ·have hs:=ha.small hk
  have:=(hp.pgs _ q0 (by omega)).small hk
  refine ⟨1,by omega,by omega,?_,fun m h1 h2=>by omega⟩
  have e2:addrC h.Conf (pgi h.Conf a+1) 0=4096+pgi h.Conf a*h.Conf.PageWords+h.Conf.PageWords:=by unfold addrC;rw[Int.add_mul];omega
  rw[e2]
  have e3:a=4096+pgi h.Conf a*h.Conf.PageWords+pgo h.Conf a:=e
  omega
 ·obtain ⟨z1,z2⟩:=ha.large hk
  obtain ⟨l1,l2⟩:=(hp.pgs _ q0 (by omega)).large hk
  have hle:=need_le hp.conf l1
  refine ⟨_,l1,?_,?_,fun m h1 h2=>(l2 m h1 h2).2⟩
  ·by_cases h1:needC h.Conf (pg h.Pages (pgi h.Conf a)).Used=1
   ·omega
   ·have:=(l2 (needC h.Conf (pg h.Pages (pgi h.Conf a)).Used-1) (by omega) (by omega)).1
    omega
  ·have e3:a=4096+pgi h.Conf a*h.Conf.PageWords+pgo h.Conf a:=e
   unfold addrC
   rw[Int.add_mul]
   omega
theorem obj_fit {h:THeap} (hp:PropH h) {a:Int} (ha:AtOK h a):a+szA h.Words a<=4096+h.Words.length:=by
 obtain ⟨k,h1,h2,h3,_⟩:=obj_end hp ha
 have hv:=vconf_iff.1 hp.conf
 have:=hp.words
 have hm:(pgi h.Conf a+k)*h.Conf.PageWords<=h.Conf.Pages*h.Conf.PageWords:=Int.mul_le_mul_of_nonneg_right h2 (by omega)
 unfold addrC at h3
 omega
theorem obj_apart {h:THeap} (hp:PropH h) {a b:Int} (ha:AtOK h a) (hb:AtOK h b) (hlt:pgi h.Conf a<pgi h.Conf b):a+szA h.Words a<=b:=by
 obtain ⟨k,h1,h2,h3,h4⟩:=obj_end hp ha
 have hv:=vconf_iff.1 hp.conf
 obtain ⟨e,q0,q1,q2,q3⟩:=pgi_eq hp.conf hb.rng
 have hge:pgi h.Conf a+k<=pgi h.Conf b:=by
  rcases (by omega:pgi h.Conf b<pgi h.Conf a+k∨pgi h.Conf a+k<=pgi h.Conf b) with hc | hc
  ·have:=h4 (pgi h.Conf b-pgi h.Conf a) (by omega) (by omega)
   rw[show pgi h.Conf a+(pgi h.Conf b-pgi h.Conf a)=pgi h.Conf b by omega] at this
   rcases hb.kind with hk | hk<;>omega
  ·exact hc
 have hm:(pgi h.Conf a+k)*h.Conf.PageWords<=pgi h.Conf b*h.Conf.PageWords:=Int.mul_le_mul_of_nonneg_right hge (by omega)
 unfold addrC at h3 e
 omega
end Go.Sx
namespace Go.Sx
theorem QhG {N:Nat} (hN:NB N) {h:THeap} (hb:HB h) (hp:PropH h) (i:Int) (h0:0<=i) (h1:i<h.Pages.length):Ok (QaJ N h i) fun r=>PageL N h i r.1∧r.1.length<=64:=(Qkx hN hb i).mono fun r hr=>⟨hr.2.2 hp,hr.2.1⟩
structure StartL (N:Nat) (h:THeap) (l:List Int):Prop where
 obj:ObjL N h l
 page:∀ a∈l,∃ r,QaJ N h (pgi h.Conf a)=some r∧a∈r.1
 len:l.length<=4096
theorem StartL.nil (N:Nat) (h:THeap):StartL N h []:=⟨⟨by simp,by simp,by simp⟩,by simp,by simp⟩
theorem starts_l1 {N:Nat} (hN:NB N) {h:THeap} (hb:HB h) (hp:PropH h):∀ (n:Nat) (i:Int) (l:List Int),0<=i->i<=h.Pages.length->(h.Pages.length-i).toNat<n->ObjL N h l->(∀ a∈l,∃ r,QaJ N h (pgi h.Conf a)=some r∧a∈r.1)->(∀ a∈l,pgi h.Conf a<i)->(l.length:Int)<=64*i ->
 Ok (Qa0 N h n i l) fun e=>match e with | .ret r=>r.1=[]∧r.2≠0 | .nxt l=>StartL N h l
 | 0,i,l,_,_,hn,_,_,_,_=>by omega
 | n+1,i,l,h0,hi,hn,hl,hpp,hlt,hlen=>by
  have hv:=vconf_iff.1 hp.conf
  have hpl:=hp.pages
  rw[Qa0]
  refine Ok.bif (fun hc=>?_) fun _=>Ok.some ⟨hl,hpp,by omega⟩
  have hc:i<h.Pages.length:=of_decide_eq_true hc
  refine Ok.bnd (QhG hN hb hp i h0 hc) fun y ey hy=>?_
  refine Ok.bif (fun hk=>Ok.some ⟨rfl,by simpa using hk⟩) fun hk=>?_
  have hy2:=hy.2
  refine Ok.grd (by omega) ?_
  rw[wI_id (by omega) (by omega)]
  have hon:∀ a∈y.1,pgi h.Conf a=i:=fun a ha=>(hy.1.2.1 a ha).2
  refine starts_l1 hN hb hp n (i+1) _ (by omega) (by omega) (by omega) ⟨fun a ha=>?_,fun a ha=>?_,?_⟩ (fun a ha=>?_) (fun a ha=>?_) (by rw[List.length_append];omega)
  ·rcases List.mem_append.1 ha with ha | ha
   ·exact hl.at_ a ha
   ·exact hy.1.1.at_ a ha
  ·rcases List.mem_append.1 ha with ha | ha
   ·exact hl.ev a ha
   ·exact hy.1.1.ev a ha
  ·rw[List.pairwise_append]
   refine ⟨hl.pw,hy.1.1.pw,fun a ha b hb'=>?_⟩
   exact obj_apart hp (hl.at_ a ha) (hy.1.1.at_ b hb') (by rw[hon b hb'];exact hlt a ha)
  ·rcases List.mem_append.1 ha with ha | ha
   ·exact hpp a ha
   ·exact ⟨y,by rw[hon a ha];exact ey,ha⟩
  ·rcases List.mem_append.1 ha with ha | ha
   ·have:=hlt a ha;omega
   ·have:=hon a ha;omega
theorem starts_ok {N:Nat} (hN:NB N) {h:THeap} (hb:HB h):Ok (Qdr N h) fun r=>StartL N h r.1∧(r.2=0->PropH h)∧(r.2≠0->r.1=[]):=by
 have hN':=hN
 unfold NB at hN'
 rw[Qdr]
 refine Ok.bnd (proper_ok (N:=N) (by omega) hb.1 hb.2) fun b eb hp=>?_
 refine Ok.bif (fun _=>Ok.some ⟨StartL.nil N h,fun e=>(by cases e),fun _=>rfl⟩) fun hb1=>?_
 have hp:=hp (by simpa using hb1)
 have hbb:=hb.2
 refine Ok.exk (starts_l1 hN hb hp N 0 [] (by omega) (by omega) (by omega) ⟨by simp,by simp,by simp⟩ (by simp) (by simp) (by simp)) (fun a q=>?_) fun l q=>Ok.some ⟨q,fun _=>hp,fun e=>absurd rfl e⟩
 refine Ok.some ⟨?_,fun e=>absurd e q.2,fun _=>q.1⟩
 rw[q.1];exact StartL.nil N h
theorem StartL.sub {N:Nat} {h:THeap} {l l':List Int} (hs:StartL N h l) (h':l'.Sublist l):StartL N h l' :=
 ⟨⟨fun a ha=>hs.obj.at_ a (h'.subset ha),fun a ha=>hs.obj.ev a (h'.subset ha),hs.obj.pw.sublist h'⟩,fun a ha=>hs.page a (h'.subset ha),Nat.le_trans h'.length_le hs.len⟩
theorem objects_l1 {N:Nat} (hN:NB N) {h:THeap} (hb:HB h) (y:List Int×Int) (hy:y.1.length<=4096):∀ (n k:Nat) (l:List Int),k<=y.1.length->y.1.length-k<n->l.Sublist (y.1.take k)->Ok (QaB N h y n (k:Int) l) fun o=>o.Sublist y.1
 | 0,k,l,_,hn,_=>by omega
 | n+1,k,l,hk,hn,hs=>by
  rw[QaB]
  have hlen:l.length<=4096:=Nat.le_trans hs.length_le (by rw[List.length_take];omega)
  refine Ok.bif (fun hc=>?_) fun _=>Ok.some (hs.trans (List.take_sublist _ _))
  have hc:(k:Int)<y.1.length:=of_decide_eq_true hc
  have hkl:k<y.1.length:=by omega
  refine Ok.get (by omega) hc fun p hp=>?_
  refine Ok.bnd (at_ok hN hb p) fun z ez hz=>?_
  have e1:wI ((k:Int)+1)=((k+1:Nat):Int):=by rw[wI_id (by omega) (by omega)];omega
  rw[e1]
  refine Ok.bif (fun _=>?_) fun _=>objects_l1 hN hb y hy n (k+1) l (by omega) (by omega) (hs.trans (List.take_sublist_take_left (by omega)))
  refine Ok.get (by omega) hc fun p' hp'=>Ok.grd (by omega) (objects_l1 hN hb y hy n (k+1) _ (by omega) (by omega) ?_)
  have hpe:p'=y.1[k]:=by
   rw[getI_nat,List.getElem?_eq_getElem hkl] at hp'
   exact (Option.some.inj hp').symm
  rw[List.take_succ_eq_append_getElem hkl,hpe]
  exact hs.append (List.Sublist.refl _)
theorem objects_ok {N:Nat} (hN:NB N) {h:THeap} (hb:HB h):Ok (Qa7 N h) fun r=>StartL N h r.1∧(r.2=0->PropH h)∧(r.1≠[]->PropH h):=by
 rw[Qa7]
 refine Ok.bnd (starts_ok hN hb) fun y ey hy=>?_
 have hN':=hN
 unfold NB at hN'
 have hl:=hy.1.len
 have:=objects_l1 hN hb y hl N 0 [] (by omega) (by omega) (by simp)
 rw[show ((0:Nat):Int)=0 from rfl] at this
 refine Ok.bnd this fun o eo ho=>Ok.some ⟨hy.1.sub ho,hy.2.1,fun hne=>?_⟩
 by_cases h2:y.2=0
 ·exact hy.2.1 h2
 ·rw[hy.2.2 h2] at ho
  exact absurd (List.sublist_nil.1 ho) hne
theorem isObject_ok {N:Nat} (hN:NB N) {h:THeap} (hb:HB h) (a:Int):Ok (Qdj N h a) fun b=>b=true->PropH h∧AtOK h a:=by
 rw[Qdj]
 have hN':=hN
 unfold NB at hN'
 refine Ok.bnd (objects_ok hN hb) fun y ey hy=>?_
 have hl:=hy.1.len
 rw[has_eq a (by omega) (by omega),bnd_eq]
 refine Ok.some fun e=>?_
 have hm:a∈y.1:=by simpa using e
 exact ⟨hy.2.2 (List.ne_nil_of_mem hm),hy.1.obj.at_ a hm⟩
theorem word_ok {N:Nat} {h:THeap} (hb:HB h) (i o:Int):Ok (Qfo N h i o) fun _=>True:=by
 rw[Qfo,QfU,addr_eq,bnd_eq,Load_eq (by unfold BIG;have:=hb.1;omega),bnd_eq,bnd_eq]
 exact Ok.some trivial
end Go.Sx
namespace Go.Sx
def SmallL (h:THeap) (i:Int) (l:List Int):Prop:=(pg h.Pages i).Kind=1->∀ a∈l,szA h.Words a<=smC h.Conf
theorem class_l1 {N:Nat} (hN:NB N) {h:THeap} (hb:HB h) {i:Int} (h0:0<=i) (h1:i<h.Pages.length) (l:List Int) (hl:l.length<=4096) (hev:∀ a∈l,Qbt N h a=some (hdA h.Words a,0)∧a≠0):∀ (n k:Nat),k<=l.length->l.length-k<n ->
 Ok (Qba N h i l n (k:Int)) fun e=>match e with | .ret r=>r≠0 | .nxt _=>(pg h.Pages i).Kind=1->∀ a∈l.drop k,szA h.Words a<=smC h.Conf
 | 0,k,_,hn=>by omega
 | n+1,k,hk,hn=>by
  rw[Qba]
  refine Ok.bif (fun hc=>?_) fun hc=>Ok.some ?_
  rotate_left
  ·have hc:=of_decide_eq_false hc
   rw[List.drop_eq_nil_of_le (by omega)]
   simp
  have hc:(k:Int)<l.length:=of_decide_eq_true hc
  have hkl:k<l.length:=by omega
  refine Ok.get (by omega) hc fun p hp=>?_
  have hpe:p=l[k]:=by
   rw[getI_nat,List.getElem?_eq_getElem hkl] at hp
   exact (Option.some.inj hp).symm
  have hpm:p∈l:=getI_mem hp
  rw[(hev p hpm).1,bnd_eq]
  dsimp only
  rw[sizeH_eq,bnd_eq,sm_eq,bnd_eq,(szA_eq h.Words p).1]
  have e1:wI ((k:Int)+1)=((k+1:Nat):Int):=by rw[wI_id (by omega) (by omega)];omega
  rw[e1]
  have ret:∀ p',getI l (k:Int)=some p'->p'≠0:=fun p' hp'=>(hev p' (getI_mem hp')).2
  have next:((pg h.Pages i).Kind=1->szA h.Words p<=smC h.Conf)->Ok (Qba N h i l n ((k+1:Nat):Int)) fun e=>match e with | .ret r=>r≠0 | .nxt _=>(pg h.Pages i).Kind=1->∀ a∈l.drop k,szA h.Words a<=smC h.Conf:=by
   intro hs
   refine (class_l1 hN hb h0 h1 l hl hev n (k+1) (by omega) (by omega)).mono fun e he=>?_
   cases e with
   | ret r=>exact he
   | nxt _ =>
    intro hk1 a ha
    rw[List.drop_eq_getElem_cons hkl] at ha
    rcases List.mem_cons.1 ha with rfl | ha
    ·rw[← hpe];exact hs hk1
    ·exact he hk1 a ha
  refine Ok.get h0 h1 fun q hq=>?_
  have hqg:=getI_pg hq
  refine Ok.bif (fun k1=>?_) fun k1=>?_
  ·refine Ok.bif (fun _=>Ok.get (by omega) hc fun p' hp'=>Ok.some (ret p' hp')) fun k2=>?_
   have hs:szA h.Words p<=smC h.Conf:=by simpa using k2
   refine Ok.get h0 h1 fun q2 hq2=>Ok.bif (fun _=>Ok.bif (fun _=>Ok.get (by omega) hc fun p' hp'=>Ok.some (ret p' hp')) fun _=>next fun _=>hs) fun _=>next fun _=>hs
  ·have hs:(pg h.Pages i).Kind=1->szA h.Words p<=smC h.Conf:=by
    intro e;rw[hqg] at e;rw[e] at k1;cases k1
   refine Ok.get h0 h1 fun q2 hq2=>Ok.bif (fun _=>Ok.bif (fun _=>Ok.get (by omega) hc fun p' hp'=>Ok.some (ret p' hp')) fun _=>next hs) fun _=>next hs
theorem class_ok {N:Nat} (hN:NB N) {h:THeap} (hb:HB h) {i:Int} (h0:0<=i) (h1:i<h.Pages.length) {l:List Int} (hl:l.length<=64) (hev:∀ a∈l,Qbt N h a=some (hdA h.Words a,0)∧a≠0) :
 Ok (Qex N h i l) fun r=>r=0->SmallL h i l:=by
 rw[Qex]
 have hN':=hN
 unfold NB at hN'
 have:=class_l1 hN hb h0 h1 l (by omega) hev N 0 (by omega) (by omega)
 rw[show ((0:Nat):Int)=0 from rfl] at this
 refine Ok.exk this (fun a q=>Ok.some fun e=>absurd e q) fun _ q=>Ok.some fun _=>?_
 rw[List.drop_zero] at q
 exact q
theorem used_l1 {N:Nat} {h:THeap} (i:Int) (l:List Int) (k:Int) (hk0:0<=k) (hk:k<l.length) (x:Int) (hx:x<=256):∀ (n:Nat) (w:Int) (u:List Bool),0<=w->(x-w).toNat<n->u.length<=1000->Ok (QbF N h i l k x n w u) fun r=>r.length=u.length
 | 0,w,u,_,hn,_=>by omega
 | n+1,w,u,h0,hn,hu=>by
  rw[QbF]
  refine Ok.bif (fun hc=>?_) fun _=>Ok.some rfl
  have hc:w<x:=of_decide_eq_true hc
  refine Ok.get hk0 hk fun p hp=>?_
  rw[wI_id (n:=w+1) (by omega) (by omega)]
  have next:=used_l1 (N:=N) (h:=h) i l k hk0 hk x hx n (w+1) u (by omega) (by omega) hu
  refine Ok.bif (fun h1=>?_) fun _=>next
  refine Ok.grd (by omega) (Ok.bif (fun h2=>?_) fun _=>next)
  refine Ok.get (of_decide_eq_true h1) (of_decide_eq_true h2) fun q hq=>?_
  refine (used_l1 i l k hk0 hk x hx n (w+1) _ (by omega) (by omega) (by rw[List.length_set];exact hu)).mono fun r hr=>?_
  rw[hr,List.length_set]
theorem used_l2 {N:Nat} (hN:NB N) {h:THeap} (hb:HB h) (i:Int) (l:List Int) (hl:l.length<=100000):∀ (n:Nat) (k:Int) (u:List Bool),0<=k->k<=l.length->(l.length-k).toNat<n->u.length<=1000->Ok (QcH N h i l n k u) fun r=>r.length=u.length
 | 0,k,u,_,_,hn,_=>by omega
 | n+1,k,u,h0,hk,hn,hu=>by
  rw[QcH]
  refine Ok.bif (fun hc=>?_) fun _=>Ok.some rfl
  have hc:k<l.length:=of_decide_eq_true hc
  have hN':=hN
  unfold NB at hN'
  refine Ok.get h0 hc fun p hp=>Ok.bnd (at_ok hN hb p) fun y ey hy=>?_
  rw[sizeH_eq,bnd_eq]
  have hs:=sizeH_nn y.1
  have next:∀ x:Int,x<=256->Ok (bnd (QbF N h i l k x N 0 u) fun y11=>QcH N h i l n (wI (k+1)) y11) fun r=>r.length=u.length:=by
   intro x hx
   refine Ok.bnd (used_l1 i l k h0 hc x hx N 0 u (by omega) (by omega) hu) fun r er hr=>?_
   rw[wI_id (n:=k+1) (by omega) (by omega)]
   exact (used_l2 hN hb i l hl n (k+1) r (by omega) (by omega) (by omega) (by omega)).mono fun o ho=>by omega
  exact Ok.jn (Ok.bif (fun _=>next 1 (by omega)) fun _=>next _ (by omega))
theorem head_l1 (N:Nat) {h:THeap} (hf:(pg h.Pages 0).Kind≠3):∀ (n:Nat) (i:Int),0<=i->i<h.Pages.length->h.Pages.length<=100000->i.toNat<n->Ok (QdA N h n i) fun r=>0<=r∧r<h.Pages.length
 | 0,i,_,_,_,hn=>by omega
 | n+1,i,h0,h1,hl,hn=>by
  rw[QdA]
  refine Ok.get h0 h1 fun p hp=>Ok.bif (fun hk=>?_) fun _=>Ok.some ⟨h0,h1⟩
  have hk:p.Kind=3:=by simpa using hk
  have:i≠0:=by rintro rfl;exact hf (by rw[getI_pg hp];exact hk)
  rw[wI_id (by omega) (by omega)]
  exact head_l1 N hf n (i-1) (by omega) (by omega) hl (by omega)
theorem dirt_l1 {N:Nat} {h:THeap} (hb:HB h) (i:Int) (u:List Bool) (hu:u.length<=1000):∀ (n:Nat) (k:Int),0<=k->k<=u.length->(u.length-k).toNat<n->Ok (QcI N h i u n k) fun _=>True
 | 0,k,_,_,hn=>by omega
 | n+1,k,h0,hk,hn=>by
  rw[QcI]
  refine Ok.bif (fun hc=>?_) fun _=>Ok.some trivial
  have hc:k<u.length:=of_decide_eq_true hc
  rw[wI_id (n:=k+1) (by omega) (by omega)]
  have next:=dirt_l1 (N:=N) hb i u hu n (k+1) (by omega) (by omega) (by omega)
  refine Ok.get h0 hc fun p hp=>Ok.bif (fun _=>Ok.bnd (word_ok hb i k) fun y _ _=>Ok.bif (fun _=>?_) fun _=>next) fun _=>next
  rw[Qfb,bnd_eq]
  exact Ok.some trivial
theorem dirt_ok {N:Nat} (hN:NB N) {h:THeap} (hb:HB h) (hp:PropH h) {i:Int} (h0:0<=i) (h1:i<h.Pages.length):Ok (QeS N h i) fun _=>True:=by
 have hN':=hN
 unfold NB at hN'
 have hbb:=hb.2
 have hv:=vconf_iff.1 hp.conf
 rw[QeS,QfS]
 refine Ok.bnd (Ok.bnd (head_l1 N hp.first N i h0 h1 hbb (by omega)) fun r _ hr=>Ok.some hr) fun r _ hr=>?_
 refine Ok.bnd (QhG hN hb hp r hr.1 hr.2) fun y _ hy=>?_
 rw[QfT]
 refine Ok.bnd (Q:=fun r=>r.length<=1000) (Ok.grd (by omega) (Ok.bnd (used_l2 hN hb i y.1 (by have:=hy.2;omega) N 0 _ (by omega) (by omega) (by have:=hy.2;omega) (by rw[List.length_replicate];omega)) fun u _ hu=>Ok.some ?_)) fun u _ hu=>?_
 ·rw[hu,List.length_replicate];omega
 ·exact Ok.exk (dirt_l1 hb i u hu N 0 (by omega) (by omega) (by omega)) (fun _ _=>Ok.some trivial) fun _ _=>Ok.some trivial
theorem page9_ok {N:Nat} (hN:NB N) {h:THeap} (hb:HB h) (hp:PropH h) {i:Int} (h0:0<=i) (h1:i<h.Pages.length):Ok (Qfp N h i) fun f=>f.Fault=0->∀ r,QaJ N h i=some r->SmallL h i r.1:=by
 rw[Qfp]
 have main:Ok (bnd (QaJ N h i) fun y3 =>
  bif (y3.2 != 0) then some (TFinding.mk 3 i 0)
  else bnd (Qex N h i y3.1) fun y4 =>
  bif (y4 != 0) then some (TFinding.mk 5 i y4)
  else bnd (QeS N h i) fun y5 =>
  bif (y5 != 0) then some (TFinding.mk 4 i y5)
  else some (TFinding.mk 0 0 0)) fun f=>f.Fault=0->∀ r,QaJ N h i=some r->SmallL h i r.1:=by
  refine Ok.bnd (QhG hN hb hp i h0 h1) fun y ey hy=>?_
  refine Ok.bif (fun _=>Ok.some fun e=>by cases e) fun _=>?_
  refine Ok.bnd (class_ok hN hb h0 h1 hy.2 fun a ha=>⟨hy.1.1.ev a ha,by have:=(hy.1.1.at_ a ha).rng;omega⟩) fun c _ hc=>?_
  refine Ok.bif (fun _=>Ok.some fun e=>by cases e) fun hc0=>?_
  refine Ok.bnd (dirt_ok hN hb hp h0 h1) fun d _ _=>?_
  refine Ok.bif (fun _=>Ok.some fun e=>by cases e) fun _=>Ok.some fun _ r hr=>?_
  rw[ey] at hr
  exact Option.some.inj hr▸hc (by simpa using hc0)
 refine Ok.jn (Ok.get h0 h1 fun p hp=>Ok.bif (fun _=>Ok.get h0 h1 fun p hp=>Ok.bif (fun _=>Ok.some fun e=>by cases e) fun _=>main) fun _=>main)
theorem pointers_l1 {N:Nat} {h:THeap} (y1 y6:List Int×Int) (h1:y1.1.length<=4096) (h6:y6.1.length<=256) (hN:1000000<N) (v:Int) (hv0:0<=v) (hv:v<y1.1.length) (y4:THeader×Int):∀ (n:Nat) (k:Int),0<=k->k<=y6.1.length->(y6.1.length-k).toNat<n->Ok (Qbe N h y1 y6 v y4 n k) fun e=>∀ f,e=.ret f->f.Fault=6
 | 0,k,_,_,hn=>by omega
 | n+1,k,h0,hk,hn=>by
  rw[Qbe]
  refine Ok.bif (fun hc=>?_) fun _=>Ok.some fun f e=>by cases e
  have hc:k<y6.1.length:=of_decide_eq_true hc
  rw[wI_id (n:=k+1) (by omega) (by omega)]
  have next:=pointers_l1 (N:=N) (h:=h) y1 y6 h1 h6 hN v hv0 hv y4 n (k+1) (by omega) (by omega) (by omega)
  rw[ptrH_eq,bnd_eq]
  refine Ok.bif (fun _=>Ok.get h0 hc fun p hp=>Ok.bif (fun _=>Ok.get h0 hc fun p hp=>?_) fun _=>next) fun _=>next
  rw[has_eq p (by omega) (by omega),bnd_eq]
  refine Ok.bif (fun _=>Ok.get hv0 hv fun q hq=>?_) fun _=>next
  rw[of_eq,bnd_eq]
  exact Ok.some fun f e=>by cases e;rfl
theorem pointers_l2 {N:Nat} (hN:NB N) {h:THeap} (hb:HB h) (y1:List Int×Int) (h1:y1.1.length<=4096):∀ (n:Nat) (k:Int),0<=k->k<=y1.1.length->(y1.1.length-k).toNat<n->Ok (Qb5 N h y1 n k) fun e=>∀ f,e=.ret f->f.Fault=6
 | 0,k,_,_,hn=>by omega
 | n+1,k,h0,hk,hn=>by
  have hN':=hN
  unfold NB at hN'
  rw[Qb5]
  refine Ok.bif (fun hc=>?_) fun _=>Ok.some fun f e=>by cases e
  have hc:k<y1.1.length:=of_decide_eq_true hc
  rw[wI_id (n:=k+1) (by omega) (by omega)]
  refine Ok.get h0 hc fun p hp=>Ok.bnd (get_ok hN hb p) fun y4 _ _=>Ok.get h0 hc fun p hp=>Ok.bnd (fields_ok hN hb p) fun y6 _ h6=>?_
  refine Ok.exk (pointers_l1 y1 y6 h1 h6 (by omega) k h0 hc y4 N 0 (by omega) (by omega) (by omega)) (fun a q=>Ok.some fun f e=>?_) fun _ _=>pointers_l2 hN hb y1 h1 n (k+1) (by omega) (by omega) (by omega)
  cases e;exact q a rfl
theorem pointers_ok {N:Nat} (hN:NB N) {h:THeap} (hb:HB h):Ok (Qd1 N h) fun _=>True:=by
 have hN':=hN
 unfold NB at hN'
 rw[Qd1]
 refine Ok.bnd (objects_ok hN hb) fun y _ hy=>?_
 have:=hy.1.len
 exact Ok.exk (pointers_l2 hN hb y hy.1.len N 0 (by omega) (by omega) (by omega)) (fun _ _=>Ok.some trivial) fun _ _=>Ok.some trivial
theorem check_l1 {N:Nat} (hN:NB N) {h:THeap} (hb:HB h) (hp:PropH h):∀ (n:Nat) (i:Int),0<=i->i<=h.Pages.length->(h.Pages.length-i).toNat<n->Ok (Qde N h n i) fun e=>match e with | .ret f=>f.Fault≠0 | .nxt _=>∀ j,i<=j->j<h.Pages.length->∀ r,QaJ N h j=some r->SmallL h j r.1
 | 0,i,_,_,hn=>by omega
 | n+1,i,h0,hi,hn=>by
  have hbb:=hb.2
  rw[Qde]
  refine Ok.bif (fun hc=>?_) fun hc=>Ok.some fun j h1 h2=>?_
  rotate_left
  ·have:=of_decide_eq_false hc;omega
  have hc:i<h.Pages.length:=of_decide_eq_true hc
  refine Ok.bnd (page9_ok hN hb hp h0 hc) fun f _ hf=>Ok.bif (fun hk=>Ok.some (by simpa using hk)) fun hk=>?_
  rw[wI_id (by omega) (by omega)]
  refine (check_l1 hN hb hp n (i+1) (by omega) (by omega) (by omega)).mono fun e he=>?_
  cases e with
  | ret f=>exact he
  | nxt _ =>
   intro j h1 h2
   by_cases hj:j=i
   ·subst hj;exact hf (by simpa using hk)
   ·exact he j (by omega) h2
theorem check_l2 {N:Nat} {h:THeap} (hl:h.Pages.length<=100000):∀ (n:Nat) (c i:Int),0<=i->i<=h.Pages.length->(h.Pages.length-i).toNat<n->Ok (QbN N h n c i) fun _=>True
 | 0,c,i,_,_,hn=>by omega
 | n+1,c,i,h0,hi,hn=>by
  rw[QbN]
  refine Ok.bif (fun hc=>?_) fun _=>Ok.some trivial
  have hc:i<h.Pages.length:=of_decide_eq_true hc
  rw[wI_id (n:=i+1) (by omega) (by omega)]
  have next:=fun c'=>check_l2 (N:=N) hl n c' (i+1) (by omega) (by omega) (by omega)
  exact Ok.get h0 hc fun p hp=>Ok.bif (fun _=>Ok.get h0 hc fun p hp=>Ok.bif (fun _=>next _) fun _=>next _) fun _=>next _
structure GoodH (N:Nat) (h:THeap):Prop where
 prop:PropH h
 small:∀ j:Int,0<=j->j<h.Pages.length->∀ r,QaJ N h j=some r->SmallL h j r.1
theorem good_ok {N:Nat} (hN:NB N) {h:THeap} (hb:HB h):Ok (QdI N h) fun b=>b=true->GoodH N h:=by
 have hN':=hN
 unfold NB at hN'
 have hbb:=hb.2
 rw[QdI,QfF]
 refine Ok.bnd (Q:=fun f=>f.Fault=0->GoodH N h) (Ok.bnd (proper_ok (N:=N) (by omega) hb.1 hb.2) fun b eb hp=>Ok.bif (fun _=>Ok.some fun e=>by cases e) fun hb1=>?_) fun f _ hf=>Ok.some fun e=>?_
 ·have hp:=hp (by simpa using hb1)
  refine Ok.exk (check_l1 hN hb hp N 0 (by omega) (by omega) (by omega)) (fun a q=>Ok.some fun e=>absurd e q) fun _ q=>?_
  have hg:GoodH N h:=⟨hp,q⟩
  refine Ok.bnd (pointers_ok hN hb) fun f _ _=>Ok.bif (fun _=>Ok.some fun _=>hg) fun _=>?_
  exact Ok.bnd (check_l2 hbb N 0 0 (by omega) (by omega) (by omega)) fun c _ _=>Ok.bif (fun _=>Ok.some fun _=>hg) fun _=>Ok.some fun _=>hg
 ·simp only[Bool.and_eq_true,beq_iff_eq] at e
  exact hf e.1
theorem GoodH.sz {N:Nat} {h:THeap} (hg:GoodH N h) {l:List Int} (hl:StartL N h l) {a:Int} (ha:a∈l) (hk:(pg h.Pages (pgi h.Conf a)).Kind=1):szA h.Words a<=h.Conf.PageWords / 4:=by
 obtain ⟨r,hr,hm⟩:=hl.page a ha
 have hat:=hl.obj.at_ a ha
 obtain ⟨_,q0,q1,_⟩:=pgi_eq hg.prop.conf hat.rng
 have:=hg.small _ q0 (by have:=hg.prop.pages;omega) r hr hk a hm
 unfold smC at this
 rwa[if_pos hg.prop.conf] at this
theorem refers_l1 {N:Nat} (l:List Int) (hl:l.length<=100000000) (y:List Int×Int) (hy:y.1.length<=4096) (hN:1000000<N):∀ (n:Nat) (k:Int),0<=k->k<=l.length->(l.length-k).toNat<n->Ok (Qb1 N l y n k) fun _=>True
 | 0,k,_,_,hn=>by omega
 | n+1,k,h0,hk,hn=>by
  rw[Qb1]
  refine Ok.bif (fun hc=>?_) fun _=>Ok.some trivial
  have hc:k<l.length:=of_decide_eq_true hc
  rw[wI_id (n:=k+1) (by omega) (by omega)]
  have next:=refers_l1 (N:=N) l hl y hy hN n (k+1) (by omega) (by omega) (by omega)
  refine Ok.get h0 hc fun p hp=>Ok.bif (fun _=>Ok.get h0 hc fun p hp=>?_) fun _=>next
  rw[has_eq p (by omega) (by omega),bnd_eq]
  exact Ok.bif (fun _=>Ok.some trivial) fun _=>next
theorem refers_ok {N:Nat} (hN:NB N) {h:THeap} (hb:HB h) {l:List Int} (hl:l.length<=1000000):Ok (Qds N h l) fun b=>b=true->GoodH N h:=by
 have hN':=hN
 unfold NB at hN'
 rw[Qds]
 refine Ok.bnd (good_ok hN hb) fun b _ hb1=>Ok.bif (fun _=>Ok.some fun e=>by cases e) fun hb2=>?_
 have hg:=hb1 (by simpa using hb2)
 refine Ok.bnd (objects_ok hN hb) fun y _ hy=>?_
 exact Ok.exk (refers_l1 l (by omega) y hy.1.len (by omega) N 0 (by omega) (by omega) (by omega)) (fun _ _=>Ok.some fun _=>hg) fun _ _=>Ok.some fun _=>hg
end Go.Sx
namespace Go.Sx
theorem encH_mod (d:THeader):encH d % 4=1:=by
 have e:sShl .u64 (wU d.Map) 16=wU (wU d.Map*65536):=rfl
 unfold encH
 rw[e]
 simp only[wU_eq]
 omega
theorem szA_fwd (ws:List Int) (a:Int) (h:wd ws a % 4=2):szA ws a=1:=by
 have:okH (wd ws a)=false:=by
  unfold okH
  have h1:=encH_mod (rawH (wd ws a))
  have:(encH (rawH (wd ws a))==wd ws a)=false:=by
   rw[beq_eq_false_iff_ne]
   intro e
   rw[e] at h1
   omega
  rw[this,Bool.and_false]
 unfold szA hdA decH
 rw[this]
 rfl
structure Objs (h0:THeap) (l:List Int) (w:TWork) (O:Int->Prop) (s:Int->Int):Prop where
 old:∀ a∈l,O a∧s a=szA h0.Words a
 queue:∀ a∈w.Queue,O a
 fit:∀ a,O a->4096<=a∧1<=s a∧a+s a<=4096+w.Heap.Words.length∧szA w.Heap.Words a<=s a
 apart:∀ a b,O a->O b->a≠b->a+s a<=b∨b+s b<=a
 taken:∀ a,O a->∀ j∈w.Taken,a+s a<=addrC h0.Conf j (pg w.Heap.Pages j).Used∨addrC h0.Conf (j+1) 0<=a
 free:∀ a,O a->∀ j:Int,0<=j->j<w.Heap.Pages.length->(pg w.Heap.Pages j).Kind=0->a+s a<=addrC h0.Conf j 0∨addrC h0.Conf (j+1) 0<=a
structure CI (h0:THeap) (l:List Int) (w:TWork):Prop where
 conf:w.Heap.Conf=h0.Conf
 wlen:w.Heap.Words.length=h0.Words.length
 plen:w.Heap.Pages.length=h0.Pages.length
 spc:w.Heap.Space=h0.Space
 old:w.Old=l
 tk:∀ j∈w.Taken,0<=j∧j<w.Heap.Pages.length∧(pg w.Heap.Pages j).Kind=1∧0<=(pg w.Heap.Pages j).Used∧(pg w.Heap.Pages j).Used<=h0.Conf.PageWords
 tnd:w.Taken.Nodup
 knd:∀ a∈l,(pg w.Heap.Pages (pgi h0.Conf a)).Kind=(pg h0.Pages (pgi h0.Conf a)).Kind
 qnd:w.Queue.Nodup
 obj:∃ O s,Objs h0 l w O s
theorem nodup_le:∀ (n:Nat) (a:Int) (l:List Int),l.Nodup->(∀ x∈l,a<=x∧x<a+n)->l.length<=n
 | 0,a,l,_,h=>by
  cases l with
  | nil=>simp
  | cons x l=>have:=h x (by simp);omega
 | n+1,a,l,hn,h=>by
  by_cases hm:a+(n:Int)∈l
  ·have h1:=nodup_le n a (l.erase (a+(n:Int))) (hn.erase _) fun x hx=>by
    have h2:=(List.Nodup.mem_erase_iff hn).1 hx
    have h3:=h x h2.2
    have:=h2.1
    omega
   have h2:=List.length_erase_of_mem hm
   omega
  ·have h1:=nodup_le n a l hn fun x hx=>by
    have h3:=h x hx
    have:x≠a+(n:Int):=fun e=>hm (e▸hx)
    omega
   omega
section
variable {N:Nat} {h0:THeap} {l:List Int}
theorem CI.ql {w:TWork} (hb:HB h0) (hc:CI h0 l w):w.Queue.length<=100000:=by
 obtain ⟨O,s,ho⟩:=hc.obj
 have:=nodup_le w.Heap.Words.length 4096 w.Queue hc.qnd fun x hx=>by
  have:=ho.fit x (ho.queue x hx)
  omega
 have:=hb.1
 have:=hc.wlen
 omega
theorem CI.tl {w:TWork} (hb:HB h0) (hc:CI h0 l w):w.Taken.length<=100000:=by
 have:=nodup_le w.Heap.Pages.length 0 w.Taken hc.tnd fun x hx=>by
  have:=hc.tk x hx
  omega
 have:=hb.2
 have:=hc.plen
 omega
theorem taken_ok' {w:TWork} (hl:w.Taken.length<=100000) (i:Int):∀ (n:Nat) (k:Int),0<=k->k<=w.Taken.length->(w.Taken.length-k).toNat<n->Ok (Qdh N w i n k) fun _=>True
 | 0,k,_,_,hn=>by omega
 | n+1,k,h0,hk,hn=>by
  rw[Qdh]
  refine Ok.bif (fun hc=>?_) fun _=>Ok.some trivial
  have hc:k<w.Taken.length:=of_decide_eq_true hc
  rw[wI_id (n:=k+1) (by omega) (by omega)]
  exact Ok.get h0 hc fun p hp=>Ok.bif (fun _=>Ok.some trivial) fun _=>taken_ok' hl i n (k+1) (by omega) (by omega) (by omega)
theorem promoted_ok (hN:NB N) {w:TWork} (hl:w.Taken.length<=100000) (i:Int):Ok (Qdi N w i) fun b=>b=true->0<=i∧i<w.Heap.Pages.length:=by
 unfold NB at hN
 rw[Qdi]
 refine Ok.bif (fun _=>Ok.some fun e=>by cases e) fun h1=>Ok.bif (fun _=>Ok.some fun e=>by cases e) fun h2=>?_
 have h1:0<=i:=by have:=of_decide_eq_false h1;omega
 have h2:i<w.Heap.Pages.length:=by have:=of_decide_eq_false h2;omega
 refine Ok.get h1 h2 fun p hp=>Ok.bif (fun _=>Ok.bif (fun _=>Ok.bnd (Q:=fun _=>True) ?_ fun y _ _=>Ok.some fun _=>⟨h1,h2⟩) fun _=>Ok.some fun e=>by cases e) fun _=>Ok.some fun e=>by cases e
 rw[QfG]
 exact Ok.exk (taken_ok' hl i N 0 (by omega) (by omega) (by omega)) (fun _ _=>Ok.some trivial) fun _ _=>Ok.some trivial
structure PlaceQ (h0:THeap) (w:TWork) (n:Int) (w':TWork) (at_:Int) (j u:Int):Prop where
 rng:0<=j∧j<w.Heap.Pages.length
 fit:0<=u∧u+n<=h0.Conf.PageWords
 addr:at_=addrC h0.Conf j u
 conf:w'.Heap.Conf=w.Heap.Conf
 words:w'.Heap.Words=w.Heap.Words
 space:w'.Heap.Space=w.Heap.Space
 old:w'.Old=w.Old
 queue:w'.Queue=w.Queue
 scanned:w'.Scanned=w.Scanned
 plen:w'.Heap.Pages.length=w.Heap.Pages.length
 other:∀ i,0<=i->i≠j->pg w'.Heap.Pages i=pg w.Heap.Pages i
 this:(pg w'.Heap.Pages j).Kind=1∧(pg w'.Heap.Pages j).Used=u+n
 way:(j∈w.Taken∧w'.Taken=w.Taken∧u=(pg w.Heap.Pages j).Used)∨((pg w.Heap.Pages j).Kind=0∧w'.Taken=w.Taken++[j]∧u=0)
theorem place_ok (hN:NB N) (hb:HB h0) (hp:PropH h0) {w:TWork} (hc:CI h0 l w) {n:Int} (hn:1<=n) (hn2:n<=h0.Conf.PageWords):Ok (Qc7 N w n) fun r=>r.2.2=true->∃ j u,PlaceQ h0 w n r.1 r.2.1 j u:=by
 have hN':=hN
 unfold NB at hN'
 have hbb:=hb.2
 have hpl:=hc.plen
 have hv:=vconf_iff.1 hp.conf
 have htl:=hc.tl hb
 have hpp:=hp.pages
 rw[Qc7]
 have new:Ok (bnd (Qc5 N w.Heap.Pages 1) fun y4 =>
  bif (decide (y4<0)) then some ((TWork.mk (THeap.mk (TConf.mk 0 0) [] [] 0 0) [] [] [] 0 (TReport.mk 0 0 0 0 0 0)),0,false)
  else bnd (Qc6 N w.Heap.Pages y4 (wI (1-w.Heap.Space))) fun y5 =>
  grd (w.Taken.length*8<=140737488355328) <|
  grd ((w.Taken.length+1)*8<=140737488355328) <|
  bnd (getI y5.1 y4) fun p13 =>
  bnd (getI y5.1 y4) fun p14 =>
  bnd (getI y5.1 y4) fun p15 =>
  some ((TWork.mk (THeap.mk w.Heap.Conf w.Heap.Words (y5.1.set y4.toNat (TPage.mk p15.Kind p15.Space (wI (p14.Used+n)) p15.Pins)) w.Heap.Space w.Heap.Bump) w.Old (w.Taken++[y4]) w.Queue w.Scanned w.Report),(wU (wI ((wI (4096+(wI (y4*w.Heap.Conf.PageWords))))+p13.Used))),true)) fun r=>r.2.2=true->∃ j u,PlaceQ h0 w n r.1 r.2.1 j u:=by
  refine Ok.bnd (first_ok 1 (by omega) (by omega)) fun j _ hj=>Ok.bif (fun _=>Ok.some fun e=>by cases e) fun hj0=>?_
  have hr:RunOK w.Heap.Pages j 1:=by
   rcases hj with rfl | hj
   ·cases hj0
   ·exact hj
  have hsp:=hp.space
  have hws:=hc.spc
  rw[wI_id (n:=1-w.Heap.Space) (by omega) (by omega)]
  refine Ok.bnd (small_ok j (1-w.Heap.Space) (by omega) (by omega)) fun y _ hy=>?_
  have hy0:=hy.2.2 hr (by omega) (by omega)
  obtain ⟨q0,q1,q2,q3⟩:=hy.1 hy0
  have hk:=hr.2.2.2 0 (by omega) (by omega)
  rw[Int.add_zero] at hk
  have hjl:j<y.1.length:=by omega
  refine Ok.grd (by omega) (Ok.grd (by omega) (Ok.get q0 hjl fun p1 hp1=>Ok.get q0 hjl fun p2 hp2=>Ok.get q0 hjl fun p3 hp3=>Ok.some fun _=>?_))
  have g1:=getI_pg hp1
  have g2:=getI_pg hp2
  have g3:=getI_pg hp3
  rw[q3 j q0,if_pos rfl] at g1 g2 g3
  subst g1;subst g2;subst g3
  have hm:=pw_mul hp.conf (i:=j) q0 (by omega)
  refine ⟨j,0,⟨⟨q0,by omega⟩,⟨by omega,by omega⟩,?_,rfl,rfl,rfl,rfl,rfl,rfl,?_,fun i hi hij=>?_,?_,.inr ⟨hk,rfl,rfl⟩⟩⟩
  ·show wU (wI (wI (4096+wI (j*w.Heap.Conf.PageWords))+0))=_
   rw[hc.conf,wI_id (n:=j*h0.Conf.PageWords) (by omega) (by omega),wI_id (n:=4096+j*h0.Conf.PageWords) (by omega) (by omega),wI_id (by omega) (by omega),wU_id (by omega) (by omega)]
   rfl
  ·show (y.1.set _ _).length=_
   rw[List.length_set];exact q2
  ·show pg (y.1.set _ _) i=_
   rw[pg_set _ q0 hjl hi,if_neg hij,q3 i hi,if_neg hij,if_neg (by omega)]
  ·show (pg (y.1.set _ _) j).Kind=1∧(pg (y.1.set _ _) j).Used=_
   rw[pg_set _ q0 hjl q0,if_pos rfl]
   refine ⟨rfl,?_⟩
   show wI (0+n)=0+n
   rw[wI_id (by omega) (by omega)]
 refine Ok.grd (by omega) (Ok.jn (Ok.bif (fun ht=>?_) fun _=>new))
 have ht:0<(w.Taken.length:Int):=of_decide_eq_true ht
 rw[wI_id (n:=((w.Taken.length:Nat):Int)-1) (by omega) (by omega)]
 refine Ok.get (by omega) (by omega) fun j hj=>?_
 have hjm:=getI_mem hj
 obtain ⟨t0,t1,t2,t3,t4⟩:=hc.tk j hjm
 refine Ok.get t0 t1 fun p hp2=>?_
 have g:=getI_pg hp2
 subst g
 rw[wI_id (n:=(pg w.Heap.Pages j).Used+n) (by omega) (by omega)]
 refine Ok.bif (fun hle=>?_) fun _=>new
 have hle:(pg w.Heap.Pages j).Used+n<=w.Heap.Conf.PageWords:=of_decide_eq_true hle
 rw[hc.conf] at hle
 refine Ok.get (by omega) (by omega) fun j' hj'=>?_
 obtain rfl:j=j':=Option.some.inj (hj.symm.trans hj')
 refine Ok.get t0 t1 fun p1 hp1=>Ok.get t0 t1 fun p2 hp2=>Ok.get t0 t1 fun p3 hp3=>Ok.some fun _=>?_
 have g1:=getI_pg hp1
 have g2:=getI_pg hp2
 have g3:=getI_pg hp3
 subst g1;subst g2;subst g3
 have hm:=pw_mul hp.conf (i:=j) t0 (by omega)
 refine ⟨j,(pg w.Heap.Pages j).Used,⟨⟨t0,t1⟩,⟨t3,hle⟩,?_,rfl,rfl,rfl,rfl,rfl,rfl,?_,fun i hi hij=>?_,?_,.inl ⟨hjm,rfl,rfl⟩⟩⟩
 ·show wU (wI (wI (4096+wI (j*w.Heap.Conf.PageWords))+_))=_
  rw[hc.conf,wI_id (n:=j*h0.Conf.PageWords) (by omega) (by omega),wI_id (n:=4096+j*h0.Conf.PageWords) (by omega) (by omega),wI_id (by omega) (by omega),wU_id (by omega) (by omega)]
  rfl
 ·show (w.Heap.Pages.set _ _).length=_
  rw[List.length_set]
 ·show pg (w.Heap.Pages.set _ _) i=_
  rw[pg_set _ t0 t1 hi,if_neg hij]
 ·show (pg (w.Heap.Pages.set _ _) j).Kind=1∧(pg (w.Heap.Pages.set _ _) j).Used=_
  rw[pg_set _ t0 t1 t0,if_pos rfl]
  refine ⟨t2,?_⟩
  show wI ((pg w.Heap.Pages j).Used+n)=_
  rw[wI_id (by omega) (by omega)]
end
end Go.Sx
namespace Go.Sx
theorem ix_inj {a b:Int} (ha:4096<=a) (hb:4096<=b) (h:ix a=ix b):a=b:=by unfold ix at h;omega
theorem wd_set {ws:List Int} {x a v:Int} (hx:inW ws x) (ha:4096<=a):wd (ws.set (ix x) v) a=if a=x then v else wd ws a:=by
 unfold wd
 have hlt:ix x<ws.length:=by unfold inW at hx;unfold ix;omega
 rw[List.getD_eq_getElem?_getD,List.getD_eq_getElem?_getD,List.getElem?_set]
 by_cases h:a=x
 ·subst h;rw[if_pos rfl,if_pos hlt,if_pos rfl];rfl
 ·rw[if_neg h,if_neg]
  intro e
  exact h (ix_inj ha hx.1 e.symm)
theorem wd_move {ws:List Int} {to a x:Int} {k:Nat} (h1:inWs ws a k) (h2:inWs ws to k) (hx:4096<=x):wd (ovr ws ((ws.drop (ix a)).take k) (ix to)) x=if to<=x∧x<to+k then wd ws (a+(x-to)) else wd ws x:=by
 have hlen:((ws.drop (ix a)).take k).length=k:=by unfold inWs at h1;simp[ix];omega
 unfold wd
 rw[ovr_getD (by rw[hlen];unfold inWs at h2;unfold ix;omega),hlen]
 unfold inWs at h1 h2
 by_cases h:to<=x∧x<to+k
 ·rw[if_pos h,if_pos (by unfold ix;omega),List.getD_eq_getElem?_getD,List.getElem?_take,if_pos (by unfold ix;omega),List.getElem?_drop,← List.getD_eq_getElem?_getD]
  congr 1
  unfold ix;omega
 ·rw[if_neg h,if_neg (by unfold ix;omega)]
theorem ovr_len {ws:List Int} {to a:Int} {k:Nat} (h1:inWs ws a k) (h2:inWs ws to k):(ovr ws ((ws.drop (ix a)).take k) (ix to)).length=ws.length:=by
 have hlen:((ws.drop (ix a)).take k).length=k:=by unfold inWs at h1;simp[ix];omega
 exact ovr_length (by rw[hlen];unfold inWs at h2;unfold ix;omega)
theorem addr_lt {c:TConf} (hc:vconf c=true) {i j o p:Int} (h:i<j) (h1:o<=c.PageWords) (h2:0<=p):addrC c i o<=addrC c j p:=by
 have hv:=vconf_iff.1 hc
 have:(i+1)*c.PageWords<=j*c.PageWords:=Int.mul_le_mul_of_nonneg_right (by omega) (by omega)
 have e:(i+1)*c.PageWords=i*c.PageWords+c.PageWords:=by rw[Int.add_mul,Int.one_mul]
 unfold addrC
 omega
section
variable {N:Nat} {h0:THeap} {l:List Int}
structure FwdQ (h0:THeap) (l:List Int) (w w':TWork) (O:Int->Prop) (s:Int->Int):Prop where
 ci:CI h0 l w'
 ob:∃ O' s',Objs h0 l w' O' s'∧∀ a,O a->O' a∧s' a=s a
 sc:w'.Scanned=w.Scanned
 ql:w.Queue.length<=w'.Queue.length
def SameK (ps qs:List TPage):Prop:=qs.length=ps.length∧∀ i,0<=i->(pg qs i).Kind=(pg ps i).Kind∧(pg qs i).Used=(pg ps i).Used
theorem SameK.refl (ps:List TPage):SameK ps ps:=⟨rfl,fun _ _=>⟨rfl,rfl⟩⟩
theorem SameK.set {ps qs:List TPage} (h:SameK ps qs) {i:Int} (h0:0<=i) (h1:i<qs.length) (sp pins:Int):SameK ps (qs.set i.toNat ⟨(pg qs i).Kind,sp,(pg qs i).Used,pins⟩):=by
 refine ⟨by rw[List.length_set];exact h.1,fun j hj=>?_⟩
 rw[pg_set _ h0 h1 hj]
 split
 ·rename_i e;subst e;exact h.2 j hj
 ·exact h.2 j hj
theorem fwd_l1 (w:TWork) (a:Int) {ps:List TPage} (hl:ps.length<=100000):∀ (n:Nat) (i:Int) (qs:List TPage),0<=i->i<=ps.length->(ps.length-i).toNat<n->SameK ps qs->Ok (Qcn N w a n i qs) fun r=>SameK ps r
 | 0,i,qs,_,_,hn,_=>by omega
 | n+1,i,qs,h0,hi,hn,hs=>by
  have hq:=hs.1
  rw[Qcn]
  refine Ok.grd (by omega) (Ok.bif (fun hc=>?_) fun _=>Ok.some hs)
  have hc:i<qs.length:=of_decide_eq_true hc
  rw[wI_id (n:=i+1) (by omega) (by omega)]
  refine Ok.get h0 hc fun p hp=>Ok.bif (fun _=>Ok.get h0 hc fun p hp=>?_) fun _=>Ok.some hs
  have hg:=getI_pg hp
  subst hg
  exact fwd_l1 w a hl n (i+1) _ (by omega) (by omega) (by omega) (hs.set h0 hc _ _)
theorem CI.pages {w:TWork} (hc:CI h0 l w) {qs:List TPage} (h:SameK w.Heap.Pages qs):CI h0 l { w with Heap:={ w.Heap with Pages:=qs } }:=by
 obtain ⟨O,s,ho⟩:=hc.obj
 refine ⟨hc.conf,hc.wlen,h.1.trans hc.plen,hc.spc,hc.old,fun j hj=>?_,hc.tnd,fun a ha=>?_,hc.qnd,?_⟩
 ·have:=hc.tk j hj
  have h2:=h.2 j this.1
  show 0<=j∧j<qs.length∧(pg qs j).Kind=1∧0<=(pg qs j).Used∧(pg qs j).Used<=h0.Conf.PageWords
  rw[h2.1,h2.2,h.1];exact this
 ·show (pg qs _).Kind=_
  have hk:=hc.knd a ha
  by_cases hp:0<=pgi h0.Conf a
  ·rw[(h.2 _ hp).1];exact hk
  ·have e1:∀ ps:List TPage,pg ps (pgi h0.Conf a)=pg ps 0:=fun ps=>by
    unfold pg
    have:(pgi h0.Conf a).toNat=(0:Int).toNat:=by omega
    rw[this]
   rw[e1,(h.2 0 (by omega)).1,← e1,hk]
 ·refine ⟨O,s,ho.old,ho.queue,ho.fit,ho.apart,fun a ha j hj=>?_,fun a ha j h1 h2 h3=>?_⟩
  ·show a+s a<=addrC h0.Conf j (pg qs j).Used∨_
   rw[(h.2 j (hc.tk j hj).1).2];exact ho.taken a ha j hj
  ·have h2:j<qs.length:=h2
   have h3:(pg qs j).Kind=0:=h3
   rw[(h.2 j h1).1] at h3
   exact ho.free a ha j h1 (by rw[← h.1];exact h2) h3
theorem Objs.pages {w:TWork} {O:Int->Prop} {s:Int->Int} (hc:CI h0 l w) (ho:Objs h0 l w O s) {qs:List TPage} (h:SameK w.Heap.Pages qs):Objs h0 l { w with Heap:={ w.Heap with Pages:=qs } } O s:=by
 refine ⟨ho.old,ho.queue,ho.fit,ho.apart,fun a ha j hj=>?_,fun a ha j h1 h2 h3=>?_⟩
 ·show a+s a<=addrC h0.Conf j (pg qs j).Used∨_
  rw[(h.2 j (hc.tk j hj).1).2];exact ho.taken a ha j hj
 ·have h2:j<qs.length:=h2
  have h3:(pg qs j).Kind=0:=h3
  rw[(h.2 j h1).1] at h3
  exact ho.free a ha j h1 (by rw[← h.1];exact h2) h3
theorem CI.push {w:TWork} {O:Int->Prop} {s:Int->Int} (hc:CI h0 l w) (ho:Objs h0 l w O s) {a:Int} (ha:O a) (hq:a∉w.Queue) (rp:TReport):FwdQ h0 l w { w with Queue:=w.Queue++[a],Report:=rp } O s:=by
 have ho2:Objs h0 l { w with Queue:=w.Queue++[a],Report:=rp } O s:=by
  refine ⟨ho.old,fun x hx=>?_,ho.fit,ho.apart,ho.taken,ho.free⟩
  rcases List.mem_append.1 hx with hx | hx
  ·exact ho.queue x hx
  ·rw[List.mem_singleton.1 hx];exact ha
 refine ⟨⟨hc.conf,hc.wlen,hc.plen,hc.spc,hc.old,hc.tk,hc.tnd,hc.knd,?_,⟨O,s,ho2⟩⟩,⟨O,s,ho2,fun a h=>⟨h,rfl⟩⟩,rfl,?_⟩
 ·show (w.Queue++[a]).Nodup
  rw[List.nodup_append]
  refine ⟨hc.qnd,by simp,fun x hx y hy=>?_⟩
  rw[List.mem_singleton.1 hy]
  rintro rfl
  exact hq hx
 ·show w.Queue.length<=(w.Queue++[a]).length
  rw[List.length_append];omega
end
end Go.Sx
namespace Go.Sx
section
variable {N:Nat} {h0:THeap} {l:List Int}
theorem copy_q (hp:PropH h0) (hk12:∀ a∈l,(pg h0.Pages (pgi h0.Conf a)).Kind=1∨(pg h0.Pages (pgi h0.Conf a)).Kind=2) (hpr:∀ a∈l,0<=pgi h0.Conf a) {w w':TWork} {O:Int->Prop} {s:Int->Int} (hc:CI h0 l w) (ho:Objs h0 l w O s) {a n at_ j u:Int} (hal:a∈l) (hn:n=szA w.Heap.Words a) (hn1:1<=n) (pq:PlaceQ h0 w n w' at_ j u) (v:Int) (hv:v % 4=2) (rp:TReport) :
 inWs w.Heap.Words a n.toNat∧inWs w.Heap.Words at_ n.toNat∧4096<=at_∧at_<=200000∧FwdQ h0 l w { w' with Heap:={ w'.Heap with Words:=(ovr w.Heap.Words ((w.Heap.Words.drop (ix a)).take n.toNat) (ix at_)).set (ix a) v },Queue:=w'.Queue++[at_],Report:=rp } O s:=by
 have hvc:=vconf_iff.1 hp.conf
 obtain ⟨hOa,hsa⟩:=ho.old a hal
 obtain ⟨fa1,fa2,fa3,fa4⟩:=ho.fit a hOa
 rw[← hn] at fa4
 have hwl:=hc.wlen
 have hw0:=hp.words
 have hpl:=hc.plen
 have hpl0:=hp.pages
 obtain ⟨r1,r2⟩:=pq.rng
 have hm:=pw_mul hp.conf (i:=j) r1 (by omega)
 obtain ⟨u0,u1⟩:=pq.fit
 have hat:at_=addrC h0.Conf j u:=pq.addr
 have hat1:at_=4096+j*h0.Conf.PageWords+u:=hat
 have hend:at_+n=addrC h0.Conf j (u+n):=by rw[hat];unfold addrC;omega
 have hend2:at_+n<=addrC h0.Conf (j+1) 0:=by
  have e:(j+1)*h0.Conf.PageWords=j*h0.Conf.PageWords+h0.Conf.PageWords:=by rw[Int.add_mul,Int.one_mul]
  unfold addrC;omega
 have i1:inWs w.Heap.Words a n.toNat:=by unfold inWs;omega
 have i2:inWs w.Heap.Words at_ n.toNat:=by unfold inWs;omega
 have away:∀ x,O x->x+s x<=at_∨addrC h0.Conf (j+1) 0<=x:=by
  intro x hx
  rcases pq.way with ⟨g1,g2,g3⟩ | ⟨g1,g2,g3⟩
  ·have:=ho.taken x hx j g1
   rw[← g3,← hat] at this
   exact this
  ·have:=ho.free x hx j r1 r2 g1
   rw[g3] at hat
   rw[hat]
   exact this
 have fresh:¬ O at_:=by
  intro hx
  have:=away at_ hx
  have:=(ho.fit at_ hx).2.1
  omega
 have hne:a≠at_:=fun e=>fresh (e▸hOa)
 have aw2:∀ x,O x->x+s x<=at_∨at_+n<=x:=fun x hx=>by
  have:=away x hx
  omega
 have hlen:(ovr w.Heap.Words ((w.Heap.Words.drop (ix a)).take n.toNat) (ix at_)).length=w.Heap.Words.length:=ovr_len i1 i2
 have hlen2:((ovr w.Heap.Words ((w.Heap.Words.drop (ix a)).take n.toNat) (ix at_)).set (ix a) v).length=w.Heap.Words.length:=by rw[List.length_set,hlen]
 have hwd:∀ x,4096<=x->wd ((ovr w.Heap.Words ((w.Heap.Words.drop (ix a)).take n.toNat) (ix at_)).set (ix a) v) x=if x=a then v else if at_<=x∧x<at_+n then wd w.Heap.Words (a+(x-at_)) else wd w.Heap.Words x:=by
  intro x hx
  rw[wd_set (by unfold inW;rw[hlen];omega) hx,wd_move i1 i2 hx]
  have:((n.toNat:Nat):Int)=n:=by omega
  rw[this]
 have hsz:∀ x,O x->szA ((ovr w.Heap.Words ((w.Heap.Words.drop (ix a)).take n.toNat) (ix at_)).set (ix a) v) x<=s x:=by
  intro x hx
  have hf:=ho.fit x hx
  by_cases hxa:x=a
  ·have:szA ((ovr w.Heap.Words ((w.Heap.Words.drop (ix a)).take n.toNat) (ix at_)).set (ix a) v) x=1:=by
    apply szA_fwd
    rw[hwd x hf.1,if_pos hxa];exact hv
   omega
  ·have:szA ((ovr w.Heap.Words ((w.Heap.Words.drop (ix a)).take n.toNat) (ix at_)).set (ix a) v) x=szA w.Heap.Words x:=by
    unfold szA hdA
    rw[hwd x hf.1,if_neg hxa,if_neg]
    have:=aw2 x hx
    omega
   omega
 have hszat:szA ((ovr w.Heap.Words ((w.Heap.Words.drop (ix a)).take n.toNat) (ix at_)).set (ix a) v) at_=n:=by
  refine Eq.trans ?_ hn.symm
  unfold szA hdA
  rw[hwd at_ (by omega),if_neg (fun e=>hne e.symm),if_pos (by omega)]
  rw[show a+(at_-at_)=a by omega]
 have hjk:=pq.this
 have hk0:∀ i,0<=i->(pg w'.Heap.Pages i).Kind=0->i≠j∧(pg w.Heap.Pages i).Kind=0:=by
  intro i hi hk
  have hij:i≠j:=by rintro rfl;rw[hjk.1] at hk;cases hk
  rw[pq.other i hi hij] at hk
  exact ⟨hij,hk⟩
 have htk:∀ i∈w'.Taken,i=j∨(i∈w.Taken∧i≠j):=by
  intro i hi
  by_cases hij:i=j
  ·exact .inl hij
  ·right
   refine ⟨?_,hij⟩
   rcases pq.way with ⟨_,g2,_⟩ | ⟨_,g2,_⟩
   ·rwa[g2] at hi
   ·rw[g2] at hi
    rcases List.mem_append.1 hi with hi | hi
    ·exact hi
    ·exact absurd (List.mem_singleton.1 hi) hij
 have hqe:w'.Queue=w.Queue:=pq.queue
 refine ⟨i1,i2,by omega,by omega,?_⟩
 have hO:Objs h0 l { w' with Heap:={ w'.Heap with Words:=(ovr w.Heap.Words ((w.Heap.Words.drop (ix a)).take n.toNat) (ix at_)).set (ix a) v },Queue:=w'.Queue++[at_],Report:=rp } (fun x=>O x∨x=at_) (fun x=>if x=at_ then n else s x):=by
  have ne:∀ x,O x->x≠at_:=fun x hx e=>fresh (e▸hx)
  refine ⟨fun x hx=>?_,fun x hx=>?_,fun x hx=>?_,fun x y hx hy hxy=>?_,fun x hx i hi=>?_,fun x hx i g1 g2 g3=>?_⟩
  ·obtain ⟨q1,q2⟩:=ho.old x hx
   exact ⟨.inl q1,by rw[if_neg (ne x q1)];exact q2⟩
  ·have hx:x∈w'.Queue++[at_]:=hx
   rcases List.mem_append.1 hx with hx | hx
   ·rw[hqe] at hx;exact .inl (ho.queue x hx)
   ·exact .inr (List.mem_singleton.1 hx)
  ·show 4096<=x∧1<=(if x=at_ then n else s x)∧x+(if x=at_ then n else s x)<=4096+((ovr w.Heap.Words ((w.Heap.Words.drop (ix a)).take n.toNat) (ix at_)).set (ix a) v).length∧szA ((ovr w.Heap.Words ((w.Heap.Words.drop (ix a)).take n.toNat) (ix at_)).set (ix a) v) x<=(if x=at_ then n else s x)
   rw[hlen2]
   rcases hx with hx | rfl
   ·rw[if_neg (ne x hx)]
    obtain ⟨f1,f2,f3,f4⟩:=ho.fit x hx
    exact ⟨f1,f2,f3,hsz x hx⟩
   ·rw[if_pos rfl,hszat]
    omega
  ·show x+(if x=at_ then n else s x)<=y∨y+(if y=at_ then n else s y)<=x
   rcases hx with hx | rfl
   ·rcases hy with hy | rfl
    ·rw[if_neg (ne x hx),if_neg (ne y hy)];exact ho.apart x y hx hy hxy
    ·rw[if_neg (ne x hx),if_pos rfl];have:=aw2 x hx;omega
   ·rcases hy with hy | rfl
    ·rw[if_pos rfl,if_neg (ne y hy)];have:=aw2 y hy;omega
    ·exact absurd rfl hxy
  ·show x+(if x=at_ then n else s x)<=addrC h0.Conf i (pg w'.Heap.Pages i).Used∨addrC h0.Conf (i+1) 0<=x
   rcases htk i hi with rfl | ⟨hi1,hi2⟩
   ·rw[hjk.2]
    rcases hx with hx | rfl
    ·rw[if_neg (ne x hx)];have:=away x hx;have:at_<=addrC h0.Conf i (u+n):=by omega
     omega
    ·rw[if_pos rfl];left;omega
   ·obtain ⟨t1,t2,t3,t4,t5⟩:=hc.tk i hi1
    rw[pq.other i t1 hi2]
    rcases hx with hx | rfl
    ·rw[if_neg (ne x hx)];exact ho.taken x hx i hi1
    ·rw[if_pos rfl]
     by_cases hlt:i<j
     ·right
      have:=addr_lt hp.conf (o:=h0.Conf.PageWords) (p:=u) hlt (by omega) u0
      have e:addrC h0.Conf (i+1) 0=addrC h0.Conf i h0.Conf.PageWords:=by unfold addrC;rw[Int.add_mul,Int.one_mul];omega
      omega
     ·left
      have:=addr_lt hp.conf (i:=j) (j:=i) (o:=u+n) (p:=(pg w.Heap.Pages i).Used) (by omega) (by omega) t4
      omega
  ·have g2:i<w'.Heap.Pages.length:=g2
   have g3:(pg w'.Heap.Pages i).Kind=0:=g3
   show x+(if x=at_ then n else s x)<=addrC h0.Conf i 0∨addrC h0.Conf (i+1) 0<=x
   obtain ⟨k1,k2⟩:=hk0 i g1 g3
   rcases hx with hx | rfl
   ·rw[if_neg (ne x hx)];exact ho.free x hx i g1 (by rw[← pq.plen];exact g2) k2
   ·rw[if_pos rfl]
    by_cases hlt:i<j
    ·right
     have:=addr_lt hp.conf (o:=h0.Conf.PageWords) (p:=u) hlt (by omega) u0
     have e:addrC h0.Conf (i+1) 0=addrC h0.Conf i h0.Conf.PageWords:=by unfold addrC;rw[Int.add_mul,Int.one_mul];omega
     omega
    ·left
     have:=addr_lt hp.conf (i:=j) (j:=i) (o:=u+n) (p:=0) (by omega) (by omega) (by omega)
     omega
 refine ⟨⟨?_,?_,?_,?_,?_,fun i hi=>?_,?_,fun x hx=>?_,?_,⟨_,_,hO⟩⟩,⟨_,_,hO,fun x hx=>⟨.inl hx,?_⟩⟩,pq.scanned,?_⟩
 ·exact pq.conf.trans hc.conf
 ·exact hlen2.trans hc.wlen
 ·exact pq.plen.trans hc.plen
 ·exact pq.space.trans hc.spc
 ·exact pq.old.trans hc.old
 ·show 0<=i∧i<w'.Heap.Pages.length∧(pg w'.Heap.Pages i).Kind=1∧0<=(pg w'.Heap.Pages i).Used∧(pg w'.Heap.Pages i).Used<=h0.Conf.PageWords
  rw[pq.plen]
  rcases htk i hi with rfl | ⟨hi1,hi2⟩
  ·rw[hjk.1,hjk.2]
   omega
  ·have:=hc.tk i hi1
   rw[pq.other i this.1 hi2]
   exact this
 ·show w'.Taken.Nodup
  rcases pq.way with ⟨_,g2,_⟩ | ⟨g1,g2,_⟩
  ·rw[g2];exact hc.tnd
  ·rw[g2,List.nodup_append]
   refine ⟨hc.tnd,by simp,fun x hx y hy=>?_⟩
   rw[List.mem_singleton.1 hy]
   rintro rfl
   rw[(hc.tk x hx).2.2.1] at g1
   cases g1
 ·show (pg w'.Heap.Pages _).Kind=_
  have hkx:=hc.knd x hx
  have h12:=hk12 x hx
  by_cases hij:pgi h0.Conf x=j
  ·rw[hij] at hkx h12 ⊢
   rw[hjk.1]
   rcases pq.way with ⟨g1,_,_⟩ | ⟨g1,_,_⟩
   ·rw[(hc.tk j g1).2.2.1] at hkx;exact hkx
   ·rw[g1] at hkx;rw[← hkx] at h12;rcases h12 with h | h<;>cases h
  ·rw[pq.other _ (hpr x hx) hij];exact hkx
 ·show (w'.Queue++[at_]).Nodup
  rw[hqe,List.nodup_append]
  refine ⟨hc.qnd,by simp,fun x hx y hy=>?_⟩
  rw[List.mem_singleton.1 hy]
  rintro rfl
  exact fresh (ho.queue x hx)
 ·show (if x=at_ then n else s x)=s x
  exact if_neg (fun e=>fresh (by rw[← e];exact hx))
 ·show w.Queue.length<=(w'.Queue++[at_]).length
  rw[hqe,List.length_append];omega
structure Start (N:Nat) (h0:THeap) (l:List Int):Prop where
 hb:HB h0
 good:l≠[]->GoodH N h0
 prop:l≠[]->PropH h0
 st:StartL N h0 l
theorem fwdT_mod (a:Int) (h0:0<=a) (h1:a<4294967296):wU (wU (4*a)+2) % 4=2:=by
 rw[wU_id (n:=4*a) (by omega) (by omega),wU_id (by omega) (by omega)]
 omega
theorem contains_false {l:List Int} {a:Int} (h:l.contains a=false):a∉l:=by
 intro hm
 have:l.contains a=true:=by simpa using hm
 rw[h] at this;cases this
theorem contains_true {l:List Int} {a:Int} (h:l.contains a=true):a∈l:=by simpa using h
theorem CI.wl {w:TWork} (hb:HB h0) (hc:CI h0 l w):w.Heap.Words.length<=BIG:=by
 have:=hb.1
 have:=hc.wlen
 unfold BIG
 omega
theorem forward_ok (hN:NB N) (hs:Start N h0 l) {w:TWork} {O:Int->Prop} {s:Int->Int} (hc:CI h0 l w) (ho:Objs h0 l w O s) (a:Int):Ok (Qca N w a) fun r=>r.2.2=0->FwdQ h0 l w r.1 O s:=by
 have hN':=hN
 unfold NB at hN'
 have hb:=hs.hb
 have hql:=hc.ql hb
 have hwl:=hc.wl hb
 have hww:=hc.wlen
 have hb1:=hb.1
 have hb2:=hb.2
 have hpl:=hc.plen
 have same:FwdQ h0 l w w O s:=⟨hc,⟨O,s,ho,fun _ h=>⟨h,rfl⟩⟩,rfl,Nat.le_refl _⟩
 rw[Qca]
 refine Ok.bif (fun _=>Ok.some fun _=>same) fun _=>?_
 rw[has_eq a (by omega) (by omega),bnd_eq]
 refine Ok.bif (fun _=>Ok.some fun _=>same) fun hq=>?_
 have hq:=contains_false hq
 rw[has_eq a (by rw[hc.old];have:=hs.st.len;omega) (by rw[hc.old];have:=hs.st.len;omega),bnd_eq]
 refine Ok.bif (fun _=>Ok.some fun e=>by cases e) fun hal=>?_
 have hal:a∈l:=by rw[← hc.old];exact contains_true (by simpa using hal)
 have hne:l≠[]:=List.ne_nil_of_mem hal
 have hp:=hs.prop hne
 have hg:=hs.good hne
 have hat:=hs.st.obj.at_ a hal
 have hwd0:=hp.words
 have hpg0:=hp.pages
 have hvc:=vconf_iff.1 hp.conf
 have hrng:=hat.rng
 obtain ⟨_,q0,q1,_⟩:=pgi_eq hp.conf hrng
 have hin:inW w.Heap.Words a:=by unfold inW;omega
 rw[Load_eq hwl,bnd_eq,if_pos hin,target_eq,bnd_eq]
 have hof:QdN N w.Heap.Conf a=some (pgi h0.Conf a,pgo h0.Conf a,0):=by
  rw[of_eq,hc.conf,hp.conf,if_neg (by simp),if_pos hrng];rfl
 rw[hof,bnd_eq]
 refine Ok.bif (fun _=>Ok.some fun _=>same) fun _=>?_
 refine Ok.bif (fun _=>Ok.some fun e=>by cases e) fun _=>?_
 refine Ok.bif (fun _=>Ok.some fun e=>by cases e) fun _=>?_
 refine Ok.bnd (promoted_ok hN (hc.tl hb) _) fun b _ _=>Ok.bif (fun _=>?_) fun _=>?_
 ·rw[QdJ,grd_eq (by omega),grd_eq (by omega),bnd_eq]
  exact Ok.some fun _=>hc.push ho (ho.old a hal).1 hq _
 refine Ok.get q0 (by show pgi h0.Conf a<_;omega) fun p hpp=>Ok.bif (fun _=>?_) fun hk2=>?_
 ·refine Ok.grd (by omega) (Ok.get q0 (by show pgi h0.Conf a<_;omega) fun p hpp=>?_)
  have hgp:=getI_pg hpp
  subst hgp
  rw[wI_id (n:=pgi h0.Conf a+1) (by omega) (by omega)]
  refine Ok.bnd (fwd_l1 w a (ps:=w.Heap.Pages) (by omega) N (pgi h0.Conf a+1) _ (by omega) (by omega) (by omega) ((SameK.refl _).set q0 (by omega) _ _)) fun qs _ hqs=>?_
  rw[QdJ,grd_eq (by show w.Queue.length*8<=_;omega),grd_eq (by show (w.Queue.length+1)*8<=_;omega),bnd_eq]
  refine Ok.some fun _=>?_
  have q:=fun rp=>(hc.pages hqs).push (ho.pages hc hqs) (ho.old a hal).1 hq rp
  exact ⟨(q _).ci,(q _).ob,(q w.Report).sc,(q w.Report).ql⟩
 ·have hgp:=getI_pg hpp
  have hk12:∀ x∈l,(pg h0.Pages (pgi h0.Conf x)).Kind=1∨(pg h0.Pages (pgi h0.Conf x)).Kind=2:=fun x hx=>(hs.st.obj.at_ x hx).kind
  have hpr:∀ x∈l,0<=pgi h0.Conf x:=fun x hx=>(pgi_eq hp.conf (hs.st.obj.at_ x hx).rng).2.1
  have hk1:(pg h0.Pages (pgi h0.Conf a)).Kind=1:=by
   rcases hk12 a hal with h | h
   ·exact h
   ·exfalso
    rw[← hc.knd a hal,hgp] at h
    rw[h] at hk2;cases hk2
  have hsz:=hg.sz hs.st hal hk1
  have hso:=(ho.old a hal).2
  have hfit:=ho.fit a (ho.old a hal).1
  have hsw:=szA_eq w.Heap.Words a
  rw[decH_eq,bnd_eq,sizeH_eq,bnd_eq]
  have e1:sizeH (decH (w.Heap.Words.getD (ix a) 0))=szA w.Heap.Words a:=hsw.1
  show Ok (bnd (Qc7 N w (sizeH (decH (w.Heap.Words.getD (ix a) 0)))) _) _
  rw[e1]
  refine Ok.bnd (place_ok hN hb hp hc (n:=szA w.Heap.Words a) hsw.2.1 (by omega)) fun y _ hy=>Ok.bif (fun _=>Ok.some fun e=>by cases e) fun hy2=>?_
  obtain ⟨j,u,pq⟩:=hy (by simpa using hy2)
  have q:=fun v hv rp=>copy_q (n:=szA w.Heap.Words a) hp hk12 hpr hc ho hal rfl hsw.2.1 pq v hv rp
  obtain ⟨i1,i2,a1,a2,_⟩:=q 2 rfl y.1.Report
  rw[pq.words]
  have en:szA w.Heap.Words a=(((szA w.Heap.Words a).toNat:Nat):Int):=by omega
  have hmv:=Move_eq (N:=N) hwl y.2.1 a (szA w.Heap.Words a).toNat (by omega) (by omega)
  rw[← en,if_pos ⟨i1,i2⟩] at hmv
  rw[hmv,bnd_eq,forward_eq,bnd_eq,if_neg (by omega)]
  have ol:=ovr_len i1 i2
  rw[Store_eq (by rw[ol];exact hwl) (by omega),bnd_eq]
  have hin2:inW (ovr w.Heap.Words ((w.Heap.Words.drop (ix a)).take (szA w.Heap.Words a).toNat) (ix y.2.1)) a:=by unfold inW;rw[ol];exact hin
  rw[if_pos hin2]
  have hqe:=pq.queue
  refine Ok.grd (by rw[hqe];omega) (Ok.grd (by rw[hqe];omega) (Ok.some fun _=>?_))
  exact (q _ (fwdT_mod y.2.1 (by omega) (by omega)) _).2.2.2.2
end
end Go.Sx
namespace Go.Sx
section
variable {N:Nat} {h0:THeap} {l:List Int}
theorem begin_l1 (h:THeap) (y:List Int×Int) (hl:h.Pages.length<=100000):∀ (n:Nat) (i:Int) (qs:List TPage),0<=i->i<=h.Pages.length->(h.Pages.length-i).toNat<n->SameK h.Pages qs->Ok (QbO N h y n i qs) fun r=>SameK h.Pages r
 | 0,i,qs,_,_,hn,_=>by omega
 | n+1,i,qs,h0,hi,hn,hs=>by
  have hq:=hs.1
  rw[QbO]
  refine Ok.grd (by omega) (Ok.bif (fun hc=>?_) fun _=>Ok.some hs)
  have hc:i<qs.length:=of_decide_eq_true hc
  rw[wI_id (n:=i+1) (by omega) (by omega)]
  have next:=begin_l1 h y hl n (i+1) qs (by omega) (by omega) (by omega) hs
  refine Ok.get h0 hc fun p hp=>Ok.bif (fun _=>Ok.bif (fun _=>Ok.get h0 hc fun p hp=>?_) fun _=>next) fun _=>next
  have hg:=getI_pg hp
  subst hg
  exact begin_l1 h y hl n (i+1) _ (by omega) (by omega) (by omega) (hs.set h0 hc _ _)
theorem start_free {h:THeap} (hp:PropH h) {a:Int} (ha:AtOK h a) {j:Int} (h1:0<=j) (hk:(pg h.Pages j).Kind=0):a+szA h.Words a<=addrC h.Conf j 0∨addrC h.Conf (j+1) 0<=a:=by
 obtain ⟨k,k1,k2,k3,k4⟩:=obj_end hp ha
 obtain ⟨q1,q2,q3,q4,q5⟩:=pgi_eq hp.conf ha.rng
 have hvc:=vconf_iff.1 hp.conf
 have hkk:=ha.kind
 by_cases hlt:j<pgi h.Conf a
 ·right
  have:=addr_lt hp.conf (o:=h.Conf.PageWords) (p:=pgo h.Conf a) hlt (by omega) q4
  have e:addrC h.Conf (j+1) 0=addrC h.Conf j h.Conf.PageWords:=by unfold addrC;rw[Int.add_mul,Int.one_mul];omega
  omega
 ·by_cases he:j=pgi h.Conf a
  ·subst he;rw[hk] at hkk;rcases hkk with h | h<;>cases h
  ·by_cases hlt2:j<pgi h.Conf a+k
   ·have:=k4 (j-pgi h.Conf a) (by omega) (by omega)
    rw[show pgi h.Conf a+(j-pgi h.Conf a)=j by omega] at this
    rw[hk] at this;cases this
   ·left
    have:(pgi h.Conf a+k)*h.Conf.PageWords<=j*h.Conf.PageWords:=Int.mul_le_mul_of_nonneg_right (by omega) (by omega)
    have e1:addrC h.Conf (pgi h.Conf a+k) 0=4096+(pgi h.Conf a+k)*h.Conf.PageWords+0:=rfl
    have e2:addrC h.Conf j 0=4096+j*h.Conf.PageWords+0:=rfl
    omega
theorem start_ci {h:THeap} (hb:HB h) (hp:PropH h) {l:List Int} (hs:StartL N h l) {w:TWork} (e1:w.Heap.Conf=h.Conf) (e2:w.Heap.Words=h.Words) (e3:w.Heap.Space=h.Space) (hk:SameK h.Pages w.Heap.Pages) (e4:w.Old=l) (e5:w.Taken=[]) (e6:w.Queue=[]):CI h l w:=by
 have ho:Objs h l w (fun a=>a∈l) (szA h.Words):=by
  refine ⟨fun a ha=>⟨ha,rfl⟩,fun a ha=>(by rw[e6] at ha;cases ha),fun a ha=>?_,fun a b ha hb' hab=>?_,fun a ha j hj=>(by rw[e5] at hj;cases hj),fun a ha j h1 h2 h3=>?_⟩
  ·rw[e2]
   have h1:=hs.obj.at_ a ha
   exact ⟨h1.rng.1,(szA_eq h.Words a).2.1,obj_fit hp h1,Int.le_refl _⟩
  ·have hpw:=hs.obj.pw
   rw[List.pairwise_iff_getElem] at hpw
   obtain ⟨i,hi,ei⟩:=List.getElem_of_mem ha
   obtain ⟨j,hj,ej⟩:=List.getElem_of_mem hb'
   rcases Nat.lt_trichotomy i j with hij | hij | hij
   ·left;have:=hpw i j hi hj hij;rw[ei,ej] at this;exact this
   ·subst hij;exact absurd (ei.symm.trans ej) hab
   ·right;have:=hpw j i hj hi hij;rw[ei,ej] at this;exact this
  ·rw[(hk.2 j h1).1] at h3
   exact start_free hp (hs.obj.at_ a ha) h1 h3
 refine ⟨e1,by rw[e2],hk.1,e3,e4,fun j hj=>(by rw[e5] at hj;cases hj),by rw[e5];exact List.nodup_nil,fun a ha=>?_,by rw[e6];exact List.nodup_nil,⟨_,_,ho⟩⟩
 exact (hk.2 _ (pgi_eq hp.conf (hs.obj.at_ a ha).rng).2.1).1
def zW:TWork:=⟨zH,[],[],[],0,⟨0,0,0,0,0,0⟩⟩
theorem zW_start (N:Nat):Start N zH []:=⟨zH_HB,fun h=>absurd rfl h,fun h=>absurd rfl h,StartL.nil N zH⟩
theorem zW_ci:CI zH [] zW:=by
 refine ⟨rfl,rfl,rfl,rfl,rfl,fun j hj=>(by cases hj),List.nodup_nil,fun a ha=>(by cases ha),List.nodup_nil,⟨fun _=>False,fun _=>0,?_⟩⟩
 exact ⟨fun a ha=>(by cases ha),fun a ha=>(by cases ha),fun a ha=>ha.elim,fun a b ha=>ha.elim,fun a ha=>ha.elim,fun a ha=>ha.elim⟩
structure BegQ (N:Nat) (h:THeap) (l:List Int) (w:TWork):Prop where
 st:Start N h l
 ci:CI h l w
 sc:w.Scanned=0
 pr:PropH h∨h.Pages=[]
theorem begin_ok (hN:NB N) {h:THeap} (hb:HB h):Ok (QdP N h) fun r=>∃ h' l,BegQ N h' l r.1:=by
 have hN':=hN
 unfold NB at hN'
 have hb2:=hb.2
 have zero:∃ h' l,BegQ N h' l zW:=⟨zH,[],zW_start N,zW_ci,rfl,.inr rfl⟩
 rw[QdP]
 refine Ok.bnd (proper_ok (N:=N) (by omega) hb.1 hb.2) fun b eb hp=>Ok.bif (fun _=>Ok.some zero) fun hb1=>?_
 have hp:=hp (by simpa using hb1)
 refine Ok.bnd (good_ok hN hb) fun b _ hg=>Ok.bif (fun _=>Ok.some zero) fun hb2=>?_
 have hg:=hg (by simpa using hb2)
 refine Ok.bnd (objects_ok hN hb) fun y _ hy=>Ok.grd (by omega) ?_
 refine Ok.bnd (begin_l1 h y (by omega) N 0 h.Pages (by omega) (by omega) (by omega) (SameK.refl _)) fun qs _ hqs=>Ok.some ?_
 exact ⟨h,y.1,⟨hb,fun _=>hg,fun _=>hp,hy.1⟩,start_ci hb hp hy.1 rfl rfl rfl hqs rfl rfl rfl,rfl,.inl hp⟩
theorem roots_l1 (hN:NB N) (hs:Start N h0 l) (rs:List Int) (hl:rs.length<=1000000):∀ (n:Nat) (i:Int) (w:TWork) (out:List Int),0<=i->i<=rs.length->(rs.length-i).toNat<n->CI h0 l w->(out.length:Int)=i ->
 Ok (Qbc N rs n i w.Heap.Conf.PageWords w.Heap.Conf.Pages w.Heap.Words w.Heap.Pages w.Heap.Space w.Heap.Bump w.Old w.Taken w.Queue w.Scanned w.Report.Copied w.Report.Kept w.Report.Filled w.Report.Freed w.Report.Cleared w.Report.Steps out) fun e=>match e with
  | .ret r=>r.2.2≠0
  | .nxt t=>∃ (w':TWork) (out':List Int),CI h0 l w'∧w'.Scanned=w.Scanned∧out'.length=rs.length∧t=(w'.Heap.Conf.PageWords,w'.Heap.Conf.Pages,w'.Heap.Words,w'.Heap.Pages,w'.Heap.Space,w'.Heap.Bump,w'.Old,w'.Taken,w'.Queue,w'.Scanned,w'.Report.Copied,w'.Report.Kept,w'.Report.Filled,w'.Report.Freed,w'.Report.Cleared,w'.Report.Steps,out')
 | 0,i,w,out,_,_,hn,_,_=>by omega
 | n+1,i,w,out,g0,hi,hn,hc,ho=>by
  rw[Qbc]
  refine Ok.bif (fun h1=>?_) fun h1=>Ok.some ⟨w,out,hc,rfl,by have:=of_decide_eq_false h1;omega,rfl⟩
  have h1:i<rs.length:=of_decide_eq_true h1
  rw[wI_id (n:=i+1) (by omega) (by omega)]
  obtain ⟨O,s,hob⟩:=hc.obj
  refine Ok.get g0 h1 fun p hp=>Ok.bnd (forward_ok hN hs hc hob p) fun y _ hy=>Ok.bif (fun he=>Ok.some (by simpa using he)) fun he=>?_
  have q:=hy (by simpa using he)
  refine Ok.grd (by omega) ((roots_l1 hN hs rs hl n (i+1) y.1 (out++[y.2.1]) (by omega) (by omega) (by omega) q.ci (by rw[List.length_append];simp;omega)).mono fun e he=>?_)
  cases e with
  | ret r=>exact he
  | nxt t=>obtain ⟨w',o',c1,c2,c3,c4⟩:=he;exact ⟨w',o',c1,c2.trans q.sc,c3,c4⟩
theorem roots_ok (hN:NB N) (hs:Start N h0 l) {rs:List Int} (hl:rs.length<=1000000) {w:TWork} (hc:CI h0 l w):Ok (QdQ N w rs) fun r=>r.2.2=0->CI h0 l r.1∧r.1.Scanned=w.Scanned∧r.2.1.length=rs.length:=by
 have hN':=hN
 unfold NB at hN'
 rw[QdQ]
 refine Ok.exk (roots_l1 hN hs rs hl N 0 w [] (by omega) (by omega) (by omega) hc rfl) (fun a q=>Ok.some fun e=>absurd e q) fun b q=>Ok.some fun _=>?_
 obtain ⟨w',o',c1,c2,c3,rfl⟩:=q
 exact ⟨c1,c2,c3⟩
end
end Go.Sx
namespace Go.Sx
theorem ptrsH_rng {d:THeader} {x:Int} (h:x∈ptrsH d):0<=x∧x<d.Length:=by
 unfold ptrsH at h
 by_cases hv:validH d=true
 ·rw[if_pos hv] at h
  have:=ptrsFrom_mem h
  have:=validH_b hv
  omega
 ·rw[if_neg hv] at h;cases h
theorem ptrsH_len (d:THeader):(ptrsH d).length<=255:=by
 unfold ptrsH
 by_cases hv:validH d=true
 ·rw[if_pos hv]
  have:=ptrsFrom_len (d:=d) (k:=d.Length.toNat) (i:=0)
  have:=validH_b hv
  omega
 ·rw[if_neg hv];simp
section
variable {N:Nat} {h0:THeap} {l:List Int}
theorem store_q {w:TWork} {O:Int->Prop} {s:Int->Int} (hc:CI h0 l w) (ho:Objs h0 l w O s) {p x:Int} (hp:O p) (h1:p<x) (h2:x<p+s p) (v:Int) :
 inW w.Heap.Words x∧CI h0 l { w with Heap:={ w.Heap with Words:=w.Heap.Words.set (ix x) v } }∧Objs h0 l { w with Heap:={ w.Heap with Words:=w.Heap.Words.set (ix x) v } } O s:=by
 have hf:=ho.fit p hp
 have hin:inW w.Heap.Words x:=by unfold inW;omega
 have ho2:Objs h0 l { w with Heap:={ w.Heap with Words:=w.Heap.Words.set (ix x) v } } O s:=by
  refine ⟨ho.old,ho.queue,fun a ha=>?_,ho.apart,ho.taken,ho.free⟩
  show 4096<=a∧1<=s a∧a+s a<=4096+(w.Heap.Words.set (ix x) v).length∧szA (w.Heap.Words.set (ix x) v) a<=s a
  obtain ⟨f1,f2,f3,f4⟩:=ho.fit a ha
  rw[List.length_set]
  refine ⟨f1,f2,f3,?_⟩
  have:a≠x:=by
   rintro rfl
   by_cases he:a=p
   ·omega
   ·have:=ho.apart a p ha hp he
    omega
  unfold szA hdA at *
  rw[wd_set hin f1,if_neg this]
  exact f4
 refine ⟨hin,⟨hc.conf,?_,hc.plen,hc.spc,hc.old,hc.tk,hc.tnd,hc.knd,hc.qnd,⟨O,s,ho2⟩⟩,ho2⟩
 show (w.Heap.Words.set (ix x) v).length=_
 rw[List.length_set];exact hc.wlen
theorem step_l1 (hN:NB N) (hs:Start N h0 l) {p:Int} {ks:List Int} (hkl:ks.length<=255):∀ (n:Nat) (i:Int) (w:TWork) (O:Int->Prop) (s:Int->Int),0<=i->i<=ks.length->(ks.length-i).toNat<n->CI h0 l w->Objs h0 l w O s->O p->(∀ k∈ks,0<=k∧k<255∧k+1<s p) ->
 Ok (Qbq N p ks n i w.Heap.Conf.PageWords w.Heap.Conf.Pages w.Heap.Words w.Heap.Pages w.Heap.Space w.Heap.Bump w.Old w.Taken w.Queue w.Scanned w.Report.Copied w.Report.Kept w.Report.Filled w.Report.Freed w.Report.Cleared w.Report.Steps) fun e=>match e with
  | .ret r=>r.2.2≠0
  | .nxt t=>∃ (w':TWork),CI h0 l w'∧w'.Scanned=w.Scanned∧w.Queue.length<=w'.Queue.length∧t=(w'.Heap.Conf.PageWords,w'.Heap.Conf.Pages,w'.Heap.Words,w'.Heap.Pages,w'.Heap.Space,w'.Heap.Bump,w'.Old,w'.Taken,w'.Queue,w'.Scanned,w'.Report.Copied,w'.Report.Kept,w'.Report.Filled,w'.Report.Freed,w'.Report.Cleared,w'.Report.Steps)
 | 0,i,w,O,s,_,_,hn,_,_,_,_=>by omega
 | n+1,i,w,O,s,g0,hi,hn,hc,ho,hp,hk=>by
  have hN':=hN
  unfold NB at hN'
  have hb1:=hs.hb.1
  rw[Qbq]
  refine Ok.bif (fun h1=>?_) fun h1=>Ok.some ⟨w,hc,rfl,Nat.le_refl _,rfl⟩
  have h1:i<ks.length:=of_decide_eq_true h1
  rw[wI_id (n:=i+1) (by omega) (by omega)]
  refine Ok.get g0 h1 fun k hk2=>?_
  have hkm:=getI_mem hk2
  obtain ⟨k0,k1,k2⟩:=hk k hkm
  have hf:=ho.fit p hp
  have hwl:=hc.wlen
  rw[wU_id (n:=p+1) (by omega) (by omega),wU_id (n:=k) (by omega) (by omega),wU_id (n:=p+1+k) (by omega) (by omega)]
  rw[Load_eq (hc.wl hs.hb),bnd_eq]
  refine Ok.bnd (forward_ok hN hs hc ho _) fun y _ hy=>Ok.bif (fun he=>Ok.some (by simpa using he)) fun he=>?_
  have q:=hy (by simpa using he)
  obtain ⟨O',s',ho',hx⟩:=q.ob
  obtain ⟨hp',hs'⟩:=hx p hp
  have st:=store_q q.ci ho' hp' (x:=p+1+k) (by omega) (by omega) y.2.1
  rw[Store_eq (q.ci.wl hs.hb) (by omega),bnd_eq,if_pos st.1]
  refine (step_l1 hN hs hkl n (i+1) _ O' s' (by omega) (by omega) (by omega) st.2.1 st.2.2 hp' (fun k' hk'=>by rw[hs'];exact hk k' hk')).mono fun e he=>?_
  cases e with
  | ret r=>exact he
  | nxt t=>obtain ⟨w',c1,c2,c3,c4⟩:=he;exact ⟨w',c1,c2.trans q.sc,Nat.le_trans q.ql c3,c4⟩
theorem step_ok (hN:NB N) (hs:Start N h0 l) {w:TWork} (hc:CI h0 l w) (h0s:0<=w.Scanned) (h1s:w.Scanned<=w.Queue.length):Ok (Qeh N w) fun r=>r.2.2=0->CI h0 l r.1∧0<=r.1.Scanned∧r.1.Scanned<=r.1.Queue.length∧(r.2.1=true->r.1.Scanned=w.Scanned+1):=by
 have hN':=hN
 unfold NB at hN'
 have hb:=hs.hb
 have hql:=hc.ql hb
 rw[Qeh]
 refine Ok.bif (fun _=>Ok.some fun _=>⟨hc,h0s,h1s,fun e=>by cases e⟩) fun hlt=>?_
 have hlt:w.Scanned<w.Queue.length:=by have:=of_decide_eq_false hlt;omega
 refine Ok.get h0s hlt fun p hp=>?_
 have hpm:=getI_mem hp
 obtain ⟨O,s,ho⟩:=hc.obj
 have hOp:=ho.queue p hpm
 have hf:=ho.fit p hOp
 have hin:inW w.Heap.Words p:=by unfold inW;omega
 rw[Qd9,Load_eq (hc.wl hb),bnd_eq,if_pos hin,decH_eq,bnd_eq,bnd_eq,ptrsH_eq (by omega),bnd_eq]
 have hkl:=ptrsH_len (hdA w.Heap.Words p)
 have hvl:=validH_b (decH_valid (wd w.Heap.Words p))
 refine Ok.exk (step_l1 hN hs (p:=p) (ks:=ptrsH (hdA w.Heap.Words p)) hkl N 0 w O s (by omega) (by omega) (by omega) hc ho hOp fun k hk=>?_) (fun a q=>Ok.some fun e=>absurd e q) fun t q=>Ok.some fun _=>?_
 ·have h1:=ptrsH_rng hk
  have h2:szA w.Heap.Words p=(hdA w.Heap.Words p).Length+1:=rfl
  have h3:(hdA w.Heap.Words p).Length<=255:=hvl.2.2.2
  omega
 ·obtain ⟨w',c1,c2,c3,rfl⟩:=q
  have e:wI (w'.Scanned+1)=w.Scanned+1:=by rw[c2,wI_id (by omega) (by omega)]
  refine ⟨⟨c1.conf,c1.wlen,c1.plen,c1.spc,c1.old,c1.tk,c1.tnd,c1.knd,c1.qnd,?_⟩,?_,?_,fun _=>e⟩
  ·obtain ⟨O,s,h⟩:=c1.obj
   exact ⟨O,s,⟨h.old,h.queue,h.fit,h.apart,h.taken,h.free⟩⟩
  ·show 0<=wI (w'.Scanned+1);omega
  ·show wI (w'.Scanned+1)<=w'.Queue.length;omega
theorem all_l1 (hN:NB N) (hs:Start N h0 l):∀ (n:Nat) (w:TWork),CI h0 l w->0<=w.Scanned->w.Scanned<=w.Queue.length->(100001-w.Scanned).toNat<n ->
 Ok (QbB N n w.Heap.Conf.PageWords w.Heap.Conf.Pages w.Heap.Words w.Heap.Pages w.Heap.Space w.Heap.Bump w.Old w.Taken w.Queue w.Scanned w.Report.Copied w.Report.Kept w.Report.Filled w.Report.Freed w.Report.Cleared w.Report.Steps) fun r=>r.2=0->CI h0 l r.1
 | 0,w,_,_,_,hn=>by omega
 | n+1,w,hc,g0,g1,hn=>by
  rw[QbB]
  have hql:=hc.ql hs.hb
  refine Ok.bnd (step_ok hN hs hc g0 g1) fun y _ hy=>Ok.bif (fun he=>Ok.some fun e=>absurd e (by simpa using he)) fun he=>?_
  obtain ⟨q1,q2,q3,q4⟩:=hy (by simpa using he)
  refine Ok.bif (fun _=>Ok.some fun _=>q1) fun hb=>?_
  have q4:y.1.Scanned=w.Scanned+1:=q4 (by simpa using hb)
  have:=q1.ql hs.hb
  exact all_l1 hN hs n y.1 q1 q2 q3 (by omega)
theorem all_ok (hN:NB N) (hs:Start N h0 l) {w:TWork} (hc:CI h0 l w) (g0:0<=w.Scanned) (g1:w.Scanned<=w.Queue.length):Ok (QeJ N w) fun r=>r.2=0->CI h0 l r.1:=by
 have hN':=hN
 unfold NB at hN'
 rw[QeJ]
 exact Ok.bnd (all_l1 hN hs N w hc g0 g1 (by omega)) fun y _ hy=>Ok.some hy
theorem after_ok (hN:NB N) (hs:Start N h0 l) {w:TWork} (hq:w.Queue.length<=100000) (hw:w.Heap.Words.length<=BIG) (a:Int):Ok (QdR N w a) fun _=>True:=by
 have hN':=hN
 unfold NB at hN'
 rw[QdR,has_eq a (by omega) (by omega),bnd_eq]
 refine Ok.bif (fun _=>Ok.some trivial) fun _=>?_
 rw[Load_eq hw,bnd_eq,target_eq,bnd_eq]
 exact Ok.some trivial
theorem fill_l1 (hN:NB N) {w:TWork} (hb:HB h0) (hc:CI h0 l w) {s:Int->Int} (hll:l.length<=4096) (hpw:l.Pairwise fun a b=>a+s a<=b) (hfit:∀ a∈l,4096<=a∧1<=s a∧a+s a<=4096+h0.Words.length):∀ (n k:Nat) (v:List Int) (c:Int),k<=l.length->l.length-k<n->v.length=h0.Words.length->(∀ a∈l.drop k,szA v a<=s a) ->
 Ok (QaG N w n (k:Int) v c) fun r=>r.1.length=h0.Words.length
 | 0,k,v,c,_,hn,_,_=>by omega
 | n+1,k,v,c,hk,hn,hv,hs=>by
  have hN':=hN
  unfold NB at hN'
  have hb1:=hb.1
  have hql:=hc.ql hb
  have htl:=hc.tl hb
  have hold:=hc.old
  rw[QaG]
  refine Ok.bif (fun h1=>?_) fun _=>Ok.some hv
  have h1:k<l.length:=by have:=of_decide_eq_true h1;rw[hold] at this;omega
  have hkl:(k:Int)<w.Old.length:=by rw[hold];omega
  have hdr:=List.drop_eq_getElem_cons h1
  rw[wI_id (n:=(k:Int)+1) (by omega) (by omega),show ((k:Int)+1)=((k+1:Nat):Int) by omega]
  have gp:∀ p,getI w.Old (k:Int)=some p->p=l[k]:=by
   intro p hp
   rw[hold,getI_nat,List.getElem?_eq_getElem h1] at hp
   exact (Option.some.inj hp).symm
  have next:Ok (QaG N w n ((k+1:Nat):Int) v c) fun r=>r.1.length=h0.Words.length :=
   fill_l1 hN hb hc hll hpw hfit n (k+1) v c (by omega) (by omega) hv fun a ha=>hs a (by rw[hdr];exact List.mem_cons_of_mem _ ha)
  refine Ok.get (by omega) hkl fun p hp=>?_
  rw[of_eq,bnd_eq]
  refine Ok.bnd (promoted_ok hN (w:={ w with Heap:={ w.Heap with Words:=v },Report:=⟨_,_,_,_,_,_⟩ }) htl _) fun b _ _=>Ok.bif (fun _=>next) fun _=>?_
  refine Ok.get (by omega) hkl fun p hp=>?_
  rw[has_eq p (by omega) (by omega),bnd_eq]
  refine Ok.bif (fun _=>next) fun _=>Ok.get (by omega) hkl fun p hp=>?_
  have hpe:=gp p hp
  have hpm:p∈l:=by rw[hpe];exact List.getElem_mem h1
  obtain ⟨f1,f2,f3⟩:=hfit p hpm
  have hsp:=hs p (by rw[hdr,← hpe];exact List.mem_cons_self)
  have hin:inW v p:=by unfold inW;omega
  have hsz:=szA_eq v p
  rw[Qd9,Load_eq (by show v.length<=BIG;unfold BIG;omega),bnd_eq,if_pos hin,decH_eq,bnd_eq,bnd_eq,encH_eq,bnd_eq]
  refine Ok.get (by omega) hkl fun p' hp'=>?_
  obtain rfl:p=p':=hpe.trans (gp p' hp').symm
  have e1:szA v p=(hdA v p).Length+1:=rfl
  have e2:(decH (v.getD (ix p) 0)).Length=(hdA v p).Length:=rfl
  refine Ok.grd (by rw[e2];omega) (Ok.grd (by rw[e2];omega) ?_)
  have hlen:∀ x:Int,([x]++List.replicate (decH (v.getD (ix p) 0)).Length.toNat (0:Int)).length=(szA v p).toNat:=by
   intro x;rw[List.length_append,List.length_replicate,e2];simp only[List.length_cons,List.length_nil];omega
  rw[Write_eq (by unfold BIG;omega) (by rw[hlen];unfold BIG;omega) (by rw[hlen];omega),bnd_eq,hlen,if_pos (by unfold inWs;omega)]
  have hlo:∀ x:Int,(ovr v ([x]++List.replicate (decH (v.getD (ix p) 0)).Length.toNat (0:Int)) (ix p)).length=v.length:=by
   intro x;apply ovr_length;rw[hlen];unfold ix;omega
  refine fill_l1 hN hb hc hll hpw hfit n (k+1) _ _ (by omega) (by omega) ((hlo _).trans hv) fun a ha=>?_
  have ham:a∈l:=List.mem_of_mem_drop ha
  have hsa:=hs a (by rw[hdr];exact List.mem_cons_of_mem _ ha)
  have hfa:=hfit a ham
  have hle:p+s p<=a:=by
   have hp2:=hpw.drop (i:=k)
   rw[hdr,List.pairwise_cons] at hp2
   rw[hpe]
   exact hp2.1 a ha
  have:∀ x:Int,szA (ovr v ([x]++List.replicate (decH (v.getD (ix p) 0)).Length.toNat (0:Int)) (ix p)) a=szA v a:=by
   intro x
   unfold szA hdA wd
   rw[ovr_getD (by rw[hlen];unfold ix;omega),hlen,if_neg]
   unfold ix
   have:p+szA v p<=a:=by omega
   omega
  rw[this];exact hsa
theorem fill_ok (hN:NB N) (hs:Start N h0 l) {w:TWork} (hc:CI h0 l w):Ok (Qej N w) fun r=>r.Heap.Conf=h0.Conf∧r.Heap.Words.length=h0.Words.length∧r.Heap.Pages=w.Heap.Pages∧r.Heap.Pages.length=h0.Pages.length∧r.Taken.length<=100000:=by
 have hN':=hN
 unfold NB at hN'
 have hb:=hs.hb
 rw[Qej]
 obtain ⟨O,s,ho⟩:=hc.obj
 have hpw:l.Pairwise fun a b=>a+s a<=b:=by
  refine List.Pairwise.imp_of_mem ?_ hs.st.obj.pw
  intro a b ha _ h
  rw[(ho.old a ha).2];exact h
 have hwl:=hc.wlen
 have:=fill_l1 hN (w:=w) hb hc (s:=s) hs.st.len hpw (fun a ha=>by have:=ho.fit a (ho.old a ha).1;omega) N 0 w.Heap.Words w.Report.Filled (by omega) (by have:=hs.st.len;omega) hwl fun a ha=>(ho.fit a (ho.old a (List.mem_of_mem_drop ha)).1).2.2.2
 have htl:w.Taken.length<=100000:=hc.tl hb
 refine Ok.bnd this fun r _ hr=>Ok.some ⟨hc.conf,hr,rfl,hc.plen,htl⟩
theorem free_l1 {w:TWork} (v4:List TPage) (p5:TPage) (i c:Int) (hp:PropH h0) (hc:w.Heap.Conf=h0.Conf) (g0:0<=i) (g1:i<h0.Conf.Pages):∀ (n:Nat) (k:Int) (v:List Int),0<=k->(65-k).toNat<n->v.length=h0.Words.length->Ok (Qbr N w v4 p5 i c n k v) fun r=>r.length=h0.Words.length
 | 0,k,v,_,hn,_=>by omega
 | n+1,k,v,k0,hn,hv=>by
  have hvc:=vconf_iff.1 hp.conf
  have hm:=pw_mul hp.conf g0 g1
  have hw:=hp.words
  rw[Qbr,hc]
  refine Ok.bif (fun h1=>?_) fun _=>Ok.some hv
  have h1:k<h0.Conf.PageWords:=of_decide_eq_true h1
  rw[wI_id (n:=k+1) (by omega) (by omega),wI_id (n:=i*h0.Conf.PageWords) (by omega) (by omega),wI_id (n:=i*h0.Conf.PageWords+k) (by omega) (by omega)]
  refine Ok.get (by omega) (by omega) fun p _=>free_l1 v4 p5 i c hp hc g0 g1 n (k+1) _ (by omega) (by omega) (by rw[List.length_set];exact hv)
theorem free_l2 (hN:NB N) {w:TWork} (hb:HB h0) (hp:PropH h0∨h0.Pages=[]) (hc:w.Heap.Conf=h0.Conf):∀ (n:Nat) (i c:Int) (v:List Int) (ps:List TPage),0<=i->i<=h0.Pages.length->(h0.Pages.length-i).toNat<n->v.length=h0.Words.length->ps.length=h0.Pages.length->Ok (QaX N w n i c v ps) fun r=>r.2.1.length=h0.Words.length∧r.2.2.length=h0.Pages.length
 | 0,i,c,v,ps,_,_,hn,_,_=>by omega
 | n+1,i,c,v,ps,g0,gi,hn,hv,hps=>by
  have hN':=hN
  unfold NB at hN'
  have hb2:=hb.2
  rw[QaX]
  refine Ok.grd (by omega) (Ok.bif (fun h1=>?_) fun _=>Ok.some ⟨hv,hps⟩)
  have h1:i<ps.length:=of_decide_eq_true h1
  rw[wI_id (n:=i+1) (by omega) (by omega)]
  have next:=free_l2 hN (w:=w) hb hp hc n (i+1) c v ps (by omega) (by omega) (by omega) hv hps
  refine Ok.get g0 h1 fun p _=>Ok.bif (fun _=>next) fun _=>Ok.bif (fun _=>next) fun _=>Ok.get g0 h1 fun p6 _=>?_
  rcases hp with hp | hp
  ·have hpp:=hp.pages
   refine Ok.bnd (free_l1 ps p i c hp hc g0 (by omega) N 0 v (by omega) (by omega) hv) fun r _ hr=>?_
   exact free_l2 hN hb (.inl hp) hc n (i+1) _ r _ (by omega) (by omega) (by omega) hr (by rw[List.length_set];exact hps)
  ·rw[hp] at hps;simp at hps;rw[hps] at h1;simp at h1;omega
theorem free_ok (hN:NB N) {w:TWork} (hb:HB h0) (hp:PropH h0∨h0.Pages=[]) (hc:w.Heap.Conf=h0.Conf) (hw:w.Heap.Words.length=h0.Words.length) (hpl:w.Heap.Pages.length=h0.Pages.length):Ok (Qei N w) fun r=>HB r.Heap∧r.Taken=w.Taken:=by
 have hN':=hN
 unfold NB at hN'
 have hb1:=hb.1
 have hb2:=hb.2
 rw[Qei]
 refine Ok.grd (by omega) (Ok.grd (by omega) (Ok.bnd (free_l2 hN hb hp hc N 0 _ _ _ (by omega) (by omega) (by omega) hw hpl) fun r _ hr=>Ok.some ⟨⟨?_,?_⟩,rfl⟩))
 ·show r.2.1.length<=_;omega
 ·show r.2.2.length<=_;omega
theorem weak_l1 (hN:NB N) (hs:Start N h0 l) (ws:List Int) (hl:ws.length<=1000000) (y5:TWork×List Int×Int) (y6:TWork×Int) (hc:CI h0 l y6.1):∀ (n:Nat) (i c:Int) (out:List Int),0<=i->i<=ws.length->(ws.length-i).toNat<n->(out.length:Int)=i->Ok (QaM N ws y5 y6 n i c out) fun r=>r.2.length=ws.length
 | 0,i,c,out,_,_,hn,_=>by omega
 | n+1,i,c,out,g0,gi,hn,ho=>by
  rw[QaM]
  refine Ok.bif (fun h1=>?_) fun h1=>Ok.some (by have:=of_decide_eq_false h1;show out.length=ws.length;omega)
  have h1:i<ws.length:=of_decide_eq_true h1
  rw[wI_id (n:=i+1) (by omega) (by omega)]
  have next:=fun c' x=>weak_l1 hN hs ws hl y5 y6 hc n (i+1) c' (out++[x]) (by omega) (by omega) (by omega) (by rw[List.length_append];simp;omega)
  refine Ok.get g0 h1 fun p _=>Ok.jn (Ok.bif (fun _=>Ok.get g0 h1 fun p _=>?_) fun _=>Ok.grd (by omega) (next _ _))
  refine Ok.bnd (after_ok hN hs (w:=⟨_,_,_,_,_,_⟩) (hc.ql hs.hb) (hc.wl hs.hb) p) fun y _ _=>Ok.jn (Ok.bif (fun _=>Ok.grd (by omega) (next _ _)) fun _=>Ok.grd (by omega) (next _ _))
structure ColQ (rs ws:List Int) (r:THeap×List Int×List Int×TReport×Int):Prop where
 hb:HB r.1
 len:r.2.2.2.2=0->r.2.1.length=rs.length∧r.2.2.1.length=ws.length
 no:r.2.2.2.2≠0->r.2.1=[]∧r.2.2.1=[]
theorem collect_ok (hN:NB N) {h:THeap} (hb:HB h) {rs ws:List Int} (hr:rs.length<=1000000) (hw:ws.length<=1000000):Ok (QcK N h rs ws) (ColQ rs ws):=by
 have hN':=hN
 unfold NB at hN'
 have bad:∀ e:Int,e≠0->ColQ rs ws (zH,[],[],⟨0,0,0,0,0,0⟩,e):=fun e he=>⟨zH_HB,fun h=>absurd h he,fun _=>⟨rfl,rfl⟩⟩
 rw[QcK]
 refine Ok.bnd (proper_ok (N:=N) (by omega) hb.1 hb.2) fun b _ _=>Ok.bif (fun _=>Ok.some (bad 1 (by decide))) fun _=>Ok.jn ?_
 refine Ok.bnd (refers_ok hN hb hr) fun b _ _=>Ok.bif (fun _=>Ok.some (bad 19 (by decide))) fun _=>?_
 refine Ok.bnd (refers_ok hN hb hw) fun b _ _=>Ok.bif (fun _=>Ok.some (bad 19 (by decide))) fun _=>?_
 refine Ok.bnd (begin_ok hN hb) fun y4 _ hy4=>?_
 obtain ⟨h',l,bq⟩:=hy4
 have hs:=bq.st
 refine Ok.bnd (roots_ok hN hs hr bq.ci) fun y5 _ hy5=>Ok.bif (fun he=>Ok.some (bad _ (by simpa using he))) fun he=>?_
 obtain ⟨c1,c2,c3⟩:=hy5 (by simpa using he)
 have hsc:=bq.sc
 refine Ok.bnd (all_ok hN hs c1 (by omega) (by omega)) fun y6 _ hy6=>Ok.bif (fun he=>Ok.some (bad _ (by simpa using he))) fun he=>?_
 have d1:=hy6 (by simpa using he)
 refine Ok.bnd (weak_l1 hN hs ws hw y5 y6 d1 N 0 _ [] (by omega) (by omega) (by omega) rfl) fun y16 _ hy16=>?_
 have d2:CI h' l (TWork.mk y6.1.Heap y6.1.Old y6.1.Taken y6.1.Queue y6.1.Scanned (TReport.mk y6.1.Report.Copied y6.1.Report.Kept y6.1.Report.Filled y6.1.Report.Freed y16.1 y6.1.Report.Steps)):=by
  obtain ⟨O,s,ho⟩:=d1.obj
  exact ⟨d1.conf,d1.wlen,d1.plen,d1.spc,d1.old,d1.tk,d1.tnd,d1.knd,d1.qnd,⟨O,s,⟨ho.old,ho.queue,ho.fit,ho.apart,ho.taken,ho.free⟩⟩⟩
 refine Ok.bnd (fill_ok hN hs d2) fun y17 _ ⟨f1,f2,f3,f4,f5⟩=>?_
 refine Ok.bnd (free_ok hN (h0:=h') hs.hb bq.pr f1 f2 f4) fun y18 _ ⟨g1,g2⟩=>?_
 have fin:∀ x:Int,ColQ rs ws ((THeap.mk y18.Heap.Conf y18.Heap.Words y18.Heap.Pages (wI (1-y18.Heap.Space)) x),y5.2.1,y16.2,y18.Report,0):=fun x=>⟨g1,fun _=>⟨c3,hy16⟩,fun h=>absurd rfl h⟩
 refine Ok.jn (Ok.bif (fun ht=>?_) fun _=>Ok.some (fin _))
 have ht:0<(y18.Taken.length:Int):=of_decide_eq_true ht
 rw[g2] at ht ⊢
 rw[wI_id (by omega) (by omega)]
 exact Ok.get (by omega) (by omega) fun p _=>Ok.some (fin _)
end
end Go.Sx
namespace Go.Sx
def foldAll {α σ:Type} (q:σ->Nat->α->Bool) (nxp:σ->α->σ):σ->Nat->List α->Bool
 | _,_,[]=>true
 | s,k,x::l=>q s k x&&foldAll q nxp (nxp s x) (k+1) l
theorem foldAll_all {α:Type} (q:α->Bool):∀ (k:Nat) (l:List α),foldAll (fun (_:Unit) _ x=>q x) (fun s _=>s) () k l=l.all q
 | _,[]=>rfl
 | k,x::l=>by rw[foldAll,foldAll_all q (k+1) l,List.all_cons]
theorem foldLoop {α σ:Type} {l:List α} {F:Nat->σ->Int->Option (Ex Bool Unit)} {q:σ->Nat->α->Bool} {nxp:σ->α->σ} {I:σ->Prop}
 (hstep:∀ (n:Nat) (s:σ) (k:Nat) (p:α),I s->l[k]? = some p->F (n+1) s (k:Int)=bif q s k p then F n (nxp s p) ((k+1:Nat):Int) else some (.ret false))
 (hstop:∀ (n:Nat) (s:σ),F (n+1) s (l.length:Int)=some (.nxt ()))
 (hI:∀ s k p,I s->l[k]? = some p->q s k p=true->I (nxp s p)):∀ (n:Nat) (s:σ) (k:Nat),I s->k<=l.length->l.length-k<n->F n s (k:Int)=some (bif foldAll q nxp s k (l.drop k) then .nxt () else .ret false)
 | 0,s,k,_,_,hn=>by omega
 | n+1,s,k,hs,hk,hn=>by
  by_cases h:k<l.length
  ·have e:=List.getElem?_eq_getElem h
   rw[hstep n s k _ hs e,List.drop_eq_getElem_cons h,foldAll]
   cases hq:q s k l[k] with
   | false=>rfl
   | true =>
    rw[Bool.true_and,cond_true]
    exact foldLoop hstep hstop hI n _ (k+1) (hI s k _ hs e hq) (by omega) (by omega)
  ·obtain rfl:k=l.length:=by omega
   rw[hstop,List.drop_eq_nil_of_le (Nat.le_refl _)]
   rfl
theorem allLoop {α:Type} {l:List α} {F:Nat->Int->Option (Ex Bool Unit)} {q:Nat->α->Bool}
 (hstep:∀ (n:Nat) (k:Nat) (p:α),l[k]? = some p->F (n+1) (k:Int)=bif q k p then F n ((k+1:Nat):Int) else some (.ret false))
 (hstop:∀ (n:Nat),F (n+1) (l.length:Int)=some (.nxt ())) {n:Nat} (hn:l.length<n):F n 0=some (bif foldAll (fun (_:Unit)=>q) (fun s _=>s) () 0 l then .nxt () else .ret false):=by
 have h:=foldLoop (F:=fun n (_:Unit) i=>F n i) (q:=fun _=>q) (nxp:=fun s _=>s) (I:=fun _=>True) (l:=l) (fun n s k p _ e=>hstep n k p e) (fun n _=>hstop n) (fun _ _ _ _ _ _=>trivial) n () 0 trivial (by omega) (by omega)
 rw[List.drop_zero] at h
 exact h
theorem dlt_true {k:Nat} {n:Nat} (h:k<n):decide ((k:Int)<((n:Nat):Int))=true:=decide_eq_true (by omega)
theorem dlt_false (n:Nat):decide (((n:Nat):Int)<((n:Nat):Int))=false:=decide_eq_false (by omega)
theorem lt_of_some {α:Type} {l:List α} {k:Nat} {p:α} (h:l[k]? = some p):k<l.length:=(List.getElem?_eq_some_iff.1 h).1
theorem wI_succ {k:Nat} (h:k<=140737488355328):wI ((k:Int)+1)=((k+1:Nat):Int):=by rw[wI_id (by omega) (by omega)];omega
def entOK (e:TEntry):Bool:=!decide (e.Gen<1)&&(!decide (e.Gen>4294967295)&&(e.Live||!(e.Ref != 0)))
def tabV (l:List TEntry):Bool:=l.all entOK&&decide (l.length<=64)
def liveT (l:List TEntry):List Int:=(l.filter (·.Live)).map (·.Ref)
theorem tval_eq {N:Nat} {t:TTable} (hl:t.Entries.length<=1000000) (hN:1000000<N):Qbl N t=some (tabV t.Entries):=by
 have h:=allLoop (l:=t.Entries) (F:=QbK N t) (q:=fun _=>entOK) (fun n k p e=>?_) (fun n=>?_) (n:=N) (by omega)
 ·rw[Qbl,h,bnd_eq,foldAll_all,tabV]
  cases t.Entries.all entOK
  ·rw[cond_false,exK_ret];rfl
  ·rw[cond_true,exK_nxt,Bool.true_and]
   congr 1
   exact decide_eq_decide.2 (by omega)
 ·have hk:=lt_of_some e
  rw[QbK,dlt_true hk,cond_true,getI_nat,e,bnd_eq,wI_succ (by omega)]
  unfold entOK
  cases decide (p.Gen<1)<;>cases decide (p.Gen>4294967295)<;>cases p.Live<;>cases (p.Ref != 0)<;>rfl
 ·rw[QbK,dlt_false,cond_false]
theorem trefs_l1 {N:Nat} {t:TTable} (hl:t.Entries.length<=1000000) (hN:1000000<N) (hv:tabV t.Entries=true):∀ (n k:Nat) (v:List Int),k<=t.Entries.length->t.Entries.length-k<n->v.length<=k ->
 QaV N t n (k:Int) v=some (v++liveT (t.Entries.drop k))
 | 0,k,v,_,hn,_=>by omega
 | n+1,k,v,hk,hn,hlv=>by
  rw[QaV]
  by_cases h:k<t.Entries.length
  ·rw[dlt_true h,cond_true,tval_eq hl hN,bnd_eq,hv,cond_true,getI_nat,List.getElem?_eq_getElem h,bnd_eq,bnd_eq,wI_succ (by omega),List.drop_eq_getElem_cons h,liveT]
   cases hL:t.Entries[k].Live
   ·rw[cond_false,trefs_l1 hl hN hv n (k+1) v (by omega) (by omega) (by omega),List.filter_cons_of_neg (by rw[hL];simp)]
    rfl
   ·rw[cond_true,grd_eq (by omega),trefs_l1 hl hN hv n (k+1) _ (by omega) (by omega) (by rw[List.length_append];simp;omega),List.filter_cons_of_pos (by rw[hL])]
    simp[liveT]
  ·obtain rfl:k=t.Entries.length:=by omega
   rw[dlt_false,cond_false,List.drop_eq_nil_of_le (Nat.le_refl _)]
   simp[liveT]
theorem trefs_eq {N:Nat} {t:TTable} (hl:t.Entries.length<=1000000) (hN:1000000<N):QaR N t=some (bif tabV t.Entries then liveT t.Entries else []):=by
 rw[QaR]
 cases hv:tabV t.Entries
 ·obtain ⟨m,rfl⟩:∃ m,N=m+1:=⟨N-1,by omega⟩
  rw[QaV,tval_eq hl hN,hv]
  by_cases h:0<t.Entries.length
  ·rw[show decide ((0:Int)<((t.Entries.length:Nat):Int))=true from decide_eq_true (by omega),cond_true,bnd_eq,cond_false,bnd_eq];rfl
  ·rw[show decide ((0:Int)<((t.Entries.length:Nat):Int))=false from decide_eq_false (by omega),cond_false,bnd_eq];rfl
 ·have h:=trefs_l1 hl hN hv N 0 [] (by omega) (by omega) (by simp)
  rw[show ((0:Nat):Int)=0 from rfl,List.drop_zero,List.nil_append] at h
  rw[h,bnd_eq];rfl
theorem liveT_len (l:List TEntry):(liveT l).length<=l.length:=by unfold liveT;rw[List.length_map];exact List.length_filter_le _ _
theorem tabV_len {l:List TEntry} (h:tabV l=true):l.length<=64:=by
 unfold tabV at h
 rw[Bool.and_eq_true] at h
 exact of_decide_eq_true h.2
theorem tabV_gen {l:List TEntry} (h:tabV l=true) {e:TEntry} (he:e∈l):1<=e.Gen∧e.Gen<=4294967295∧(e.Live=false->e.Ref=0):=by
 unfold tabV at h
 rw[Bool.and_eq_true,List.all_eq_true] at h
 have:=h.1 e he
 unfold entOK at this
 simp only[Bool.and_eq_true,Bool.not_eq_true',decide_eq_false_iff_not,Bool.or_eq_true,bne_eq_false_iff_eq] at this
 refine ⟨by omega,by omega,fun hL=>?_⟩
 rcases this.2.2 with h | h
 ·rw[hL] at h;cases h
 ·exact h
def tabGet (l:List TEntry) (i g:Int):Int×Int :=
 if tabV l=false then (0,1) else if i<0∨(l.length:Int)<=i∨g<1 then (0,6) else
 match l[i.toNat]? with
 | none=>(0,6)
 | some e=>if g>e.Gen then (0,6) else if g<e.Gen then (0,8) else if e.Live then (e.Ref,0) else (0,8)
theorem tget_eq {N:Nat} {t:TTable} (hl:t.Entries.length<=1000000) (hN:1000000<N) (i g:Int):Qcv N t i g=some (tabGet t.Entries i g):=by
 rw[Qcv,tval_eq hl hN,bnd_eq,tabGet]
 cases hv:tabV t.Entries
 ·rfl
 ·simp only[Bool.not_true,cond_false,Bool.cond_decide,Bool.true_eq_false,if_false]
  by_cases h0:i<0
  ·rw[if_pos h0,if_pos (.inl h0)]
  ·rw[if_neg h0]
   by_cases h1:i>=((t.Entries.length:Nat):Int)
   ·rw[if_pos h1,if_pos (.inr (.inl h1))]
   ·rw[if_neg h1]
    by_cases h2:g<1
    ·rw[if_pos h2,if_pos (.inr (.inr h2))]
    ·have hlt:i.toNat<t.Entries.length:=by omega
     rw[if_neg h2,if_neg (by omega),getI_of (by omega) (by omega),bnd_eq,List.getElem?_eq_getElem hlt]
     simp only[bnd_eq]
     by_cases h3:g>t.Entries[i.toNat].Gen
     ·rw[if_pos h3,if_pos h3]
     ·rw[if_neg h3,if_neg h3]
      by_cases h4:g<t.Entries[i.toNat].Gen
      ·rw[if_pos h4,if_pos h4]
      ·rw[if_neg h4,if_neg h4]
       cases t.Entries[i.toNat].Live<;>rfl
end Go.Sx
namespace Go.Sx
theorem foldAll_iff {α σ:Type} {q:σ->Nat->α->Bool} {nxp:σ->α->σ}:∀ (l:List α) (s:σ) (k:Nat),foldAll q nxp s k l=true↔∀ i p,l[i]? = some p->q ((l.take i).foldl nxp s) (k+i) p=true
 | [],s,k=>by simp[foldAll]
 | x::l,s,k=>by
  rw[foldAll,Bool.and_eq_true,foldAll_iff l (nxp s x) (k+1)]
  constructor
  ·rintro ⟨h1,h2⟩ i p hp
   cases i with
   | zero=>simp at hp;subst hp;exact h1
   | succ i =>
    have:=h2 i p (by simpa using hp)
    rw[List.take_succ_cons,List.foldl_cons,show k+(i+1)=k+1+i by omega]
    exact this
  ·intro h
   refine ⟨h 0 x rfl,fun i p hp=>?_⟩
   have:=h (i+1) p (by simpa using hp)
   rw[List.take_succ_cons,List.foldl_cons,show k+(i+1)=k+1+i by omega] at this
   exact this
def issB (l:List Int):Bool:=l.all fun p=>!decide (p<0)&&!decide (p>4095)
def stQ (iss:List Int) (s:Int) (i:Nat) (p:TSlot):Bool:=!decide (p.Stamp<=s)&&(!decide (p.Stamp>((iss.length:Nat):Int))&&(!((iss.getD (p.Stamp-1).toNat 0) != (i:Int))&&(p.Live==(p.Ref != 0))))
def stB (iss:List Int) (l:List TSlot):Bool:=foldAll (stQ iss) (fun _ p=>p.Stamp) 0 0 l
def neQ (n:Nat) (s:Int) (i:Nat) (p:TScope):Bool:=(!((i:Int)==0)||(!(p.From != 0)&&p.Base))&&(!decide (p.From<s)&&(!decide (p.From>((n:Nat):Int))&&(!decide (p.Cap<0)&&!decide (p.Cap>64))))
def neB (n:Nat) (l:List TScope):Bool:=foldAll (neQ n) (fun _ p=>p.From) 0 0 l
def liveN (l:List TSlot) (f t:Nat):Nat:=((l.drop f).take (t-f)).countP (·.Live)
def toL (a:TLocals) (i:Nat):Int:=match a.Scopes[i+1]? with | some p=>p.From | none=>a.Slots.length
def capQ (a:TLocals) (_:Unit) (i:Nat) (p:TScope):Bool:=!decide (((liveN a.Slots p.From.toNat (toL a i).toNat:Nat):Int)>p.Cap)
def capB (a:TLocals):Bool:=foldAll (capQ a) (fun s _=>s) () 0 a.Scopes
def locV (a:TLocals):Bool:=!decide (((a.Issued.length:Nat):Int)>4096)&&(!decide (((a.Scopes.length:Nat):Int)>64)&&((!(((a.Scopes.length:Nat):Int)==0)||!decide (((a.Slots.length:Nat):Int)>0))&&(issB a.Issued&&(stB a.Issued a.Slots&&(neB a.Slots.length a.Scopes&&capB a)))))
def LBp (a:TLocals):Prop:=a.Slots.length<=1000000∧a.Scopes.length<=1000000∧a.Issued.length<=1000000
theorem neB_from {n:Nat} {l:List TScope} (h:neB n l=true) {i:Nat} {p:TScope} (hp:l[i]? = some p):0<=p.From∧p.From<=n∧0<=p.Cap∧p.Cap<=64∧(i=0->p.From=0∧p.Base=true)∧∀ p',l[i+1]? = some p'->p.From<=p'.From:=by
 have hi:=(foldAll_iff l (0:Int) 0).1 h
 have inv:∀ (k:Nat) (p:TScope),l[k]? = some p->0<=p.From:=by
  intro k
  induction k with
  | zero =>
   intro p hp
   have:=hi 0 p hp
   unfold neQ at this
   simp at this
   omega
  | succ k ih =>
   intro p hp
   have hk:k<l.length:=by have:=lt_of_some hp;omega
   have e:=List.getElem?_eq_getElem hk
   have h1:=ih _ e
   have h2:=hi (k+1) p hp
   rw[List.take_add_one,e] at h2
   simp only[List.foldl_append,Option.toList,List.foldl_cons,List.foldl_nil] at h2
   unfold neQ at h2
   simp only[Bool.and_eq_true,Bool.not_eq_true',decide_eq_false_iff_not] at h2
   have:=h2.2.1
   omega
 have h0:=hi i p hp
 unfold neQ at h0
 simp only[Bool.and_eq_true,Bool.not_eq_true',decide_eq_false_iff_not,Bool.or_eq_true,Nat.zero_add,bne_eq_false_iff_eq] at h0
 refine ⟨inv i p hp,by omega,by omega,by omega,fun hz=>?_,fun p' hp'=>?_⟩
 ·subst hz
  rcases h0.1 with h | h
  ·cases h
  ·exact h
 ·have h2:=hi (i+1) p' hp'
  rw[List.take_add_one,hp] at h2
  simp only[List.foldl_append,Option.toList,List.foldl_cons,List.foldl_nil] at h2
  unfold neQ at h2
  simp only[Bool.and_eq_true,Bool.not_eq_true',decide_eq_false_iff_not] at h2
  have:=h2.2.1
  omega
theorem stB_stamp {iss:List Int} {l:List TSlot} (h:stB iss l=true) {i:Nat} {p:TSlot} (hp:l[i]? = some p):(i:Int)+1<=p.Stamp∧p.Stamp<=iss.length∧iss.getD (p.Stamp-1).toNat 0=i∧(p.Live=true↔p.Ref≠0):=by
 have hi:=(foldAll_iff l (0:Int) 0).1 h
 have inv:∀ (k:Nat) (p:TSlot),l[k]? = some p->(k:Int)+1<=p.Stamp:=by
  intro k
  induction k with
  | zero =>
   intro p hp
   have:=hi 0 p hp
   unfold stQ at this
   simp only[Bool.and_eq_true,Bool.not_eq_true',decide_eq_false_iff_not,List.take_zero,List.foldl_nil] at this
   have:=of_decide_eq_false this.1
   omega
  | succ k ih =>
   intro p hp
   have hk:k<l.length:=by have:=lt_of_some hp;omega
   have e:=List.getElem?_eq_getElem hk
   have h1:=ih _ e
   have h2:=hi (k+1) p hp
   rw[List.take_add_one,e] at h2
   simp only[List.foldl_append,Option.toList,List.foldl_cons,List.foldl_nil] at h2
   unfold stQ at h2
   simp only[Bool.and_eq_true,Bool.not_eq_true',decide_eq_false_iff_not] at h2
   have:=h2.1
   omega
 have h0:=hi i p hp
 unfold stQ at h0
 simp only[Bool.and_eq_true,Bool.not_eq_true',decide_eq_false_iff_not,Nat.zero_add,bne_eq_false_iff_eq,beq_iff_eq] at h0
 refine ⟨inv i p hp,by omega,h0.2.2.1,?_⟩
 rw[h0.2.2.2]
 simp
structure LocF (a:TLocals):Prop where
 iss:a.Issued.length<=4096
 sc:a.Scopes.length<=64
 none:a.Scopes.length=0->a.Slots.length=0
 issr:∀ x∈a.Issued,0<=x∧x<=4095
 st:stB a.Issued a.Slots=true
 ne:neB a.Slots.length a.Scopes=true
 cap:capB a=true
theorem locV_iff {a:TLocals}:locV a=true↔LocF a:=by
 unfold locV issB
 simp only[Bool.and_eq_true,Bool.not_eq_true',decide_eq_false_iff_not,Bool.or_eq_true,List.all_eq_true,beq_eq_false_iff_ne]
 constructor
 ·rintro ⟨h1,h2,h3,h4,h5,h6,h7⟩
  exact ⟨by omega,by omega,fun e=>by omega,fun x hx=>by have:=h4 x hx;omega,h5,h6,h7⟩
 ·intro h
  exact ⟨by have:=h.iss;omega,by have:=h.sc;omega,by have:=h.none;omega,fun x hx=>by have:=h.issr x hx;omega,h.st,h.ne,h.cap⟩
theorem LocF.slots {a:TLocals} (h:LocF a):a.Slots.length<=a.Issued.length:=by
 by_cases hz:a.Slots.length=0
 ·omega
 ·have e:=List.getElem?_eq_getElem (show a.Slots.length-1<a.Slots.length by omega)
  have:=stB_stamp h.st e
  omega
theorem live_l1 {N:Nat} {a:TLocals} (hl:a.Slots.length<=1000000) (t:Nat) (ht:t<=a.Slots.length):∀ (n f c:Nat),t-f<n->c<=f->f<=1000000->Qb7 N a (t:Int) n (c:Int) (f:Int)=some (((c+liveN a.Slots f t:Nat):Int))
 | 0,f,c,hn,_,_=>by omega
 | n+1,f,c,hn,hc,hf=>by
  rw[Qb7]
  by_cases h:f<t
  ·have hlt:f<a.Slots.length:=by omega
   rw[show decide ((f:Int)<(t:Int))=true from decide_eq_true (by omega),cond_true,getI_nat,List.getElem?_eq_getElem hlt,bnd_eq,wI_succ (by omega),wI_succ (by omega)]
   have e:liveN a.Slots f t=(if a.Slots[f].Live then 1 else 0)+liveN a.Slots (f+1) t:=by
    unfold liveN
    rw[List.drop_eq_getElem_cons hlt,show t-f=(t-(f+1))+1 by omega,List.take_succ_cons,List.countP_cons]
    omega
   cases hL:a.Slots[f].Live
   ·rw[cond_false,live_l1 hl t ht n (f+1) c (by omega) (by omega) (by omega),e,hL]
    simp
   ·rw[cond_true,live_l1 hl t ht n (f+1) (c+1) (by omega) (by omega) (by omega),e,hL]
    simp;omega
  ·rw[show decide ((f:Int)<(t:Int))=false from decide_eq_false (by omega),cond_false]
   unfold liveN
   rw[show t-f=0 by omega]
   simp
theorem live_eq {N:Nat} {a:TLocals} (hl:a.Slots.length<=1000000) (hN:1000000<N) {f t:Int} (f0:0<=f) (f1:f<=1000000) (t0:0<=t) (t1:t<=a.Slots.length):QeQ N a f t=some ((liveN a.Slots f.toNat t.toNat:Nat):Int):=by
 obtain ⟨f,rfl⟩:=Int.eq_ofNat_of_zero_le f0
 obtain ⟨t,rfl⟩:=Int.eq_ofNat_of_zero_le t0
 rw[QeQ]
 have:=live_l1 (N:=N) hl t (by omega) N f 0 (by omega) (by omega) (by omega)
 rw[show ((0:Nat):Int)=0 from rfl] at this
 show bnd (Qb7 N a (t:Int) N 0 (f:Int)) _=_
 rw[this,bnd_eq]
 simp
theorem to_eq {N:Nat} {a:TLocals} {i:Nat} (hi:i<=1000000):QfX N a (i:Int)=some (toL a i):=by
 rw[QfX,wI_succ (by omega),toL]
 by_cases h:i+1<a.Scopes.length
 ·rw[dlt_true h,cond_true,getI_nat,List.getElem?_eq_getElem h,bnd_eq]
 ·rw[show decide (((i+1:Nat):Int)<((a.Scopes.length:Nat):Int))=false from decide_eq_false (by omega),cond_false,List.getElem?_eq_none (by omega)]
theorem toL_r {a:TLocals} (h:neB a.Slots.length a.Scopes=true) (i:Nat):0<=toL a i∧toL a i<=a.Slots.length:=by
 unfold toL
 cases e:a.Scopes[i+1]? with
 | none=>simp
 | some p=>have:=neB_from h e;simp only;omega
theorem lval_eq {N:Nat} {a:TLocals} (hl:LBp a) (hN:1000000<N):Qbn N a=some (locV a):=by
 obtain ⟨hl1,hl2,hl3⟩:=hl
 have h1:=allLoop (l:=a.Issued) (F:=Qch N a) (q:=fun _ p=>!decide (p<0)&&!decide (p>4095)) (fun n k p e=>by
  have hk:=lt_of_some e
  rw[Qch,dlt_true hk,cond_true,getI_nat,e,bnd_eq,bnd_eq,wI_succ (by omega)]
  cases decide (p<0)<;>cases decide (p>4095)<;>rfl) (fun n=>by rw[Qch,dlt_false,cond_false]) (n:=N) (by omega)
 have h2:=foldLoop (l:=a.Slots) (F:=fun n s i=>Qag N a n s i) (q:=stQ a.Issued) (nxp:=fun _ p=>p.Stamp) (I:=fun s=>0<=s) (fun n s k p hs e=>by
  have hk:=lt_of_some e
  show Qag N a (n+1) s (k:Int)=_
  rw[Qag,dlt_true hk,cond_true,getI_nat,e,bnd_eq,wI_succ (by omega)]
  unfold stQ
  cases g1:decide (p.Stamp<=s)
  ·cases g2:decide (p.Stamp>((a.Issued.length:Nat):Int))
   ·have g1:=of_decide_eq_false g1
    have g2:=of_decide_eq_false g2
    rw[cond_false,cond_false,wI_id (by omega) (by omega),getI_of (by omega) (by omega),bnd_eq]
    have ge:a.Issued[(p.Stamp-1).toNat]'(by omega)=a.Issued.getD (p.Stamp-1).toNat 0:=by
     rw[List.getD_eq_getElem?_getD,List.getElem?_eq_getElem (by omega)];rfl
    rw[ge]
    cases (a.Issued.getD (p.Stamp-1).toNat 0 != (k:Int))<;>cases (p.Live==(p.Ref != 0))<;>rfl
   ·rfl
  ·rfl) (fun n s=>by show Qag N a (n+1) s _=_;rw[Qag,dlt_false,cond_false]) (fun s k p hs e hq=>by
   unfold stQ at hq
   simp only[Bool.and_eq_true,Bool.not_eq_true',decide_eq_false_iff_not] at hq
   have:=hq.1
   omega) N 0 0 (by omega) (by omega) (by omega)
 have h3:=foldLoop (l:=a.Scopes) (F:=fun n s i=>Qae N a n s i) (q:=neQ a.Slots.length) (nxp:=fun _ p=>p.From) (I:=fun _=>True) (fun n s k p hs e=>by
  have hk:=lt_of_some e
  show Qae N a (n+1) s (k:Int)=_
  rw[Qae,dlt_true hk,cond_true,getI_nat,e,bnd_eq,wI_succ (by omega)]
  unfold neQ
  cases ((k:Int)==0)<;>cases (p.From != 0)<;>cases p.Base<;>cases decide (p.From<s)<;>cases decide (p.From>((a.Slots.length:Nat):Int))<;>cases decide (p.Cap<0)<;>cases decide (p.Cap>64)<;>rfl) (fun n s=>by show Qae N a (n+1) s _=_;rw[Qae,dlt_false,cond_false]) (fun _ _ _ _ _ _=>trivial) N 0 0 trivial (by omega) (by omega)
 rw[List.drop_zero] at h2 h3
 rw[foldAll_all] at h1
 rw[Qbn,jn_eq,h1,bnd_eq]
 have e2:Qag N a N 0 0=some (bif stB a.Issued a.Slots then .nxt () else .ret false):=h2
 have e3:Qae N a N 0 0=some (bif neB a.Slots.length a.Scopes then .nxt () else .ret false):=h3
 unfold locV issB
 have main:(exK (bif (a.Issued.all fun p=>!decide (p<0)&&!decide (p>4095)) then Ex.nxt () else Ex.ret false) (fun r=>some r) fun y4 =>
  bnd (Qag N a N 0 0) fun e=>exK e (fun r=>some r) fun y9 =>
  bnd (Qae N a N 0 0) fun e=>exK e (fun r=>some r) fun y13 =>
  bnd (QbL N a N 0) fun e=>exK e (fun r=>some r) fun y19=>some true)=some ((a.Issued.all fun p=>!decide (p<0)&&!decide (p>4095))&&(stB a.Issued a.Slots&&(neB a.Slots.length a.Scopes&&capB a))):=by
  cases (a.Issued.all fun p=>!decide (p<0)&&!decide (p>4095))
  ·rw[cond_false,exK_ret];rfl
  rw[cond_true,exK_nxt,Bool.true_and,e2,bnd_eq]
  cases stB a.Issued a.Slots
  ·rw[cond_false,exK_ret];rfl
  rw[cond_true,exK_nxt,Bool.true_and,e3,bnd_eq]
  cases hne:neB a.Slots.length a.Scopes
  ·rw[cond_false,exK_ret];rfl
  rw[cond_true,exK_nxt,Bool.true_and]
  have h4:=allLoop (l:=a.Scopes) (F:=QbL N a) (q:=capQ a ()) (fun n k p e=>by
   have hk:=lt_of_some e
   have hf:=neB_from hne e
   have ht:=toL_r hne k
   rw[QbL,dlt_true hk,cond_true,getI_nat,e,bnd_eq,to_eq (by omega),bnd_eq,live_eq hl1 hN hf.1 (by omega) ht.1 ht.2,bnd_eq,bnd_eq,wI_succ (by omega)]
   unfold capQ
   cases decide (((liveN a.Slots p.From.toNat (toL a k).toNat:Nat):Int)>p.Cap)<;>rfl) (fun n=>by rw[QbL,dlt_false,cond_false]) (n:=N) (by omega)
  rw[h4,bnd_eq]
  show exK (bif capB a then Ex.nxt () else Ex.ret false) _ _=_
  cases capB a
  ·rw[cond_false,exK_ret]
  ·rw[cond_true,exK_nxt]
 rw[main]
 cases decide (((a.Issued.length:Nat):Int)>4096)<;>cases decide (((a.Scopes.length:Nat):Int)>64)<;>cases (((a.Scopes.length:Nat):Int)==0)<;>cases decide (((a.Slots.length:Nat):Int)>0)<;>rfl
end Go.Sx
namespace Go.Sx
def zL:TLocals:=⟨[],[],[]⟩
def liveS (l:List TSlot):List Int:=(l.filter (·.Live)).map (·.Ref)
theorem liveS_len (l:List TSlot):(liveS l).length<=l.length:=by unfold liveS;rw[List.length_map];exact List.length_filter_le _ _
section
variable {N:Nat} {a:TLocals}
theorem lrefs_l1 (hl:LBp a) (hN:1000000<N) (hv:locV a=true):∀ (n k:Nat) (v:List Int),k<=a.Slots.length->a.Slots.length-k<n->v.length<=k ->
 QaW N a n (k:Int) v=some (v++liveS (a.Slots.drop k))
 | 0,k,v,_,hn,_=>by omega
 | n+1,k,v,hk,hn,hlv=>by
  have hl1:=hl.1
  rw[QaW]
  by_cases h:k<a.Slots.length
  ·rw[dlt_true h,cond_true,lval_eq hl hN,bnd_eq,hv,cond_true,getI_nat,List.getElem?_eq_getElem h,bnd_eq,bnd_eq,wI_succ (by omega),List.drop_eq_getElem_cons h,liveS]
   cases hL:a.Slots[k].Live
   ·rw[cond_false,lrefs_l1 hl hN hv n (k+1) v (by omega) (by omega) (by omega),List.filter_cons_of_neg (by rw[hL];simp)]
    rfl
   ·rw[cond_true,grd_eq (by omega),lrefs_l1 hl hN hv n (k+1) _ (by omega) (by omega) (by rw[List.length_append];simp;omega),List.filter_cons_of_pos (by rw[hL])]
    simp[liveS]
  ·obtain rfl:k=a.Slots.length:=by omega
   rw[dlt_false,cond_false,List.drop_eq_nil_of_le (Nat.le_refl _)]
   simp[liveS]
theorem lrefs_eq (hl:LBp a) (hN:1000000<N):QbC N a=some (bif locV a then liveS a.Slots else []):=by
 rw[QbC]
 cases hv:locV a
 ·obtain ⟨m,rfl⟩:∃ m,N=m+1:=⟨N-1,by omega⟩
  rw[QaW,lval_eq hl hN,hv]
  by_cases h:0<a.Slots.length
  ·rw[show decide ((0:Int)<((a.Slots.length:Nat):Int))=true from decide_eq_true (by omega),cond_true,bnd_eq,cond_false,bnd_eq];rfl
  ·rw[show decide ((0:Int)<((a.Slots.length:Nat):Int))=false from decide_eq_false (by omega),cond_false,bnd_eq];rfl
 ·have h:=lrefs_l1 hl hN hv N 0 [] (by omega) (by have:=hl.1;omega) (by simp)
  rw[show ((0:Nat):Int)=0 from rfl,List.drop_zero,List.nil_append] at h
  rw[h,bnd_eq];rfl
def topS (a:TLocals):TScope:=a.Scopes.getD (a.Scopes.length-1) ⟨0,0,false⟩
theorem topS_get (h:a.Scopes.length≠0) (hl:a.Scopes.length<=1000000):getI a.Scopes (wI (((a.Scopes.length:Nat):Int)-1))=some (topS a):=by
 rw[wI_id (by omega) (by omega),show ((a.Scopes.length:Nat):Int)-1=((a.Scopes.length-1:Nat):Int) by omega,getI_nat,topS,List.getD_eq_getElem?_getD,List.getElem?_eq_getElem (by omega)]
 rfl
def locNew (a:TLocals) (id:Int):TLocals×Int×Int×Int :=
 if locV a=false then (zL,0,0,1) else if id=0 then (zL,0,0,1) else if a.Scopes.length=0 then (zL,0,0,9)
 else if (topS a).Cap<=((liveN a.Slots (topS a).From.toNat a.Slots.length:Nat):Int) then (zL,0,0,10)
 else if a.Issued.length=4096 then (zL,0,0,18)
 else (⟨a.Slots++[⟨(a.Issued.length:Int)+1,id,true⟩],a.Scopes,a.Issued++[(a.Slots.length:Int)]⟩,(a.Slots.length:Int),(a.Issued.length:Int)+1,0)
theorem top_from (hv:locV a=true) (h:a.Scopes.length≠0):0<=(topS a).From∧(topS a).From<=a.Slots.length:=by
 have hf:=locV_iff.1 hv
 have e:=List.getElem?_eq_getElem (show a.Scopes.length-1<a.Scopes.length by omega)
 have:=neB_from hf.ne e
 have e2:topS a=a.Scopes[a.Scopes.length-1]:=by unfold topS;rw[List.getD_eq_getElem?_getD,e];rfl
 rw[e2];omega
theorem lnew_eq (hl:LBp a) (hN:1000000<N) (id:Int):Qc2 N a id=some (locNew a id):=by
 obtain ⟨hl1,hl2,hl3⟩:=hl
 rw[Qc2,lval_eq ⟨hl1,hl2,hl3⟩ hN,bnd_eq,locNew]
 cases hv:locV a
 ·rfl
 rw[Bool.not_true,cond_false,if_neg (by simp)]
 by_cases h1:id=0
 ·subst h1;rfl
 rw[if_neg h1,show (id==0)=false by simpa using h1,cond_false]
 by_cases h2:a.Scopes.length=0
 ·rw[if_pos h2,h2];rfl
 rw[if_neg h2,show (((a.Scopes.length:Nat):Int)==0)=false by simpa using h2,cond_false,topS_get h2 hl2,bnd_eq]
 have ht:=top_from hv h2
 rw[live_eq hl1 hN ht.1 (by omega) (by omega) (by omega),bnd_eq,bnd_eq,Int.toNat_natCast]
 by_cases h3:(topS a).Cap<=((liveN a.Slots (topS a).From.toNat a.Slots.length:Nat):Int)
 ·rw[if_pos h3,decide_eq_true (show ((liveN a.Slots (topS a).From.toNat a.Slots.length:Nat):Int)>=_ from h3),cond_true];rfl
 rw[if_neg h3,decide_eq_false (show ¬ ((liveN a.Slots (topS a).From.toNat a.Slots.length:Nat):Int)>=_ from h3),cond_false]
 by_cases h4:a.Issued.length=4096
 ·rw[if_pos h4,h4];rfl
 rw[if_neg h4,show (((a.Issued.length:Nat):Int)==4096)=false by simp;omega,cond_false,grd_eq (by omega),grd_eq (by omega),grd_eq (by omega),grd_eq (by omega),wI_id (by omega) (by omega)]
theorem LB_zL:LBp zL:=⟨by simp[zL],by simp[zL],by simp[zL]⟩
theorem lnew_LB (hl:LBp a) (id:Int):LBp (locNew a id).1:=by
 obtain ⟨hl1,hl2,hl3⟩:=hl
 unfold locNew
 cases hv:locV a
 ·exact LB_zL
 have hf:=locV_iff.1 hv
 have hs:=hf.slots
 have hi:=hf.iss
 split
 ·exact LB_zL
 split
 ·exact LB_zL
 split
 ·exact LB_zL
 split
 ·exact LB_zL
 split
 ·exact LB_zL
 refine ⟨?_,hl2,?_⟩
 ·show (a.Slots++[_]).length<=_
  rw[List.length_append];simp;omega
 ·show (a.Issued++[_]).length<=_
  rw[List.length_append];simp;omega
def locGet (a:TLocals) (i g:Int):Int×Int :=
 if locV a=false then (0,1) else if g<1∨(a.Issued.length:Int)<g then (0,6) else
 if a.Issued.getD (g-1).toNat 0≠i then (0,6) else if (a.Slots.length:Int)<=i then (0,7) else
 match a.Slots[i.toNat]? with
 | none=>(0,7)
 | some p=>if p.Stamp≠g then (0,7) else if p.Live then (p.Ref,0) else (0,8)
theorem lget_eq (hl:LBp a) (hN:1000000<N) (i g:Int):QdF N a i g=some (locGet a i g):=by
 have hl':=hl
 obtain ⟨hl1,hl2,hl3⟩:=hl
 rw[QdF,lval_eq hl' hN,bnd_eq,locGet]
 cases hv:locV a
 ·rfl
 have hf:=locV_iff.1 hv
 rw[Bool.not_true,cond_false,if_neg (by simp)]
 by_cases h1:g<1
 ·rw[decide_eq_true h1,cond_true,if_pos (.inl h1)]
 rw[decide_eq_false h1,cond_false]
 by_cases h2:g>((a.Issued.length:Nat):Int)
 ·rw[decide_eq_true h2,cond_true,if_pos (.inr h2)]
 have hlt:(g-1).toNat<a.Issued.length:=by omega
 rw[decide_eq_false h2,cond_false,if_neg (by omega),wI_id (by omega) (by omega),getI_of (by omega) (by omega),bnd_eq]
 have ge:a.Issued[(g-1).toNat]=a.Issued.getD (g-1).toNat 0:=by rw[List.getD_eq_getElem?_getD,List.getElem?_eq_getElem hlt];rfl
 have hm:=hf.issr _ (List.getElem_mem hlt)
 rw[ge] at hm ⊢
 by_cases h3:a.Issued.getD (g-1).toNat 0=i
 ·rw[h3] at hm ⊢
  rw[show (i != i)=false by simp,cond_false,if_neg (by simp)]
  by_cases h4:i>=((a.Slots.length:Nat):Int)
  ·rw[decide_eq_true h4,cond_true,if_pos h4]
  ·have hlt2:i.toNat<a.Slots.length:=by omega
   rw[decide_eq_false h4,cond_false,if_neg (by omega),getI_of (by omega) (by omega),bnd_eq,List.getElem?_eq_getElem hlt2]
   simp only[bnd_eq]
   by_cases h5:a.Slots[i.toNat].Stamp=g
   ·rw[h5,show (g != g)=false by simp,cond_false,if_neg (by simp)]
    cases a.Slots[i.toNat].Live<;>rfl
   ·rw[show (a.Slots[i.toNat].Stamp != g)=true by simpa using h5,cond_true,if_pos h5]
 ·rw[show (a.Issued.getD (g-1).toNat 0 != i)=true by simpa using h3,cond_true,if_pos h3]
theorem locGet_ok {i g:Int} (h:(locGet a i g).2=0):locV a=true∧0<=i∧∃ p,a.Slots[i.toNat]? = some p∧p.Stamp=g∧p.Live=true∧(locGet a i g).1=p.Ref:=by
 unfold locGet at h ⊢
 cases hv:locV a
 ·rw[hv] at h;cases h
 have hf:=locV_iff.1 hv
 rw[hv] at h
 rw[if_neg (by simp)] at h ⊢
 by_cases h1:g<1∨(a.Issued.length:Int)<g
 ·rw[if_pos h1] at h;cases h
 rw[if_neg h1] at h ⊢
 have hlt:(g-1).toNat<a.Issued.length:=by omega
 have ge:a.Issued[(g-1).toNat]=a.Issued.getD (g-1).toNat 0:=by rw[List.getD_eq_getElem?_getD,List.getElem?_eq_getElem hlt];rfl
 have hm:=hf.issr _ (List.getElem_mem hlt)
 rw[ge] at hm
 by_cases h2:a.Issued.getD (g-1).toNat 0≠i
 ·rw[if_pos h2] at h;cases h
 rw[if_neg h2] at h ⊢
 by_cases h3:(a.Slots.length:Int)<=i
 ·rw[if_pos h3] at h;cases h
 rw[if_neg h3] at h ⊢
 have hi:0<=i:=by have:a.Issued.getD (g-1).toNat 0=i:=Classical.not_not.1 h2;omega
 have e:=List.getElem?_eq_getElem (show i.toNat<a.Slots.length by omega)
 rw[e] at h ⊢
 simp only at h ⊢
 by_cases h4:a.Slots[i.toNat].Stamp≠g
 ·rw[if_pos h4] at h;cases h
 rw[if_neg h4] at h ⊢
 cases hL:a.Slots[i.toNat].Live
 ·rw[hL] at h;cases h
 ·exact ⟨trivial,hi,_,rfl,Classical.not_not.1 h4,hL,rfl⟩
def locDel (a:TLocals) (i g:Int):TLocals×Int :=
 if (locGet a i g).2≠0 then (zL,(locGet a i g).2) else (⟨a.Slots.set i.toNat ⟨g,0,false⟩,a.Scopes,a.Issued⟩,0)
theorem ldel_eq (hl:LBp a) (hN:1000000<N) (i g:Int):Qcw N a i g=some (locDel a i g):=by
 rw[Qcw,lget_eq hl hN,bnd_eq,locDel]
 by_cases h:(locGet a i g).2=0
 ·obtain ⟨_,h0,p,hp,_⟩:=locGet_ok h
  have:=lt_of_some hp
  have hl1:=hl.1
  rw[h,show ((0:Int) != 0)=false from rfl,cond_false,if_neg (by simp),grd_eq (by omega),getI_of h0 (by omega),bnd_eq]
 ·rw[show ((locGet a i g).2 != 0)=true by simpa using h,cond_true,if_pos h];rfl
theorem ldel_LB (hl:LBp a) (i g:Int):LBp (locDel a i g).1:=by
 unfold locDel
 split
 ·exact LB_zL
 ·exact ⟨by show (a.Slots.set _ _).length<=_;rw[List.length_set];exact hl.1,hl.2⟩
def locPush (a:TLocals) (c:Int):TLocals×Int :=
 if locV a=false∨c<0∨64<c then (zL,1) else if a.Scopes.length=0 then (zL,9) else if a.Scopes.length=64 then (zL,17) else (⟨a.Slots,a.Scopes++[⟨(a.Slots.length:Int),c,false⟩],a.Issued⟩,0)
theorem lpush_eq (hl:LBp a) (hN:1000000<N) (c:Int):QcX N a c=some (locPush a c):=by
 have hl2:=hl.2.1
 rw[QcX,QeR,lval_eq hl hN,bnd_eq,locPush]
 cases hv:locV a
 ·rw[Bool.not_false,cond_true,bnd_eq,if_pos (.inl rfl)];rfl
 rw[Bool.not_true,cond_false]
 by_cases h1:c<0
 ·rw[decide_eq_true h1,cond_true,bnd_eq,if_pos (.inr (.inl h1))];rfl
 by_cases h2:c>64
 ·rw[decide_eq_false h1,cond_false,decide_eq_true h2,cond_true,bnd_eq,if_pos (.inr (.inr h2))];rfl
 rw[decide_eq_false h1,cond_false,decide_eq_false h2,cond_false,jn_eq,Bool.not_false,cond_true,if_neg (by rintro (h | h | h);cases h;exact h1 h;exact h2 h)]
 by_cases h3:a.Scopes.length=0
 ·rw[if_pos h3,h3];rw[show (((0:Nat):Int)==0)=true from rfl,cond_true,bnd_eq];rfl
 rw[if_neg h3,show (((a.Scopes.length:Nat):Int)==0)=false by simpa using h3,cond_false]
 by_cases h4:a.Scopes.length=64
 ·rw[if_pos h4,h4];rw[show (((64:Nat):Int)==64)=true from rfl,cond_true,bnd_eq];rfl
 rw[if_neg h4,show (((a.Scopes.length:Nat):Int)==64)=false by simp;omega,cond_false,grd_eq (by omega),grd_eq (by omega),bnd_eq]
theorem lpush_LB (hl:LBp a) (c:Int):LBp (locPush a c).1:=by
 unfold locPush
 cases hv:locV a
 ·exact LB_zL
 have:=(locV_iff.1 hv).sc
 split
 ·exact LB_zL
 split
 ·exact LB_zL
 split
 ·exact LB_zL
 ·exact ⟨hl.1,by show (a.Scopes++[_]).length<=_;rw[List.length_append];simp;omega,hl.2.2⟩
def locPop (a:TLocals):TLocals×Int :=
 if locV a=false then (zL,1) else if a.Scopes.length=0 then (zL,9) else if (topS a).Base then (zL,9) else (⟨a.Slots.take (topS a).From.toNat,a.Scopes.take (a.Scopes.length-1),a.Issued⟩,0)
theorem lpop_eq (hl:LBp a) (hN:1000000<N):QdG N a=some (locPop a):=by
 obtain ⟨hl1,hl2,hl3⟩:=hl
 rw[QdG,lval_eq ⟨hl1,hl2,hl3⟩ hN,bnd_eq,locPop]
 cases hv:locV a
 ·rfl
 rw[Bool.not_true,cond_false,if_neg (by simp)]
 by_cases h2:a.Scopes.length=0
 ·rw[if_pos h2,h2];rfl
 have ht:=top_from hv h2
 rw[if_neg h2,show (((a.Scopes.length:Nat):Int)==0)=false by simpa using h2,cond_false,topS_get h2 hl2,bnd_eq]
 cases hB:(topS a).Base
 ·rw[cond_false,Qfh,topS_get h2 hl2,bnd_eq,wI_id (by omega) (by omega),grd_eq (by omega),grd_eq (by omega),grd_eq (by omega),grd_eq (by omega),bnd_eq]
  rw[show (((a.Scopes.length:Nat):Int)-1).toNat=a.Scopes.length-1 by omega]
  rfl
 ·rw[cond_true];rfl
theorem lpop_LB (hl:LBp a):LBp (locPop a).1:=by
 unfold locPop
 split
 ·exact LB_zL
 split
 ·exact LB_zL
 split
 ·exact LB_zL
 ·obtain ⟨hl1,hl2,hl3⟩:=hl
  exact ⟨by show (a.Slots.take _).length<=_;rw[List.length_take];omega,by show (a.Scopes.take _).length<=_;rw[List.length_take];omega,hl3⟩
theorem lmove_l1 (rs:List Int) (hl:a.Slots.length<=1000000):∀ (n k:Nat) (c:Int) (v:List TSlot),k<=a.Slots.length->a.Slots.length-k<n->v.length=a.Slots.length->v.drop k=a.Slots.drop k->0<=c->c+(liveS (a.Slots.drop k)).length=rs.length->rs.length<=1000000 ->
 Ok (Qa8 N a rs n c (k:Int) v) fun e=>match e with | .ret r=>r=(zL,1) | .nxt v=>v.length=a.Slots.length
 | 0,k,c,v,_,hn,_,_,_,_,_=>by omega
 | n+1,k,c,v,hk,hn,hv,hd,hc,hr,hrl=>by
  rw[Qa8]
  refine Ok.grd (by omega) (Ok.bif (fun h=>?_) fun h=>Ok.some hv)
  have h:k<a.Slots.length:=by have:=of_decide_eq_true h;omega
  have hkv:(k:Int)<v.length:=by omega
  rw[wI_succ (by omega)]
  have hdv:=List.drop_eq_getElem_cons (show k<v.length by omega)
  have hda:=List.drop_eq_getElem_cons h
  rw[hd,hda] at hdv
  have e1:a.Slots[k]=v[k]:=(List.cons.inj hdv).1
  have e2:a.Slots.drop (k+1)=v.drop (k+1):=(List.cons.inj hdv).2
  refine Ok.get (by omega) hkv fun p hp=>?_
  have hpe:p=a.Slots[k]:=by
   rw[getI_nat,List.getElem?_eq_getElem (by omega),← e1] at hp
   exact (Option.some.inj hp).symm
  rw[hda] at hr
  refine Ok.bif (fun hL=>?_) fun hL=>?_
  ·have hL:a.Slots[k].Live=false:=by rw[← hpe];simpa using hL
   refine lmove_l1 rs hl n (k+1) c v (by omega) (by omega) hv e2.symm hc ?_ hrl
   rw[← hr];unfold liveS;rw[List.filter_cons_of_neg (by rw[hL];simp)]
  ·have hL:a.Slots[k].Live=true:=by rw[← hpe];simpa using hL
   have hr2:c+1+(liveS (a.Slots.drop (k+1))).length=rs.length:=by
    rw[← hr];unfold liveS;rw[List.filter_cons_of_pos (by rw[hL]),List.map_cons,List.length_cons];omega
   refine Ok.get hc (by omega) fun q _=>Ok.bif (fun _=>Ok.some rfl) fun _=>Ok.get hc (by omega) fun q _=>Ok.get (by omega) hkv fun p' _=>?_
   rw[wI_id (n:=c+1) (by omega) (by omega)]
   refine lmove_l1 rs hl n (k+1) (c+1) _ (by omega) (by omega) (by rw[List.length_set];exact hv) ?_ (by omega) hr2 hrl
   rw[List.drop_set_of_lt (by omega)]
   exact e2.symm
theorem lmove_ok (hl:LBp a) (hN:1000000<N) {rs:List Int} (hr:rs.length<=1000000):Ok (Qek N a rs) fun r=>LBp r.1:=by
 have hl':=hl
 obtain ⟨hl1,hl2,hl3⟩:=hl
 rw[Qek,lval_eq hl' hN,bnd_eq]
 refine Ok.bif (fun _=>Ok.some LB_zL) fun hv=>?_
 have hv:locV a=true:=by simpa using hv
 rw[lrefs_eq hl' hN,bnd_eq,hv,cond_true]
 refine Ok.bif (fun _=>Ok.some LB_zL) fun he=>Ok.grd (by omega) ?_
 have he:((rs.length:Nat):Int)=(((liveS a.Slots).length:Nat):Int):=by simpa using he
 refine Ok.exk (lmove_l1 rs hl1 N 0 0 a.Slots (by omega) (by omega) rfl rfl (by omega) (by rw[List.drop_zero];omega) hr) (fun r q=>Ok.some (by have q:r=(zL,1):=q;rw[q];exact LB_zL)) fun v q=>Ok.some ⟨?_,hl2,hl3⟩
 have q:v.length=a.Slots.length:=q
 show v.length<=_
 omega
end
end Go.Sx
namespace Go.Sx
def TB (t:TTable):Prop:=t.Entries.length<=1000000
def zT:TTable:=⟨[]⟩
theorem TB_zT:TB zT:=by simp[TB,zT]
section
variable {N:Nat} {t:TTable}
def freeE (l:List TEntry):Option Nat:=l.findIdx? fun e=>!e.Live&&decide (e.Gen<4294967295)
def tabNew (t:TTable) (id:Int):TTable×Int×Int×Int :=
 if tabV t.Entries=false then (zT,0,0,1) else
 match freeE t.Entries with
 | some k=>(⟨t.Entries.set k ⟨(t.Entries.getD k ⟨0,0,false⟩).Gen+1,id,true⟩⟩,(k:Int),(t.Entries.getD k ⟨0,0,false⟩).Gen+1,0)
 | none=>if t.Entries.length=64 then (zT,0,0,18) else (⟨t.Entries++[⟨1,id,true⟩]⟩,(t.Entries.length:Int),1,0)
theorem tnew_l1 (hl:TB t) (hv:tabV t.Entries=true) (id:Int):∀ (n k:Nat),k<=t.Entries.length->t.Entries.length-k<n->Qa6 N t id n (k:Int)=some (match (t.Entries.drop k).findIdx? (fun e=>!e.Live&&decide (e.Gen<4294967295)) with
 | some j=>.ret (⟨t.Entries.set (k+j) ⟨(t.Entries.getD (k+j) ⟨0,0,false⟩).Gen+1,id,true⟩⟩,((k+j:Nat):Int),(t.Entries.getD (k+j) ⟨0,0,false⟩).Gen+1,0)
 | none=>.nxt ())
 | 0,k,_,hn=>by omega
 | n+1,k,hk,hn=>by
  unfold TB at hl
  rw[Qa6,grd_eq (by omega)]
  by_cases h:k<t.Entries.length
  ·have e:=List.getElem?_eq_getElem h
   have gd:t.Entries.getD k ⟨0,0,false⟩=t.Entries[k]:=by rw[List.getD_eq_getElem?_getD,e];rfl
   have hg:=tabV_gen hv (List.getElem_mem h)
   rw[dlt_true h,cond_true,getI_nat,e]
   simp only[bnd_eq]
   rw[wI_succ (by omega),List.drop_eq_getElem_cons h,List.findIdx?_cons]
   have next:=tnew_l1 hl hv id n (k+1) (by omega) (by omega)
   have go:Qa6 N t id n ((k+1:Nat):Int)=some (match Option.map (fun i=>i+1) ((t.Entries.drop (k+1)).findIdx? (fun e=>!e.Live&&decide (e.Gen<4294967295))) with
    | some j=>.ret (⟨t.Entries.set (k+j) ⟨(t.Entries.getD (k+j) ⟨0,0,false⟩).Gen+1,id,true⟩⟩,((k+j:Nat):Int),(t.Entries.getD (k+j) ⟨0,0,false⟩).Gen+1,0)
    | none=>.nxt ()):=by
    rw[next]
    cases (t.Entries.drop (k+1)).findIdx? (fun e=>!e.Live&&decide (e.Gen<4294967295)) with
    | none=>rfl
    | some j=>simp only[Option.map_some];rw[show k+1+j=k+(j+1) by omega]
   cases hL:t.Entries[k].Live
   ·cases hG:decide (t.Entries[k].Gen<4294967295)
    ·rw[Bool.not_false,cond_true,cond_false,Bool.and_false,if_neg (by simp)]
     exact go
    ·have hG:=of_decide_eq_true hG
     rw[Bool.not_false,cond_true,cond_true,Bool.and_true,if_pos rfl]
     have hk2:(k:Int).toNat=k:=by omega
     rw[wI_id (by omega) (by omega),hk2,getI_nat,List.getElem?_set,if_pos rfl,if_pos h,bnd_eq]
     simp only[Nat.add_zero]
     rw[gd]
   ·rw[Bool.not_true,cond_false,Bool.false_and,if_neg (by simp)]
    exact go
  ·obtain rfl:k=t.Entries.length:=by omega
   rw[dlt_false,cond_false,List.drop_eq_nil_of_le (Nat.le_refl _)]
   rfl
theorem tnew_eq (hl:TB t) (hN:1000000<N) (id:Int):Qbx N t id=some (tabNew t id):=by
 have hl':=hl
 unfold TB at hl
 rw[Qbx,tval_eq hl hN,bnd_eq,tabNew]
 cases hv:tabV t.Entries
 ·rfl
 have h1:=tnew_l1 (N:=N) hl' hv id N 0 (by omega) (by omega)
 rw[show ((0:Nat):Int)=0 from rfl,List.drop_zero] at h1
 rw[Bool.not_true,cond_false,grd_eq (by omega),h1,bnd_eq,if_neg (by simp),freeE]
 cases t.Entries.findIdx? (fun e=>!e.Live&&decide (e.Gen<4294967295)) with
 | some j=>simp only[exK_ret,Nat.zero_add]
 | none =>
  simp only[exK_nxt]
  rw[grd_eq (by omega)]
  by_cases h:t.Entries.length=64
  ·rw[if_pos h,h];rfl
  ·rw[if_neg h,show (((t.Entries.length:Nat):Int)==64)=false by simp;omega,cond_false,grd_eq (by omega),grd_eq (by omega)]
theorem tnew_TB (hl:TB t) (id:Int):TB (tabNew t id).1:=by
 unfold tabNew
 cases hv:tabV t.Entries
 ·exact TB_zT
 have:=tabV_len hv
 rw[if_neg (by simp)]
 cases freeE t.Entries with
 | some k=>show (t.Entries.set _ _).length<=_;rw[List.length_set];exact hl
 | none =>
  simp only
  split
  ·exact TB_zT
  ·show (t.Entries++[_]).length<=_
   rw[List.length_append];simp;omega
theorem tabGet_ok {i g:Int} (h:(tabGet t.Entries i g).2=0):tabV t.Entries=true∧0<=i∧∃ p,t.Entries[i.toNat]? = some p∧p.Gen=g∧p.Live=true∧(tabGet t.Entries i g).1=p.Ref:=by
 unfold tabGet at h ⊢
 cases hv:tabV t.Entries
 ·rw[hv] at h;cases h
 rw[hv] at h
 rw[if_neg (by simp)] at h ⊢
 by_cases h1:i<0∨(t.Entries.length:Int)<=i∨g<1
 ·rw[if_pos h1] at h;cases h
 rw[if_neg h1] at h ⊢
 have e:=List.getElem?_eq_getElem (show i.toNat<t.Entries.length by omega)
 rw[e] at h ⊢
 simp only at h ⊢
 by_cases h4:g>t.Entries[i.toNat].Gen
 ·rw[if_pos h4] at h;cases h
 rw[if_neg h4] at h ⊢
 by_cases h5:g<t.Entries[i.toNat].Gen
 ·rw[if_pos h5] at h;cases h
 rw[if_neg h5] at h ⊢
 cases hL:t.Entries[i.toNat].Live
 ·rw[hL] at h;cases h
 ·exact ⟨trivial,by omega,_,rfl,by omega,hL,rfl⟩
def tabDel (t:TTable) (i g:Int):TTable×Int :=
 if (tabGet t.Entries i g).2≠0 then (zT,(tabGet t.Entries i g).2) else (⟨t.Entries.set i.toNat ⟨g,0,false⟩⟩,0)
theorem tdel_eq (hl:TB t) (hN:1000000<N) (i g:Int):QbA N t i g=some (tabDel t i g):=by
 have hl':=hl
 unfold TB at hl
 rw[QbA,tget_eq hl hN,bnd_eq,tabDel]
 by_cases h:(tabGet t.Entries i g).2=0
 ·obtain ⟨_,h0,p,hp,_⟩:=tabGet_ok h
  have:=lt_of_some hp
  rw[h,show ((0:Int) != 0)=false from rfl,cond_false,if_neg (by simp),Qfi,grd_eq (by omega),getI_of h0 (by omega),bnd_eq,bnd_eq]
 ·rw[show ((tabGet t.Entries i g).2 != 0)=true by simpa using h,cond_true,if_pos h];rfl
theorem tdel_TB (hl:TB t) (i g:Int):TB (tabDel t i g).1:=by
 unfold tabDel
 split
 ·exact TB_zT
 ·show (t.Entries.set _ _).length<=_;rw[List.length_set];exact hl
theorem tmove_l1 (rs:List Int) (hl:t.Entries.length<=1000000):∀ (n k:Nat) (c:Int) (v:List TEntry),k<=t.Entries.length->t.Entries.length-k<n->v.length=t.Entries.length->v.drop k=t.Entries.drop k->0<=c->c+(liveT (t.Entries.drop k)).length=rs.length->rs.length<=1000000 ->
 Ok (QaF N rs n c (k:Int) v) fun v=>v.length=t.Entries.length
 | 0,k,c,v,_,hn,_,_,_,_,_=>by omega
 | n+1,k,c,v,hk,hn,hv,hd,hc,hr,hrl=>by
  rw[QaF]
  refine Ok.grd (by omega) (Ok.bif (fun h=>?_) fun h=>Ok.some hv)
  have h:k<t.Entries.length:=by have:=of_decide_eq_true h;omega
  have hkv:(k:Int)<v.length:=by omega
  rw[wI_succ (by omega)]
  have hdv:=List.drop_eq_getElem_cons (show k<v.length by omega)
  have hda:=List.drop_eq_getElem_cons h
  rw[hd,hda] at hdv
  have e1:t.Entries[k]=v[k]:=(List.cons.inj hdv).1
  have e2:t.Entries.drop (k+1)=v.drop (k+1):=(List.cons.inj hdv).2
  refine Ok.get (by omega) hkv fun p hp=>?_
  have hpe:p=t.Entries[k]:=by
   rw[getI_nat,List.getElem?_eq_getElem (by omega),← e1] at hp
   exact (Option.some.inj hp).symm
  rw[hda] at hr
  refine Ok.bif (fun hL=>?_) fun hL=>?_
  ·have hL:t.Entries[k].Live=true:=by rw[← hpe];exact hL
   have hr2:c+1+(liveT (t.Entries.drop (k+1))).length=rs.length:=by
    rw[← hr];unfold liveT;rw[List.filter_cons_of_pos (by rw[hL]),List.map_cons,List.length_cons];omega
   refine Ok.get hc (by omega) fun q _=>Ok.get (by omega) hkv fun p' _=>?_
   rw[wI_id (n:=c+1) (by omega) (by omega)]
   refine tmove_l1 rs hl n (k+1) (c+1) _ (by omega) (by omega) (by rw[List.length_set];exact hv) ?_ (by omega) hr2 hrl
   rw[List.drop_set_of_lt (by omega)]
   exact e2.symm
  ·have hL:t.Entries[k].Live=false:=by rw[← hpe];exact hL
   refine tmove_l1 rs hl n (k+1) c v (by omega) (by omega) hv e2.symm hc ?_ hrl
   rw[← hr];unfold liveT;rw[List.filter_cons_of_neg (by rw[hL];simp)]
theorem tmove_len (hl:TB t) (hN:1000000<N) {rs:List Int} (hr:rs.length<=1000000):Ok (QbZ N t rs) fun r=>r.1.Entries.length<=t.Entries.length:=by
 have hl':=hl
 unfold TB at hl
 rw[QbZ,tval_eq hl hN,bnd_eq]
 refine Ok.bif (fun _=>Ok.some (by simp)) fun hv=>?_
 have hv:tabV t.Entries=true:=by simpa using hv
 have hll:=liveT_len t.Entries
 rw[trefs_eq hl hN,bnd_eq,hv,cond_true]
 refine Ok.grd (by omega) (Ok.bif (fun _=>Ok.some (by simp)) fun he=>Ok.grd (by omega) ?_)
 have he:((rs.length:Nat):Int)=(((liveT t.Entries).length:Nat):Int):=by simpa using he
 refine Ok.bnd (tmove_l1 rs hl N 0 0 t.Entries (by omega) (by omega) rfl rfl (by omega) (by rw[List.drop_zero];omega) hr) fun v _ q=>Ok.some ?_
 show v.length<=_
 omega
theorem tmove_ok (hl:TB t) (hN:1000000<N) {rs:List Int} (hr:rs.length<=1000000):Ok (QbZ N t rs) fun r=>TB r.1:=(tmove_len hl hN hr).mono fun r h=>Nat.le_trans h hl
theorem tnew_len {k:Nat} (hl:t.Entries.length<=1000+k) (id:Int):(tabNew t id).1.Entries.length<=1000+k:=by
 unfold tabNew
 cases hv:tabV t.Entries
 ·simp[zT]
 have:=tabV_len hv
 rw[if_neg (by simp)]
 cases freeE t.Entries with
 | some k=>show (t.Entries.set _ _).length<=_;rw[List.length_set];exact hl
 | none =>
  simp only
  split
  ·simp[zT]
  ·show (t.Entries++[_]).length<=_
   rw[List.length_append];simp;omega
theorem tdel_len {k:Nat} (hl:t.Entries.length<=1000+k) (i g:Int):(tabDel t i g).1.Entries.length<=1000+k:=by
 unfold tabDel
 split
 ·simp[zT]
 ·show (t.Entries.set _ _).length<=_;rw[List.length_set];exact hl
end
end Go.Sx
