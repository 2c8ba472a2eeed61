import Derived.Test.YtgdhlnfcogcicaaGreatDoorTC
set_option linter.all false
namespace Go.Sx
def Ok {α:Type} (o:Option α) (P:α->Prop):Prop:=∃ r,o=some r/\P r
section
variable {α β γ:Type} {P:β->Prop}
theorem Xa (x:α) (f:α->Option β):bnd (some x) f=f x:=by unfold bnd;rfl
theorem Xbs (f:α->Option β):bnd none f=none:=by unfold bnd;rfl
theorem Xi {p:Prop} [Decidable p] (h:p) (x:Option α):grd p x=x:=by unfold grd;rw[Wn h]
theorem XY {κ:Type} (k:κ) (f:κ->γ):jn k f=f k:=by unfold jn;rfl
theorem X8 (a:α) (f:α->γ) (k:β->γ):exK (.ret a) f k=f a:=by unfold exK;rfl
theorem XN (b:β) (f:α->γ) (k:β->γ):exK (.nxt b) f k=k b:=by unfold exK;rfl
theorem Xd (l:List α) (k:Nat):Xb l (k:Int)=l[k]?:=by unfold Xb;simp
theorem XM {l:List α} {i:Int} (h0:0<=i) (h1:i<l.length):Xb l i=some (l[i.toNat]'(by omega)):=by
 unfold Xb;rw[Wn h0];exact Wc _
theorem Vp {l:List α} {i:Int} {p:α}:Xb l i=some p↔0<=i/\l[i.toNat]? = some p:=by
 unfold Xb
 by_cases h0:0<=i
 ·rw[Wn h0];exact ⟨λ h=>⟨h0,h⟩,λ h=>h.2⟩
 ·rw[Wh h0];exact ⟨λ h=>(by cases h),λ h=>absurd h.1 h0⟩
theorem YN {l:List α} {i:Int} {p:α} (h:Xb l i=some p):p∈l:=WU (Vp.1 h).2
theorem Xcz {l:List α} {i:Int} (h:¬ (0<=i/\i<l.length)):Xb l i=none:=by
 unfold Xb;split
 ·exact WK (by omega)
 ·rfl
theorem Wg {x:β} (h:P x):Ok (some x) P:=⟨x,rfl,h⟩
theorem WL {o:Option α} {f:α->Option β} {Q:α->Prop} (h:Ok o Q) (k:∀ y,o=.some y->Q y->Ok (f y) P):Ok (Sx.bnd o f) P:=by
 obtain ⟨y,rfl,hq⟩:=h;rw[Xa];exact k y rfl hq
theorem Ug {p:Prop} [Decidable p] {x:Option β} (h:p) (k:Ok x P):Ok (Sx.grd p x) P:=by rw[Xi h];exact k
theorem IS {κ:Type} {k:κ} {f:κ->Option β} (h:Ok (f k) P):Ok (Sx.jn k f) P:=by rw[XY];exact h
theorem Wq {b:Bool} {x y:Option β} (h1:b=true->Ok x P) (h2:b=false->Ok y P):Ok (bif b then x else y) P:=by
 cases b
 ·exact h2 rfl
 ·exact h1 rfl
theorem Ok.get {l:List α} {i:Int} {f:α->Option β} (h0:0<=i) (h1:i<l.length) (k:∀ p,Xb l i=.some p->Ok (f p) P):Ok (Sx.bnd (Xb l i) f) P:=by
 rw[XM h0 h1,Xa];exact k _ (XM h0 h1)
theorem Ok.mono {o:Option β} {Q:β->Prop} (h:Ok o Q) (k:∀ x,Q x->P x):Ok o P:=by
 obtain ⟨y,rfl,hq⟩:=h;exact ⟨y,rfl,k y hq⟩
theorem Sa {o:Option β} {x:β} (h:o=.some x) (hp:P x):Ok o P:=⟨x,h,hp⟩
theorem Ok.isSome {o:Option β} (h:Ok o P):o≠none:=by obtain ⟨y,rfl,_⟩:=h;simp
theorem I7 {α':Type} {o:Option (Ex α' α)} {f:α'->Option β} {k:α->Option β} {Q:Ex α' α->Prop} (h:Ok o Q) (h1:∀ a,Q (.ret a)->Ok (f a) P) (h2:∀ b,Q (.nxt b)->Ok (k b) P):Ok (Sx.bnd o λ e=>exK e f k) P:=by
 obtain ⟨y,rfl,hq⟩:=h
 rw[Xa]
 cases y with
 | ret a=>rw[X8];exact h1 a hq
 | nxt b=>rw[XN];exact h2 b hq
end
theorem Xe {n:Int} (h1 : -9223372036854775808<=n) (h2:n<=9223372036854775807):wI n=n:=by
 have e:wI n=if n % 18446744073709551616>=9223372036854775808 then n % 18446744073709551616-18446744073709551616 else n % 18446744073709551616:=by
  have e1:IntKind.bits .i64=64:=rfl
  have e2:IntKind.signed .i64=true:=rfl
  simp[wI,IntKind.wrap,e1,e2]
 rw[e]
 split<;>omega
theorem Xeh (n:Int):wU n=n % 18446744073709551616:=by
 have e1:IntKind.bits .u64=64:=rfl
 have e2:IntKind.signed .u64=false:=rfl
 simp[wU,IntKind.wrap,e1,e2]
theorem XT {n:Int} (h1:0<=n) (h2:n<=18446744073709551615):wU n=n:=by rw[Xeh];omega
theorem Xbt (n:Int):0<=wU n/\wU n<=18446744073709551615:=by rw[Xeh];omega
theorem Xmg (n:Int):wW n=n % 4294967296:=by
 have e1:IntKind.bits .u32=32:=rfl
 have e2:IntKind.signed .u32=false:=rfl
 simp[wW,IntKind.wrap,e1,e2]
theorem Xjb {n:Int} (h1:0<=n) (h2:n<=4294967295):wW n=n:=by rw[Xmg];omega
theorem Xjc {n:Int} (h0:0<=n) (h1:n<=63):Ka .u64 1 n=2 ^ n.toNat:=by
 have e1:IntKind.bits .u64=64:=rfl
 have h:min n.toNat 64=n.toNat:=by omega
 have hp:(2:Int) ^ n.toNat<=2 ^ 63:=by
  have:2 ^ n.toNat<=2 ^ 63:=IW (by omega) (by omega)
  exact_mod_cast this
 have hq:(0:Int)<=2 ^ n.toNat:=Int.pow_nonneg (by decide)
 show IntKind.wrap .u64 (1*2 ^ min n.toNat (IntKind.bits .u64))=_
 rw[e1,h,OE]
 exact XT hq (by omega)
theorem JM (a:Int) (k:Nat) (hk:k<=64) (h0:0<=a):YD .u64 a k=a / 2 ^ k:=by
 have e1:IntKind.bits .u64=64:=rfl
 show a.fdiv (2 ^ min (k:Int).toNat (IntKind.bits .u64))=_
 rw[e1,WD,OC hk]
 exact Int.fdiv_eq_ediv_of_nonneg _ (Int.pow_nonneg (by decide))
theorem Kr (a:Int) (k:Nat) (hk:k<=63) (h0:0<=a) (h1:a<=18446744073709551615):Y0 .u64 a (2 ^ k-1)=a % 2 ^ k:=by
 obtain ⟨n,rfl⟩:=UU h0
 have hb:IntKind.u64.bits=64:=rfl
 show IntKind.u64.wrap ((BitVec.ofInt IntKind.u64.bits n &&& BitVec.ofInt IntKind.u64.bits (2 ^ k-1)).toNat:Int)=_
 rw[hb]
 have hk2:(2:Int) ^ k-1=((2 ^ k-1:Nat):Int):=by
  have h1:=Nat.one_le_two_pow (n:=k)
  have h2:(2:Int) ^ k=((2 ^ k:Nat):Int):=by simp
  rw[h2];omega
 have e1:BitVec.ofInt 64 (n:Int)=BitVec.ofNat 64 n:=by simp
 have e2:BitVec.ofInt 64 ((2 ^ k-1:Nat):Int)=BitVec.ofNat 64 (2 ^ k-1):=by simp
 rw[hk2,e1,e2,BitVec.toNat_and,IQ,IQ]
 have hn:n % 2 ^ 64=n:=Ot (by omega)
 have hp:2 ^ k<=2 ^ 63:=IW (by omega) hk
 have hm:(2 ^ k-1) % 2 ^ 64=2 ^ k-1:=Ot (by omega)
 rw[hn,hm,Nat.and_two_pow_sub_one_eq_mod]
 have hlt:n % 2 ^ k<2 ^ k:=OH _ (Nat.two_pow_pos k)
 show wU _=_
 rw[XT (by omega) (by omega)]
 simp
end Go.Sx
namespace Go.Sx
def PT {α:Type} (o:Option α) (P:α->Prop):Prop:=∀ r,o=some r->P r
def tU (n:Int):Prop:=0<=n/\n<=18446744073709551615
def tW (n:Int):Prop:=0<=n/\n<=4294967295
def tL {α:Type} (T:α->Prop) (l:List α):Prop:=∀ x∈l,T x
def tE {α β:Type} (A:α->Prop) (B:β->Prop):Ex α β->Prop
 | .ret a=>A a
 | .nxt b=>B b
section
variable {α β γ:Type} {P:β->Prop} {T:α->Prop}
theorem Wj {x:β} (h:P x):PT (some x) P:=λ r e=>Ww e▸h
theorem Ow:PT none P:=λ r e=>by cases e
theorem Wy {o:Option α} {f:α->Option β} {Q:α->Prop} (h:PT o Q) (k:∀ y,Q y->PT (f y) P):PT (Sx.bnd o f) P:=by
 cases o with
 | none=>rw[Xbs];exact Ow
 | some y=>rw[Xa];exact k y (h y rfl)
theorem WT {o:Option α} {f:α->Option β} (k:∀ y,PT (f y) P):PT (Sx.bnd o f) P:=by
 cases o with
 | none=>rw[Xbs];exact Ow
 | some y=>rw[Xa];exact k y
theorem Ua {p:Prop} [Decidable p] {x:Option β} (k:PT x P):PT (Sx.grd p x) P:=by
 unfold Sx.grd
 split
 ·exact k
 ·exact Ow
theorem Ij {κ:Type} {k:κ} {f:κ->Option β} {Q:κ->Prop} (h:Q k) (g:∀ j,Q j->PT (f j) P):PT (Sx.jn k f) P:=by rw[XY];exact g k h
theorem Wp {b:Bool} {x y:Option β} (h1:PT x P) (h2:PT y P):PT (bif b then x else y) P:=by cases b;exact h2;exact h1
theorem PT.get {l:List α} {i:Int} {f:α->Option β} (h:tL T l) (k:∀ p,T p->PT (f p) P):PT (Sx.bnd (Xb l i) f) P :=
 Wy (Q:=T) (λ r e=>h r (YN e)) k
theorem OQ {α':Type} {o:Option (Ex α' α)} {f:α'->Option β} {k:α->Option β} {A:α'->Prop} (h:PT o (tE A T)) (h1:∀ a,A a->PT (f a) P) (h2:∀ b,T b->PT (k b) P):PT (Sx.bnd o λ e=>exK e f k) P:=by
 refine Wy h λ y hy=>?_
 cases y with
 | ret a=>rw[X8];exact h1 a hy
 | nxt b=>rw[XN];exact h2 b hy
theorem Se {o:Option β} {r:β} (h:PT o P) (e:o=.some r):P r:=h r e
end
@[simp] theorem Xpn {α β:Type} (A:α->Prop) (B:β->Prop) (a:α):tE A B (.ret a)=A a:=rfl
@[simp] theorem Xpo {α β:Type} (A:α->Prop) (B:β->Prop) (b:β):tE A B (.nxt b)=B b:=rfl
@[simp] theorem Xpp (n:Nat):tU (no_index (OfNat.ofNat n):Int)=((OfNat.ofNat n:Nat)<=18446744073709551615):=by
 have:(no_index (OfNat.ofNat n):Int)=((n:Nat):Int):=rfl
 unfold tU
 rw[this]
 simp only[eq_iff_iff]
 show (0:Int)<=n/\(n:Int)<=18446744073709551615↔n<=18446744073709551615
 omega
@[simp] theorem Xpq (n:Nat):tW (no_index (OfNat.ofNat n):Int)=((OfNat.ofNat n:Nat)<=4294967295):=by
 have:(no_index (OfNat.ofNat n):Int)=((n:Nat):Int):=rfl
 unfold tW
 rw[this]
 simp only[eq_iff_iff]
 show (0:Int)<=n/\(n:Int)<=4294967295↔n<=4294967295
 omega
@[simp] theorem XpN (n:Int):tU (wU n):=Xbt n
@[simp] theorem Xn5 (n:Int):tW (wW n):=by unfold tW;rw[Xmg];omega
theorem Xbu (n:Int):tU (IntKind.wrap .u64 n):=Xbt n
theorem Xjd (n:Int):tW (IntKind.wrap .u32 n):=Xn5 n
@[simp] theorem Xo8 (a b:Int):tU (Y0 .u64 a b):=Xbu _
@[simp] theorem Xpr (a b:Int):tU (bOr .u64 a b):=Xbu _
@[simp] theorem Xo9 (a b:Int):tU (Ka .u64 a b):=Xbu _
@[simp] theorem Xpa (a b:Int):tW (Y0 .u32 a b):=Xjd _
theorem Xmh {a b:Int} (h:0<=a) (k:IntKind):0<=YD k a b/\YD k a b<=a:=by
 show 0<=a.fdiv _/\a.fdiv _<=a
 have hp:(0:Int)<2 ^ min b.toNat (IntKind.bits k):=Int.pow_pos (by decide)
 rw[Int.fdiv_eq_ediv_of_nonneg _ (by omega)]
 exact ⟨Int.ediv_nonneg h (by omega),Int.ediv_le_self _ h⟩
@[simp] theorem Xpb {a b:Int} (h:tU a):tU (YD .u64 a b):=by
 have:=Xmh (b:=b) h.1 .u64
 unfold tU at *;omega
@[simp] theorem Xpc {a b:Int} (h:tW a):tW (YD .u32 a b):=by
 have:=Xmh (b:=b) h.1 .u32
 unfold tW at *;omega
@[simp] theorem Xpd {a b:Int} (h:tU a):tU (a.tmod b):=by
 unfold tU at *
 rw[Int.tmod_eq_emod_of_nonneg h.1]
 by_cases hb:b=0
 ·subst hb;rw[Int.emod_zero];exact h
 ·have h1:=Int.emod_nonneg a hb
  have h2:a % b<=a:=by
   obtain ⟨n,rfl⟩:=UU h.1
   rcases Int.natAbs_eq b with e | e
   ·rw[e,← Int.natCast_emod]
    have:=Nat.mod_le n b.natAbs
    omega
   ·rw[e,Int.emod_neg,← Int.natCast_emod]
    have:=Nat.mod_le n b.natAbs
    omega
  omega
section
variable {α:Type} {T:α->Prop}
@[simp] theorem Xje:tL T ([]:List α):=λ x h=>by cases h
@[simp] theorem Xge {x:α} {l:List α}:tL T (x::l)↔T x/\tL T l:=by unfold tL;simp
@[simp] theorem Xhs {a b:List α}:tL T (a++b)↔tL T a/\tL T b:=by
 unfold tL;simp only[WH];exact ⟨λ h=>⟨λ x hx=>h x (.inl hx),λ x hx=>h x (.inr hx)⟩,λ h x hx=>hx.elim (h.1 x) (h.2 x)⟩
@[simp] theorem Xbv {l:List α} {i:Nat} {x:α} (h:tL T l) (hx:T x):tL T (l.set i x):=λ y hy=>by
 rcases UB hy with h1 | h1
 ·exact h y h1
 ·rw[h1];exact hx
@[simp] theorem Xpe {l:List α} {i:Nat} (h:tL T l):tL T (l.take i):=λ y hy=>h y (Ue hy)
@[simp] theorem Xpf {l:List α} {i:Nat} (h:tL T l):tL T (l.drop i):=λ y hy=>h y (Ui hy)
@[simp] theorem Xps {n:Nat} {x:α} (h:T x):tL T (List.replicate n x):=λ y hy=>by rw[List.eq_of_mem_replicate hy];exact h
end
@[simp] theorem Xpt {p:Prop} [Decidable p] {a b:Int} (ha:tU a) (hb:tU b):tU (if p then a else b):=by split;exact ha;exact hb
end Go.Sx
namespace Go.Sx
set_option maxHeartbeats 1000000
def Y3 (s:WE):Prop:=tW s.Map
def YC (s:W5):Prop:=Y3 s.Header/\(tL tU) s.Fields
def Yk (s:UR):Prop:=tU s.Ref
def XJ (s:Ws):Prop:=(tL Yk) s.Slots
def XF (s:WP):Prop:=tU s.Ref
def X2 (s:WC):Prop:=(tL XF) s.Entries
def Ze (s:Uz):Prop:=tU s.Id/\tU s.Base
def Xv (s:Wm):Prop:=(tL YC) s.Things/\XJ s.Locals/\X2 s.Globals/\X2 s.Weaks/\(tL Ze) s.Marks/\(tL tU) s.Roots
def Xbw (s:UH):Prop:=tU s.Base
def XU (s:Wz):Prop:=(tL tU) s.Words
def Zf (s:II):Prop:=tU s.Ref
def Yj (s:UX):Prop:=XU s.Heap/\XJ s.Locals/\X2 s.Globals/\X2 s.Weaks/\(tL Zf) s.Pins/\(tL tU) s.Roots
def Vy (s:IL):Prop:=Yj s.Env/\Xv s.World/\(tL tU) s.Words
def JN (s:I4):Prop:=tU s.A/\tU s.B/\tU s.C
def Xjf (s:IP):Prop:=XJ s.Locals
def Xlb (s:IB):Prop:=tU s.Value
def XV (s:W9):Prop:=XU s.Heap/\(tL tU) s.Old/\(tL tU) s.Queue
def Xlc (s:UQ):Prop:=Xv s.World/\tU s.a/\tU s.b/\tU s.c
def Xht (s:If):Prop:=tU s.Addr
@[simp] theorem Xld {l:List UR} {i:Nat} {x:UR} (h:tL Yk l) (hx:tU x.Ref):tL Yk (l.set i x):=Xbv h hx
@[simp] theorem Xkk {l:List WP} {i:Nat} {x:WP} (h:tL XF l) (hx:tU x.Ref):tL XF (l.set i x):=Xbv h hx
@[simp] theorem Xmi {l:List II} {i:Nat} {x:II} (h:tL Zf l) (hx:tU x.Ref):tL Zf (l.set i x):=Xbv h hx
@[simp] theorem Xle {l:List Uz} {i:Nat} {x:Uz} (h:tL Ze l) (hx:tU x.Id/\tU x.Base):tL Ze (l.set i x):=Xbv h hx
@[simp] theorem Xkl {l:List W5} {i:Nat} {x:W5} (h:tL YC l) (hx:tW x.Header.Map/\(tL tU) x.Fields):tL YC (l.set i x):=Xbv h hx
attribute [local simp] Y3 YC Yk XJ XF X2 Ze Xv Xbw XU Zf Yj Vy JN Xjf Xlb XV Xlc Xht
theorem QeW {N a0 a1} (ka0:Vy a0):PT (Qba N a0 a1) (λ r=>tU r.1):=by
 rw[Qba]
 refine (WT λ y1=>(Wp (WT λ y2=>(PT.get (T:=tU) ?_ λ p3 h1=>(Wj ?_))) (Wp (WT λ y4=>(PT.get (T:=tU) ?_ λ p5 h2=>(WT λ y6=>(Wj ?_)))) (Ij (Q:=λ k=>∀ x8,PT (k x8) _) (λ x8=>(Wp (WT λ y9=>(PT.get (T:=tU) ?_ λ p10 h3=>(Wj ?_))) (WT λ y11=>(PT.get (T:=tU) ?_ λ p12 h4=>(Wj ?_))))) λ j2 hj2=>(Wp (hj2 _) (Ij (Q:=λ k=>∀ x7,PT (k x7) _) (λ x7=>(hj2 _)) λ j1 hj1=>(Wp (hj1 _) (hj1 _))))))))
 all_goals simp_all (maxDischargeDepth:=9)
theorem QgX {N a0 a1} (ka0:Vy a0):PT (QbN N a0 a1) (λ r=>JN r.1):=by
 rw[QbN]
 refine (WT λ y1=>(WT λ p2=>(Wp (WT λ y3=>(Ua (WT λ y4=>(Wj ?_)))) (Ij (Q:=λ k=>∀ x5,PT (k x5) _) (λ x5=>(Wp (WT λ y6=>(WT λ y7=>(Wp (WT λ y8=>(Wj ?_)) (Wj ?_)))) (Wp (WT λ y9=>(Wj ?_)) (Wy (QeW ?_) λ y10 h1=>(WT λ y11=>(WT λ y12=>(Ij (Q:=λ k=>∀ x16 x17 x18,tU x18->PT (k x16 x17 x18) _) (λ x16 x17 x18 h2=>(Wp (Wy (QeW ?_) λ y19 h3=>(Wj ?_)) (Wj ?_))) λ j2 hj2=>(Wp (Wy (QeW ?_) λ y14 h4=>(hj2 _ _ _ ?_)) (WT λ y13=>(Wp (Wy (QeW ?_) λ y15 h5=>(hj2 _ _ _ ?_)) (hj2 _ _ _ ?_))))))))))) λ j1 hj1=>(Wp (hj1 _) (hj1 _))))))
 all_goals simp_all (maxDischargeDepth:=9)
theorem Qkq {N a0}:PT (QfS N a0) (λ r=>Xv r.1):=by
 rw[QfS]
 refine (WT λ y1=>(Wp (Wj ?_) (Wj ?_)))
 all_goals simp_all (maxDischargeDepth:=9)
theorem Qkr {N a0}:PT (Qgt N a0) (λ r=>XU r.1):=by
 rw[Qgt]
 refine (WT λ y1=>(Wp (Wj ?_) (Ua (Ua (Wj ?_)))))
 all_goals simp_all (maxDischargeDepth:=9)
theorem Qks {N a0}:PT (QfT N a0) (λ r=>Yj r.1):=by
 rw[QfT]
 refine (Wy (Qkr) λ y1 h1=>(Wj ?_))
 all_goals simp_all (maxDischargeDepth:=9)
theorem QhY {N a0}:PT (QbX N a0) (λ r=>Vy r.1):=by
 rw[QbX]
 refine (WT λ y1=>(Wy (Qks) λ y2 h1=>(Wy (Qkq) λ y3 h2=>(WT λ y4=>(Wj ?_)))))
 all_goals simp_all (maxDischargeDepth:=9)
theorem Qg8 {N a0} (ka0:X2 a0):∀ n v1 v2,(tL tU) v2->PT (Qa7 N a0 n v1 v2) (tL tU)
 | 0,_,_,_=>by rw[Qa7];exact Ow
 | n+1,v1,v2,kv2=>by
  have ih:=Qg8 (N:=N) (a0:=a0) ka0 n
  rw[Qa7]
  refine (Wp (WT λ y3=>(Wp (PT.get (T:=XF) ?_ λ p4 h1=>(Wp (PT.get (T:=XF) ?_ λ p5 h2=>(Ua (ih _ _ ?_))) (ih _ _ ?_))) (Wj ?_))) (Wj ?_))
  all_goals (clear ih;simp_all (maxDischargeDepth:=9))
theorem Qir {N a0 n v1 v2} (ka0:X2 a0) (kv2:(tL tU) v2):PT (Qa7 N a0 n v1 v2) (tL tU):=Qg8 ka0 n _ _ kv2
theorem QfE {N a0} (ka0:X2 a0):PT (Qa4 N a0) (tL tU):=by
 rw[Qa4]
 refine (Wy (Qir ?_ ?_) λ y6 h1=>(Wj ?_))
 all_goals simp_all (maxDischargeDepth:=9)
theorem Qg9 {N a0} (ka0:XJ a0):∀ n v1 v2,(tL tU) v2->PT (Qa8 N a0 n v1 v2) (tL tU)
 | 0,_,_,_=>by rw[Qa8];exact Ow
 | n+1,v1,v2,kv2=>by
  have ih:=Qg9 (N:=N) (a0:=a0) ka0 n
  rw[Qa8]
  refine (Wp (WT λ y3=>(Wp (PT.get (T:=Yk) ?_ λ p4 h1=>(Wp (PT.get (T:=Yk) ?_ λ p5 h2=>(Ua (ih _ _ ?_))) (ih _ _ ?_))) (Wj ?_))) (Wj ?_))
  all_goals (clear ih;simp_all (maxDischargeDepth:=9))
theorem Qis {N a0 n v1 v2} (ka0:XJ a0) (kv2:(tL tU) v2):PT (Qa8 N a0 n v1 v2) (tL tU):=Qg9 ka0 n _ _ kv2
theorem QgV {N a0} (ka0:XJ a0):PT (Qb3 N a0) (tL tU):=by
 rw[Qb3]
 refine (Wy (Qis ?_ ?_) λ y6 h1=>(Wj ?_))
 all_goals simp_all (maxDischargeDepth:=9)
theorem Qha {N a1} (ka1:(tL tU) a1):∀ n v3 v4 v5,(tL XF) v5->PT (QaS N a1 n v3 v4 v5) (tL XF)
 | 0,_,_,_,_=>by rw[QaS];exact Ow
 | n+1,v3,v4,v5,kv5=>by
  have ih:=Qha (N:=N) (a1:=a1) ka1 n
  rw[QaS]
  refine (Ua (Wp (PT.get (T:=XF) ?_ λ p6 h1=>(Wp (PT.get (T:=tU) ?_ λ p7 h2=>(PT.get (T:=XF) ?_ λ p8 h3=>(ih _ _ _ ?_))) (ih _ _ _ ?_))) (Wj ?_)))
  all_goals (clear ih;simp_all (maxDischargeDepth:=9))
theorem Qit {N a1 n v3 v4 v5} (ka1:(tL tU) a1) (kv5:(tL XF) v5):PT (QaS N a1 n v3 v4 v5) (tL XF):=Qha ka1 n _ _ _ kv5
theorem QgW {N a0 a1} (ka0:X2 a0) (ka1:(tL tU) a1):PT (Qcr N a0 a1) (λ r=>X2 r.1):=by
 rw[Qcr]
 refine (WT λ y1=>(Wp (Wj ?_) (Wy (QfE ?_) λ y2 h1=>(Ua (Wp (Wj ?_) (Ua (Wy (Qit ?_ ?_) λ y9 h2=>(Wj ?_))))))))
 all_goals simp_all (maxDischargeDepth:=9)
theorem QgI {N a0 y2} (ka0:Xv a0):∀ n v4 v5,(tL tU) v5->PT (Qaw N a0 y2 n v4 v5) (tL tU)
 | 0,_,_,_=>by rw[Qaw];exact Ow
 | n+1,v4,v5,kv5=>by
  have ih:=QgI (N:=N) (a0:=a0) (y2:=y2) ka0 n
  rw[Qaw]
  refine (Ua (Wp (PT.get (T:=tU) ?_ λ p6 h1=>(Wp (PT.get (T:=tU) ?_ λ p7 h2=>(WT λ p8=>(Wp (PT.get (T:=tU) ?_ λ p9 h3=>(ih _ _ ?_)) (ih _ _ ?_)))) (ih _ _ ?_))) (Wj ?_)))
  all_goals (clear ih;simp_all (maxDischargeDepth:=9))
theorem QhO {N a0 y2 n v4 v5} (ka0:Xv a0) (kv5:(tL tU) v5):PT (Qaw N a0 y2 n v4 v5) (tL tU):=QgI ka0 n _ _ kv5
theorem Qhb {N a0} (ka0:Xv a0):PT (QbI N a0) (λ r=>Xv r.1):=by
 rw[QbI]
 refine (WT λ y1=>(Wp (Wj ?_) (WT λ y2=>(Wy (QfE ?_) λ y3 h1=>(Wy (QhO ?_ ?_) λ y10 h2=>(Wy (QgW ?_ ?_) λ y11 h3=>(Wj ?_)))))))
 all_goals simp_all (maxDischargeDepth:=9)
theorem QhE {N a0 a1 a2} (ka1:tU a1) (ka2:tU a2):PT (Qbp N a0 a1 a2) (λ r=>Y3 r.1):=by
 rw[Qbp]
 refine (Wp (Wp (Wj ?_) (Wj ?_)) (Wj ?_))
 all_goals simp_all (maxDischargeDepth:=9)
theorem Qhc {N a0 a1} (ka0:XJ a0) (ka1:tU a1):PT (QdP N a0 a1) (λ r=>XJ r.1):=by
 rw[QdP]
 refine (WT λ y1=>(Wp (Wj ?_) (Wp (Wj ?_) (Wp (Wj ?_) (WT λ p2=>(WT λ y3=>(WT λ p4=>(Wp (Wj ?_) (Wp (Wj ?_) (Ua (Ua (Ua (Ua (Wj ?_))))))))))))))
 all_goals simp_all (maxDischargeDepth:=9)
theorem QfP {N a0}:PT (QaP N a0) (λ r=>tU r.1):=by
 rw[QaP]
 refine (WT λ y1=>(Wp (Wj ?_) (Wj ?_)))
 all_goals simp_all (maxDischargeDepth:=9) []
theorem Qhd {N a0 a1 a2} (ka0:XJ a0):PT (QdQ N a0 a1 a2) (λ r=>tU r.1):=by
 rw[QdQ]
 refine (WT λ y1=>(Wp (Wj ?_) (Wp (Wj ?_) (Wp (Wj ?_) (WT λ p2=>(Wp (Wj ?_) (Wp (Wj ?_) (PT.get (T:=Yk) ?_ λ p3 h1=>(Wp (Wj ?_) (PT.get (T:=Yk) ?_ λ p4 h2=>(Wp (Wj ?_) (PT.get (T:=Yk) ?_ λ p5 h3=>(Wj ?_)))))))))))))
 all_goals simp_all (maxDischargeDepth:=9)
theorem Qf4 {N a0 a1 a2} (ka0:X2 a0):PT (Qc1 N a0 a1 a2) (λ r=>tU r.1):=by
 rw[Qc1]
 refine (WT λ y1=>(Wp (Wj ?_) (Wp (Wj ?_) (Wp (Wj ?_) (Wp (Wj ?_) (PT.get (T:=XF) ?_ λ p2 h1=>(Wp (Wj ?_) (PT.get (T:=XF) ?_ λ p3 h2=>(Wp (Wj ?_) (PT.get (T:=XF) ?_ λ p4 h3=>(Wp (Wj ?_) (PT.get (T:=XF) ?_ λ p5 h4=>(Wj ?_)))))))))))))
 all_goals simp_all (maxDischargeDepth:=9)
theorem Qfs {N a0 a1} (ka0:Xv a0) (ka1:tU a1):PT (Qay N a0 a1) (λ r=>tU r.1):=by
 rw[Qay]
 refine (WT λ y1=>(Wp (Wj ?_) (Wp (Wj ?_) (WT λ y2=>(Wp (Wj ?_) (Wp (Wy (Qhd ?_) λ y3 h1=>(Wj ?_)) (Wp (Wy (Qf4 ?_) λ y4 h2=>(Wj ?_)) (Wy (Qf4 ?_) λ y5 h3=>(Wj ?_)))))))))
 all_goals simp_all (maxDischargeDepth:=9)
theorem Qhu {N a0 a1} (ka0:X2 a0) (ka1:tU a1):∀ n v2,PT (Qbj N a0 a1 n v2) (tE (λ r=>X2 r.1) (λ _=>True))
 | 0,_=>by rw[Qbj];exact Ow
 | n+1,v2=>by
  have ih:=Qhu (N:=N) (a0:=a0) (a1:=a1) ka0 ka1 n
  rw[Qbj]
  refine (Ua (Wp (PT.get (T:=XF) ?_ λ p3 h1=>(Wp (PT.get (T:=XF) ?_ λ p4 h2=>(Wp (PT.get (T:=XF) ?_ λ p5 h3=>(PT.get (T:=XF) ?_ λ p6 h4=>(PT.get (T:=XF) ?_ λ p7 h5=>(Wj ?_)))) (ih _))) (ih _))) (Wj ?_)))
  all_goals (clear ih;simp_all (maxDischargeDepth:=9))
theorem Qjd {N a0 a1 n v2} (ka0:X2 a0) (ka1:tU a1):PT (Qbj N a0 a1 n v2) (tE (λ r=>X2 r.1) (λ _=>True)):=Qhu ka0 ka1 n _
theorem Qhe {N a0 a1} (ka0:X2 a0) (ka1:tU a1):PT (QbZ N a0 a1) (λ r=>X2 r.1):=by
 rw[QbZ]
 refine (WT λ y1=>(Wp (Wj ?_) (Ua (OQ (Qjd ?_ ?_) (λ r h1=>(Wj ?_)) λ y8 h2=>(Ua (Wp (Wj ?_) (Ua (Ua (Wj ?_)))))))))
 all_goals simp_all (maxDischargeDepth:=9)
theorem Qkb {N a0 a1 a2} (ka0:XJ a0):PT (Qf8 N a0 a1 a2) (λ r=>XJ r.1):=by
 rw[Qf8]
 refine (WT λ y1=>(Wp (Wj ?_) (Wp (Wj ?_) (Wp (Wj ?_) (Ij (Q:=λ k=>∀ _,PT (k ()) _) (λ _=>(Wp (Wj ?_) (Ua (Ua (Wj ?_))))) λ j1 hj1=>(Wp (Wp (Wj ?_) (hj1 ())) (hj1 ())))))))
 all_goals simp_all (maxDischargeDepth:=9)
theorem QhL {N a0 a1} (ka0:XJ a0):PT (QdL N a0 a1) (λ r=>XJ r.1):=by
 rw[QdL]
 refine (Wy (Qkb ?_) λ y1 h1=>(Wj ?_))
 all_goals simp_all (maxDischargeDepth:=9)
theorem Qkt {N a0 a1} (ka0:XJ a0):PT (Qgu N a0 a1) XJ:=by
 rw[Qgu]
 refine (WT λ p1=>(Ua (Ua (Ua (Ua (Wj ?_))))))
 all_goals simp_all (maxDischargeDepth:=9)
theorem QhZ {N a0} (ka0:XJ a0):PT (QeD N a0) (λ r=>XJ r.1):=by
 rw[QeD]
 refine (WT λ y1=>(Wp (Wj ?_) (Wp (Wj ?_) (WT λ p2=>(Wp (Wj ?_) (Wy (Qkt ?_) λ y3 h1=>(Wj ?_)))))))
 all_goals simp_all (maxDischargeDepth:=9)
theorem Qgf {N a0 a1} (ka0:Xv a0) (ka1:tU a1):PT (Qbc N a0 a1) (λ r=>Xv r.1/\tU r.2):=by
 rw[Qbc]
 refine (Wp (Wj ?_) (Wy (Qhc ?_ ?_) λ y1 h1=>(Wy (QfP) λ y2 h2=>(Wj ?_))))
 all_goals simp_all (maxDischargeDepth:=9)
theorem Qh0 {N a0 a1 a2 a3} (ka0:Xv a0) (ka1:tU a1) (ka3:tU a3):PT (QdS N a0 a1 a2 a3) Xv:=by
 rw[QdS]
 refine (Ua (PT.get (T:=YC) ?_ λ p1 h1=>(Ua (PT.get (T:=tU) ?_ λ p2 h2=>(PT.get (T:=YC) ?_ λ p3 h3=>(Wj ?_))))))
 all_goals simp_all (maxDischargeDepth:=9)
theorem Qiu {N a0 a1 a2} (ka0:Xv a0) (ka2:tU a2):PT (Qb6 N a0 a1 a2) (λ r=>Xv r.1/\tU r.2):=by
 rw[Qb6]
 refine (Ij (Q:=λ k=>∀ x3 x4 x5 x6 x7,(tL XF) x3->(tL XF) x4->PT (k x3 x4 x5 x6 x7) _) (λ x3 x4 x5 x6 x7 h1 h2=>(Wy (QfP) λ y8 h3=>(Wj ?_))) λ j1 hj1=>(Wp (Wy (Qhe ?_ ?_) λ y1 h4=>(hj1 _ _ _ _ _ ?_ ?_)) (Wy (Qhe ?_ ?_) λ y2 h5=>(hj1 _ _ _ _ _ ?_ ?_))))
 all_goals simp_all (maxDischargeDepth:=9)
theorem Qhv {N a0 a1 a2} (ka0:XJ a0):PT (Qc2 N a0 a1 a2) (λ r=>XJ r.1):=by
 rw[Qc2]
 refine (Wy (Qhd ?_) λ y1 h1=>(Wp (Wj ?_) (Ua (PT.get (T:=Yk) ?_ λ p2 h2=>(Wj ?_)))))
 all_goals simp_all (maxDischargeDepth:=9)
theorem Qku {N a0 a1 a2} (ka0:X2 a0) (ka2:XF a2):PT (Qgv N a0 a1 a2) X2:=by
 rw[Qgv]
 refine (Ua (PT.get (T:=XF) ?_ λ p1 h1=>(Wj ?_)))
 all_goals simp_all (maxDischargeDepth:=9)
theorem QfQ {N a0 a1 a2} (ka0:X2 a0):PT (Qb1 N a0 a1 a2) (λ r=>X2 r.1):=by
 rw[Qb1]
 refine (Wy (Qf4 ?_) λ y1 h1=>(Wp (Wj ?_) (Wy (Qku ?_ ?_) λ y2 h2=>(Wj ?_))))
 all_goals simp_all (maxDischargeDepth:=9)
theorem Qje {N a0 a1} (ka0:Xv a0) (ka1:tU a1):PT (Qcs N a0 a1) Xv:=by
 rw[Qcs]
 refine (WT λ y1=>(Wp (Wy (Qhv ?_) λ y2 h1=>(Wj ?_)) (Wp (Wy (QfQ ?_) λ y3 h2=>(Wj ?_)) (Wy (QfQ ?_) λ y4 h3=>(Wj ?_)))))
 all_goals simp_all (maxDischargeDepth:=9)
theorem Qkc {N a0 a1 a2 a3} (ka0:Xv a0) (ka2:tU a2) (ka3:tU a3):PT (QdM N a0 a1 a2 a3) (λ r=>Xv r.1/\tU r.2):=by
 rw[QdM]
 refine (WT λ y1=>(Ua (Wp (PT.get (T:=Ze) ?_ λ p2 h1=>(PT.get (T:=Ze) ?_ λ p3 h2=>(PT.get (T:=Ze) ?_ λ p4 h3=>(Wp (Ua (Ua (Ua (Wj ?_)))) (Wj ?_))))) (Wp (PT.get (T:=Ze) ?_ λ p7 h4=>(PT.get (T:=Ze) ?_ λ p8 h5=>(PT.get (T:=Ze) ?_ λ p9 h6=>(Wj ?_)))) (Ua (Wj ?_))))))
 all_goals simp_all (maxDischargeDepth:=9)
theorem Qkd {N a0 a1 a2 a3 a4 a5} (ka0:Xv a0) (ka2:tU a2) (ka3:tU a3) (ka4:tU a4) (ka5:Xbw a5):PT (Qaa N a0 a1 a2 a3 a4 a5) (λ r=>Xv r.1/\tU r.2.1):=by
 rw[Qaa]
 refine (WT λ y1=>(Wp (Wj ?_) (Ij (Q:=λ k=>∀ x3,tU x3->PT (k x3) _) (λ x3 h1=>(Ij (Q:=λ k=>∀ x5,PT (k x5) _) (λ x5=>(Wp (Ij (Q:=λ k=>∀ x7 x8 x9 x10 x11 x12 x13 x14 x15 x16,(tL YC) x9->(tL Yk) x10->(tL XF) x13->(tL XF) x14->(tL Ze) x15->(tL tU) x16->PT (k x7 x8 x9 x10 x11 x12 x13 x14 x15 x16) _) (λ x7 x8 x9 x10 x11 x12 x13 x14 x15 x16 h2 h3 h4 h5 h6 h7=>(Wy (QhE ?_ ?_) λ y17 h8=>(Ua (Ua (Ua (Ua (Wy (Qgf ?_ ?_) λ y18 h9=>(Wj ?_)))))))) λ j4 hj4=>(Wp (Wy (Qhb ?_) λ y6 h10=>(hj4 _ _ _ _ _ _ _ _ _ _ ?_ ?_ ?_ ?_ ?_ ?_)) (hj4 _ _ _ _ _ _ _ _ _ _ ?_ ?_ ?_ ?_ ?_ ?_))) (Wp (PT.get (T:=YC) ?_ λ p19 h11=>(Wj ?_)) (Wp (PT.get (T:=YC) ?_ λ p20 h12=>(Wj ?_)) (Wp (PT.get (T:=YC) ?_ λ p21 h13=>(PT.get (T:=tU) ?_ λ p22 h14=>(Wj ?_))) (Wp (Wy (Qh0 ?_ ?_ ?_) λ y23 h15=>(Wj ?_)) (Wp (PT.get (T:=YC) ?_ λ p24 h16=>(PT.get (T:=tU) ?_ λ p25 h17=>(Wy (Qgf ?_ ?_) λ y26 h18=>(Wj ?_)))) (Wp (Wy (Qfs ?_ ?_) λ y27 h19=>(Wy (Qh0 ?_ ?_ ?_) λ y28 h20=>(Wj ?_))) (Wp (Wy (Qfs ?_ ?_) λ y29 h21=>(Wp (Wj ?_) (Wj ?_))) (Wp (Wy (Qgf ?_ ?_) λ y30 h22=>(Wj ?_)) (Ij (Q:=λ k=>∀ x31,PT (k x31) _) (λ x31=>(Wp (Wy (Qiu ?_ ?_) λ y32 h23=>(Wj ?_)) (Ij (Q:=λ k=>∀ x34,PT (k x34) _) (λ x34=>(Wp (Wy (Qje ?_ ?_) λ y35 h24=>(Wj ?_)) (Wp (Wy (QhL ?_) λ y36 h25=>(Wj ?_)) (Wp (Wy (QhZ ?_) λ y37 h26=>(Wy (Qgf ?_ ?_) λ y38 h27=>(Wj ?_))) (Wy (Qkc ?_ ?_ ?_) λ y39 h28=>(Wj ?_)))))) λ j7 hj7=>(Wp (hj7 _) (Ij (Q:=λ k=>∀ x33,PT (k x33) _) (λ x33=>(hj7 _)) λ j6 hj6=>(Wp (hj6 _) (hj6 _))))))) λ j5 hj5=>(Wp (hj5 _) (hj5 _))))))))))))) λ j3 hj3=>(Wp (hj3 _) (Ij (Q:=λ k=>∀ x4,PT (k x4) _) (λ x4=>(hj3 _)) λ j2 hj2=>(Wp (hj2 _) (hj2 _)))))) λ j1 hj1=>(Wp (Wp (Wy (Qfs ?_ ?_) λ y2 h29=>(hj1 _ ?_)) (hj1 _ ?_)) (hj1 _ ?_)))))
 all_goals simp_all (maxDischargeDepth:=9)
theorem Qiv {N a0 a1 a2 a3 a4} (ka0:Yj a0) (ka1:Yj a1) (ka3:tU a3):PT (Qdr N a0 a1 a2 a3 a4) Xbw:=by
 rw[Qdr]
 refine (Ij (Q:=λ k=>∀ x1,PT (k x1) _) (λ x1=>(Ij (Q:=λ k=>∀ x2,PT (k x2) _) (λ x2=>(Wp (Wp (Wj ?_) (Wj ?_)) (Wj ?_))) λ j2 hj2=>(Wp (hj2 _) (hj2 _)))) λ j1 hj1=>(Wp (hj1 _) (Wp (hj1 _) (hj1 _))))
 all_goals simp_all (maxDischargeDepth:=9)
theorem QeB {N a0 a1} (ka0:(tL tU) a0) (ka1:tU a1):PT (QbO N a0 a1) (λ r=>tU r.1):=by
 rw[QbO]
 refine (WT λ y1=>(Wp (Wj ?_) (PT.get (T:=tU) ?_ λ p2 h1=>(Wj ?_))))
 all_goals simp_all (maxDischargeDepth:=9) []
theorem QgG {N a0} (ka0:Y3 a0):PT (Qct N a0) (λ r=>tU r.1):=by
 rw[Qct]
 refine (WT λ y1=>(Wp (Wj ?_) (Wj ?_)))
 all_goals simp_all (maxDischargeDepth:=9)
theorem QgH {N a0} (ka0:tU a0):PT (QbB N a0) (λ r=>Y3 r.1):=by
 rw[QbB]
 refine (Wy (QgG ?_) λ y1 h1=>(Wp (Wj ?_) (Wp (Wj ?_) (Wj ?_))))
 all_goals simp_all (maxDischargeDepth:=9)
theorem Qhz {N a0 a1} (ka0:XU a0) (ka1:tU a1):PT (QbU N a0 a1) (λ r=>Y3 r.1):=by
 rw[QbU]
 refine (WT λ y1=>(Wp (Wj ?_) (WT λ y2=>(Wp (Wj ?_) (WT λ p3=>(Wy (QeB ?_ ?_) λ y4 h1=>(Wy (QgH ?_) λ y5 h2=>(Ij (Q:=λ k=>∀ _,PT (k ()) _) (λ _=>(WT λ y6=>(Wp (Wp (Wj ?_) (Wp (Wp (Wj ?_) (Wp (Wj ?_) (Wj ?_))) (Wj ?_))) (Wp (Wp (Wj ?_) (Wp (Wj ?_) (Wj ?_))) (Wj ?_))))) λ j1 hj1=>(Wp (Wp (Wj ?_) (Wp (Wj ?_) (Wp (Wj ?_) (hj1 ())))) (Wp (Wj ?_) (Wp (Wj ?_) (hj1 ()))))))))))))
 all_goals simp_all (maxDischargeDepth:=9)
theorem Qiw {N a0 a1 a2}:PT (QcB N a0 a1 a2) (λ r=>tU r.1):=by
 rw[QcB]
 refine (WT λ y1=>(Wp (Wj ?_) (Wp (Wj ?_) (Wp (Wj ?_) (Wp (Wj ?_) (Wp (Wj ?_) (Wj ?_)))))))
 all_goals simp_all (maxDischargeDepth:=9) []
theorem Qhf {N a0 a1 p2} (ka0:XU a0):∀ n v3 v4,(tL tU) v4->PT (QbJ N a0 a1 p2 n v3 v4) (tE (λ r=>(tL tU) r.1) (tL tU))
 | 0,_,_,_=>by rw[QbJ];exact Ow
 | n+1,v3,v4,kv4=>by
  have ih:=Qhf (N:=N) (a0:=a0) (a1:=a1) (p2:=p2) ka0 n
  rw[QbJ]
  refine (Wp (Wy (Qiw) λ y5 h1=>(Wy (Qhz ?_ ?_) λ y6 h2=>(Wp (Wj ?_) (Ua (Wp (Wj ?_) (WT λ y7=>(ih _ _ ?_))))))) (Wj ?_))
  all_goals (clear ih;simp_all (maxDischargeDepth:=9))
theorem Qix {N a0 a1 p2 n v3 v4} (ka0:XU a0) (kv4:(tL tU) v4):PT (QbJ N a0 a1 p2 n v3 v4) (tE (λ r=>(tL tU) r.1) (tL tU)):=Qhf ka0 n _ _ kv4
theorem Qke {N a0 a1} (ka0:XU a0):PT (QaV N a0 a1) (λ r=>(tL tU) r.1):=by
 rw[QaV]
 refine (WT λ y1=>(Wp (Wj ?_) (Wp (Wj ?_) (Wp (Wj ?_) (WT λ p2=>(Wp (Wj ?_) (Wp (Wj ?_) (OQ (Qix ?_ ?_) (λ r h1=>(Wj ?_)) λ y8 h2=>(Wj ?_)))))))))
 all_goals simp_all (maxDischargeDepth:=9)
theorem Qhg {N a0 a1} (ka0:XU a0) (ka1:tU a1):PT (Qc3 N a0 a1) (λ r=>Y3 r.1):=by
 rw[Qc3]
 refine (WT λ y1=>(Wp (Wj ?_) (Wp (Wj ?_) (Wy (Qhz ?_ ?_) λ y2 h1=>(Wp (Wp (Wj ?_) (Wj ?_)) (Wj ?_))))))
 all_goals simp_all (maxDischargeDepth:=9)
theorem QgT {N a0} (ka0:XU a0):∀ n v2 v3,(tL tU) v3->PT (Qbd N a0 n v2 v3) (tE (λ r=>(tL tU) r.1) (tL tU))
 | 0,_,_,_=>by rw[Qbd];exact Ow
 | n+1,v2,v3,kv3=>by
  have ih:=QgT (N:=N) (a0:=a0) ka0 n
  rw[Qbd]
  refine (Wp (Wy (Qke ?_) λ y4 h1=>(Wp (Wj ?_) (Ua (ih _ _ ?_)))) (Wj ?_))
  all_goals (clear ih;simp_all (maxDischargeDepth:=9))
theorem Qh1 {N a0 n v2 v3} (ka0:XU a0) (kv3:(tL tU) v3):PT (Qbd N a0 n v2 v3) (tE (λ r=>(tL tU) r.1) (tL tU)):=QgT ka0 n _ _ kv3
theorem Qjf {N a0} (ka0:XU a0):PT (Qen N a0) (λ r=>(tL tU) r.1):=by
 rw[Qen]
 refine (WT λ y1=>(Wp (Wj ?_) (OQ (Qh1 ?_ ?_) (λ r h1=>(Wj ?_)) λ y5 h2=>(Wj ?_))))
 all_goals simp_all (maxDischargeDepth:=9)
theorem QgJ {N a0 y1} (ka0:XU a0) (ky1:(λ r=>(tL tU) r.1) y1):∀ n v2 v3,(tL tU) v3->PT (QaQ N a0 y1 n v2 v3) (tL tU)
 | 0,_,_,_=>by rw[QaQ];exact Ow
 | n+1,v2,v3,kv3=>by
  have ih:=QgJ (N:=N) (a0:=a0) (y1:=y1) ka0 ky1 n
  rw[QaQ]
  refine (Wp (PT.get (T:=tU) ?_ λ p4 h1=>(Wy (Qhz ?_ ?_) λ y5 h2=>(Wp (PT.get (T:=tU) ?_ λ p6 h3=>(Ua (ih _ _ ?_))) (ih _ _ ?_)))) (Wj ?_))
  all_goals (clear ih;simp_all (maxDischargeDepth:=9))
theorem QhP {N a0 y1 n v2 v3} (ka0:XU a0) (ky1:(λ r=>(tL tU) r.1) y1) (kv3:(tL tU) v3):PT (QaQ N a0 y1 n v2 v3) (tL tU):=QgJ ka0 ky1 n _ _ kv3
theorem Qiy {N a0} (ka0:XU a0):PT (Qbk N a0) (λ r=>(tL tU) r.1):=by
 rw[Qbk]
 refine (Wy (Qjf ?_) λ y1 h1=>(Wy (QhP ?_ ?_ ?_) λ y7 h2=>(Wj ?_)))
 all_goals simp_all (maxDischargeDepth:=9)
theorem Qkf {N a0 a1 a2} (ka0:(tL tU) a0) (ka1:tU a1):PT (QeE N a0 a1 a2) (λ r=>(tL tU) r.1):=by
 rw[QeE]
 refine (Wp (Wj ?_) (WT λ y1=>(Wp (Wj ?_) (Ua (Ua (Wj ?_))))))
 all_goals simp_all (maxDischargeDepth:=9) []
theorem QjS {N a0} (ka0:XU a0):PT (QeN N a0) (λ r=>XV r.1):=by
 rw[QeN]
 refine (WT λ y1=>(Wp (Wj ?_) (WT λ y2=>(Wp (Wj ?_) (Wy (Qiy ?_) λ y3 h1=>(Ua (WT λ y8=>(Wj ?_))))))))
 all_goals simp_all (maxDischargeDepth:=9)
theorem Qhw {N a0} (ka0:tU a0):PT (Qc4 N a0) (λ r=>tU r.1):=by
 rw[Qc4]
 refine (Wp (Wj ?_) (Wp (Wj ?_) (Wj ?_)))
 all_goals simp_all (maxDischargeDepth:=9) []
theorem QgY {N a2 y1} (ka2:(tL tU) a2):∀ n v2 v3,(tL tU) v3->PT (Qbr N a2 y1 n v2 v3) (tL tU)
 | 0,_,_,_=>by rw[Qbr];exact Ow
 | n+1,v2,v3,kv3=>by
  have ih:=QgY (N:=N) (a2:=a2) (y1:=y1) ka2 n
  rw[Qbr]
  refine (Wp (PT.get (T:=tU) ?_ λ p4 h1=>(PT.get (T:=tU) ?_ λ p5 h2=>(ih _ _ ?_))) (Wj ?_))
  all_goals (clear ih;simp_all (maxDischargeDepth:=9) [])
theorem Qie {N a2 y1 n v2 v3} (ka2:(tL tU) a2) (kv3:(tL tU) v3):PT (Qbr N a2 y1 n v2 v3) (tL tU):=QgY ka2 n _ _ kv3
theorem Qgg {N a0 a1 a2} (ka0:(tL tU) a0) (ka1:tU a1) (ka2:(tL tU) a2):PT (Qck N a0 a1 a2) (λ r=>(tL tU) r.1):=by
 rw[Qck]
 refine (WT λ y1=>(Wp (Wj ?_) (Ua (Wy (Qie ?_ ?_) λ y6 h1=>(Wj ?_)))))
 all_goals simp_all (maxDischargeDepth:=9) []
theorem QgM {N a0 a1 a2} (ka0:(tL tU) a0) (ka1:tU a1) (ka2:tU a2):PT (QcY N a0 a1 a2) (λ r=>(tL tU) r.1):=by
 rw[QcY]
 refine (Wy (Qgg ?_ ?_ ?_) λ y1 h1=>(Wj ?_))
 all_goals simp_all (maxDischargeDepth:=9) []
theorem QhM {N a0 a1} (ka0:XV a0) (ka1:tU a1):PT (QeG N a0 a1) XV:=by
 rw[QeG]
 refine (Ua (Ua (Wj ?_)))
 all_goals simp_all (maxDischargeDepth:=9)
theorem QjT {N a0 a1} (ka0:XV a0):PT (QdW N a0 a1) (λ r=>XV r.1/\tU r.2.1):=by
 rw[QdW]
 refine (Ua (Ij (Q:=λ k=>∀ _,PT (k ()) _) (λ _=>(WT λ y4=>(Wp (Wj ?_) (WT λ y5=>(Ua (Ua (WT λ p13=>(WT λ p14=>(WT λ p15=>(Wj ?_)))))))))) λ j1 hj1=>(Wp (WT λ p1=>(WT λ p2=>(Wp (WT λ p3=>(WT λ p10=>(WT λ p11=>(WT λ p12=>(Wj ?_))))) (hj1 ())))) (hj1 ()))))
 all_goals simp_all (maxDischargeDepth:=9)
theorem Qkg {N a0 a1 a2 a3} (ka0:(tL tU) a0) (ka1:tU a1) (ka2:tU a2):PT (Qfi N a0 a1 a2 a3) (λ r=>(tL tU) r.1):=by
 rw[Qfi]
 refine (Wy (Qkf ?_ ?_) λ y1 h1=>(Wp (Wj ?_) (Wy (Qgg ?_ ?_ ?_) λ y2 h2=>(Wj ?_))))
 all_goals simp_all (maxDischargeDepth:=9) []
theorem Qiz {N a0} (ka0:tU a0):PT (Qdu N a0) (λ r=>tU r.1):=by
 rw[Qdu]
 refine (Wp (Wj ?_) (Wj ?_))
 all_goals simp_all (maxDischargeDepth:=9) []
theorem Qhh {N a0 a1} (ka0:XV a0) (ka1:tU a1):PT (QcC N a0 a1) (λ r=>XV r.1/\tU r.2.1):=by
 rw[QcC]
 refine (Wp (Wj ?_) (WT λ y1=>(Wp (Wj ?_) (WT λ y2=>(Wp (Wj ?_) (Wy (QeB ?_ ?_) λ y3 h1=>(Wy (Qhw ?_) λ y4 h2=>(Wp (Wj ?_) (WT λ y5=>(Wp (Wj ?_) (Wp (Wj ?_) (WT λ y6=>(Wp (Wy (QhM ?_ ?_) λ y7 h3=>(Wj ?_)) (WT λ p8=>(Wp (Ua (WT λ p9=>(WT λ y14=>(Wy (QhM ?_ ?_) λ y15 h4=>(Wj ?_))))) (Wy (QgH ?_) λ y16 h5=>(WT λ y17=>(Wy (QjT ?_) λ y18 h6=>(Wp (Wj ?_) (Wy (Qkg ?_ ?_ ?_) λ y19 h7=>(Wy (Qiz ?_) λ y20 h8=>(Wy (QgM ?_ ?_ ?_) λ y21 h9=>(Ua (Ua (Wj ?_)))))))))))))))))))))))))
 all_goals simp_all (maxDischargeDepth:=9)
theorem QgZ {N a1} (ka1:(tL tU) a1):∀ n v1 v2 v3 v4 v5 v6 v7 v8 v9 v10 v11 v12 v13 v14 v15 v16 v17 v18,(tL tU) v4->(tL tU) v8->(tL tU) v10->(tL tU) v18->PT (Qbs N a1 n v1 v2 v3 v4 v5 v6 v7 v8 v9 v10 v11 v12 v13 v14 v15 v16 v17 v18) (tE (λ r=>XV r.1/\(tL tU) r.2.1) (λ r=>(tL tU) r.2.2.1/\(tL tU) r.2.2.2.2.2.2.1/\(tL tU) r.2.2.2.2.2.2.2.2.1/\(tL tU) r.2.2.2.2.2.2.2.2.2.2.2.2.2.2.2.2))
 | 0,_,_,_,_,_,_,_,_,_,_,_,_,_,_,_,_,_,_,_,_,_,_=>by rw[Qbs];exact Ow
 | n+1,v1,v2,v3,v4,v5,v6,v7,v8,v9,v10,v11,v12,v13,v14,v15,v16,v17,v18,kv4,kv8,kv10,kv18=>by
  have ih:=QgZ (N:=N) (a1:=a1) ka1 n
  rw[Qbs]
  refine (Wp (PT.get (T:=tU) ?_ λ p19 h1=>(Wy (Qhh ?_ ?_) λ y20 h2=>(Wp (Wj ?_) (Ua (ih _ _ _ _ _ _ _ _ _ _ _ _ _ _ _ _ _ _ ?_ ?_ ?_ ?_))))) (Wj ?_))
  all_goals (clear ih;simp_all (maxDischargeDepth:=9))
theorem Qif {N a1 n v1 v2 v3 v4 v5 v6 v7 v8 v9 v10 v11 v12 v13 v14 v15 v16 v17 v18} (ka1:(tL tU) a1) (kv4:(tL tU) v4) (kv8:(tL tU) v8) (kv10:(tL tU) v10) (kv18:(tL tU) v18):PT (Qbs N a1 n v1 v2 v3 v4 v5 v6 v7 v8 v9 v10 v11 v12 v13 v14 v15 v16 v17 v18) (tE (λ r=>XV r.1/\(tL tU) r.2.1) (λ r=>(tL tU) r.2.2.1/\(tL tU) r.2.2.2.2.2.2.1/\(tL tU) r.2.2.2.2.2.2.2.2.1/\(tL tU) r.2.2.2.2.2.2.2.2.2.2.2.2.2.2.2.2)):=QgZ ka1 n _ _ _ _ _ _ _ _ _ _ _ _ _ _ _ _ _ _ kv4 kv8 kv10 kv18
theorem QjU {N a0 a1} (ka0:XV a0) (ka1:(tL tU) a1):PT (QeO N a0 a1) (λ r=>XV r.1/\(tL tU) r.2.1):=by
 rw[QeO]
 refine (OQ (Qif ?_ ?_ ?_ ?_ ?_) (λ r h1=>(Wj ?_)) λ y21 h2=>(Wj ?_))
 all_goals simp_all (maxDischargeDepth:=9)
theorem Qh2 {N a0 a1} (ka0:XV a0) (ka1:tU a1):PT (Qfb N a0 a1) Y3:=by
 rw[Qfb]
 refine (Wy (QeB ?_ ?_) λ y1 h1=>(Wy (QgH ?_) λ y2 h2=>(Wj ?_)))
 all_goals simp_all (maxDischargeDepth:=9)
theorem Qhi {N p1 y3} (kp1:tU p1):∀ n v4 v5 v6 v7 v8 v9 v10 v11 v12 v13 v14 v15 v16 v17 v18 v19 v20,(tL tU) v7->(tL tU) v11->(tL tU) v13->PT (QbK N p1 y3 n v4 v5 v6 v7 v8 v9 v10 v11 v12 v13 v14 v15 v16 v17 v18 v19 v20) (tE (λ r=>XV r.1) (λ r=>(tL tU) r.2.2.1/\(tL tU) r.2.2.2.2.2.2.1/\(tL tU) r.2.2.2.2.2.2.2.2.1))
 | 0,_,_,_,_,_,_,_,_,_,_,_,_,_,_,_,_,_,_,_,_=>by rw[QbK];exact Ow
 | n+1,v4,v5,v6,v7,v8,v9,v10,v11,v12,v13,v14,v15,v16,v17,v18,v19,v20,kv7,kv11,kv13=>by
  have ih:=Qhi (N:=N) (p1:=p1) (y3:=y3) kp1 n
  rw[QbK]
  refine (Wp (WT λ p21=>(Wy (QeB ?_ ?_) λ y22 h1=>(Wy (Qhh ?_ ?_) λ y23 h2=>(Wp (Wj ?_) (Wy (QgM ?_ ?_ ?_) λ y24 h3=>(ih _ _ _ _ _ _ _ _ _ _ _ _ _ _ _ _ _ ?_ ?_ ?_)))))) (Wj ?_))
  all_goals (clear ih;simp_all (maxDischargeDepth:=9))
theorem QiA {N p1 y3 n v4 v5 v6 v7 v8 v9 v10 v11 v12 v13 v14 v15 v16 v17 v18 v19 v20} (kp1:tU p1) (kv7:(tL tU) v7) (kv11:(tL tU) v11) (kv13:(tL tU) v13):PT (QbK N p1 y3 n v4 v5 v6 v7 v8 v9 v10 v11 v12 v13 v14 v15 v16 v17 v18 v19 v20) (tE (λ r=>XV r.1) (λ r=>(tL tU) r.2.2.1/\(tL tU) r.2.2.2.2.2.2.1/\(tL tU) r.2.2.2.2.2.2.2.2.1)):=Qhi kp1 n _ _ _ _ _ _ _ _ _ _ _ _ _ _ _ _ _ kv7 kv11 kv13
theorem Qkh {N a0} (ka0:XV a0):PT (Qfj N a0) (λ r=>XV r.1):=by
 rw[Qfj]
 refine (Wp (Wj ?_) (PT.get (T:=tU) ?_ λ p1 h1=>(Wy (Qh2 ?_ ?_) λ y2 h2=>(WT λ y3=>(OQ (QiA ?_ ?_ ?_ ?_) (λ r h3=>(Wj ?_)) λ y25 h4=>(Wj ?_))))))
 all_goals simp_all (maxDischargeDepth:=9)
theorem Qhx {N}:∀ n v1 v2 v3 v4 v5 v6 v7 v8 v9 v10 v11 v12 v13 v14 v15 v16,(tL tU) v3->(tL tU) v7->(tL tU) v9->PT (Qb2 N n v1 v2 v3 v4 v5 v6 v7 v8 v9 v10 v11 v12 v13 v14 v15 v16) (λ r=>XV r.1)
 | 0,_,_,_,_,_,_,_,_,_,_,_,_,_,_,_,_,_,_,_=>by rw[Qb2];exact Ow
 | n+1,v1,v2,v3,v4,v5,v6,v7,v8,v9,v10,v11,v12,v13,v14,v15,v16,kv3,kv7,kv9=>by
  have ih:=Qhx (N:=N) n
  rw[Qb2]
  refine (Wy (Qkh ?_) λ y17 h1=>(Wp (Wj ?_) (Wp (Wj ?_) (ih _ _ _ _ _ _ _ _ _ _ _ _ _ _ _ _ ?_ ?_ ?_))))
  all_goals (clear ih;simp_all (maxDischargeDepth:=9))
theorem Qjg {N n v1 v2 v3 v4 v5 v6 v7 v8 v9 v10 v11 v12 v13 v14 v15 v16} (kv3:(tL tU) v3) (kv7:(tL tU) v7) (kv9:(tL tU) v9):PT (Qb2 N n v1 v2 v3 v4 v5 v6 v7 v8 v9 v10 v11 v12 v13 v14 v15 v16) (λ r=>XV r.1):=Qhx n _ _ _ _ _ _ _ _ _ _ _ _ _ _ _ _ kv3 kv7 kv9
theorem Qkv {N a0} (ka0:XV a0):PT (QfX N a0) (λ r=>XV r.1):=by
 rw[QfX]
 refine (Wy (Qjg ?_ ?_ ?_) λ r h1=>(Wj ?_))
 all_goals simp_all (maxDischargeDepth:=9)
theorem QjV {N a0 a1} (ka0:XV a0) (ka1:tU a1):PT (QeP N a0 a1) tU:=by
 rw[QeP]
 refine (WT λ y1=>(Wp (Wj ?_) (Wy (QeB ?_ ?_) λ y2 h1=>(Wy (Qhw ?_) λ y3 h2=>(Wj ?_)))))
 all_goals simp_all (maxDischargeDepth:=9)
theorem Qhj {N a0 v4 p5 v1 v2} (ka0:XV a0):∀ n v7 v8,(tL tU) v8->PT (QbL N a0 v4 p5 v1 v2 n v7 v8) (tL tU)
 | 0,_,_,_=>by rw[QbL];exact Ow
 | n+1,v7,v8,kv8=>by
  have ih:=Qhj (N:=N) (a0:=a0) (v4:=v4) (p5:=p5) (v1:=v1) (v2:=v2) ka0 n
  rw[QbL]
  refine (Wp (PT.get (T:=tU) ?_ λ p9 h1=>(ih _ _ ?_)) (Wj ?_))
  all_goals (clear ih;simp_all (maxDischargeDepth:=9))
theorem QiB {N a0 v4 p5 v1 v2 n v7 v8} (ka0:XV a0) (kv8:(tL tU) v8):PT (QbL N a0 v4 p5 v1 v2 n v7 v8) (tL tU):=Qhj ka0 n _ _ kv8
theorem Qhk {N a0} (ka0:XV a0):∀ n v1 v2 v3 v4,(tL tU) v3->PT (Qa9 N a0 n v1 v2 v3 v4) (λ r=>(tL tU) r.2.1)
 | 0,_,_,_,_,_=>by rw[Qa9];exact Ow
 | n+1,v1,v2,v3,v4,kv3=>by
  have ih:=Qhk (N:=N) (a0:=a0) ka0 n
  rw[Qa9]
  refine (Ua (Wp (WT λ p5=>(Wp (ih _ _ _ _ ?_) (Wp (ih _ _ _ _ ?_) (WT λ p6=>(Wy (QiB ?_ ?_) λ y10 h1=>(ih _ _ _ _ ?_)))))) (Wj ?_)))
  all_goals (clear ih;simp_all (maxDischargeDepth:=9))
theorem QiC {N a0 n v1 v2 v3 v4} (ka0:XV a0) (kv3:(tL tU) v3):PT (Qa9 N a0 n v1 v2 v3 v4) (λ r=>(tL tU) r.2.1):=Qhk ka0 n _ _ _ _ kv3
theorem Qki {N a0} (ka0:XV a0):PT (Qfk N a0) XV:=by
 rw[Qfk]
 refine (Ua (Ua (Wy (QiC ?_ ?_) λ y11 h1=>(Wj ?_))))
 all_goals simp_all (maxDischargeDepth:=9)
theorem Qhl {N a0} (ka0:XV a0):∀ n v1 v2 v3,(tL tU) v2->PT (QaT N a0 n v1 v2 v3) (λ r=>(tL tU) r.1)
 | 0,_,_,_,_=>by rw[QaT];exact Ow
 | n+1,v1,v2,v3,kv2=>by
  have ih:=Qhl (N:=N) (a0:=a0) ka0 n
  rw[QaT]
  refine (Wp (PT.get (T:=tU) ?_ λ p4 h1=>(WT λ y5=>(WT λ y6=>(Wp (ih _ _ _ ?_) (PT.get (T:=tU) ?_ λ p7 h2=>(WT λ y8=>(Wp (ih _ _ _ ?_) (PT.get (T:=tU) ?_ λ p9 h3=>(Wy (Qh2 ?_ ?_) λ y10 h4=>(Wy (QgG ?_) λ y11 h5=>(PT.get (T:=tU) ?_ λ p12 h6=>(Ua (Ua (Wy (Qgg ?_ ?_ ?_) λ y13 h7=>(ih _ _ _ ?_))))))))))))))) (Wj ?_))
  all_goals (clear ih;simp_all (maxDischargeDepth:=9))
theorem QiD {N a0 n v1 v2 v3} (ka0:XV a0) (kv2:(tL tU) v2):PT (QaT N a0 n v1 v2 v3) (λ r=>(tL tU) r.1):=Qhl ka0 n _ _ _ kv2
theorem Qkj {N a0} (ka0:XV a0):PT (Qfl N a0) XV:=by
 rw[Qfl]
 refine (Wy (QiD ?_ ?_) λ y14 h1=>(Wj ?_))
 all_goals simp_all (maxDischargeDepth:=9)
theorem QgK {N a2 y5 y6} (ka2:(tL tU) a2) (ky5:(λ r=>XV r.1/\(tL tU) r.2.1) y5) (ky6:(λ r=>XV r.1) y6):∀ n v7 v8 v9,(tL tU) v9->PT (QaZ N a2 y5 y6 n v7 v8 v9) (λ r=>(tL tU) r.2)
 | 0,_,_,_,_=>by rw[QaZ];exact Ow
 | n+1,v7,v8,v9,kv9=>by
  have ih:=QgK (N:=N) (a2:=a2) (y5:=y5) (y6:=y6) ka2 ky5 ky6 n
  rw[QaZ]
  refine (Wp (PT.get (T:=tU) ?_ λ p10 h1=>(Ij (Q:=λ k=>∀ x14 x15,tU x14->PT (k x14 x15) _) (λ x14 x15 h2=>(Ua (ih _ _ _ ?_))) λ j3 hj3=>(Wp (PT.get (T:=tU) ?_ λ p11 h3=>(Wy (QjV ?_ ?_) λ y12 h4=>(Ij (Q:=λ k=>∀ x13,PT (k x13) _) (λ x13=>(hj3 _ _ ?_)) λ j2 hj2=>(Wp (hj2 _) (hj2 _))))) (hj3 _ _ ?_)))) (Wj ?_))
  all_goals (clear ih;simp_all (maxDischargeDepth:=9))
theorem QhQ {N a2 y5 y6 n v7 v8 v9} (ka2:(tL tU) a2) (ky5:(λ r=>XV r.1/\(tL tU) r.2.1) y5) (ky6:(λ r=>XV r.1) y6) (kv9:(tL tU) v9):PT (QaZ N a2 y5 y6 n v7 v8 v9) (λ r=>(tL tU) r.2):=QgK ka2 ky5 ky6 n _ _ _ kv9
theorem QiE {N a0 a1 a2} (ka0:XU a0) (ka1:(tL tU) a1) (ka2:(tL tU) a2):PT (Qdv N a0 a1 a2) (λ r=>XU r.1/\(tL tU) r.2.1/\(tL tU) r.2.2.1):=by
 rw[Qdv]
 refine (WT λ y1=>(Wp (Wj ?_) (Ij (Q:=λ k=>∀ _,PT (k ()) _) (λ _=>(Wj ?_)) λ j1 hj1=>(WT λ y2=>(Wp (hj1 ()) (WT λ y3=>(Wp (hj1 ()) (Wy (QjS ?_) λ y4 h1=>(Wy (QjU ?_ ?_) λ y5 h2=>(Wp (Wj ?_) (Wy (Qkv ?_) λ y6 h3=>(Wp (Wj ?_) (Wy (QhQ ?_ ?_ ?_ ?_) λ y16 h4=>(Wy (Qkj ?_) λ y17 h5=>(Wy (Qki ?_) λ y18 h6=>(Ij (Q:=λ k=>∀ x20,PT (k x20) _) (λ x20=>(Wj ?_)) λ j4 hj4=>(Wp (WT λ p19=>(hj4 _)) (hj4 _))))))))))))))))))
 all_goals simp_all (maxDischargeDepth:=9)
theorem QgU {N a0} (ka0:Yj a0):∀ n v3 v4,(tL tU) v4->PT (Qbe N a0 n v3 v4) (tL tU)
 | 0,_,_,_=>by rw[Qbe];exact Ow
 | n+1,v3,v4,kv4=>by
  have ih:=QgU (N:=N) (a0:=a0) ka0 n
  rw[Qbe]
  refine (Wp (PT.get (T:=Zf) ?_ λ p5 h1=>(Ua (ih _ _ ?_))) (Wj ?_))
  all_goals (clear ih;simp_all (maxDischargeDepth:=9))
theorem Qh3 {N a0 n v3 v4} (ka0:Yj a0) (kv4:(tL tU) v4):PT (Qbe N a0 n v3 v4) (tL tU):=QgU ka0 n _ _ kv4
theorem Qjh {N a0} (ka0:Yj a0):PT (Qep N a0) (tL tU):=by
 rw[Qep]
 refine (Ua (Wy (QgV ?_) λ y1 h1=>(Ua (Wy (QfE ?_) λ y2 h2=>(Ua (Wy (Qh3 ?_ ?_) λ y6 h3=>(Wj ?_)))))))
 all_goals simp_all (maxDischargeDepth:=9)
theorem Qhm {N a0 a1} (ka0:XJ a0) (ka1:(tL tU) a1):∀ n v3 v4 v5,(tL Yk) v5->PT (Qbl N a0 a1 n v3 v4 v5) (tE (λ r=>XJ r.1) (tL Yk))
 | 0,_,_,_,_=>by rw[Qbl];exact Ow
 | n+1,v3,v4,v5,kv5=>by
  have ih:=Qhm (N:=N) (a0:=a0) (a1:=a1) ka0 ka1 n
  rw[Qbl]
  refine (Ua (Wp (PT.get (T:=Yk) ?_ λ p6 h1=>(Wp (ih _ _ _ ?_) (PT.get (T:=tU) ?_ λ p7 h2=>(Wp (Wj ?_) (PT.get (T:=tU) ?_ λ p8 h3=>(PT.get (T:=Yk) ?_ λ p9 h4=>(ih _ _ _ ?_))))))) (Wj ?_)))
  all_goals (clear ih;simp_all (maxDischargeDepth:=9))
theorem QiF {N a0 a1 n v3 v4 v5} (ka0:XJ a0) (ka1:(tL tU) a1) (kv5:(tL Yk) v5):PT (Qbl N a0 a1 n v3 v4 v5) (tE (λ r=>XJ r.1) (tL Yk)):=Qhm ka0 ka1 n _ _ _ kv5
theorem Qkk {N a0 a1} (ka0:XJ a0) (ka1:(tL tU) a1):PT (Qfm N a0 a1) (λ r=>XJ r.1):=by
 rw[Qfm]
 refine (WT λ y1=>(Wp (Wj ?_) (Wy (QgV ?_) λ y2 h1=>(Wp (Wj ?_) (Ua (OQ (QiF ?_ ?_ ?_) (λ r h2=>(Wj ?_)) λ y10 h3=>(Wj ?_)))))))
 all_goals simp_all (maxDischargeDepth:=9)
theorem QgL {N a0 y4 y5 y6 y7 y8 y9} (ka0:Yj a0) (ky4:(λ r=>XU r.1/\(tL tU) r.2.1/\(tL tU) r.2.2.1) y4) (ky5:(tL tU) y5) (ky6:(tL tU) y6) (ky7:(λ r=>XJ r.1) y7) (ky8:(λ r=>X2 r.1) y8) (ky9:(λ r=>X2 r.1) y9):∀ n v10 v11,(tL Zf) v11->PT (Qa0 N a0 y4 y5 y6 y7 y8 y9 n v10 v11) (tL Zf)
 | 0,_,_,_=>by rw[Qa0];exact Ow
 | n+1,v10,v11,kv11=>by
  have ih:=QgL (N:=N) (a0:=a0) (y4:=y4) (y5:=y5) (y6:=y6) (y7:=y7) (y8:=y8) (y9:=y9) ka0 ky4 ky5 ky6 ky7 ky8 ky9 n
  rw[Qa0]
  refine (Wp (PT.get (T:=tU) ?_ λ p12 h1=>(PT.get (T:=Zf) ?_ λ p13 h2=>(Ua (ih _ _ ?_)))) (Wj ?_))
  all_goals (clear ih;simp_all (maxDischargeDepth:=9))
theorem QhR {N a0 y4 y5 y6 y7 y8 y9 n v10 v11} (ka0:Yj a0) (ky4:(λ r=>XU r.1/\(tL tU) r.2.1/\(tL tU) r.2.2.1) y4) (ky5:(tL tU) y5) (ky6:(tL tU) y6) (ky7:(λ r=>XJ r.1) y7) (ky8:(λ r=>X2 r.1) y8) (ky9:(λ r=>X2 r.1) y9) (kv11:(tL Zf) v11):PT (Qa0 N a0 y4 y5 y6 y7 y8 y9 n v10 v11) (tL Zf):=QgL ka0 ky4 ky5 ky6 ky7 ky8 ky9 n _ _ kv11
theorem Qhn {N a0} (ka0:Yj a0):PT (QcD N a0) (λ r=>Yj r.1):=by
 rw[QcD]
 refine (WT λ y1=>(Wp (Wj ?_) (Wy (Qjh ?_) λ y2 h1=>(Wy (QfE ?_) λ y3 h2=>(Wy (QiE ?_ ?_ ?_) λ y4 h3=>(Wp (Wj ?_) (Wy (QgV ?_) λ y5 h4=>(Wy (QfE ?_) λ y6 h5=>(Ua (Ua (Ua (Ua (Wy (Qkk ?_ ?_) λ y7 h6=>(Ua (Wy (QgW ?_ ?_) λ y8 h7=>(Wy (QgW ?_ ?_) λ y9 h8=>(Wy (QhR ?_ ?_ ?_ ?_ ?_ ?_ ?_ ?_) λ y14 h9=>(Wj ?_))))))))))))))))))
 all_goals simp_all (maxDischargeDepth:=9)
theorem Qag {N a0}:PT (Qae N a0) (λ r=>Yj r.1/\tU r.2.1):=by
 rw[Qae]
 refine (Wj ?_)
 all_goals simp_all (maxDischargeDepth:=9)
theorem QjW {N a0 a1} (ka0:XU a0):PT (QeQ N a0 a1) (λ r=>XU r.1/\tU r.2.1):=by
 rw[QeQ]
 refine (Ua (WT λ y1=>(WT λ y2=>(Ij (Q:=λ k=>∀ _,PT (k ()) _) (λ _=>(WT λ y5=>(Wp (Wj ?_) (Wp (Wj ?_) (WT λ y6=>(WT λ p11=>(WT λ p12=>(WT λ p13=>(Wj ?_))))))))) λ j1 hj1=>(Wp (hj1 ()) (WT λ p3=>(Wp (hj1 ()) (WT λ p4=>(Wp (hj1 ()) (Wp (hj1 ()) (WT λ p14=>(WT λ p15=>(WT λ p16=>(Wj ?_))))))))))))))
 all_goals simp_all (maxDischargeDepth:=9)
theorem QjX {N a0 a1 a2} (ka0:XU a0):PT (QeR N a0 a1 a2) (λ r=>XU r.1/\tU r.2.1):=by
 rw[QeR]
 refine (WT λ y1=>(Wp (Wj ?_) (WT λ y2=>(WT λ y3=>(Wp (Wj ?_) (WT λ y4=>(Wj ?_)))))))
 all_goals simp_all (maxDischargeDepth:=9)
theorem Qkl {N a0 a1 a2} (ka0:XU a0) (ka1:tU a1) (ka2:Y3 a2):PT (Qfn N a0 a1 a2) (λ r=>XU r.1):=by
 rw[Qfn]
 refine (Wy (QgG ?_) λ y1 h1=>(WT λ y2=>(Wp (Wj ?_) (Wp (Wj ?_) (Ua (Ua (Wy (Qgg ?_ ?_ ?_) λ y3 h2=>(Wp (Wj ?_) (Wj ?_)))))))))
 all_goals simp_all (maxDischargeDepth:=9)
theorem Qh4 {N a0 a1} (ka0:XU a0) (ka1:Y3 a1):PT (Qfc N a0 a1) (λ r=>XU r.1/\tU r.2.1):=by
 rw[Qfc]
 refine (WT λ y1=>(Wp (Wj ?_) (WT λ y2=>(Wp (Wj ?_) (WT λ y3=>(WT λ y4=>(Wy (QjW ?_) λ y5 h1=>(Ij (Q:=λ k=>∀ x7 x8 x9 x10 x11 x12 x13 x14,tU x7->(tL tU) x11->PT (k x7 x8 x9 x10 x11 x12 x13 x14) _) (λ x7 x8 x9 x10 x11 x12 x13 x14 h2 h3=>(Wp (Wj ?_) (Wy (Qkl ?_ ?_ ?_) λ y15 h4=>(Wj ?_)))) λ j1 hj1=>(Wp (Wy (QjX ?_) λ y6 h5=>(hj1 _ _ _ _ _ _ _ _ ?_ ?_)) (hj1 _ _ _ _ _ _ _ _ ?_ ?_))))))))))
 all_goals simp_all (maxDischargeDepth:=9)
theorem QjY {N a0 a1} (ka0:Yj a0) (ka1:Y3 a1):PT (QeS N a0 a1) (λ r=>Yj r.1/\tU r.2.1):=by
 rw[QeS]
 refine (WT λ y1=>(Wp (Wj ?_) (Wy (Qh4 ?_ ?_) λ y2 h1=>(Ij (Q:=λ k=>∀ x5 x6 x7 x8 x9 x10 x11 x12 x13 x14 x15 x16 x17 x18 x19 x20 x21 x22 x23 x24 x25,tU x5->(tL tU) x9->(tL Yk) x13->(tL XF) x16->(tL XF) x17->(tL Zf) x18->(tL tU) x19->(tL tU) x22->PT (k x5 x6 x7 x8 x9 x10 x11 x12 x13 x14 x15 x16 x17 x18 x19 x20 x21 x22 x23 x24 x25) _) (λ x5 x6 x7 x8 x9 x10 x11 x12 x13 x14 x15 x16 x17 x18 x19 x20 x21 x22 x23 x24 x25 h2 h3 h4 h5 h6 h7 h8 h9=>(Wp (Wj ?_) (Wj ?_))) λ j1 hj1=>(Wp (Wy (Qhn ?_) λ y3 h10=>(Wp (Wj ?_) (Wy (Qh4 ?_ ?_) λ y4 h11=>(hj1 _ _ _ _ _ _ _ _ _ _ _ _ _ _ _ _ _ _ _ _ _ ?_ ?_ ?_ ?_ ?_ ?_ ?_ ?_)))) (hj1 _ _ _ _ _ _ _ _ _ _ _ _ _ _ _ _ _ _ _ _ _ ?_ ?_ ?_ ?_ ?_ ?_ ?_ ?_))))))
 all_goals simp_all (maxDischargeDepth:=9)
theorem Qgh {N a0 a1} (ka0:Yj a0) (ka1:tU a1):PT (Qcl N a0 a1) (λ r=>Yj r.1/\tU r.2.1):=by
 rw[Qcl]
 refine (Wp (Wj ?_) (Wy (Qhc ?_ ?_) λ y1 h1=>(Wp (Wy (Qag) λ y2 h2=>(Wj ?_)) (Wy (QfP) λ y3 h3=>(Wj ?_)))))
 all_goals simp_all (maxDischargeDepth:=9)
theorem Qji {N a0 a1 a2 a3} (ka0:Yj a0) (ka2:tU a2) (ka3:tU a3):PT (Qeq N a0 a1 a2 a3) (λ r=>Yj r.1/\tU r.2.1):=by
 rw[Qeq]
 refine (Wp (Wy (Qag) λ y1 h1=>(Wj ?_)) (Wy (QhE ?_ ?_) λ y2 h2=>(Ij (Q:=λ k=>∀ _,PT (k ()) _) (λ _=>(Wy (Qag) λ y4 h3=>(Wj ?_))) λ j1 hj1=>(Wp (hj1 ()) (WT λ y3=>(Wp (hj1 ()) (Wy (Qhc ?_ ?_) λ y5 h4=>(Wp (Wy (Qag) λ y6 h5=>(Wj ?_)) (Wy (QjY ?_ ?_) λ y7 h6=>(Wp (Wy (Qag) λ y8 h7=>(Wj ?_)) (Wy (Qgh ?_ ?_) λ y9 h8=>(Wj ?_))))))))))))
 all_goals simp_all (maxDischargeDepth:=9)
theorem Qca {N a0 a1} (ka0:Yj a0) (ka1:tU a1):PT (QaU N a0 a1) (λ r=>tU r.1):=by
 rw[QaU]
 refine (WT λ y1=>(Wp (Wj ?_) (Wp (Wj ?_) (WT λ y2=>(Wp (Wj ?_) (Wp (Wy (Qhd ?_) λ y3 h1=>(Wj ?_)) (Wp (Wy (Qf4 ?_) λ y4 h2=>(Wj ?_)) (Wy (Qf4 ?_) λ y5 h3=>(Wj ?_)))))))))
 all_goals simp_all (maxDischargeDepth:=9)
theorem Qgi {N a0 a1} (ka0:Yj a0) (ka1:tU a1):PT (Qcm N a0 a1) (λ r=>tU r.1):=by
 rw[Qcm]
 refine (Wy (Qca ?_ ?_) λ y1 h1=>(Wp (Wp (Wj ?_) (Wj ?_)) (Wj ?_)))
 all_goals simp_all (maxDischargeDepth:=9)
theorem QhF {N a0 a1 a2 a3} (ka0:Yj a0) (ka1:tU a1) (ka2:tU a2):PT (QdX N a0 a1 a2 a3) (λ r=>tU r.1):=by
 rw[QdX]
 refine (Wy (Qgi ?_ ?_) λ y1 h1=>(Wp (Wj ?_) (Wy (Qhg ?_ ?_) λ y2 h2=>(Wp (Wj ?_) (WT λ y3=>(Wp (Wj ?_) (Wj ?_)))))))
 all_goals simp_all (maxDischargeDepth:=9)
theorem QhG {N a0 a1 a2} (ka0:XU a0) (ka1:tU a1):PT (QdY N a0 a1 a2) (λ r=>tU r.1):=by
 rw[QdY]
 refine (Wy (Qhg ?_ ?_) λ y1 h1=>(Wp (Wj ?_) (Wp (Wj ?_) (Wp (Wj ?_) (Wy (QeB ?_ ?_) λ y2 h2=>(Wj ?_))))))
 all_goals simp_all (maxDischargeDepth:=9)
theorem Qig {N a0 a1 a2 a3} (ka0:XU a0) (ka1:tU a1) (ka3:tU a3):PT (Qcg N a0 a1 a2 a3) (λ r=>XU r.1):=by
 rw[Qcg]
 refine (Wy (QhG ?_ ?_) λ y1 h1=>(Wp (Wj ?_) (Wy (QgM ?_ ?_ ?_) λ y2 h2=>(Wj ?_))))
 all_goals simp_all (maxDischargeDepth:=9)
theorem QjZ {N a0 a1 a2 a3 a4} (ka0:Yj a0) (ka2:tU a2) (ka3:tU a3) (ka4:tU a4):PT (QeT N a0 a1 a2 a3 a4) (λ r=>Yj r.1/\tU r.2.1):=by
 rw[QeT]
 refine (Ij (Q:=λ k=>∀ x3 x4 x5,tU x3->PT (k x3 x4 x5) _) (λ x3 x4 x5 h1=>(Wp (Wy (Qag) λ y6 h2=>(Wj ?_)) (Wy (QhG ?_ ?_) λ y7 h3=>(Wp (Wj ?_) (Wp (Wy (Qgh ?_ ?_) λ y8 h4=>(Wj ?_)) (Ij (Q:=λ k=>∀ x11,tU x11->PT (k x11) _) (λ x11 h5=>(Wy (Qig ?_ ?_ ?_) λ y12 h6=>(Wj ?_))) λ j2 hj2=>(Wp (Wy (Qca ?_ ?_) λ y9 h7=>(Wp (Wy (Qag) λ y10 h8=>(Wj ?_)) (hj2 _ ?_))) (hj2 _ ?_)))))))) λ j1 hj1=>(Wp (Wy (QhF ?_ ?_ ?_) λ y1 h9=>(hj1 _ _ _ ?_)) (Wy (QhF ?_ ?_ ?_) λ y2 h10=>(hj1 _ _ _ ?_))))
 all_goals simp_all (maxDischargeDepth:=9)
theorem Qj0 {N a0 a1 a2 a3} (ka0:Yj a0) (ka2:tU a2) (ka3:tU a3):PT (QeU N a0 a1 a2 a3) (λ r=>Yj r.1/\tU r.2.1):=by
 rw[QeU]
 refine (Ij (Q:=λ k=>∀ x1,PT (k x1) _) (λ x1=>(Wp (Wy (Qgi ?_ ?_) λ y2 h1=>(Wp (Wy (Qag) λ y3 h2=>(Wj ?_)) (Wy (Qhg ?_ ?_) λ y4 h3=>(Wp (Wj ?_) (Wj ?_))))) (Wp (Wy (Qca ?_ ?_) λ y5 h4=>(Wp (Wy (Qag) λ y6 h5=>(Wj ?_)) (Wy (Qca ?_ ?_) λ y7 h6=>(Wp (Wy (Qag) λ y8 h7=>(Wj ?_)) (Wp (Wj ?_) (Wj ?_)))))) (Wy (Qca ?_ ?_) λ y9 h8=>(Wp (Wy (Qag) λ y10 h9=>(Wj ?_)) (Wy (Qgh ?_ ?_) λ y11 h10=>(Wj ?_))))))) λ j1 hj1=>(Wp (hj1 _) (hj1 _)))
 all_goals simp_all (maxDischargeDepth:=9)
theorem QiG {N a0 a1 a2} (ka0:Yj a0) (ka2:tU a2):PT (Qdw N a0 a1 a2) (λ r=>Yj r.1/\tU r.2.1):=by
 rw[Qdw]
 refine (Wy (Qgi ?_ ?_) λ y1 h1=>(Wp (Wy (Qag) λ y2 h2=>(Wj ?_)) (Ij (Q:=λ k=>∀ x3 x4,(tL XF) x4->PT (k x3 x4) _) (λ x3 x4 h3=>(Wy (Qhe ?_ ?_) λ y5 h4=>(Wp (Wy (Qag) λ y6 h5=>(Wj ?_)) (Ij (Q:=λ k=>∀ x7 x8,(tL XF) x7->(tL XF) x8->PT (k x7 x8) _) (λ x7 x8 h6 h7=>(Wy (QfP) λ y9 h8=>(Wj ?_))) λ j2 hj2=>(Wp (hj2 _ _ ?_ ?_) (hj2 _ _ ?_ ?_)))))) λ j1 hj1=>(Wp (hj1 _ _ ?_) (hj1 _ _ ?_)))))
 all_goals simp_all (maxDischargeDepth:=9)
theorem Qjj {N a0 a1 a2} (ka0:Yj a0) (ka2:tU a2):PT (Qer N a0 a1 a2) (λ r=>Yj r.1/\tU r.2.1):=by
 rw[Qer]
 refine (Wp (Wy (Qag) λ y1 h1=>(Wj ?_)) (Wy (Qca ?_ ?_) λ y2 h2=>(Wp (Wy (Qag) λ y3 h3=>(Wj ?_)) (WT λ y4=>(Ij (Q:=λ k=>∀ _,PT (k ()) _) (λ _=>(Wp (Wy (Qhv ?_) λ y6 h4=>(Wj ?_)) (Wp (Wy (QfQ ?_) λ y7 h5=>(Wj ?_)) (Wy (QfQ ?_) λ y8 h6=>(Wj ?_))))) λ j2 hj2=>(Ij (Q:=λ k=>∀ _,PT (k ()) _) (λ _=>(Wy (Qag) λ y5 h7=>(Wj ?_))) λ j1 hj1=>(Wp (Wp (hj1 ()) (Wp (Wp (hj1 ()) (Wp (Wp (hj1 ()) (hj2 ())) (hj2 ()))) (Wp (Wp (hj1 ()) (hj2 ())) (hj2 ())))) (Wp (Wp (hj1 ()) (Wp (Wp (hj1 ()) (hj2 ())) (hj2 ()))) (Wp (Wp (hj1 ()) (hj2 ())) (hj2 ()))))))))))
 all_goals simp_all (maxDischargeDepth:=9)
theorem Qjk {N a0 a1 a2} (ka0:Yj a0) (ka2:tU a2):PT (Qes N a0 a1 a2) (λ r=>Yj r.1/\tU r.2.1):=by
 rw[Qes]
 refine (Wp (Wp (Wy (Qag) λ y1 h1=>(Wj ?_)) (Wy (QhL ?_) λ y2 h2=>(Wp (Wy (Qag) λ y3 h3=>(Wj ?_)) (Wj ?_)))) (Wy (Qca ?_ ?_) λ y4 h4=>(Wp (Wy (Qag) λ y5 h5=>(Wj ?_)) (Wy (QhZ ?_) λ y6 h6=>(Wp (Wy (Qag) λ y7 h7=>(Wj ?_)) (Wy (Qgh ?_ ?_) λ y8 h8=>(Wj ?_)))))))
 all_goals simp_all (maxDischargeDepth:=9)
theorem QgN {N a0 a1 a2} (ka0:XU a0) (ka1:tU a1):PT (Qcn N a0 a1 a2) XU:=by
 rw[Qcn]
 refine (Ua (WT λ y1=>(WT λ p2=>(WT λ p3=>(Wj ?_)))))
 all_goals simp_all (maxDischargeDepth:=9)
theorem QiH {N a0 a1 a2} (ka0:XU a0) (ka1:(tL Zf) a1) (ka2:tU a2):PT (Qdx N a0 a1 a2) (λ r=>XU r.1/\(tL Zf) r.2.1):=by
 rw[Qdx]
 refine (WT λ y1=>(Wp (Wj ?_) (Wp (Wj ?_) (WT λ y2=>(Wp (Wj ?_) (Ua (PT.get (T:=Zf) ?_ λ p3 h1=>(PT.get (T:=Zf) ?_ λ p4 h2=>(PT.get (T:=Zf) ?_ λ p5 h3=>(Wp (Ua (Ua (Ua (Wy (QgN ?_ ?_) λ y7 h4=>(Wj ?_))))) (Wy (QgN ?_ ?_) λ y8 h5=>(Wj ?_))))))))))))
 all_goals simp_all (maxDischargeDepth:=9)
theorem Qkw {N a0 a1 a2} (ka0:XU a0) (ka1:(tL Zf) a1) (ka2:tU a2):PT (QfY N a0 a1 a2) (λ r=>XU r.1/\(tL Zf) r.2.1/\tU r.2.2.1):=by
 rw[QfY]
 refine (WT λ y1=>(Wp (Wj ?_) (Wp (Wj ?_) (WT λ y2=>(Wp (Wj ?_) (WT λ y3=>(Ij (Q:=λ k=>∀ _,PT (k ()) _) (λ _=>(Ua (Ij (Q:=λ k=>∀ x11,(tL Zf) x11->PT (k x11) _) (λ x11 h1=>(Wy (QgN ?_ ?_) λ y12 h2=>(Wj ?_))) λ j2 hj2=>(Wp (PT.get (T:=Zf) ?_ λ p9 h3=>(PT.get (T:=Zf) ?_ λ p10 h4=>(hj2 _ ?_))) (Ua (hj2 _ ?_)))))) λ j1 hj1=>(Wp (PT.get (T:=Zf) ?_ λ p4 h5=>(Wp (Wj ?_) (Wp (Wp (Wj ?_) (WT λ y5=>(Wp (Wj ?_) (hj1 ())))) (WT λ y6=>(Wp (Wj ?_) (hj1 ())))))) (Wp (Wp (Wj ?_) (WT λ y7=>(Wp (Wj ?_) (hj1 ())))) (WT λ y8=>(Wp (Wj ?_) (hj1 ()))))))))))))
 all_goals simp_all (maxDischargeDepth:=9)
theorem Qkm {N a0 a1 a2} (ka0:Yj a0) (ka2:tU a2):PT (Qfo N a0 a1 a2) (λ r=>Yj r.1/\tU r.2.1):=by
 rw[Qfo]
 refine (Wy (Qgi ?_ ?_) λ y1 h1=>(Wp (Wy (Qag) λ y2 h2=>(Wj ?_)) (Wp (Wy (QiH ?_ ?_ ?_) λ y3 h3=>(Wp (Wy (Qag) λ y4 h4=>(Wj ?_)) (Wj ?_))) (Wy (Qkw ?_ ?_ ?_) λ y5 h5=>(Wp (Wy (Qag) λ y6 h6=>(Wj ?_)) (Wj ?_))))))
 all_goals simp_all (maxDischargeDepth:=9)
theorem Qkn {N a0 a1 a2 a3 a4} (ka0:Yj a0) (ka2:tU a2) (ka3:tU a3) (ka4:tU a4):PT (Qfp N a0 a1 a2 a3 a4) (λ r=>Yj r.1/\tU r.2.1):=by
 rw[Qfp]
 refine (WT λ y1=>(Wp (Wy (Qag) λ y2 h1=>(Wj ?_)) (Ij (Q:=λ k=>∀ x4,PT (k x4) _) (λ x4=>(Wp (Wy (Qji ?_ ?_ ?_) λ y5 h2=>(Wj ?_)) (Ij (Q:=λ k=>∀ x8,PT (k x8) _) (λ x8=>(Wp (Wy (QjZ ?_ ?_ ?_ ?_) λ y9 h3=>(Wj ?_)) (Ij (Q:=λ k=>∀ x12,PT (k x12) _) (λ x12=>(Wp (Wy (Qj0 ?_ ?_ ?_) λ y13 h4=>(Wj ?_)) (Ij (Q:=λ k=>∀ x14,PT (k x14) _) (λ x14=>(Wp (Wy (QiG ?_ ?_) λ y15 h5=>(Wj ?_)) (Ij (Q:=λ k=>∀ x17,PT (k x17) _) (λ x17=>(Wp (Wy (Qjj ?_ ?_) λ y18 h6=>(Wj ?_)) (Ij (Q:=λ k=>∀ x19,PT (k x19) _) (λ x19=>(Wp (Wy (Qjk ?_ ?_) λ y20 h7=>(Wj ?_)) (Ij (Q:=λ k=>∀ x21,PT (k x21) _) (λ x21=>(Wp (Wy (Qkm ?_ ?_) λ y22 h8=>(Wj ?_)) (Wy (Qag) λ y23 h9=>(Wj ?_)))) λ j13 hj13=>(Wp (hj13 _) (hj13 _))))) λ j12 hj12=>(Wp (hj12 _) (hj12 _))))) λ j11 hj11=>(Wp (hj11 _) (Ij (Q:=λ k=>∀ x16,PT (k x16) _) (λ x16=>(hj11 _)) λ j10 hj10=>(Wp (hj10 _) (hj10 _))))))) λ j9 hj9=>(Wp (hj9 _) (hj9 _))))) λ j8 hj8=>(Wp (hj8 _) (Ij (Q:=λ k=>∀ x11,PT (k x11) _) (λ x11=>(hj8 _)) λ j7 hj7=>(Wp (hj7 _) (Ij (Q:=λ k=>∀ x10,PT (k x10) _) (λ x10=>(hj7 _)) λ j6 hj6=>(Wp (hj6 _) (hj6 _))))))))) λ j5 hj5=>(Wp (hj5 _) (Ij (Q:=λ k=>∀ x7,PT (k x7) _) (λ x7=>(hj5 _)) λ j4 hj4=>(Wp (hj4 _) (Ij (Q:=λ k=>∀ x6,PT (k x6) _) (λ x6=>(hj4 _)) λ j3 hj3=>(Wp (hj3 _) (hj3 _))))))))) λ j2 hj2=>(Wp (hj2 _) (Ij (Q:=λ k=>∀ x3,PT (k x3) _) (λ x3=>(hj2 _)) λ j1 hj1=>(Wp (hj1 _) (hj1 _)))))))
 all_goals simp_all (maxDischargeDepth:=9)
theorem Qjl {N a0 a1} (ka0:Vy a0) (ka1:JN a1):PT (Qcv N a0 a1) (λ r=>Vy r.1/\tU r.2.1):=by
 rw[Qcv]
 refine (Wp (Wy (Qhn ?_) λ y1 h1=>(Ij (Q:=λ k=>∀ x3 x4 x5 x6 x7 x8 x9 x10 x11 x12 x13 x14 x15 x16 x17 x18 x19 x20 x21 x22 x23 x24 x25,(tL tU) x5->(tL Yk) x9->(tL XF) x12->(tL XF) x13->(tL Zf) x14->(tL tU) x15->(tL YC) x18->(tL Yk) x19->(tL XF) x22->(tL XF) x23->(tL Ze) x24->(tL tU) x25->PT (k x3 x4 x5 x6 x7 x8 x9 x10 x11 x12 x13 x14 x15 x16 x17 x18 x19 x20 x21 x22 x23 x24 x25) _) (λ x3 x4 x5 x6 x7 x8 x9 x10 x11 x12 x13 x14 x15 x16 x17 x18 x19 x20 x21 x22 x23 x24 x25 h2 h3 h4 h5 h6 h7 h8 h9 h10 h11 h12 h13=>(Wj ?_)) λ j1 hj1=>(Wp (Wy (Qhb ?_) λ y2 h14=>(hj1 _ _ _ _ _ _ _ _ _ _ _ _ _ _ _ _ _ _ _ _ _ _ _ ?_ ?_ ?_ ?_ ?_ ?_ ?_ ?_ ?_ ?_ ?_ ?_)) (hj1 _ _ _ _ _ _ _ _ _ _ _ _ _ _ _ _ _ _ _ _ _ _ _ ?_ ?_ ?_ ?_ ?_ ?_ ?_ ?_ ?_ ?_ ?_ ?_)))) (Wy (Qkn ?_ ?_ ?_ ?_) λ y26 h15=>(Wy (Qiv ?_ ?_ ?_) λ y27 h16=>(Wy (Qkd ?_ ?_ ?_ ?_ ?_) λ y28 h17=>(Ij (Q:=λ k=>∀ x29 x30 x31 x32 x33 x34 x35 x36 x37 x38,(tL YC) x31->(tL Yk) x32->(tL XF) x35->(tL XF) x36->(tL Ze) x37->(tL tU) x38->PT (k x29 x30 x31 x32 x33 x34 x35 x36 x37 x38) _) (λ x29 x30 x31 x32 x33 x34 x35 x36 x37 x38 h18 h19 h20 h21 h22 h23=>(Wp (Wp (Ua (Ua (Wj ?_))) (Wj ?_)) (Wj ?_))) λ j2 hj2=>(Wp (hj2 _ _ _ _ _ _ _ _ _ _ ?_ ?_ ?_ ?_ ?_ ?_) (hj2 _ _ _ _ _ _ _ _ _ _ ?_ ?_ ?_ ?_ ?_ ?_)))))))
 all_goals simp_all (maxDischargeDepth:=9)
theorem Qko {N a0 a1} (ka0:Xv a0):PT (Qfq N a0 a1) (λ r=>Xv r.1):=by
 rw[Qfq]
 refine (WT λ y1=>(Wp (Ua (WT λ y2=>(Ua (Wj ?_)))) (Wp (Wp (Ua (WT λ y3=>(WT λ y4=>(PT.get (T:=YC) ?_ λ p5 h1=>(Wj ?_))))) (Wj ?_)) (Wp (Ua (WT λ y6=>(WT λ y7=>(WT λ y8=>(Ua (Wj ?_)))))) (Wp (Ua (WT λ y9=>(Ua (Wj ?_)))) (Wp (WT λ y10=>(Wj ?_)) (Wp (Ua (Wj ?_)) (Wj ?_))))))))
 all_goals simp_all (maxDischargeDepth:=9)
end Go.Sx
namespace Go.Sx
def BIG:Nat:=1099511627776
theorem Xdr {ws:List Int} (hl:ws.length<=BIG) (N:Nat) (a k:Int) (hk : -1<=k/\k<=1000000000000000000):Qfg N ws a k =
 some (if 4096<=a/\a<=4096+ws.length then (a-4096,decide (a+k<=4096+ws.length)) else (0,false)):=by
 unfold BIG at hl
 simp only[Qfg,Ib]
 rw[XT (n:=(ws.length:Int)) (by omega) (by omega),XT (n:=4096+(ws.length:Int)) (by omega) (by omega)]
 by_cases h1:a<4096
 ·rw[Wn h1,Wh (by omega)]
 ·rw[Wh h1]
  by_cases h2:a>4096+ws.length
  ·rw[Wn h2,Wh (by omega)]
  ·rw[Wh h2,Wn (by omega),XT (n:=a-4096) (by omega) (by omega),Xe (n:=a-4096) (by omega) (by omega),Xe (by omega) (by omega)]
   congr 2
   exact decide_eq_decide.2 (by omega)
def inW (ws:List Int) (a:Int):Prop:=4096<=a/\a<4096+ws.length
instance (ws:List Int) (a:Int):Decidable (inW ws a):=by unfold inW;infer_instance
def ix (a:Int):Nat:=(a-4096).toNat
theorem KL {ws:List Int} (hl:ws.length<=BIG) (N:Nat) (a:Int):QbO N ws a=some (if inW ws a then (ws.getD (ix a) 0,0) else (0,2)):=by
 simp only[QbO,QgO,Xdr hl N a 1 (by omega),Xa]
 by_cases h:4096<=a/\a<=4096+ws.length
 ·simp only[Wn h]
  by_cases h2:inW ws a
  ·have h3:a+1<=4096+ws.length:=by unfold inW at h2;omega
   simp only[Wn h2,h3,decide_true,Wx,Wa,Xa]
   have h4:(a-4096).toNat<ws.length:=by unfold inW at h2;omega
   rw[show ((0:Int) != 0)=false from rfl,Wa,XM (by omega) (by unfold inW at h2;omega),Xa]
   simp[ix,List.getD,h4]
  ·have h3:¬ a+1<=4096+ws.length:=by unfold inW at h2;omega
   simp only[Wh h2,h3,decide_false,WS,We,Xa]
   rfl
 ·have h2:¬ inW ws a:=by unfold inW;omega
  simp only[Wh h,Wh h2,WS,We,Xa]
  rfl
def ovr (ws l:List Int) (i:Nat):List Int:=ws.take i++l++ws.drop (i+l.length)
theorem Kz {ws l:List Int} {i:Nat} (h:i+l.length<=ws.length):(ovr ws l i).length=ws.length:=by
 simp[ovr];omega
theorem Xds {ws l:List Int} {i:Nat} (h:i+l.length<=ws.length) (j:Nat):(ovr ws l i)[j]? = if i<=j/\j<i+l.length then l[j-i]? else ws[j]?:=by
 unfold ovr
 have hm:(ws.take i).length=i:=by simp only[WO];omega
 by_cases h1:j<i
 ·rw[Wh (by omega),UA,Ux (by omega),UF,Wn h1]
 ·by_cases h2:j<i+l.length
  ·rw[Wn (by omega),Ux (by rw[Wr];omega),US (by omega),hm]
  ·rw[Wh (by omega),US (by rw[Wr];omega),Iv,Wr,hm]
   congr 1
   omega
theorem Xei {ws l:List Int} {i:Nat} (h:i+l.length<=ws.length) (j:Nat):(ovr ws l i).getD j 0=if i<=j/\j<i+l.length then l.getD (j-i) 0 else ws.getD j 0:=by
 simp only[Wk,Xds h]
 split<;>rfl
theorem Xej {l:List Int} (y:Int×Bool) (i:Nat) (N:Nat) (ws:List Int) (hi:y.1=i) (h:i+l.length<=ws.length) (hl:ws.length<=BIG):∀ (n k:Nat) (v:List Int),k<=l.length->l.length-k<n->v=ovr ws (l.take k) i ->
 Qbr N l y n (k:Int) v=some (ovr ws l i)
 | 0,k,v,_,hn,_=>by omega
 | n+1,k,v,hk,hn,hv=>by
  unfold BIG at hl
  rw[Qbr]
  have hlt:(l.take k).length=k:=by simp;omega
  have hvl:v.length=ws.length:=by rw[hv];exact Kz (by rw[hlt];omega)
  by_cases h1:k<l.length
  ·have e1:decide ((k:Int)<((l.length:Nat):Int))=true:=by simp;omega
   have e2:wI (y.1+(k:Int))=((i+k:Nat):Int):=by rw[hi,Xe (by omega) (by omega)];simp
   have e3:wI ((k:Int)+1)=((k+1:Nat):Int):=by rw[Xe (by omega) (by omega)];simp
   rw[e1,We,XM (by omega) (by omega),Xa,e2,XM (by omega) (by omega),Xa,e3]
   refine Xej y i N ws hi h (by unfold BIG;omega) n (k+1) _ (by omega) (by omega) ?_
   rw[hv]
   simp only[WD]
   apply Og
   intro j
   have hlt2:(l.take (k+1)).length=k+1:=by simp only[WO];omega
   rw[Iq,Kz (by omega),Xds (by omega),Xds (by omega),hlt,hlt2]
   by_cases hj:i+k=j
   ·subst hj
    rw[Wn rfl,Wn (by omega),Wn (by omega),UF,Wn (by omega),I5,Wc h1]
   ·rw[Wh hj]
    by_cases hj2:i<=j/\j<i+k
    ·rw[Wn hj2,Wn (by omega),UF,UF,Wn (by omega),Wn (by omega)]
    ·rw[Wh hj2,Wh (by omega)]
  ·have e1:decide ((k:Int)<((l.length:Nat):Int))=false:=by simp;omega
   rw[e1,Wa,hv,UZ (by omega)]
def Y4 (ws:List Int) (a:Int) (k:Nat):Prop:=4096<=a/\a+k<=4096+ws.length
instance (ws:List Int) (a:Int) (k:Nat):Decidable (Y4 ws a k):=by unfold Y4;infer_instance
theorem VS {ws l:List Int} (hl:ws.length<=BIG) (h2:l.length<=BIG) {N:Nat} (hN:l.length<N) (a:Int):Qck N ws a l=some (if Y4 ws a l.length then (ovr ws l (ix a),0) else ([],2)):=by
 simp only[Qck]
 rw[Xdr hl N a _ (by unfold BIG at h2;omega),Xa]
 by_cases h:Y4 ws a l.length
 ·have h3:4096<=a/\a<=4096+ws.length:=by unfold Y4 at h;omega
  have h4:a+(l.length:Int)<=4096+ws.length:=by unfold Y4 at h;omega
  simp only[Wn h,Wn h3,h4,decide_true,Wx,Wa]
  rw[Xi (by unfold BIG at hl;omega)]
  have:=Xej (l:=l) (a-4096,true) (ix a) N ws (by unfold ix;simp;omega) (by unfold ix;omega) hl N 0 ws (by omega) (by omega) (by simp[ovr])
  rw[show ((0:Nat):Int)=0 from rfl] at this
  rw[this,Xa]
 ·by_cases h3:4096<=a/\a<=4096+ws.length
  ·have h4:¬ a+(l.length:Int)<=4096+ws.length:=by unfold Y4 at h;omega
   simp only[Wh h,Wn h3,h4,decide_false,WS,We]
  ·simp only[Wh h,Wh h3,WS,We]
theorem Xbx {ws:List Int} (hl:ws.length<=BIG) {N:Nat} (hN:1<N) (a v:Int):QcY N ws a v=some (if inW ws a then (ws.set (ix a) v,0) else ([],2)):=by
 simp only[QcY]
 rw[VS (l:=[v]) hl (by unfold BIG;simp) (by simpa using hN),Xa]
 by_cases h:inW ws a
 ·have h1:Y4 ws a [v].length:=by unfold inW at h;unfold Y4;simp only[WM,Ub];omega
  simp only[Wn h,Wn h1]
  congr 2
  unfold ovr
  have hlt:ix a<ws.length:=by unfold inW at h;unfold ix;omega
  simp[List.set_eq_take_append_cons_drop,hlt]
 ·have h1:¬ Y4 ws a [v].length:=by unfold inW at h;unfold Y4;simp only[WM,Ub];omega
  simp only[Wh h,Wh h1]
theorem Xgf {ws:List Int} (hl:ws.length<=BIG) (N:Nat) (a:Int) (k:Nat) (hk:k<=1000000000):QeE N ws a (k:Int)=some (if Y4 ws a k then ((ws.drop (ix a)).take k,0) else ([],2)):=by
 simp only[QeE]
 have e1:decide ((k:Int)<0)=false:=Wl (by omega)
 rw[e1,Wa,Xdr hl N a _ (by omega),Xa]
 unfold BIG at hl
 by_cases h:Y4 ws a k
 ·have h3:4096<=a/\a<=4096+ws.length:=by unfold Y4 at h;omega
  have h4:a+(k:Int)<=4096+ws.length:=by unfold Y4 at h;omega
  simp only[Wn h,Wn h3,h4,decide_true,Wx,Wa]
  rw[Xe (n:=a-4096+(k:Int)) (by omega) (by omega),Xi (by omega),Xi (by omega)]
  have e2:(a-4096+(k:Int)).toNat-(a-4096).toNat=k:=by omega
  rw[e2];rfl
 ·by_cases h3:4096<=a/\a<=4096+ws.length
  ·have h4:¬ a+(k:Int)<=4096+ws.length:=by unfold Y4 at h;omega
   simp only[Wh h,Wn h3,h4,decide_false,WS,We]
  ·simp only[Wh h,Wh h3,WS,We]
theorem Xlf {ws:List Int} (hl:ws.length<=BIG) {N:Nat} (to a:Int) (k:Nat) (hk:k<=1000000000) (hN:k<N):Qfi N ws to a (k:Int) =
 some (if Y4 ws a k/\Y4 ws to k then (ovr ws ((ws.drop (ix a)).take k) (ix to),0) else ([],2)):=by
 simp only[Qfi]
 rw[Xgf hl N a k hk,Xa]
 by_cases h:Y4 ws a k
 ·have hlen:((ws.drop (ix a)).take k).length=k:=by unfold Y4 at h;simp[ix];omega
  simp only[Wn h]
  rw[show ((0:Int) != 0)=false from rfl,Wa,VS hl (by rw[hlen];unfold BIG;omega) (by rw[hlen];exact hN),Xa,hlen]
  by_cases h2:Y4 ws to k
  ·rw[Wn h2,Wn ⟨h,h2⟩]
  ·rw[Wh h2,Wh (λ h3=>h2 h3.2)]
 ·simp only[Wh h]
  rw[show ((2:Int) != 0)=true from rfl,We,Wh (λ h3=>h h3.1)]
end Go.Sx
namespace Go.Sx
def XW (d:WE):Bool:=decide (0<=d.Kind/\d.Kind<=3/\0<=d.Length/\d.Length<=255)&&(if d.Kind=1 then decide (d.Length<=32)&&decide (d.Map % 18446744073709551616<2 ^ d.Length.toNat) else decide (d.Map=0))
theorem ZD (N:Nat) (d:WE):Qci N d=some (XW d):=by
 simp only[Qci,Ib,XW]
 by_cases h1:d.Kind<0
 ·rw[Wn h1,Wl (by omega),UC]
 rw[Wh h1]
 by_cases h2:d.Kind>3
 ·rw[Wn h2,Wl (by omega),UC]
 rw[Wh h2]
 by_cases h3:d.Length<0
 ·rw[Wn h3,Wl (by omega),UC]
 rw[Wh h3]
 by_cases h4:d.Length>255
 ·rw[Wn h4,Wl (by omega),UC]
 rw[Wh h4,Wo (p:=0<=d.Kind/\d.Kind<=3/\0<=d.Length/\d.Length<=255) (by omega),WN]
 by_cases h5:d.Kind=1
 ·rw[Wn h5,h5,show ((1:Int) != 1)=false from rfl,Wa]
  by_cases h6:d.Length<=32
  ·rw[Wn h6,XT (n:=d.Length) (by omega) (by omega),Xi (by omega),Xjc (by omega) (by omega),Xeh,Wo h6,WN]
  ·rw[Wh h6,Wl h6,UC]
 ·have:(d.Kind != 1)=true:=by simpa using h5
  rw[Wh h5,this,We]
  congr 1
theorem Yf {d:WE} (h:XW d=true):0<=d.Kind/\d.Kind<=3/\0<=d.Length/\d.Length<=255:=by
 unfold XW at h
 simp only[WG,decide_eq_true_eq] at h
 exact h.1
def ZE (d:WE):Int:=if XW d then d.Length+1 else 0
theorem ZY (N:Nat) (d:WE):Qb5 N d=some (ZE d):=by
 simp only[Qb5,ZD,Xa,ZE]
 cases h:XW d with
 | false=>rfl
 | true=>have:=Yf h;simp[Xe (n:=d.Length+1) (by omega) (by omega)]
theorem Xjg (d:WE):0<=ZE d/\ZE d<=256:=by
 unfold ZE
 split
 ·rename_i h;have:=Yf h;omega
 ·omega
def Xek (d:WE):Int:=wU (wU (wU (1+wU (4*wU d.Kind))+wU (16*wU d.Length))+Ka .u64 (wU d.Map) 16)
theorem Xdt (N:Nat) (d:WE):Qct N d=some (if XW d then (Xek d,0) else (0,1)):=by
 simp only[Qct,ZD,Xa]
 cases h:XW d<;>rfl
def Xdu (w:Int):WE:=⟨wI (Y0 .u64 (YD .u64 w 2) 3),wI (Y0 .u64 (YD .u64 w 4) 4095),wW (YD .u64 w 16)⟩
def okH (w:Int):Bool:=XW (Xdu w)&&(Xek (Xdu w)==w)
def KA (w:Int):WE:=if okH w then Xdu w else ⟨0,0,0⟩
theorem Xa0 (N:Nat) (w:Int):QbB N w=some (KA w,okH w):=by
 show QbB N w=_
 simp only[QbB]
 rw[Xdt N (WE.mk _ _ _),Xa]
 show _=some (KA w,okH w)
 unfold KA okH Xdu
 cases h:XW (Xdu w) with
 | false=>unfold Xdu at h;simp only[h];rfl
 | true =>
  unfold Xdu at h
  simp only[h,if_true,WN]
  rw[show ((0:Int) != 0)=false from rfl,Wa]
  by_cases h2:Xek ⟨wI (Y0 .u64 (YD .u64 w 2) 3),wI (Y0 .u64 (YD .u64 w 4) 4095),wW (YD .u64 w 16)⟩=w
  ·simp[h2]
  ·rw[show (Xek ⟨wI (Y0 .u64 (YD .u64 w 2) 3),wI (Y0 .u64 (YD .u64 w 4) 4095),wW (YD .u64 w 16)⟩ != w)=true by simpa using h2,show (Xek ⟨wI (Y0 .u64 (YD .u64 w 2) 3),wI (Y0 .u64 (YD .u64 w 4) 4095),wW (YD .u64 w 16)⟩==w)=false by simpa using h2]
   rfl
theorem Xby (w:Int):XW (KA w)=true:=by
 unfold KA
 split
 ·rename_i h;unfold okH at h;simp only[WG] at h;exact h.1
 ·rfl
theorem Xhu (w:Int):ZE (KA w)=(KA w).Length+1/\1<=ZE (KA w)/\ZE (KA w)<=256:=by
 have h:=Xby w
 have:=Yf h
 unfold ZE
 rw[Wn h]
 omega
def Z5 (d:WE) (i:Int):Bool:=XW d&&(decide (0<=i/\i<d.Length)&&(decide (d.Kind=2)||(decide (d.Kind=1)&&(Y0 .u32 (YD .u32 d.Map (wU i)) 1==1))))
theorem VT (N:Nat) (d:WE) (i:Int):QbG N d i=some (Z5 d i):=by
 simp only[QbG,ZD,Xa,Z5,Ib]
 cases h:XW d with
 | false=>rfl
 | true =>
  simp only[Wx,Wa,WN]
  by_cases h1:i<0
  ·rw[Wn h1,Wl (by omega),UC]
  rw[Wh h1]
  by_cases h2:i>=d.Length
  ·rw[Wn h2,Wl (by omega),UC]
  rw[Wh h2,Wo (p:=0<=i/\i<d.Length) (by omega),WN,Xi (Xbt i).1]
  by_cases h3:d.Kind=2
  ·simp[h3]
  ·by_cases h4:d.Kind=1
   ·simp[h4]
   ·have e1:(d.Kind==2)=false:=by simpa using h3
    have e2:(d.Kind==1)=false:=by simpa using h4
    simp[e1,e2,h3,h4]
def Yl (d:WE):Nat->Int->List Int
 | 0,_=>[]
 | k+1,i=>(if Z5 d i then [i] else [])++Yl d k (i+1)
def Z8 (d:WE):List Int:=if XW d then Yl d d.Length.toNat 0 else []
theorem Jp {d:WE}:∀ {k:Nat} {i x:Int},x∈Yl d k i->i<=x/\x<i+k/\Z5 d x=true
 | 0,i,x,h=>by simp[Yl] at h
 | k+1,i,x,h=>by
  simp only[Yl,WH] at h
  rcases h with h | h
  ·split at h
   ·rename_i hp;simp at h;subst h;exact ⟨by omega,by omega,hp⟩
   ·simp at h
  ·have:=Jp h;exact ⟨by omega,by omega,this.2.2⟩
theorem VU {d:WE}:∀ {k:Nat} {i:Int},(Yl d k i).length<=k
 | 0,i=>by simp[Yl]
 | k+1,i=>by
  have:=VU (d:=d) (k:=k) (i:=i+1)
  simp only[Yl,Wr]
  split<;>simp<;>omega
theorem JO (N:Nat) (d:WE) (hv:XW d=true):∀ (n:Nat) (i:Int) (v:List Int),0<=i->i<=d.Length->(d.Length-i).toNat<n->v.length<=1000-(d.Length-i).toNat->v.length+(d.Length-i).toNat<=1000 ->
 Qbu N d n i v=some (v++Yl d (d.Length-i).toNat i)
 | 0,i,v,_,_,h,_,_=>by omega
 | n+1,i,v,h0,h1,h2,h3,h4=>by
  have hb:=Yf hv
  rw[Qbu]
  by_cases h:i<d.Length
  ·obtain ⟨k,hk⟩:∃ k,(d.Length-i).toNat=k+1:=⟨(d.Length-i).toNat-1,by omega⟩
   have hk2:(d.Length-(i+1)).toNat=k:=by omega
   rw[Wo h,We,ZD,Xa,hv,We,VT,Xa,hk,Xe (n:=i+1) (by omega) (by omega)]
   simp only[Yl]
   cases hp:Z5 d i with
   | true =>
    rw[We,Xi (by omega),JO N d hv n (i+1) _ (by omega) (by omega) (by omega) (by rw[Wr];simp only[WM,Ub];omega) (by rw[Wr];simp only[WM,Ub];omega),hk2]
    simp
   | false =>
    rw[Wa,JO N d hv n (i+1) _ (by omega) (by omega) (by omega) (by omega) (by omega),hk2]
    simp
  ·rw[Wl h,Wa,show (d.Length-i).toNat=0 by omega]
   simp[Yl]
theorem Xjh {N:Nat} (hN:300<N) (d:WE):Qe1 N d=some (Z8 d):=by
 simp only[Qe1,Z8]
 cases hv:XW d with
 | true =>
  have hb:=Yf hv
  rw[JO N d hv N 0 [] (by omega) (by omega) (by omega) (by simp only[Ub];omega) (by simp only[Ub];omega),Xa]
  simp
 | false =>
  obtain ⟨n,rfl⟩:∃ n,N=n+1:=⟨N-1,by omega⟩
  rw[Qbu,ZD,Xa,hv,Wa]
  cases h:decide ((0:Int)<d.Length)<;>simp[Xa]
def Xmj (w:Int):Bool:=decide (w.tmod 4=2)&&decide (YD .u64 w 2<4294967296)
theorem XcA (N:Nat) (w:Int):Qc4 N w=some (if Xmj w then (YD .u64 w 2,true) else (0,false)):=by
 simp only[Qc4,Xmj,Ib]
 by_cases h1:w.tmod 4=2
 ·by_cases h2:YD .u64 w 2>=4294967296
  ·have h3:¬ YD .u64 w 2<4294967296:=by omega
   simp[h1,h2,h3]
  ·have h3:YD .u64 w 2<4294967296:=by omega
   simp[h1,h2,h3]
 ·have:(w.tmod 4 != 2)=true:=by simpa using h1
  simp[this,h1]
theorem Xfr (N:Nat) (a:Int):Qdu N a=some (if a>=4294967296 then (0,1) else (wU (wU (4*a)+2),0)):=by
 simp only[Qdu,Ib]
 split<;>rfl
end Go.Sx
namespace Go.Sx
def Yq (c:Ut):Bool:=decide (16<=c.PageWords/\c.PageWords<=64/\c.PageWords % 4=0/\8<=c.Pages/\c.Pages<=64)
theorem XH {c:Ut}:Yq c=true↔16<=c.PageWords/\c.PageWords<=64/\c.PageWords % 4=0/\8<=c.Pages/\c.Pages<=64:=by simp[Yq]
theorem Zg (N:Nat) (c:Ut):Qav N c=some (Yq c):=by
 simp only[Qav,Ib,Yq]
 by_cases h1:c.PageWords>=16
 ·rw[Wn h1]
  by_cases h2:c.PageWords<=64
  ·rw[Wn h2]
   have e:c.PageWords.tmod 4=c.PageWords % 4:=Int.tmod_eq_emod_of_nonneg (by omega)
   rw[e]
   by_cases h3:c.PageWords % 4=0
   ·rw[h3,show ((0:Int)==0)=true from rfl,We]
    by_cases h4:c.Pages>=8
    ·rw[Wn h4]
     congr 1
     exact decide_eq_decide.2 (by omega)
    ·rw[Wh h4,Wl (by omega)]
   ·rw[show (c.PageWords % 4==0)=false by simpa using h3,Wa,Wl (by omega)]
  ·rw[Wh h2,Wl (by omega)]
 ·rw[Wh h1,Wl (by omega)]
def Xm7 (c:Ut):Int:=if Yq c then c.Pages / 4 else 0
theorem Xji (N:Nat) (c:Ut):QfI N c=some (Xm7 c):=by
 simp only[QfI,Zg,Xa,Xm7]
 cases h:Yq c with
 | false=>rfl
 | true =>
  have:=XH.1 h
  simp only[Wx,Wa,if_true]
  rw[ID (by omega),Xe (by omega) (by omega)]
def smC (c:Ut):Int:=if Yq c then c.PageWords / 4 else 0
theorem Xmk (N:Nat) (c:Ut):QcO N c=some (smC c):=by
 simp only[QcO,Zg,Xa,smC]
 cases h:Yq c with
 | false=>rfl
 | true =>
  have:=XH.1 h
  simp only[Wx,Wa,if_true]
  rw[ID (by omega),Xe (by omega) (by omega)]
def Zh (c:Ut) (w:Int):Int :=
 if Yq c=true/\1<=w then (if w<=c.PageWords / 4 then 0 else if c.PageWords>=w then 1 else if 2*c.PageWords>=w then 2 else if 3*c.PageWords>=w then 3 else if 4*c.PageWords>=w then 4 else -1) else -1
theorem Xa1 (N:Nat) (c:Ut) (w:Int) (hc:Yq c=true) (k:Int) (hk:1<=k/\k<=4) (n:Nat):Qb4 N c w (n+1) k=if k*c.PageWords>=w then some (.ret k) else Qb4 N c w n (k+1):=by
 have h:=XH.1 hc
 have hm:0<=k*c.PageWords/\k*c.PageWords<=256:=by
  constructor
  ·exact Int.mul_nonneg (by omega) (by omega)
  ·have:=Int.mul_le_mul (a:=k) (b:=c.PageWords) (c:=4) (d:=64) (by omega) (by omega) (by omega) (by omega)
   omega
 rw[Qb4,Wo (by omega),We,Ib,Xe (n:=k*c.PageWords) (by omega) (by omega),Xe (n:=k+1) (by omega) (by omega)]
theorem VV {N:Nat} (hN:10<=N) (c:Ut) (w:Int):QeC N c w=some (Zh c w):=by
 simp only[QeC,Zg,Xmk,Xa,Zh,smC]
 cases hc:Yq c with
 | false=>simp
 | true =>
  have h:=XH.1 hc
  simp only[Wx,Wa,if_true,Ib]
  by_cases h1:w<1
  ·rw[Wn h1,Wh (show ¬ (True/\1<=w) from λ h=>by omega)]
  rw[Wh h1,Wn (show True/\1<=w from ⟨trivial,by omega⟩)]
  by_cases h2:w<=c.PageWords / 4
  ·rw[Wn h2,Wn h2]
  rw[Wh h2,Wh h2]
  obtain ⟨n,rfl⟩:∃ n,N=n+5:=⟨N-5,by omega⟩
  rw[Xa1 _ c w hc 1 (by omega),Xa1 _ c w hc (1+1) (by omega),Xa1 _ c w hc (1+1+1) (by omega),Xa1 _ c w hc (1+1+1+1) (by omega)]
  rw[show Qb4 (n+5) c w (n+1) (1+1+1+1+1)=some (.nxt ()) by rw[Qb4,Wl (by omega),Wa]]
  simp only[OE,show (1:Int)+1=2 from rfl,show (2:Int)+1=3 from rfl,show (3:Int)+1=4 from rfl]
  by_cases h3:c.PageWords>=w
  ·simp only[Wn h3,Xa,X8]
  simp only[Wh h3]
  by_cases h4:2*c.PageWords>=w
  ·simp only[Wn h4,Xa,X8]
  simp only[Wh h4]
  by_cases h5:3*c.PageWords>=w
  ·simp only[Wn h5,Xa,X8]
  simp only[Wh h5]
  by_cases h6:4*c.PageWords>=w
  ·simp only[Wn h6,Xa,X8]
  ·simp only[Wh h6,Xa,XN]
theorem Xgg (c:Ut) (w:Int) : -1<=Zh c w/\Zh c w<=4:=by
 unfold Zh;repeat' split
 all_goals omega
theorem JP {c:Ut} (hc:Yq c=true) {i:Int} (h0:0<=i) (h1:i<c.Pages):0<=i*c.PageWords/\i*c.PageWords+c.PageWords<=c.Pages*c.PageWords/\c.Pages*c.PageWords<=4096:=by
 have h:=XH.1 hc
 refine ⟨Int.mul_nonneg h0 (by omega),?_,?_⟩
 ·have:=U8 (a:=i+1) (b:=c.Pages) (c:=c.PageWords) (by omega) (by omega)
  rw[Oj] at this
  omega
 ·have:=Int.mul_le_mul (a:=c.Pages) (b:=c.PageWords) (c:=64) (d:=64) (by omega) (by omega) (by omega) (by omega)
  omega
def XI (c:Ut) (p o:Int):Int:=4096+p*c.PageWords+o
theorem Xgh (N:Nat) (c:Ut) (p o:Int):QcB N c p o=some (if Yq c=false then (0,1) else if 0<=p/\p<c.Pages/\0<=o/\o<c.PageWords then (XI c p o,0) else (0,2)):=by
 simp only[QcB,Zg,Xa,Ib]
 cases hc:Yq c with
 | false=>simp
 | true =>
  have h:=XH.1 hc
  simp only[Wx,Wa]
  rw[Wh (show ¬ (true=false) by simp)]
  by_cases h1:p<0
  ·rw[Wn h1,Wh (by omega)]
  rw[Wh h1]
  by_cases h2:p>=c.Pages
  ·rw[Wn h2,Wh (by omega)]
  rw[Wh h2]
  by_cases h3:o<0
  ·rw[Wn h3,Wh (by omega)]
  rw[Wh h3]
  by_cases h4:o>=c.PageWords
  ·rw[Wn h4,Wh (by omega)]
  rw[Wh h4,Wn (by omega)]
  have hm:=JP hc (i:=p) (by omega) (by omega)
  rw[Xe (n:=p*c.PageWords) (by omega) (by omega),Xe (n:=4096+p*c.PageWords) (by omega) (by omega),Xe (n:=4096+p*c.PageWords+o) (by omega) (by omega),XT (by omega) (by omega)]
  rfl
theorem Xel (N:Nat) (c:Ut) (a:Int):QeL N c a=some (if Yq c=false then (0,0,1) else if 4096<=a/\a<4096+c.Pages*c.PageWords then ((a-4096) / c.PageWords,(a-4096) % c.PageWords,0) else (0,0,2)):=by
 simp only[QeL,Zg,Xa,Ib]
 cases hc:Yq c with
 | false=>simp
 | true =>
  have h:=XH.1 hc
  have hm:=JP hc (i:=0) (by omega) (by omega)
  simp only[Wx,Wa]
  rw[Wh (show ¬ (true=false) by simp)]
  rw[Xe (n:=c.Pages*c.PageWords) (by omega) (by omega),Xe (n:=4096+c.Pages*c.PageWords) (by omega) (by omega),XT (n:=4096+c.Pages*c.PageWords) (by omega) (by omega)]
  by_cases h1:a<4096
  ·rw[Wn h1,Wh (by omega)]
  rw[Wh h1]
  by_cases h2:a>=4096+c.Pages*c.PageWords
  ·rw[Wn h2,Wh (by omega)]
  rw[Wh h2,Wn (by omega),Xi (by omega),Xi (by omega)]
  rw[XT (n:=a-4096) (by omega) (by omega),Xe (n:=a-4096) (by omega) (by omega),ID (by omega),Int.tmod_eq_emod_of_nonneg (by omega)]
  have hd:0<=(a-4096) / c.PageWords:=Int.ediv_nonneg (by omega) (by omega)
  have hd2:(a-4096) / c.PageWords<=a-4096:=Int.ediv_le_self _ (by omega)
  rw[Xe (by omega) (by omega)]
theorem Xgi {c:Ut} (hc:Yq c=true) {a:Int} (h1:4096<=a) (h2:a<4096+c.Pages*c.PageWords) :
 0<=(a-4096) / c.PageWords/\(a-4096) / c.PageWords<c.Pages/\0<=(a-4096) % c.PageWords/\(a-4096) % c.PageWords<c.PageWords/\a=XI c ((a-4096) / c.PageWords) ((a-4096) % c.PageWords):=by
 have h:=XH.1 hc
 refine ⟨Int.ediv_nonneg (by omega) (by omega),Int.ediv_lt_of_lt_mul (by omega) (by omega),Int.emod_nonneg _ (by omega),Int.emod_lt_of_pos _ (by omega),?_⟩
 have:=Int.mul_ediv_add_emod (a-4096) c.PageWords
 unfold XI
 rw[Int.mul_comm] at this
 omega
theorem Xlg {c:Ut} (hc:Yq c=true) {p o:Int} (h0:0<=o) (h1:o<c.PageWords):(XI c p o-4096) / c.PageWords=p/\(XI c p o-4096) % c.PageWords=o:=by
 have h:=XH.1 hc
 have e:XI c p o-4096=o+c.PageWords*p:=by unfold XI;rw[Int.mul_comm p];omega
 rw[e,Int.add_mul_ediv_left _ _ (by omega),Int.add_mul_emod_self_left,Int.ediv_eq_zero_of_lt h0 h1,Int.emod_eq_of_lt h0 h1]
 exact ⟨by omega,rfl⟩
def Xjj:W4:=⟨0,0,0,0⟩
def pg (ps:List W4) (i:Int):W4:=ps.getD i.toNat Xjj
theorem Yr {ps:List W4} {i:Int} {p:W4} (h:Xb ps i=some p):pg ps i=p:=by
 have:=(Vp.1 h).2
 simp[pg,this]
theorem Xem (N:Nat) (ps:List W4) (sp:Int) (hl:ps.length<=BIG):∀ (n:Nat) (c i:Int),0<=i->0<=c->c<=BIG*2->i<=BIG*2->(ps.length:Int)+c-i<=BIG*2->(ps.length-i).toNat<n ->
 Ok (Qd1 N ps sp n c i) λ r=>c<=r/\∀ m,0<=m->m<r-c->i+m<ps.length/\(pg ps (i+m)).Kind=3
 | 0,c,i,_,_,_,_,_,h=>by omega
 | n+1,c,i,h0,hc,hc2,hi,hs,hn=>by
  unfold BIG at *
  rw[Qd1]
  refine Wq (λ h=>?_) λ h=>Wg ⟨Int.le_refl _,λ m h1 h2=>by omega⟩
  have h1:i<ps.length:=by simpa using h
  refine Ok.get h0 h1 λ p hp=>Wq (λ hk=>?_) λ hk=>Wg ⟨Int.le_refl _,λ m h1 h2=>by omega⟩
  refine Ok.get h0 h1 λ p' hp'=>Wq (λ hk2=>?_) λ hk=>Wg ⟨Int.le_refl _,λ m h1 h2=>by omega⟩
  rw[Xe (n:=c+1) (by omega) (by omega),Xe (n:=i+1) (by omega) (by omega)]
  refine (Xem N ps sp (by unfold BIG;omega) n (c+1) (i+1) (by omega) (by omega) (by unfold BIG;omega) (by unfold BIG;omega) (by unfold BIG;omega) (by omega)).mono λ r hr=>⟨by omega,λ m h2 h3=>?_⟩
  by_cases hm:m=0
  ·subst hm;rw[Int.add_zero];exact ⟨h1,by rw[Yr hp];simpa using hk⟩
  ·have:=hr.2 (m-1) (by omega) (by omega)
   rw[show i+1+(m-1)=i+m by omega] at this
   exact this
theorem Xjk {N:Nat} {ps:List W4} (sp i:Int) (hl:ps.length<N) (hl2:ps.length<=100000000) (h0:0<=i) (hi:i<=100000000):Ok (Qgl N ps i sp) λ r=>0<=r/\∀ m,1<=m->m<=r->i+m<ps.length/\(pg ps (i+m)).Kind=3:=by
 rw[Qgl,Xe (n:=i+1) (by omega) (by omega)]
 refine WL (Xem N ps sp (by unfold BIG;omega) N 0 (i+1) (by omega) (by omega) (by unfold BIG;omega) (by unfold BIG;omega) (by unfold BIG;omega) (by omega)) λ r _ h=>Wg ⟨h.1,λ m h1 h2=>?_⟩
 have:=h.2 (m-1) (by omega) (by omega)
 rwa[show i+1+(m-1)=i+m by omega] at this
theorem Xlh (N:Nat) (n:Int):Qgz N n=some (decide (0<=n/\n<=2147483647)):=by
 simp only[Qgz,Ib]
 split
 ·congr 1;exact decide_eq_decide.2 (by omega)
 ·rw[Wl (by omega)]
end Go.Sx
namespace Go.Sx
structure O4 (h:Wz) (i:Int):Prop where
 kind:0<=(pg h.Pages i).Kind/\(pg h.Pages i).Kind<=3
 space:0<=(pg h.Pages i).Space/\(pg h.Pages i).Space<=1
 pins:0<=(pg h.Pages i).Pins/\(pg h.Pages i).Pins<=2147483647
 free:(pg h.Pages i).Kind=0->pg h.Pages i=Xjj
 small:(pg h.Pages i).Kind=1->0<=(pg h.Pages i).Used/\(pg h.Pages i).Used<=h.Conf.PageWords
 large:(pg h.Pages i).Kind=2->1<=Zh h.Conf (pg h.Pages i).Used/\∀ m,1<=m->m<Zh h.Conf (pg h.Pages i).Used->i+m<h.Pages.length/\(pg h.Pages (i+m)).Kind=3
structure IH (h:Wz):Prop where
 conf:Yq h.Conf=true
 words:(h.Words.length:Int)=h.Conf.Pages*h.Conf.PageWords
 pages:(h.Pages.length:Int)=h.Conf.Pages
 space:0<=h.Space/\h.Space<=1
 bump:h.Bump = -1\/(0<=h.Bump/\h.Bump<h.Pages.length/\(pg h.Pages h.Bump).Kind=1)
 pgs:∀ i:Int,0<=i->i<h.Pages.length->O4 h i
 first:(pg h.Pages 0).Kind≠3
def PL (h:Wz) (i:Int):Ex Bool Unit->Prop
 | .ret a=>a=false
 | .nxt _=>(∀ j,i<=j->j<h.Pages.length->O4 h j)/\(i=0->(0:Int)<h.Pages.length->(pg h.Pages 0).Kind≠3)
theorem XcB {N:Nat} {h:Wz} (hc:Yq h.Conf=true) (hN:100000<N) (hl:(h.Pages.length:Int)=h.Conf.Pages):∀ (n:Nat) (due i:Int),0<=i->0<=due->due<=4->(h.Pages.length-i).toNat<n->(i=0->due=0) ->
 Ok (Qb0 N h n due i) (PL h i)
 | 0,due,i,_,_,_,hn,_=>by omega
 | n+1,due,i,h0,hd,hd4,hn,hi0=>by
  have hv:=XH.1 hc
  rw[Qb0]
  refine Wq (λ h1=>?_) λ h1=>Wg ⟨λ j hj hj2=>?_,λ hi hpos=>?_⟩
  rotate_left
  ·have:¬ i<h.Pages.length:=by simpa using h1
   omega
  ·have:¬ i<h.Pages.length:=by simpa using h1
   omega
  have hlt:i<h.Pages.length:=by simpa using h1
  refine Ok.get h0 hlt λ p hp=>?_
  have hpg:=Yr hp
  refine Wq (λ _=>Wg rfl) λ g1=>?_
  refine Wq (λ _=>Wg rfl) λ g2=>?_
  refine Wq (λ _=>Wg rfl) λ g3=>?_
  rw[Xlh,Xa]
  refine Wq (λ _=>Wg rfl) λ g4=>?_
  simp only[Bool.not_eq_false',beq_iff_eq,Um,decide_eq_true_eq,Int.not_lt,Int.not_le] at g1 g2 g3 g4
  have hk3:p.Kind=3↔0<due:=by
   have e:(p.Kind==3)=decide (due>0):=g1
   by_cases hx:p.Kind=3
   ·have:(p.Kind==3)=true:=by simpa using hx
    rw[this] at e
    have:=Wu e.symm
    exact ⟨λ _=>this,λ _=>hx⟩
   ·have:(p.Kind==3)=false:=by simpa using hx
    rw[this] at e
    have:=WI e.symm
    exact ⟨λ h=>absurd h hx,λ h=>absurd h this⟩
  have next:∀ (due':Int),0<=due'->due'<=4->O4 h i->Ok (Qb0 N h n (if 0<wI (due'-1) then wI (due'-1) else 0) (wI (i+1))) (PL h i):=by
   intro due' hd1 hd2 hok
   rw[Xe (n:=i+1) (by omega) (by omega),Xe (n:=due'-1) (by omega) (by omega)]
   refine (XcB hc hN hl n _ (i+1) (by omega) (by split<;>omega) (by split<;>omega) (by omega) (by omega)).mono λ e he=>?_
   cases e with
   | ret a=>exact he
   | nxt b =>
   obtain ⟨k1,k2⟩:=he
   refine ⟨λ j hj hj2=>?_,λ hi hpos hk=>?_⟩
   ·by_cases hji:j=i
    ·subst hji;exact hok
    ·exact k1 j (by omega) hj2
   ·subst hi
    rw[hpg] at hk
    have:=hk3.1 hk
    have:=hi0 rfl
    omega
  refine IS ?_
  refine Wq (λ q0=>Wq (λ _=>Wg rfl) λ q1=>?_) λ q0=>IS (Wq (λ q1=>Wq (λ _=>Wg rfl) λ q2=>Wq (λ _=>Wg rfl) λ q3=>?_) λ q1=>IS (Wq (λ q2=>?_) λ q2=>Wq (λ q3=>Wq (λ _=>Wg rfl) λ q4=>Wq (λ _=>Wg rfl) λ q5=>?_) λ q3=>Wg rfl))
  ·refine next due hd hd4 ?_
   have hk:p.Kind=0:=by simpa using q0
   simp only[Bool.not_eq_false',WG,beq_iff_eq] at q1
   have hz:pg h.Pages i=Xjj:=by
    rw[hpg];cases p;simp only at q1;obtain ⟨rfl,rfl,rfl,rfl⟩:=q1;rfl
   refine ⟨by rw[hz];decide,by rw[hz];decide,by rw[hz];decide,λ _=>hz,λ e=>?_,λ e=>?_⟩
   ·rw[hz] at e;cases e
   ·rw[hz] at e;cases e
  ·refine next due hd hd4 ?_
   have hk:p.Kind=1:=by simpa using q1
   simp only[Um,Int.not_lt] at q2 q3
   exact ⟨by rw[hpg];omega,by rw[hpg];omega,by rw[hpg];omega,λ e=>by rw[hpg] at e;omega,λ _=>by rw[hpg];omega,λ e=>by rw[hpg] at e;omega⟩
  ·have hk:p.Kind=2:=by simpa using q2
   rw[VV (by omega),Xa]
   refine Wq (λ _=>Wg rfl) λ q3=>?_
   refine WL (Xjk (N:=N) (ps:=h.Pages) p.Space i (by omega) (by omega) h0 (by omega)) λ t _ ht=>?_
   refine Wq (λ _=>Wg rfl) λ q4=>?_
   have hr:=Xgg h.Conf p.Used
   have hn1:1<=Zh h.Conf p.Used:=by have:=WI q3;omega
   have hn2:Zh h.Conf p.Used-1<=t:=by
    have:=WI q4
    rw[Xe (by omega) (by omega)] at this
    omega
   refine next _ (by omega) (by omega) ?_
   exact ⟨by rw[hpg];omega,by rw[hpg];omega,by rw[hpg];omega,λ e=>by rw[hpg] at e;omega,λ e=>by rw[hpg] at e;omega,λ _=>by rw[hpg];exact ⟨hn1,λ m h1 h2=>ht.2 m h1 (by omega)⟩⟩
  ·refine next due hd hd4 ?_
   have hk:p.Kind=3:=by simpa using q3
   exact ⟨by rw[hpg];omega,by rw[hpg];omega,by rw[hpg];omega,λ e=>by rw[hpg] at e;omega,λ e=>by rw[hpg] at e;omega,λ e=>by rw[hpg] at e;omega⟩
theorem Zp {N:Nat} (hN:100000<N) {h:Wz} (hw:h.Words.length<=100000) (hp:h.Pages.length<=100000):Ok (QaL N h) λ b=>b=true->IH h:=by
 rw[QaL,Zg,Xa]
 refine Wq (λ _=>Wg λ e=>by cases e) λ g1=>?_
 have hc:Yq h.Conf=true:=by simpa using g1
 have hv:=XH.1 hc
 have hm:=JP hc (i:=0) (by omega) (by omega)
 refine Wq (λ _=>Wg λ e=>by cases e) λ g2=>?_
 refine Wq (λ _=>Wg λ e=>by cases e) λ g3=>?_
 refine Wq (λ _=>Wg λ e=>by cases e) λ g4=>?_
 refine Wq (λ _=>Wg λ e=>by cases e) λ g5=>?_
 have e2:(h.Words.length:Int)=h.Conf.Pages*h.Conf.PageWords:=by
  have:(h.Words.length:Int)=wI (h.Conf.Pages*h.Conf.PageWords):=by simpa using g2
  rwa[Xe (by omega) (by omega)] at this
 have e3:(h.Pages.length:Int)=h.Conf.Pages:=by simpa using g3
 have e4:0<=h.Space/\h.Space<=1:=⟨by simpa using g4,by simpa using g5⟩
 have main:(h.Bump = -1\/(0<=h.Bump/\h.Bump<h.Pages.length/\(pg h.Pages h.Bump).Kind=1))->Ok (bnd (Qb0 N h N 0 0) λ e=>exK e (λ r=>some r) λ y12=>some true) λ b=>b=true->IH h:=by
  intro hb
  refine I7 (XcB (N:=N) (h:=h) hc hN e3 N 0 0 (by omega) (by omega) (by omega) (by omega) (by omega)) (λ a hq=>?_) λ b hq=>Wg λ _=>?_
  ·have ha:a=false:=hq
   subst ha
   exact Wg λ e=>by cases e
  ·obtain ⟨k1,k2⟩:=hq
   exact ⟨hc,e2,e3,e4,hb,k1,k2 rfl (by omega)⟩
 refine IS (Wq (λ b1=>Wq (λ _=>Wg λ e=>by cases e) λ b2=>Wq (λ _=>Wg λ e=>by cases e) λ b3=>?_) λ b1=>main (.inl (by simpa using b1)))
 have h2:0<=h.Bump:=by simpa using b2
 have h3:h.Bump<h.Pages.length:=by simpa using b3
 refine Ok.get h2 h3 λ p hp=>Wq (λ _=>Wg λ e=>by cases e) λ b4=>main (.inr ⟨h2,h3,?_⟩)
 rw[Yr hp];simpa using b4
end Go.Sx
namespace Go.Sx
theorem dlt {a b:Int} (h:decide (a<b)=true):a<b:=Wu h
theorem Vz {ps:List W4} {i j:Int} (p:W4) (hi:0<=i) (hi2:i<ps.length) (hj:0<=j):pg (ps.set i.toNat p) j=if j=i then p else pg ps j:=by
 unfold pg
 simp only[Wk,Iq]
 by_cases h:j=i
 ·subst h;rw[Wn rfl,Wn rfl,Wn (by omega)];rfl
 ·rw[Wh (by omega),Wh h]
theorem Xbz (N:Nat) (ps:List W4) (hl:ps.length<=100000000):∀ (n:Nat) (c i:Int),0<=i->0<=c->c<=i->i<=ps.length->(ps.length-i).toNat<n->Ok (QcR N ps n c i) λ r=>0<=r/\r<=ps.length
 | 0,c,i,_,_,_,_,h=>by omega
 | n+1,c,i,h0,hc,hci,hi,hn=>by
  rw[QcR]
  refine Wq (λ h=>?_) λ h=>Wg ⟨hc,by omega⟩
  have h1:i<ps.length:=dlt h
  refine Ok.get h0 h1 λ p hp=>?_
  rw[Xe (n:=c+1) (by omega) (by omega),Xe (n:=i+1) (by omega) (by omega)]
  refine Wq (λ _=>?_) λ _=>?_
  ·exact Xbz N ps hl n (c+1) (i+1) (by omega) (by omega) (by omega) (by omega) (by omega)
  ·exact Xbz N ps hl n c (i+1) (by omega) (by omega) (by omega) (by omega) (by omega)
theorem Xen {N:Nat} {ps:List W4} (hl:ps.length<=100000000) (hN:ps.length<N):Ok (Qgm N ps) λ r=>0<=r/\r<=ps.length :=
 WL (Xbz N ps hl N 0 0 (by omega) (by omega) (by omega) (by omega) (by omega)) λ r _ h=>Wg h
def RunOK (ps:List W4) (i k:Int):Prop:=0<=i/\1<=k/\i+k<=ps.length/\∀ m,0<=m->m<k->(pg ps (i+m)).Kind=0
theorem Xa2 (N:Nat) (ps:List W4) (hl:ps.length<=100000000):∀ (n:Nat) (i:Int) (rs:List OP),0<=i->i<=ps.length->(ps.length-i).toNat<n->rs.length<=i->(∀ r∈rs,RunOK ps r.From r.Len) ->
 Ok (Qb8 N ps n i rs) λ out=>out.length<=ps.length/\∀ r∈out,RunOK ps r.From r.Len
 | 0,i,rs,_,_,h,_,_=>by omega
 | n+1,i,rs,h0,hi,hn,hlen,hrs=>by
  rw[Qb8]
  refine Wq (λ h=>?_) λ h=>Wg ⟨by omega,hrs⟩
  have h1:i<ps.length:=dlt h
  refine Ok.get h0 h1 λ p hp=>?_
  have hpg:=Yr hp
  rw[Xe (n:=i+1) (by omega) (by omega)]
  refine Wq (λ _=>Xa2 N ps hl n (i+1) rs (by omega) (by omega) (by omega) (by omega) hrs) λ hk=>?_
  have hk:p.Kind=0:=by simpa using hk
  have new:Ok (grd ((rs.length+1)*16<=140737488355328) (Qb8 N ps n (i+1) (rs++[OP.mk i 1]))) λ out=>out.length<=ps.length/\∀ r∈out,RunOK ps r.From r.Len:=by
   refine Ug (by omega) (Xa2 N ps hl n (i+1) _ (by omega) (by omega) (by omega) (by rw[Wr];simp only[WM,Ub];omega) λ r hr=>?_)
   rcases WH.1 hr with hr | hr
   ·exact hrs r hr
   ·have:r=OP.mk i 1:=by simpa using hr
    subst this
    refine ⟨h0,by show (1:Int)<=1;omega,by show i+1<=_;omega,λ m h1 h2=>?_⟩
    have h2:m<1:=h2
    have:m=0:=by omega
    subst this
    show (pg ps (i+0)).Kind=0
    rw[Int.add_zero,hpg];exact hk
  refine Ug (by omega) (IS (Wq (λ hp1=>?_) λ _=>new))
  have hp1:0<(rs.length:Int):=Wu hp1
  rw[Xe (n:=((rs.length:Nat):Int)-1) (by omega) (by omega)]
  refine Ok.get (by omega) (by omega) λ q hq=>Ok.get (by omega) (by omega) λ q' hq'=>?_
  obtain rfl:q=q':=Ww (hq.symm.trans hq')
  have hqm:=hrs q (YN hq)
  have hb:=hqm.2.2.1
  rw[Xe (n:=q.From+q.Len) (by have:=hqm.1;have:=hqm.2.1;omega) (by omega)]
  refine Wq (λ he=>?_) λ _=>new
  have he:q.From+q.Len=i:=by simpa using he
  refine Ok.get (by omega) (by omega) λ q2 hq2=>Ok.get (by omega) (by omega) λ q3 hq3=>?_
  obtain rfl:q=q2:=Ww (hq.symm.trans hq2)
  obtain rfl:q=q3:=Ww (hq.symm.trans hq3)
  have:=hqm.1
  have:=hqm.2.1
  rw[Xe (n:=q.Len+1) (by omega) (by omega)]
  refine Xa2 N ps hl n (i+1) _ (by omega) (by omega) (by omega) (by rw[Wv];omega) λ r hr=>?_
  rcases UB hr with hr | hr
  ·exact hrs r hr
  ·subst hr
   refine ⟨hqm.1,by show 1<=q.Len+1;omega,by show q.From+(q.Len+1)<=_;omega,λ m h1 h2=>?_⟩
   show (pg ps (q.From+m)).Kind=0
   have h2:m<q.Len+1:=h2
   by_cases hm:m<q.Len
   ·exact hqm.2.2.2 m h1 hm
   ·have:q.From+m=i:=by omega
    rw[this,hpg];exact hk
theorem Xli {N:Nat} {ps:List W4} (hl:ps.length<=100000000) (hN:ps.length<N):Ok (Qg3 N ps) λ out=>out.length<=ps.length/\∀ r∈out,RunOK ps r.From r.Len :=
 WL (Xa2 N ps hl N 0 [] (by omega) (by omega) (by omega) (by simp) (by simp)) λ r _ h=>Wg h
theorem RunOK.less {ps:List W4} {i k j:Int} (h:RunOK ps i k) (h1:1<=j) (h2:j<=k):RunOK ps i j:=⟨h.1,h1,by have:=h.2.2.1;omega,λ m a b=>h.2.2.2 m a (by omega)⟩
theorem Xeo (N:Nat) (ps:List W4) (k:Int) (rs:List OP) (hl:rs.length<=100000000) (hrs:∀ r∈rs,RunOK ps r.From r.Len):∀ (n:Nat) (i:Int),0<=i->i<=rs.length->(rs.length-i).toNat<n ->
 Ok (QcP N k rs n i) λ e=>∀ a,e=.ret a->RunOK ps a k
 | 0,i,_,_,h=>by omega
 | n+1,i,h0,hi,hn=>by
  rw[QcP]
  refine Wq (λ h=>?_) λ h=>Wg λ a e=>by cases e
  have h1:i<rs.length:=dlt h
  rw[Xe (n:=i+1) (by omega) (by omega)]
  have next:=Xeo N ps k rs hl hrs n (i+1) (by omega) (by omega) (by omega)
  refine Wq (λ hk=>?_) λ _=>next
  refine Ok.get h0 h1 λ p hp=>Wq (λ hk2=>?_) λ _=>next
  refine Ok.get h0 h1 λ p' hp'=>Wg λ a e=>?_
  obtain rfl:p=p':=Ww (hp.symm.trans hp')
  cases e
  have hk:1<=k:=Wu hk
  have hk2:k<=p.Len:=Wu hk2
  exact (hrs p (YN hp)).less hk hk2
theorem XbA {N:Nat} {ps:List W4} (k:Int) (hl:ps.length<=100000000) (hN:ps.length<N):Ok (QdU N ps k) λ i=>i = -1\/RunOK ps i k:=by
 refine WL (Xli hl hN) λ rs _ h=>?_
 refine I7 (Xeo N ps k rs (by omega) h.2 N 0 (by omega) (by omega) (by omega)) (λ a q=>Wg (.inr (q a rfl))) λ _ _=>Wg (.inl rfl)
def Taken (ps out:List W4) (i k:Int) (first rest:W4):Prop:=out.length=ps.length/\∀ j,0<=j->pg out j=if j=i then first else if i<=j/\j<i+k then rest else pg ps j
theorem Xgj (N:Nat) (ps:List W4) (i k:Int) (f r:W4) (hl:ps.length<=100000000) (hi:0<=i) (hk:i+k<=ps.length):∀ (n:Nat) (m:Int) (v:List W4),0<=m->(m<=k\/m=0)->(k-m).toNat<n->v.length=ps.length->(∀ j,0<=j->pg v j=if i<=j/\j<i+m then r else pg ps j) ->
 Ok (Qez N i k f r n m v) λ e=>(∀ o,e=.nxt o->o.length=ps.length/\∀ j,0<=j->pg o j=if i<=j/\j<i+k then r else pg ps j)/\(∀ o,e=.ret o->o.2=20/\o.1=[])/\((∀ j,m<=j->j<k->(pg ps (i+j)).Kind=0)->∀ o,e≠.ret o)
 | 0,m,v,_,_,h,_,_=>by omega
 | n+1,m,v,h0,hm,hn,hv,hpg=>by
  rw[Qez]
  refine Wq (λ h=>?_) λ h=>Wg ⟨λ o e=>?_,λ o e=>(by cases e),λ _ o e=>(by cases e)⟩
  rotate_left
  ·cases e
   have:¬ m<k:=WI h
   refine ⟨hv,λ j hj=>?_⟩
   rw[hpg j hj]
   by_cases hc:i<=j/\j<i+m
   ·rw[Wn hc,Wn (by omega)]
   ·rw[Wh hc,Wh (by omega)]
  have h1:m<k:=dlt h
  rw[Xe (n:=i+m) (by omega) (by omega),Xe (n:=m+1) (by omega) (by omega)]
  refine Ok.get (by omega) (by omega) λ p hp=>?_
  have hpk:p=pg ps (i+m):=by rw[← Yr hp,hpg _ (by omega),Wh (by omega)]
  refine Wq (λ hk2=>Wg ⟨λ o e=>(by cases e),λ o e=>(by cases e;exact ⟨rfl,rfl⟩),λ hall=>?_⟩) λ hk2=>?_
  ·have:=hall m (by omega) h1
   rw[← hpk] at this
   simp[this] at hk2
  refine Ok.get (by omega) (by omega) λ p' hp'=>?_
  refine (Xgj N ps i k f r hl hi hk n (m+1) _ (by omega) (by omega) (by omega) (by rw[Wv];exact hv) λ j hj=>?_).mono λ e he=>⟨he.1,he.2.1,λ hall=>he.2.2 λ j a b=>hall j (by omega) b⟩
  rw[Vz r (by omega) (by omega) hj,hpg j hj]
  by_cases hc:j=i+m
  ·rw[Wn hc,Wn (by omega)]
  ·rw[Wh hc]
   by_cases hd:i<=j/\j<i+m
   ·rw[Wn hd,Wn (by omega)]
   ·rw[Wh hd,Wh (by omega)]
theorem Xgk {N:Nat} {ps:List W4} (i k:Int) (f r:W4) (hl:ps.length<=1000000) (hN:1000000<N) (hk1:1<=k) (hk2:k<=1000000):Ok (Qga N ps i k f r) λ o=>(o.2=0->0<=i/\i+k<=ps.length/\Taken ps o.1 i k f r)/\(o.2≠0->o.1=[])/\(RunOK ps i k->o.2=0):=by
 rw[Qga]
 refine Wq (λ h=>Wg ⟨λ e=>(by cases e),λ _=>rfl,λ hr=>?_⟩) λ h1=>?_
 ·have:=Wu h;have:=hr.1;omega
 have h1:¬ i<0:=WI h1
 refine Wq (λ h=>Wg ⟨λ e=>(by cases e),λ _=>rfl,λ hr=>?_⟩) λ h2=>?_
 ·have:=Wu h;have:=hr.2.2.1;omega
 have h2:¬ i>=(ps.length:Int):=WI h2
 rw[Xe (n:=((ps.length:Nat):Int)-i) (by omega) (by omega)]
 refine Wq (λ h=>Wg ⟨λ e=>(by cases e),λ _=>rfl,λ hr=>?_⟩) λ h3=>?_
 ·have:=Wu h;have:=hr.2.2.1;omega
 have h3:¬ k>(ps.length:Int)-i:=WI h3
 refine Ug (by omega) (I7 (Xgj N ps i k f r (by omega) (by omega) (by omega) N 0 ps (by omega) (by omega) (by omega) rfl λ j hj=>(by rw[Wh (by omega)])) (λ a q=>?_) λ o q=>?_)
 ·obtain ⟨e1,e2⟩:=q.2.1 a rfl
  refine Wg ⟨λ e=>(by rw[e1] at e;cases e),λ _=>e2,λ hr=>?_⟩
  exact absurd rfl (q.2.2 (λ j a b=>hr.2.2.2 j a b) a)
 ·obtain ⟨e1,e2⟩:=q.1 o rfl
  refine Ok.get (by omega) (by omega) λ p hp=>Wg ⟨λ _=>⟨by omega,by omega,⟨by rw[Wv];exact e1,λ j hj=>?_⟩⟩,λ e=>absurd rfl e,λ _=>rfl⟩
  rw[Vz f (by omega) (by omega) hj,e2 j hj]
theorem Xep {N:Nat} {ps:List W4} (i sp:Int) (hl:ps.length<=1000000) (hN:1000000<N):Ok (QdV N ps i sp) λ o=>(o.2=0->0<=i/\i+1<=ps.length/\Taken ps o.1 i 1 ⟨1,sp,0,0⟩ ⟨0,0,0,0⟩)/\(o.2≠0->o.1=[])/\(RunOK ps i 1->0<=sp->sp<=1->o.2=0):=by
 rw[QdV]
 refine Wq (λ h=>Wg ⟨λ e=>(by cases e),λ _=>rfl,λ _ h1 h2=>?_⟩) λ h1=>?_
 ·have:=Wu h;omega
 refine Wq (λ h=>Wg ⟨λ e=>(by cases e),λ _=>rfl,λ _ h1 h2=>?_⟩) λ h2=>?_
 ·have:=Wu h;omega
 refine WL (Xgk i 1 ⟨1,sp,0,0⟩ ⟨0,0,0,0⟩ hl hN (by omega) (by omega)) λ y _ hy=>Wg ⟨hy.1,hy.2.1,λ hr _ _=>hy.2.2 hr⟩
theorem Xjl {N:Nat} {ps:List W4} (c:Ut) (i sp w:Int) (hl:ps.length<=1000000) (hN:1000000<N):Ok (Qgn N c ps i sp w) λ o=>(o.2=0->0<=i/\i+Zh c w<=ps.length/\1<=Zh c w/\Taken ps o.1 i (Zh c w) ⟨2,sp,w,0⟩ ⟨3,sp,0,0⟩)/\(o.2≠0->o.1=[]):=by
 rw[Qgn,VV (by omega),Xa]
 refine Wq (λ h=>Wg ⟨λ e=>(by cases e),λ _=>rfl⟩) λ h0=>?_
 have h0:¬ Zh c w<1:=WI h0
 refine Wq (λ h=>Wg ⟨λ e=>(by cases e),λ _=>rfl⟩) λ h1=>?_
 refine Wq (λ h=>Wg ⟨λ e=>(by cases e),λ _=>rfl⟩) λ h2=>?_
 have hr:=Xgg c w
 refine WL (Xgk i (Zh c w) ⟨2,sp,w,0⟩ ⟨3,sp,0,0⟩ hl hN (by omega) (by omega)) λ y _ hy=>Wg ⟨λ e=>?_,hy.2.1⟩
 obtain ⟨a,b,c'⟩:=hy.1 e
 exact ⟨a,b,by omega,c'⟩
end Go.Sx
namespace Go.Sx
def HB (h:Wz):Prop:=h.Words.length<=100000/\h.Pages.length<=100000
def NB (N:Nat):Prop:=10000000<N
def zH:Wz:=⟨⟨0,0⟩,[],[],0,0⟩
theorem ZN:HB zH:=⟨by decide,by decide⟩
def wd (ws:List Int) (a:Int):Int:=ws.getD (ix a) 0
def hdA (ws:List Int) (a:Int):WE:=KA (wd ws a)
def szA (ws:List Int) (a:Int):Int:=(hdA ws a).Length+1
theorem VA (ws:List Int) (a:Int):ZE (hdA ws a)=szA ws a/\1<=szA ws a/\szA ws a<=256:=by
 have:=Xhu (wd ws a)
 unfold szA hdA
 omega
def pgi (c:Ut) (a:Int):Int:=(a-4096) / c.PageWords
def pgo (c:Ut) (a:Int):Int:=(a-4096) % c.PageWords
structure OL (h:Wz) (a:Int):Prop where
 rng:4096<=a/\a<4096+h.Conf.Pages*h.Conf.PageWords
 kind:(pg h.Pages (pgi h.Conf a)).Kind=1\/(pg h.Pages (pgi h.Conf a)).Kind=2
 ok:okH (wd h.Words a)=true
 used:pgo h.Conf a<(pg h.Pages (pgi h.Conf a)).Used
 small:(pg h.Pages (pgi h.Conf a)).Kind=1->pgo h.Conf a+szA h.Words a<=(pg h.Pages (pgi h.Conf a)).Used
 large:(pg h.Pages (pgi h.Conf a)).Kind=2->pgo h.Conf a=0/\szA h.Words a=(pg h.Pages (pgi h.Conf a)).Used
theorem Xgl {N:Nat} (hN:NB N) {h:Wz} (hb:HB h) (a:Int):Ok (QbU N h a) λ r=>r.2=0->IH h/\QaL N h=some true/\OL h a/\r.1=hdA h.Words a:=by
 unfold NB at hN
 rw[QbU]
 refine WL (Zp (N:=N) (by omega) hb.1 hb.2) λ b eb hp=>?_
 refine Wq (λ _=>Wg λ e=>by cases e) λ hb1=>?_
 have hbt:b=true:=by simpa using hb1
 subst hbt
 have hp:=hp rfl
 rw[Xel,Xa,hp.conf,Wh (by simp)]
 have hv:=XH.1 hp.conf
 by_cases hr:4096<=a/\a<4096+h.Conf.Pages*h.Conf.PageWords
 rotate_left
 ·rw[Wh hr];exact Wq (λ _=>Wg λ e=>by cases e) λ e=>by cases e
 rw[Wn hr,show (a-4096) / h.Conf.PageWords=pgi h.Conf a from rfl,show (a-4096) % h.Conf.PageWords=pgo h.Conf a from rfl]
 have hof:=Xgi hp.conf hr.1 hr.2
 refine Wq (λ e=>by cases e) λ _=>?_
 show Ok (bnd (Xb h.Pages (pgi h.Conf a)) _) _
 have hl:=hp.pages
 have h0:0<=pgi h.Conf a:=hof.1
 have h1:pgi h.Conf a<h.Pages.length:=by have:pgi h.Conf a<h.Conf.Pages:=hof.2.1;omega
 refine Ok.get h0 h1 λ p hpp=>?_
 have hpg:=Yr hpp
 have hin:inW h.Words a:=by unfold inW;have:=hp.words;omega
 rw[KL (by unfold BIG;have:=hb.1;omega),Xa,Wn hin]
 show Ok (bnd (QbB N (wd h.Words a)) _) _
 rw[Xa0,Xa]
 show Ok (jn _ _) _
 have hsz:=VA h.Words a
 have hpo:pgo h.Conf a<h.Conf.PageWords:=hof.2.2.2.1
 have hpo0:0<=pgo h.Conf a:=hof.2.2.1
 have rest:okH (wd h.Words a)=true->(p.Kind=1\/p.Kind=2)->pgo h.Conf a<p.Used->Ok (α:=WE×Int) (bnd (Qb5 N (KA (wd h.Words a))) λ y6 =>
  bif (p.Kind==1) then (bif (decide ((wI (pgo h.Conf a+y6))>p.Used)) then some ((WE.mk 0 0 0),19)
   else bif (p.Kind==2) then (bif (pgo h.Conf a != 0) then some ((WE.mk 0 0 0),19)
    else bif (y6 != p.Used) then some ((WE.mk 0 0 0),19)
    else some (KA (wd h.Words a),0))
   else some (KA (wd h.Words a),0))
  else bif (p.Kind==2) then (bif (pgo h.Conf a != 0) then some ((WE.mk 0 0 0),19)
   else bif (y6 != p.Used) then some ((WE.mk 0 0 0),19)
   else some (KA (wd h.Words a),0))
  else some (KA (wd h.Words a),0)) λ r=>r.2=0->IH h/\QaL N h=some true/\OL h a/\r.1=hdA h.Words a:=by
  intro ho hk hu
  rw[ZY,Xa]
  have e1:ZE (KA (wd h.Words a))=szA h.Words a:=hsz.1
  rw[e1,Xe (by omega) (by omega)]
  refine Wq (λ k1=>?_) λ k1=>?_
  ·have k1:p.Kind=1:=by simpa using k1
   refine Wq (λ _=>Wg λ e=>by cases e) λ k2=>?_
   have k2:¬ pgo h.Conf a+szA h.Words a>p.Used:=WI k2
   refine Wq (λ k3=>by rw[k1] at k3;cases k3) λ _=>Wg λ _=>⟨hp,eb,⟨hr,by rw[hpg];exact hk,ho,by rw[hpg];exact hu,λ _=>by rw[hpg];omega,λ e=>by rw[hpg,k1] at e;cases e⟩,rfl⟩
  ·have k1:¬ p.Kind=1:=by simpa using k1
   have k2:p.Kind=2:=by omega
   refine Wq (λ _=>?_) λ k3=>by rw[k2] at k3;cases k3
   refine Wq (λ _=>Wg λ e=>by cases e) λ k3=>?_
   refine Wq (λ _=>Wg λ e=>by cases e) λ k4=>Wg λ _=>⟨hp,eb,⟨hr,by rw[hpg];exact hk,ho,by rw[hpg];exact hu,λ e=>by rw[hpg] at e;omega,λ _=>⟨by simpa using k3,by rw[hpg];simpa using k4⟩⟩,rfl⟩
 refine IS (Wq (λ k1=>Wq (λ _=>Wg λ e=>by cases e) λ k2=>Wq (λ _=>Wg λ e=>by cases e) λ k3=>Wq (λ _=>Wg λ e=>by cases e) λ k4=>?_) λ k1=>Wq (λ _=>Wg λ e=>by cases e) λ k3=>Wq (λ _=>Wg λ e=>by cases e) λ k4=>?_)
 ·exact rest (by simpa using k4) (.inr (by simpa using k2)) (by have k5:¬ (pgo h.Conf a>=p.Used):=WI k3;omega)
 ·exact rest (by simpa using k4) (.inl (by simpa using k1)) (by have k5:¬ (pgo h.Conf a>=p.Used):=WI k3;omega)
theorem XbB {N:Nat} (hN:NB N) {h:Wz} (hb:HB h) (a:Int):Ok (Qc3 N h a) λ r=>r.2=0->IH h/\QaL N h=some true/\OL h a/\r.1=hdA h.Words a/\r.1.Kind≠0:=by
 have hN':=hN
 unfold NB at hN
 rw[Qc3]
 refine WL (Zp (N:=N) (by omega) hb.1 hb.2) λ b eb hp=>?_
 refine Wq (λ _=>Wg λ e=>by cases e) λ hb1=>?_
 refine Wq (λ _=>Wg λ e=>by cases e) λ _=>?_
 refine WL (Xgl hN' hb a) λ y ey hy=>?_
 refine Wq (λ k1=>Wq (λ _=>Wg λ e=>by cases e) λ k2=>Wg λ e=>?_) λ k1=>Wg λ e=>?_
 ·obtain ⟨q1,q2,q3,q4⟩:=hy e
  exact ⟨q1,q2,q3,q4,by simpa using k2⟩
 ·exact absurd e (by simpa using k1)
theorem Xeq {N:Nat} (hN:NB N) {h:Wz} (hb:HB h) (a i:Int):Ok (QdY N h a i) λ r=>r.2=0->IH h/\OL h a/\0<=i/\i<(hdA h.Words a).Length:=by
 rw[QdY]
 refine WL (XbB hN hb a) λ y ey hy=>?_
 refine Wq (λ k=>Wg λ e=>absurd e (by simpa using k)) λ k1=>?_
 refine Wq (λ _=>Wg λ e=>by cases e) λ k2=>?_
 refine Wq (λ _=>Wg λ e=>by cases e) λ k3=>?_
 obtain ⟨q1,q2,q3,q4,q5⟩:=hy (by simpa using k1)
 rw[KL (by unfold BIG;have:=hb.1;omega),Xa]
 refine Wg λ _=>⟨q1,q3,?_,?_⟩
 ·have:=WI k2;omega
 ·have:=WI k3;rw[q4] at this;omega
theorem Xer {N:Nat} (hN:NB N) {h:Wz} (hb:HB h) (a i v:Int):Ok (Qcg N h a i v) λ r=>HB r.1:=by
 rw[Qcg]
 refine WL (Xeq hN hb a i) λ y ey hy=>?_
 refine Wq (λ _=>Wg ZN) λ k1=>?_
 have hN':=hN
 unfold NB at hN'
 rw[Xbx (by unfold BIG;have:=hb.1;omega) (by omega),Xa]
 refine Wg ?_
 split
 ·exact ⟨by rw[Wv];exact hb.1,hb.2⟩
 ·exact ⟨by simp,hb.2⟩
theorem Xhv {N:Nat} (hN:NB N) {h:Wz} (hb:HB h) (a:Int):Ok (QfW N h a) λ r=>r.1.length<=256:=by
 rw[QfW]
 refine WL (XbB hN hb a) λ y ey hy=>?_
 refine Wq (λ _=>Wg (by simp)) λ k1=>?_
 obtain ⟨q1,q2,q3,q4,q5⟩:=hy (by simpa using k1)
 have hsz:=VA h.Words a
 have hlen:y.1.Length=szA h.Words a-1:=by rw[q4];unfold szA;omega
 obtain ⟨k,hk⟩:=UU (a:=y.1.Length) (by omega)
 rw[hk,Xgf (by unfold BIG;have:=hb.1;omega) N _ k (by omega),Xa]
 refine Wg ?_
 split
 ·simp only[WO];omega
 ·simp
theorem Xgm {N:Nat} (hN:NB N) {h:Wz} (hb:HB h) (a:Int) (hd:WE):Ok (Qfn N h a hd) λ r=>HB r.1:=by
 have hN':=hN
 unfold NB at hN'
 rw[Qfn,Xdt,Xa]
 refine WL (Zp (N:=N) (by omega) hb.1 hb.2) λ b eb hp=>?_
 refine Wq (λ _=>Wg ZN) λ _=>?_
 refine Wq (λ _=>Wg ZN) λ k1=>?_
 have hv:XW hd=true:=by
  cases hv:XW hd with
  | true=>rfl
  | false=>rw[hv] at k1;cases k1
 have hb2:=Yf hv
 refine Ug (by omega) (Ug (by omega) ?_)
 rw[Wn hv,VS (by unfold BIG;have:=hb.1;omega) (by unfold BIG;simp;omega) (by simp;omega),Xa]
 split
 ·rename_i hin
  refine Wq (λ e=>by cases e) λ _=>Wg ⟨?_,hb.2⟩
  have hb1:=hb.1
  rw[Kz]
  ·exact hb1
  ·unfold Y4 at hin;unfold ix;omega
 ·exact Wq (λ _=>Wg ZN) λ e=>by cases e
end Go.Sx
namespace Go.Sx
theorem Xjm (N:Nat) (l:List Int) (v:Int) (hl:l.length<=1000000000):∀ (n k:Nat),k<=l.length->l.length-k<n->QeZ N l v n (k:Int)=some (if (l.drop k).contains v then .ret true else .nxt ())
 | 0,k,_,h=>by omega
 | n+1,k,hk,hn=>by
  rw[QeZ]
  by_cases h:k<l.length
  ·have e1:decide ((k:Int)<((l.length:Nat):Int))=true:=Wo (by omega)
   rw[e1,We,Xd,Wc h,Xa,Xe (by omega) (by omega)]
   rw[show ((k:Int)+1)=((k+1:Nat):Int) by omega,Xjm N l v hl n (k+1) (by omega) (by omega)]
   rw[WA h,List.contains_cons]
   by_cases h2:l[k]=v
   ·subst h2;simp
   ·rw[show (l[k]==v)=false by simpa using h2,Wa,show (v==l[k])=false by simpa using λ e=>h2 e.symm,IZ]
  ·have e1:decide ((k:Int)<((l.length:Nat):Int))=false:=Wl (by omega)
   rw[e1,Wa,WZ (by omega)]
   simp
theorem Jq {N:Nat} {l:List Int} (v:Int) (hl:l.length<=1000000000) (hN:l.length<N):Qcd N l v=some (l.contains v):=by
 have h:=Xjm N l v hl N 0 (by omega) (by omega)
 rw[show ((0:Nat):Int)=0 from rfl,Un] at h
 rw[Qcd,h,Xa]
 cases l.contains v
 ·simp[XN]
 ·simp[X8]
structure OU (N:Nat) (h:Wz) (l:List Int):Prop where
 at_:∀ a∈l,OL h a
 ev:∀ a∈l,QbU N h a=some (hdA h.Words a,0)
 pw:l.Pairwise λ a b=>a+szA h.Words a<=b
def Xfs (h:Wz) (i:Int) (l:List Int):Prop:=∀ a∈l,XI h.Conf i 0<=a/\pgi h.Conf a=i
theorem XcC {c:Ut} {i o p:Int} (h:o<=p):XI c i o<=XI c i p:=by unfold XI;omega
theorem Xjn {c:Ut} (hc:Yq c=true) {p o:Int} (h0:0<=o) (h1:o<c.PageWords):pgi c (XI c p o)=p/\pgo c (XI c p o)=o:=Xlg hc h0 h1
theorem JQ {c:Ut} (hc:Yq c=true) {a:Int} (h:4096<=a/\a<4096+c.Pages*c.PageWords):a=XI c (pgi c a) (pgo c a)/\0<=pgi c a/\pgi c a<c.Pages/\0<=pgo c a/\pgo c a<c.PageWords:=by
 have:=Xgi hc h.1 h.2
 exact ⟨this.2.2.2.2,this.1,this.2.1,this.2.2.1,this.2.2.2.1⟩
def Xpu (N:Nat) (h:Wz) (i o:Int) (l:List Int):Prop:=OU N h l/\Xfs h i l/\(∀ a∈l,a+szA h.Words a<=XI h.Conf i o)/\(l.length:Int)<=o
theorem OU.snoc {N:Nat} {h:Wz} {l:List Int} {a:Int} (hl:OU N h l) (ha:OL h a) (hev:QbU N h a=some (hdA h.Words a,0)) (hle:∀ b∈l,b+szA h.Words b<=a):OU N h (l++[a]):=by
 refine ⟨λ x hx=>?_,λ x hx=>?_,?_⟩
 ·rcases WH.1 hx with hx | hx
  ·exact hl.at_ x hx
  ·have:x=a:=by simpa using hx
   subst this;exact ha
 ·rcases WH.1 hx with hx | hx
  ·exact hl.ev x hx
  ·have:x=a:=by simpa using hx
   subst this;exact hev
 ·rw[Oh]
  refine ⟨hl.pw,by simp,λ b hb c hc=>?_⟩
  have:c=a:=by simpa using hc
  subst this;exact hle b hb
def PageL (N:Nat) (h:Wz) (i:Int) (l:List Int):Prop:=OU N h l/\Xfs h i l/\(l.length:Int)<=64
def Xn6 (N:Nat) (h:Wz) (i:Int):Ex (List Int×Int) (List Int)->Prop
 | .ret r=>r=([],19)
 | .nxt l=>PageL N h i l
theorem QkD {N:Nat} (hN:NB N) {h:Wz} (hb:HB h) (hp:IH h) {i:Int} (h0:0<=i) (h1:i<h.Pages.length) (hk:(pg h.Pages i).Kind=1\/(pg h.Pages i).Kind=2):∀ (n:Nat) (o:Int) (l:List Int),0<=o->(65-o).toNat<n->Xpu N h i o l->((pg h.Pages i).Kind=1->o<=(pg h.Pages i).Used)->((pg h.Pages i).Kind=2->o=0) ->
 Ok (QbJ N h i (pg h.Pages i) n o l) (Xn6 N h i)
 | 0,o,l,_,hn,hu,k1,k2=>by
  have hv:=XH.1 hp.conf
  have ho:=(hp.pgs i h0 h1).small
  rcases hk with hk | hk
  ·have:=k1 hk;have:=ho hk;omega
  ·have:=k2 hk;omega
 | n+1,o,l,ho0,hn,hu,k1,k2=>by
  have hv:=XH.1 hp.conf
  have hsm:=(hp.pgs i h0 h1).small
  have hpl:=hp.pages
  have hle64:(l.length:Int)<=64:=by
   have:=hu.2.2.2
   rcases hk with hk | hk
   ·have:=k1 hk;have:=hsm hk;omega
   ·have:=k2 hk;omega
  rw[QbJ]
  refine Wq (λ hlt=>?_) λ _=>Wg ⟨hu.1,hu.2.1,hle64⟩
  have hlt:o<(pg h.Pages i).Used:=Wu hlt
  have hopw:o<h.Conf.PageWords:=by
   rcases hk with hk | hk
   ·have:=hsm hk;omega
   ·have:=k2 hk;omega
  rw[Xgh,hp.conf,Xa,Wh (by simp),Wn (by omega)]
  dsimp only
  refine WL (Xgl hN hb (XI h.Conf i o)) λ y ey hy=>?_
  refine Wq (λ _=>Wg rfl) λ hy0=>?_
  obtain ⟨_,_,hat,hhd⟩:=hy (by simpa using hy0)
  have hpi:=Xjn hp.conf (p:=i) ho0 hopw
  have hsz:=VA h.Words (XI h.Conf i o)
  have hev:QbU N h (XI h.Conf i o)=some (hdA h.Words (XI h.Conf i o),0):=by
   rw[ey];congr 1;exact Prod.ext hhd (by simpa using hy0)
  have hobj:OU N h (l++[XI h.Conf i o]):=hu.1.snoc hat hev hu.2.2.1
  have hon:Xfs h i (l++[XI h.Conf i o]):=by
   intro x hx
   rcases WH.1 hx with hx | hx
   ·exact hu.2.1 x hx
   ·have:x=XI h.Conf i o:=by simpa using hx
    subst this;exact ⟨XcC ho0,hpi.1⟩
  have hlen1:((l++[XI h.Conf i o]).length:Int)=l.length+1:=by simp
  have hlo:=hu.2.2.2
  refine Ug (by omega) (Wq (λ kk=>Wg ⟨hobj,hon,by have:=k2 (by simpa using kk);omega⟩) λ kk=>?_)
  have kk:(pg h.Pages i).Kind=1:=by
   rcases hk with hk | hk
   ·exact hk
   ·rw[hk] at kk;cases kk
  rw[hhd,ZY,Xa]
  rw[hsz.1]
  have hs:=hat.small (by rw[hpi.1];exact kk)
  rw[hpi.1,hpi.2] at hs
  have:=hsm kk
  rw[Xe (by omega) (by omega)]
  refine QkD hN hb hp h0 h1 hk n _ _ (by omega) (by omega) ⟨hobj,hon,λ x hx=>?_,by omega⟩ (λ _=>by omega) (λ e=>by rw[kk] at e;cases e)
  rcases WH.1 hx with hx | hx
  ·have:=hu.2.2.1 x hx
   have:=XcC (c:=h.Conf) (i:=i) (o:=o) (p:=o+szA h.Words (XI h.Conf i o)) (by omega)
   omega
  ·have:x=XI h.Conf i o:=by simpa using hx
   subst this
   unfold XI;omega
theorem PageL.nil (N:Nat) (h:Wz) (i:Int):PageL N h i []:=⟨⟨by simp,by simp,by simp⟩,λ a ha=>by simp at ha,by simp⟩
theorem Qmi {N:Nat} (hN:NB N) {h:Wz} (hb:HB h) (i:Int):Ok (QaV N h i) λ r=>(r.2≠0->r.1=[])/\r.1.length<=64/\(IH h->PageL N h i r.1):=by
 have hN':=hN
 unfold NB at hN'
 rw[QaV]
 refine WL (Zp (N:=N) (by omega) hb.1 hb.2) λ b eb hp=>?_
 refine Wq (λ _=>Wg ⟨λ _=>rfl,by simp,λ _=>PageL.nil N h i⟩) λ hb1=>?_
 have hp:=hp (by simpa using hb1)
 refine Wq (λ _=>Wg ⟨λ _=>rfl,by simp,λ _=>PageL.nil N h i⟩) λ h0=>?_
 refine Wq (λ _=>Wg ⟨λ _=>rfl,by simp,λ _=>PageL.nil N h i⟩) λ h1=>?_
 have h0:0<=i:=by have:=WI h0;omega
 have h1:i<h.Pages.length:=by have:=WI h1;omega
 refine Ok.get h0 h1 λ p hpp=>?_
 have hpg:=Yr hpp
 subst hpg
 refine Wq (λ _=>Wg ⟨λ _=>rfl,by simp,λ _=>PageL.nil N h i⟩) λ k0=>?_
 refine Wq (λ _=>Wg ⟨λ _=>rfl,by simp,λ _=>PageL.nil N h i⟩) λ k3=>?_
 have hkk:=(hp.pgs i h0 h1).kind
 have k0:¬ (pg h.Pages i).Kind=0:=by simpa using k0
 have k3:¬ (pg h.Pages i).Kind=3:=by simpa using k3
 refine I7 (QkD hN hb hp h0 h1 (by omega) N 0 [] (by omega) (by omega) ⟨⟨by simp,by simp,by simp⟩,λ a ha=>by simp at ha,by simp,by simp⟩ (λ k=>((hp.pgs i h0 h1).small k).1) (λ _=>rfl)) (λ a q=>?_) λ l q=>?_
 ·have:a=([],19):=q
  subst this
  exact Wg ⟨λ _=>rfl,by simp,λ _=>PageL.nil N h i⟩
 ·have q:PageL N h i l:=q
  exact Wg ⟨λ e=>absurd rfl e,by have:=q.2.2;dsimp only;omega,λ _=>q⟩
theorem Xlj {c:Ut} (hc:Yq c=true) {w:Int} (h:1<=Zh c w):w<=Zh c w*c.PageWords:=by
 unfold Zh at h ⊢
 by_cases h0:Yq c=true/\1<=w
 ·rw[Wn h0] at h ⊢
  by_cases h1:w<=c.PageWords / 4
  ·rw[Wn h1] at h;omega
  rw[Wh h1] at h ⊢
  by_cases h2:c.PageWords>=w
  ·rw[Wn h2];omega
  rw[Wh h2] at h ⊢
  by_cases h3:2*c.PageWords>=w
  ·rw[Wn h3];omega
  rw[Wh h3] at h ⊢
  by_cases h4:3*c.PageWords>=w
  ·rw[Wn h4];omega
  rw[Wh h4] at h ⊢
  by_cases h5:4*c.PageWords>=w
  ·rw[Wn h5];omega
  rw[Wh h5] at h;omega
 ·rw[Wh h0] at h;omega
theorem Xdv {h:Wz} (hp:IH h) {a:Int} (ha:OL h a):∃ k,1<=k/\pgi h.Conf a+k<=h.Conf.Pages/\a+szA h.Words a<=XI h.Conf (pgi h.Conf a+k) 0/\∀ m,1<=m->m<k->(pg h.Pages (pgi h.Conf a+m)).Kind=3:=by
 have hv:=XH.1 hp.conf
 obtain ⟨e,q0,q1,q2,q3⟩:=JQ hp.conf ha.rng
 have hpl:=hp.pages
 rcases ha.kind with hk | hk
 ·have hs:=ha.small hk
  have:=(hp.pgs _ q0 (by omega)).small hk
  refine ⟨1,by omega,by omega,?_,λ m h1 h2=>by omega⟩
  have e2:XI h.Conf (pgi h.Conf a+1) 0=4096+pgi h.Conf a*h.Conf.PageWords+h.Conf.PageWords:=by unfold XI;rw[Oj];omega
  rw[e2]
  have e3:a=4096+pgi h.Conf a*h.Conf.PageWords+pgo h.Conf a:=e
  omega
 ·obtain ⟨z1,z2⟩:=ha.large hk
  obtain ⟨l1,l2⟩:=(hp.pgs _ q0 (by omega)).large hk
  have hle:=Xlj hp.conf l1
  refine ⟨_,l1,?_,?_,λ m h1 h2=>(l2 m h1 h2).2⟩
  ·by_cases h1:Zh h.Conf (pg h.Pages (pgi h.Conf a)).Used=1
   ·omega
   ·have:=(l2 (Zh h.Conf (pg h.Pages (pgi h.Conf a)).Used-1) (by omega) (by omega)).1
    omega
  ·have e3:a=4096+pgi h.Conf a*h.Conf.PageWords+pgo h.Conf a:=e
   unfold XI
   rw[Oj]
   omega
theorem Xlk {h:Wz} (hp:IH h) {a:Int} (ha:OL h a):a+szA h.Words a<=4096+h.Words.length:=by
 obtain ⟨k,h1,h2,h3,_⟩:=Xdv hp ha
 have hv:=XH.1 hp.conf
 have:=hp.words
 have hm:(pgi h.Conf a+k)*h.Conf.PageWords<=h.Conf.Pages*h.Conf.PageWords:=U8 h2 (by omega)
 unfold XI at h3
 omega
theorem Xhw {h:Wz} (hp:IH h) {a b:Int} (ha:OL h a) (hb:OL h b) (hlt:pgi h.Conf a<pgi h.Conf b):a+szA h.Words a<=b:=by
 obtain ⟨k,h1,h2,h3,h4⟩:=Xdv hp ha
 have hv:=XH.1 hp.conf
 obtain ⟨e,q0,q1,q2,q3⟩:=JQ hp.conf hb.rng
 have hge:pgi h.Conf a+k<=pgi h.Conf b:=by
  rcases (by omega:pgi h.Conf b<pgi h.Conf a+k\/pgi h.Conf a+k<=pgi h.Conf b) with hc | hc
  ·have:=h4 (pgi h.Conf b-pgi h.Conf a) (by omega) (by omega)
   rw[show pgi h.Conf a+(pgi h.Conf b-pgi h.Conf a)=pgi h.Conf b by omega] at this
   rcases hb.kind with hk | hk<;>omega
  ·exact hc
 have hm:(pgi h.Conf a+k)*h.Conf.PageWords<=pgi h.Conf b*h.Conf.PageWords:=U8 hge (by omega)
 unfold XI at h3 e
 omega
end Go.Sx
namespace Go.Sx
theorem QiI {N:Nat} (hN:NB N) {h:Wz} (hb:HB h) (hp:IH h) (i:Int) (h0:0<=i) (h1:i<h.Pages.length):Ok (QaV N h i) λ r=>PageL N h i r.1/\r.1.length<=64:=(Qmi hN hb i).mono λ r hr=>⟨hr.2.2 hp,hr.2.1⟩
structure OD (N:Nat) (h:Wz) (l:List Int):Prop where
 obj:OU N h l
 page:∀ a∈l,∃ r,QaV N h (pgi h.Conf a)=some r/\a∈r.1
 len:l.length<=4096
theorem OD.nil (N:Nat) (h:Wz):OD N h []:=⟨⟨by simp,by simp,by simp⟩,by simp,by simp⟩
theorem XcD {N:Nat} (hN:NB N) {h:Wz} (hb:HB h) (hp:IH h):∀ (n:Nat) (i:Int) (l:List Int),0<=i->i<=h.Pages.length->(h.Pages.length-i).toNat<n->OU N h l->(∀ a∈l,∃ r,QaV N h (pgi h.Conf a)=some r/\a∈r.1)->(∀ a∈l,pgi h.Conf a<i)->(l.length:Int)<=64*i ->
 Ok (Qbd N h n i l) λ e=>match e with | .ret r=>r.1=[]/\r.2≠0 | .nxt l=>OD N h l
 | 0,i,l,_,_,hn,_,_,_,_=>by omega
 | n+1,i,l,h0,hi,hn,hl,hpp,hlt,hlen=>by
  have hv:=XH.1 hp.conf
  have hpl:=hp.pages
  rw[Qbd]
  refine Wq (λ hc=>?_) λ _=>Wg ⟨hl,hpp,by omega⟩
  have hc:i<h.Pages.length:=Wu hc
  refine WL (QiI hN hb hp i h0 hc) λ y ey hy=>?_
  refine Wq (λ hk=>Wg ⟨rfl,by simpa using hk⟩) λ hk=>?_
  have hy2:=hy.2
  refine Ug (by omega) ?_
  rw[Xe (by omega) (by omega)]
  have hon:∀ a∈y.1,pgi h.Conf a=i:=λ a ha=>(hy.1.2.1 a ha).2
  refine XcD hN hb hp n (i+1) _ (by omega) (by omega) (by omega) ⟨λ a ha=>?_,λ a ha=>?_,?_⟩ (λ a ha=>?_) (λ a ha=>?_) (by rw[Wr];omega)
  ·rcases WH.1 ha with ha | ha
   ·exact hl.at_ a ha
   ·exact hy.1.1.at_ a ha
  ·rcases WH.1 ha with ha | ha
   ·exact hl.ev a ha
   ·exact hy.1.1.ev a ha
  ·rw[Oh]
   refine ⟨hl.pw,hy.1.1.pw,λ a ha b hb'=>?_⟩
   exact Xhw hp (hl.at_ a ha) (hy.1.1.at_ b hb') (by rw[hon b hb'];exact hlt a ha)
  ·rcases WH.1 ha with ha | ha
   ·exact hpp a ha
   ·exact ⟨y,by rw[hon a ha];exact ey,ha⟩
  ·rcases WH.1 ha with ha | ha
   ·have:=hlt a ha;omega
   ·have:=hon a ha;omega
theorem Xhx {N:Nat} (hN:NB N) {h:Wz} (hb:HB h):Ok (Qen N h) λ r=>OD N h r.1/\(r.2=0->IH h)/\(r.2≠0->r.1=[]):=by
 have hN':=hN
 unfold NB at hN'
 rw[Qen]
 refine WL (Zp (N:=N) (by omega) hb.1 hb.2) λ b eb hp=>?_
 refine Wq (λ _=>Wg ⟨OD.nil N h,λ e=>(by cases e),λ _=>rfl⟩) λ hb1=>?_
 have hp:=hp (by simpa using hb1)
 have hbb:=hb.2
 refine I7 (XcD hN hb hp N 0 [] (by omega) (by omega) (by omega) ⟨by simp,by simp,by simp⟩ (by simp) (by simp) (by simp)) (λ a q=>?_) λ l q=>Wg ⟨q,λ _=>hp,λ e=>absurd rfl e⟩
 refine Wg ⟨?_,λ e=>absurd e q.2,λ _=>q.1⟩
 rw[q.1];exact OD.nil N h
theorem OD.sub {N:Nat} {h:Wz} {l l':List Int} (hs:OD N h l) (h':l'.Sublist l):OD N h l' :=
 ⟨⟨λ a ha=>hs.obj.at_ a (h'.subset ha),λ a ha=>hs.obj.ev a (h'.subset ha),hs.obj.pw.sublist h'⟩,λ a ha=>hs.page a (h'.subset ha),Ic h'.length_le hs.len⟩
theorem VB {N:Nat} (hN:NB N) {h:Wz} (hb:HB h) (y:List Int×Int) (hy:y.1.length<=4096):∀ (n k:Nat) (l:List Int),k<=y.1.length->y.1.length-k<n->l.Sublist (y.1.take k)->Ok (QaQ N h y n (k:Int) l) λ o=>o.Sublist y.1
 | 0,k,l,_,hn,_=>by omega
 | n+1,k,l,hk,hn,hs=>by
  rw[QaQ]
  have hlen:l.length<=4096:=Ic hs.length_le (by rw[WO];omega)
  refine Wq (λ hc=>?_) λ _=>Wg (hs.trans (List.take_sublist _ _))
  have hc:(k:Int)<y.1.length:=Wu hc
  have hkl:k<y.1.length:=by omega
  refine Ok.get (by omega) hc λ p hp=>?_
  refine WL (Xgl hN hb p) λ z ez hz=>?_
  have e1:wI ((k:Int)+1)=((k+1:Nat):Int):=by rw[Xe (by omega) (by omega)];omega
  rw[e1]
  refine Wq (λ _=>?_) λ _=>VB hN hb y hy n (k+1) l (by omega) (by omega) (hs.trans (List.take_sublist_take_left (by omega)))
  refine Ok.get (by omega) hc λ p' hp'=>Ug (by omega) (VB hN hb y hy n (k+1) _ (by omega) (by omega) ?_)
  have hpe:p'=y.1[k]:=by
   rw[Xd,Wc hkl] at hp'
   exact (Ww hp').symm
  rw[UY hkl,hpe]
  exact hs.append (List.Sublist.refl _)
theorem KB {N:Nat} (hN:NB N) {h:Wz} (hb:HB h):Ok (Qbk N h) λ r=>OD N h r.1/\(r.2=0->IH h)/\(r.1≠[]->IH h):=by
 rw[Qbk]
 refine WL (Xhx hN hb) λ y ey hy=>?_
 have hN':=hN
 unfold NB at hN'
 have hl:=hy.1.len
 have:=VB hN hb y hl N 0 [] (by omega) (by omega) (by simp)
 rw[show ((0:Nat):Int)=0 from rfl] at this
 refine WL this λ o eo ho=>Wg ⟨hy.1.sub ho,hy.2.1,λ hne=>?_⟩
 by_cases h2:y.2=0
 ·exact hy.2.1 h2
 ·rw[hy.2.2 h2] at ho
  exact absurd (List.sublist_nil.1 ho) hne
theorem XaK {N:Nat} (hN:NB N) {h:Wz} (hb:HB h) (a:Int):Ok (Qd7 N h a) λ b=>b=true->IH h/\OL h a:=by
 rw[Qd7]
 have hN':=hN
 unfold NB at hN'
 refine WL (KB hN hb) λ y ey hy=>?_
 have hl:=hy.1.len
 rw[Jq a (by omega) (by omega),Xa]
 refine Wg λ e=>?_
 have hm:a∈y.1:=by simpa using e
 exact ⟨hy.2.2 (List.ne_nil_of_mem hm),hy.1.obj.at_ a hm⟩
theorem Xll {N:Nat} {h:Wz} (hb:HB h) (i o:Int):Ok (QgA N h i o) λ _=>True:=by
 rw[QgA,Qg2,Xgh,Xa,KL (by unfold BIG;have:=hb.1;omega),Xa,Xa]
 exact Wg trivial
end Go.Sx
namespace Go.Sx
def XbC (h:Wz) (i:Int) (l:List Int):Prop:=(pg h.Pages i).Kind=1->∀ a∈l,szA h.Words a<=smC h.Conf
theorem Xes {N:Nat} (hN:NB N) {h:Wz} (hb:HB h) {i:Int} (h0:0<=i) (h1:i<h.Pages.length) (l:List Int) (hl:l.length<=4096) (hev:∀ a∈l,QbU N h a=some (hdA h.Words a,0)/\a≠0):∀ (n k:Nat),k<=l.length->l.length-k<n ->
 Ok (Qbq N h i l n (k:Int)) λ e=>match e with | .ret r=>r≠0 | .nxt _=>(pg h.Pages i).Kind=1->∀ a∈l.drop k,szA h.Words a<=smC h.Conf
 | 0,k,_,hn=>by omega
 | n+1,k,hk,hn=>by
  rw[Qbq]
  refine Wq (λ hc=>?_) λ hc=>Wg ?_
  rotate_left
  ·have hc:=WI hc
   rw[WZ (by omega)]
   simp
  have hc:(k:Int)<l.length:=Wu hc
  have hkl:k<l.length:=by omega
  refine Ok.get (by omega) hc λ p hp=>?_
  have hpe:p=l[k]:=by
   rw[Xd,Wc hkl] at hp
   exact (Ww hp).symm
  have hpm:p∈l:=YN hp
  rw[(hev p hpm).1,Xa]
  dsimp only
  rw[ZY,Xa,Xmk,Xa,(VA h.Words p).1]
  have e1:wI ((k:Int)+1)=((k+1:Nat):Int):=by rw[Xe (by omega) (by omega)];omega
  rw[e1]
  have ret:∀ p',Xb l (k:Int)=some p'->p'≠0:=λ p' hp'=>(hev p' (YN hp')).2
  have next:((pg h.Pages i).Kind=1->szA h.Words p<=smC h.Conf)->Ok (Qbq N h i l n ((k+1:Nat):Int)) λ e=>match e with | .ret r=>r≠0 | .nxt _=>(pg h.Pages i).Kind=1->∀ a∈l.drop k,szA h.Words a<=smC h.Conf:=by
   intro hs
   refine (Xes hN hb h0 h1 l hl hev n (k+1) (by omega) (by omega)).mono λ e he=>?_
   cases e with
   | ret r=>exact he
   | nxt _ =>
    intro hk1 a ha
    rw[WA hkl] at ha
    rcases UN.1 ha with rfl | ha
    ·rw[← hpe];exact hs hk1
    ·exact he hk1 a ha
  refine Ok.get h0 h1 λ q hq=>?_
  have hqg:=Yr hq
  refine Wq (λ k1=>?_) λ k1=>?_
  ·refine Wq (λ _=>Ok.get (by omega) hc λ p' hp'=>Wg (ret p' hp')) λ k2=>?_
   have hs:szA h.Words p<=smC h.Conf:=by simpa using k2
   refine Ok.get h0 h1 λ q2 hq2=>Wq (λ _=>Wq (λ _=>Ok.get (by omega) hc λ p' hp'=>Wg (ret p' hp')) λ _=>next λ _=>hs) λ _=>next λ _=>hs
  ·have hs:(pg h.Pages i).Kind=1->szA h.Words p<=smC h.Conf:=by
    intro e;rw[hqg] at e;rw[e] at k1;cases k1
   refine Ok.get h0 h1 λ q2 hq2=>Wq (λ _=>Wq (λ _=>Ok.get (by omega) hc λ p' hp'=>Wg (ret p' hp')) λ _=>next hs) λ _=>next hs
theorem Xjo {N:Nat} (hN:NB N) {h:Wz} (hb:HB h) {i:Int} (h0:0<=i) (h1:i<h.Pages.length) {l:List Int} (hl:l.length<=64) (hev:∀ a∈l,QbU N h a=some (hdA h.Words a,0)/\a≠0) :
 Ok (QfG N h i l) λ r=>r=0->XbC h i l:=by
 rw[QfG]
 have hN':=hN
 unfold NB at hN'
 have:=Xes hN hb h0 h1 l (by omega) hev N 0 (by omega) (by omega)
 rw[show ((0:Nat):Int)=0 from rfl] at this
 refine I7 this (λ a q=>Wg λ e=>absurd e q) λ _ q=>Wg λ _=>?_
 rw[Un] at q
 exact q
theorem Xdw {N:Nat} {h:Wz} (i:Int) (l:List Int) (k:Int) (hk0:0<=k) (hk:k<l.length) (x:Int) (hx:x<=256):∀ (n:Nat) (w:Int) (u:List Bool),0<=w->(x-w).toNat<n->u.length<=1000->Ok (Qb7 N h i l k x n w u) λ r=>r.length=u.length
 | 0,w,u,_,hn,_=>by omega
 | n+1,w,u,h0,hn,hu=>by
  rw[Qb7]
  refine Wq (λ hc=>?_) λ _=>Wg rfl
  have hc:w<x:=Wu hc
  refine Ok.get hk0 hk λ p hp=>?_
  rw[Xe (n:=w+1) (by omega) (by omega)]
  have next:=Xdw (N:=N) (h:=h) i l k hk0 hk x hx n (w+1) u (by omega) (by omega) hu
  refine Wq (λ h1=>?_) λ _=>next
  refine Ug (by omega) (Wq (λ h2=>?_) λ _=>next)
  refine Ok.get (Wu h1) (Wu h2) λ q hq=>?_
  refine (Xdw i l k hk0 hk x hx n (w+1) _ (by omega) (by omega) (by rw[Wv];exact hu)).mono λ r hr=>?_
  rw[hr,Wv]
theorem Xgn {N:Nat} (hN:NB N) {h:Wz} (hb:HB h) (i:Int) (l:List Int) (hl:l.length<=100000):∀ (n:Nat) (k:Int) (u:List Bool),0<=k->k<=l.length->(l.length-k).toNat<n->u.length<=1000->Ok (Qds N h i l n k u) λ r=>r.length=u.length
 | 0,k,u,_,_,hn,_=>by omega
 | n+1,k,u,h0,hk,hn,hu=>by
  rw[Qds]
  refine Wq (λ hc=>?_) λ _=>Wg rfl
  have hc:k<l.length:=Wu hc
  have hN':=hN
  unfold NB at hN'
  refine Ok.get h0 hc λ p hp=>WL (Xgl hN hb p) λ y ey hy=>?_
  rw[ZY,Xa]
  have hs:=Xjg y.1
  have next:∀ x:Int,x<=256->Ok (bnd (Qb7 N h i l k x N 0 u) λ y11=>Qds N h i l n (wI (k+1)) y11) λ r=>r.length=u.length:=by
   intro x hx
   refine WL (Xdw i l k h0 hc x hx N 0 u (by omega) (by omega) hu) λ r er hr=>?_
   rw[Xe (n:=k+1) (by omega) (by omega)]
   exact (Xgn hN hb i l hl n (k+1) r (by omega) (by omega) (by omega) (by omega)).mono λ o ho=>by omega
  exact IS (Wq (λ _=>next 1 (by omega)) λ _=>next _ (by omega))
theorem Xgo (N:Nat) {h:Wz} (hf:(pg h.Pages 0).Kind≠3):∀ (n:Nat) (i:Int),0<=i->i<h.Pages.length->h.Pages.length<=100000->i.toNat<n->Ok (Qey N h n i) λ r=>0<=r/\r<h.Pages.length
 | 0,i,_,_,_,hn=>by omega
 | n+1,i,h0,h1,hl,hn=>by
  rw[Qey]
  refine Ok.get h0 h1 λ p hp=>Wq (λ hk=>?_) λ _=>Wg ⟨h0,h1⟩
  have hk:p.Kind=3:=by simpa using hk
  have:i≠0:=by rintro rfl;exact hf (by rw[Yr hp];exact hk)
  rw[Xe (by omega) (by omega)]
  exact Xgo N hf n (i-1) (by omega) (by omega) hl (by omega)
theorem Xgp {N:Nat} {h:Wz} (hb:HB h) (i:Int) (u:List Bool) (hu:u.length<=1000):∀ (n:Nat) (k:Int),0<=k->k<=u.length->(u.length-k).toNat<n->Ok (Qdt N h i u n k) λ _=>True
 | 0,k,_,_,hn=>by omega
 | n+1,k,h0,hk,hn=>by
  rw[Qdt]
  refine Wq (λ hc=>?_) λ _=>Wg trivial
  have hc:k<u.length:=Wu hc
  rw[Xe (n:=k+1) (by omega) (by omega)]
  have next:=Xgp (N:=N) hb i u hu n (k+1) (by omega) (by omega) (by omega)
  refine Ok.get h0 hc λ p hp=>Wq (λ _=>WL (Xll hb i k) λ y _ _=>Wq (λ _=>?_) λ _=>next) λ _=>next
  rw[Qgp,Xa]
  exact Wg trivial
theorem Xlm {N:Nat} (hN:NB N) {h:Wz} (hb:HB h) (hp:IH h) {i:Int} (h0:0<=i) (h1:i<h.Pages.length):Ok (Qf9 N h i) λ _=>True:=by
 have hN':=hN
 unfold NB at hN'
 have hbb:=hb.2
 have hv:=XH.1 hp.conf
 rw[Qf9,Qg0]
 refine WL (WL (Xgo N hp.first N i h0 h1 hbb (by omega)) λ r _ hr=>Wg hr) λ r _ hr=>?_
 refine WL (QiI hN hb hp r hr.1 hr.2) λ y _ hy=>?_
 rw[Qg1]
 refine WL (Q:=λ r=>r.length<=1000) (Ug (by omega) (WL (Xgn hN hb i y.1 (by have:=hy.2;omega) N 0 _ (by omega) (by omega) (by have:=hy.2;omega) (by rw[Uc];omega)) λ u _ hu=>Wg ?_)) λ u _ hu=>?_
 ·rw[hu,Uc];omega
 ·exact I7 (Xgp hb i u hu N 0 (by omega) (by omega) (by omega)) (λ _ _=>Wg trivial) λ _ _=>Wg trivial
theorem Xjp {N:Nat} (hN:NB N) {h:Wz} (hb:HB h) (hp:IH h) {i:Int} (h0:0<=i) (h1:i<h.Pages.length):Ok (QgB N h i) λ f=>f.Fault=0->∀ r,QaV N h i=some r->XbC h i r.1:=by
 rw[QgB]
 have main:Ok (bnd (QaV N h i) λ y3 =>
  bif (y3.2 != 0) then some (If.mk 3 i 0)
  else bnd (QfG N h i y3.1) λ y4 =>
  bif (y4 != 0) then some (If.mk 5 i y4)
  else bnd (Qf9 N h i) λ y5 =>
  bif (y5 != 0) then some (If.mk 4 i y5)
  else some (If.mk 0 0 0)) λ f=>f.Fault=0->∀ r,QaV N h i=some r->XbC h i r.1:=by
  refine WL (QiI hN hb hp i h0 h1) λ y ey hy=>?_
  refine Wq (λ _=>Wg λ e=>by cases e) λ _=>?_
  refine WL (Xjo hN hb h0 h1 hy.2 λ a ha=>⟨hy.1.1.ev a ha,by have:=(hy.1.1.at_ a ha).rng;omega⟩) λ c _ hc=>?_
  refine Wq (λ _=>Wg λ e=>by cases e) λ hc0=>?_
  refine WL (Xlm hN hb hp h0 h1) λ d _ _=>?_
  refine Wq (λ _=>Wg λ e=>by cases e) λ _=>Wg λ _ r hr=>?_
  rw[ey] at hr
  exact Ww hr▸hc (by simpa using hc0)
 refine IS (Ok.get h0 h1 λ p hp=>Wq (λ _=>Ok.get h0 h1 λ p hp=>Wq (λ _=>Wg λ e=>by cases e) λ _=>main) λ _=>main)
theorem XaL {N:Nat} {h:Wz} (y1 y6:List Int×Int) (h1:y1.1.length<=4096) (h6:y6.1.length<=256) (hN:1000000<N) (v:Int) (hv0:0<=v) (hv:v<y1.1.length) (y4:WE×Int):∀ (n:Nat) (k:Int),0<=k->k<=y6.1.length->(y6.1.length-k).toNat<n->Ok (Qbt N h y1 y6 v y4 n k) λ e=>∀ f,e=.ret f->f.Fault=6
 | 0,k,_,_,hn=>by omega
 | n+1,k,h0,hk,hn=>by
  rw[Qbt]
  refine Wq (λ hc=>?_) λ _=>Wg λ f e=>by cases e
  have hc:k<y6.1.length:=Wu hc
  rw[Xe (n:=k+1) (by omega) (by omega)]
  have next:=XaL (N:=N) (h:=h) y1 y6 h1 h6 hN v hv0 hv y4 n (k+1) (by omega) (by omega) (by omega)
  rw[VT,Xa]
  refine Wq (λ _=>Ok.get h0 hc λ p hp=>Wq (λ _=>Ok.get h0 hc λ p hp=>?_) λ _=>next) λ _=>next
  rw[Jq p (by omega) (by omega),Xa]
  refine Wq (λ _=>Ok.get hv0 hv λ q hq=>?_) λ _=>next
  rw[Xel,Xa]
  exact Wg λ f e=>by cases e;rfl
theorem XaM {N:Nat} (hN:NB N) {h:Wz} (hb:HB h) (y1:List Int×Int) (h1:y1.1.length<=4096):∀ (n:Nat) (k:Int),0<=k->k<=y1.1.length->(y1.1.length-k).toNat<n->Ok (Qcy N h y1 n k) λ e=>∀ f,e=.ret f->f.Fault=6
 | 0,k,_,_,hn=>by omega
 | n+1,k,h0,hk,hn=>by
  have hN':=hN
  unfold NB at hN'
  rw[Qcy]
  refine Wq (λ hc=>?_) λ _=>Wg λ f e=>by cases e
  have hc:k<y1.1.length:=Wu hc
  rw[Xe (n:=k+1) (by omega) (by omega)]
  refine Ok.get h0 hc λ p hp=>WL (XbB hN hb p) λ y4 _ _=>Ok.get h0 hc λ p hp=>WL (Xhv hN hb p) λ y6 _ h6=>?_
  refine I7 (XaL y1 y6 h1 h6 (by omega) k h0 hc y4 N 0 (by omega) (by omega) (by omega)) (λ a q=>Wg λ f e=>?_) λ _ _=>XaM hN hb y1 h1 n (k+1) (by omega) (by omega) (by omega)
  cases e;exact q a rfl
theorem Xet {N:Nat} (hN:NB N) {h:Wz} (hb:HB h):Ok (Qe0 N h) λ _=>True:=by
 have hN':=hN
 unfold NB at hN'
 rw[Qe0]
 refine WL (KB hN hb) λ y _ hy=>?_
 have:=hy.1.len
 exact I7 (XaM hN hb y hy.1.len N 0 (by omega) (by omega) (by omega)) (λ _ _=>Wg trivial) λ _ _=>Wg trivial
theorem Xeu {N:Nat} (hN:NB N) {h:Wz} (hb:HB h) (hp:IH h):∀ (n:Nat) (i:Int),0<=i->i<=h.Pages.length->(h.Pages.length-i).toNat<n->Ok (Qd2 N h n i) λ e=>match e with | .ret f=>f.Fault≠0 | .nxt _=>∀ j,i<=j->j<h.Pages.length->∀ r,QaV N h j=some r->XbC h j r.1
 | 0,i,_,_,hn=>by omega
 | n+1,i,h0,hi,hn=>by
  have hbb:=hb.2
  rw[Qd2]
  refine Wq (λ hc=>?_) λ hc=>Wg λ j h1 h2=>?_
  rotate_left
  ·have:=WI hc;omega
  have hc:i<h.Pages.length:=Wu hc
  refine WL (Xjp hN hb hp h0 hc) λ f _ hf=>Wq (λ hk=>Wg (by simpa using hk)) λ hk=>?_
  rw[Xe (by omega) (by omega)]
  refine (Xeu hN hb hp n (i+1) (by omega) (by omega) (by omega)).mono λ e he=>?_
  cases e with
  | ret f=>exact he
  | nxt _ =>
   intro j h1 h2
   by_cases hj:j=i
   ·subst hj;exact hf (by simpa using hk)
   ·exact he j (by omega) h2
theorem Xev {N:Nat} {h:Wz} (hl:h.Pages.length<=100000):∀ (n:Nat) (c i:Int),0<=i->i<=h.Pages.length->(h.Pages.length-i).toNat<n->Ok (Qce N h n c i) λ _=>True
 | 0,c,i,_,_,hn=>by omega
 | n+1,c,i,h0,hi,hn=>by
  rw[Qce]
  refine Wq (λ hc=>?_) λ _=>Wg trivial
  have hc:i<h.Pages.length:=Wu hc
  rw[Xe (n:=i+1) (by omega) (by omega)]
  have next:=λ c'=>Xev (N:=N) hl n c' (i+1) (by omega) (by omega) (by omega)
  exact Ok.get h0 hc λ p hp=>Wq (λ _=>Ok.get h0 hc λ p hp=>Wq (λ _=>next _) λ _=>next _) λ _=>next _
structure OR (N:Nat) (h:Wz):Prop where
 prop:IH h
 small:∀ j:Int,0<=j->j<h.Pages.length->∀ r,QaV N h j=some r->XbC h j r.1
theorem Xa3 {N:Nat} (hN:NB N) {h:Wz} (hb:HB h):Ok (QeF N h) λ b=>b=true->OR N h:=by
 have hN':=hN
 unfold NB at hN'
 have hbb:=hb.2
 rw[QeF,QgP]
 refine WL (Q:=λ f=>f.Fault=0->OR N h) (WL (Zp (N:=N) (by omega) hb.1 hb.2) λ b eb hp=>Wq (λ _=>Wg λ e=>by cases e) λ hb1=>?_) λ f _ hf=>Wg λ e=>?_
 ·have hp:=hp (by simpa using hb1)
  refine I7 (Xeu hN hb hp N 0 (by omega) (by omega) (by omega)) (λ a q=>Wg λ e=>absurd e q) λ _ q=>?_
  have hg:OR N h:=⟨hp,q⟩
  refine WL (Xet hN hb) λ f _ _=>Wq (λ _=>Wg λ _=>hg) λ _=>?_
  exact WL (Xev hbb N 0 0 (by omega) (by omega) (by omega)) λ c _ _=>Wq (λ _=>Wg λ _=>hg) λ _=>Wg λ _=>hg
 ·simp only[WG,beq_iff_eq] at e
  exact hf e.1
theorem OR.sz {N:Nat} {h:Wz} (hg:OR N h) {l:List Int} (hl:OD N h l) {a:Int} (ha:a∈l) (hk:(pg h.Pages (pgi h.Conf a)).Kind=1):szA h.Words a<=h.Conf.PageWords / 4:=by
 obtain ⟨r,hr,hm⟩:=hl.page a ha
 have hat:=hl.obj.at_ a ha
 obtain ⟨_,q0,q1,_⟩:=JQ hg.prop.conf hat.rng
 have:=hg.small _ q0 (by have:=hg.prop.pages;omega) r hr hk a hm
 unfold smC at this
 rwa[Wn hg.prop.conf] at this
theorem XcE {N:Nat} (l:List Int) (hl:l.length<=100000000) (y:List Int×Int) (hy:y.1.length<=4096) (hN:1000000<N):∀ (n:Nat) (k:Int),0<=k->k<=l.length->(l.length-k).toNat<n->Ok (Qcu N l y n k) λ _=>True
 | 0,k,_,_,hn=>by omega
 | n+1,k,h0,hk,hn=>by
  rw[Qcu]
  refine Wq (λ hc=>?_) λ _=>Wg trivial
  have hc:k<l.length:=Wu hc
  rw[Xe (n:=k+1) (by omega) (by omega)]
  have next:=XcE (N:=N) l hl y hy hN n (k+1) (by omega) (by omega) (by omega)
  refine Ok.get h0 hc λ p hp=>Wq (λ _=>Ok.get h0 hc λ p hp=>?_) λ _=>next
  rw[Jq p (by omega) (by omega),Xa]
  exact Wq (λ _=>Wg trivial) λ _=>next
theorem Xap {N:Nat} (hN:NB N) {h:Wz} (hb:HB h) {l:List Int} (hl:l.length<=1000000):Ok (Qeo N h l) λ b=>b=true->OR N h:=by
 have hN':=hN
 unfold NB at hN'
 rw[Qeo]
 refine WL (Xa3 hN hb) λ b _ hb1=>Wq (λ _=>Wg λ e=>by cases e) λ hb2=>?_
 have hg:=hb1 (by simpa using hb2)
 refine WL (KB hN hb) λ y _ hy=>?_
 exact I7 (XcE l (by omega) y hy.1.len (by omega) N 0 (by omega) (by omega) (by omega)) (λ _ _=>Wg λ _=>hg) λ _ _=>Wg λ _=>hg
end Go.Sx
namespace Go.Sx
theorem Xjq (d:WE):Xek d % 4=1:=by
 have e:Ka .u64 (wU d.Map) 16=wU (wU d.Map*65536):=rfl
 unfold Xek
 rw[e]
 simp only[Xeh]
 omega
theorem Xln (ws:List Int) (a:Int) (h:wd ws a % 4=2):szA ws a=1:=by
 have:okH (wd ws a)=false:=by
  unfold okH
  have h1:=Xjq (Xdu (wd ws a))
  have:(Xek (Xdu (wd ws a))==wd ws a)=false:=by
   rw[WY]
   intro e
   rw[e] at h1
   omega
  rw[this,Bool.and_false]
 unfold szA hdA KA
 rw[this]
 rfl
structure ON (h0:Wz) (l:List Int) (w:W9) (O:Int->Prop) (s:Int->Int):Prop where
 old:∀ a∈l,O a/\s a=szA h0.Words a
 queue:∀ a∈w.Queue,O a
 fit:∀ a,O a->4096<=a/\1<=s a/\a+s a<=4096+w.Heap.Words.length/\szA w.Heap.Words a<=s a
 apart:∀ a b,O a->O b->a≠b->a+s a<=b\/b+s b<=a
 taken:∀ a,O a->∀ j∈w.Taken,a+s a<=XI h0.Conf j (pg w.Heap.Pages j).Used\/XI h0.Conf (j+1) 0<=a
 free:∀ a,O a->∀ j:Int,0<=j->j<w.Heap.Pages.length->(pg w.Heap.Pages j).Kind=0->a+s a<=XI h0.Conf j 0\/XI h0.Conf (j+1) 0<=a
structure CI (h0:Wz) (l:List Int) (w:W9):Prop where
 conf:w.Heap.Conf=h0.Conf
 wlen:w.Heap.Words.length=h0.Words.length
 plen:w.Heap.Pages.length=h0.Pages.length
 spc:w.Heap.Space=h0.Space
 old:w.Old=l
 tk:∀ j∈w.Taken,0<=j/\j<w.Heap.Pages.length/\(pg w.Heap.Pages j).Kind=1/\0<=(pg w.Heap.Pages j).Used/\(pg w.Heap.Pages j).Used<=h0.Conf.PageWords
 tnd:w.Taken.Nodup
 knd:∀ a∈l,(pg w.Heap.Pages (pgi h0.Conf a)).Kind=(pg h0.Pages (pgi h0.Conf a)).Kind
 qnd:w.Queue.Nodup
 obj:∃ O s,ON h0 l w O s
theorem VW:∀ (n:Nat) (a:Int) (l:List Int),l.Nodup->(∀ x∈l,a<=x/\x<a+n)->l.length<=n
 | 0,a,l,_,h=>by
  cases l with
  | nil=>simp
  | cons x l=>have:=h x (by simp);omega
 | n+1,a,l,hn,h=>by
  by_cases hm:a+(n:Int)∈l
  ·have h1:=VW n a (l.erase (a+(n:Int))) (hn.erase _) λ x hx=>by
    have h2:=(List.Nodup.mem_erase_iff hn).1 hx
    have h3:=h x h2.2
    have:=h2.1
    omega
   have h2:=List.length_erase_of_mem hm
   omega
  ·have h1:=VW n a l hn λ x hx=>by
    have h3:=h x hx
    have:x≠a+(n:Int):=λ e=>hm (e▸hx)
    omega
   omega
section
variable {N:Nat} {h0:Wz} {l:List Int}
theorem CI.ql {w:W9} (hb:HB h0) (hc:CI h0 l w):w.Queue.length<=100000:=by
 obtain ⟨O,s,ho⟩:=hc.obj
 have:=VW w.Heap.Words.length 4096 w.Queue hc.qnd λ x hx=>by
  have:=ho.fit x (ho.queue x hx)
  omega
 have:=hb.1
 have:=hc.wlen
 omega
theorem CI.tl {w:W9} (hb:HB h0) (hc:CI h0 l w):w.Taken.length<=100000:=by
 have:=VW w.Heap.Pages.length 0 w.Taken hc.tnd λ x hx=>by
  have:=hc.tk x hx
  omega
 have:=hb.2
 have:=hc.plen
 omega
theorem XcF {w:W9} (hl:w.Taken.length<=100000) (i:Int):∀ (n:Nat) (k:Int),0<=k->k<=w.Taken.length->(w.Taken.length-k).toNat<n->Ok (Qd5 N w i n k) λ _=>True
 | 0,k,_,_,hn=>by omega
 | n+1,k,h0,hk,hn=>by
  rw[Qd5]
  refine Wq (λ hc=>?_) λ _=>Wg trivial
  have hc:k<w.Taken.length:=Wu hc
  rw[Xe (n:=k+1) (by omega) (by omega)]
  exact Ok.get h0 hc λ p hp=>Wq (λ _=>Wg trivial) λ _=>XcF hl i n (k+1) (by omega) (by omega) (by omega)
theorem XaN (hN:NB N) {w:W9} (hl:w.Taken.length<=100000) (i:Int):Ok (Qd6 N w i) λ b=>b=true->0<=i/\i<w.Heap.Pages.length:=by
 unfold NB at hN
 rw[Qd6]
 refine Wq (λ _=>Wg λ e=>by cases e) λ h1=>Wq (λ _=>Wg λ e=>by cases e) λ h2=>?_
 have h1:0<=i:=by have:=WI h1;omega
 have h2:i<w.Heap.Pages.length:=by have:=WI h2;omega
 refine Ok.get h1 h2 λ p hp=>Wq (λ _=>Wq (λ _=>WL (Q:=λ _=>True) ?_ λ y _ _=>Wg λ _=>⟨h1,h2⟩) λ _=>Wg λ e=>by cases e) λ _=>Wg λ e=>by cases e
 rw[QgQ]
 exact I7 (XcF hl i N 0 (by omega) (by omega) (by omega)) (λ _ _=>Wg trivial) λ _ _=>Wg trivial
structure OY (h0:Wz) (w:W9) (n:Int) (w':W9) (at_:Int) (j u:Int):Prop where
 rng:0<=j/\j<w.Heap.Pages.length
 fit:0<=u/\u+n<=h0.Conf.PageWords
 addr:at_=XI h0.Conf j u
 conf:w'.Heap.Conf=w.Heap.Conf
 words:w'.Heap.Words=w.Heap.Words
 space:w'.Heap.Space=w.Heap.Space
 old:w'.Old=w.Old
 queue:w'.Queue=w.Queue
 scanned:w'.Scanned=w.Scanned
 plen:w'.Heap.Pages.length=w.Heap.Pages.length
 other:∀ i,0<=i->i≠j->pg w'.Heap.Pages i=pg w.Heap.Pages i
 this:(pg w'.Heap.Pages j).Kind=1/\(pg w'.Heap.Pages j).Used=u+n
 way:(j∈w.Taken/\w'.Taken=w.Taken/\u=(pg w.Heap.Pages j).Used)\/((pg w.Heap.Pages j).Kind=0/\w'.Taken=w.Taken++[j]/\u=0)
theorem Xjr (hN:NB N) (hb:HB h0) (hp:IH h0) {w:W9} (hc:CI h0 l w) {n:Int} (hn:1<=n) (hn2:n<=h0.Conf.PageWords):Ok (QdW N w n) λ r=>r.2.2=true->∃ j u,OY h0 w n r.1 r.2.1 j u:=by
 have hN':=hN
 unfold NB at hN'
 have hbb:=hb.2
 have hpl:=hc.plen
 have hv:=XH.1 hp.conf
 have htl:=hc.tl hb
 have hpp:=hp.pages
 rw[QdW]
 have new:Ok (bnd (QdU N w.Heap.Pages 1) λ y4 =>
  bif (decide (y4<0)) then some ((W9.mk (Wz.mk (Ut.mk 0 0) [] [] 0 0) [] [] [] 0 (UL.mk 0 0 0 0 0 0)),0,false)
  else bnd (QdV N w.Heap.Pages y4 (wI (1-w.Heap.Space))) λ y5 =>
  grd (w.Taken.length*8<=140737488355328) <|
  grd ((w.Taken.length+1)*8<=140737488355328) <|
  bnd (Xb y5.1 y4) λ p13 =>
  bnd (Xb y5.1 y4) λ p14 =>
  bnd (Xb y5.1 y4) λ p15 =>
  some ((W9.mk (Wz.mk w.Heap.Conf w.Heap.Words (y5.1.set y4.toNat (W4.mk p15.Kind p15.Space (wI (p14.Used+n)) p15.Pins)) w.Heap.Space w.Heap.Bump) w.Old (w.Taken++[y4]) w.Queue w.Scanned w.Report),(wU (wI ((wI (4096+(wI (y4*w.Heap.Conf.PageWords))))+p13.Used))),true)) λ r=>r.2.2=true->∃ j u,OY h0 w n r.1 r.2.1 j u:=by
  refine WL (XbA 1 (by omega) (by omega)) λ j _ hj=>Wq (λ _=>Wg λ e=>by cases e) λ hj0=>?_
  have hr:RunOK w.Heap.Pages j 1:=by
   rcases hj with rfl | hj
   ·cases hj0
   ·exact hj
  have hsp:=hp.space
  have hws:=hc.spc
  rw[Xe (n:=1-w.Heap.Space) (by omega) (by omega)]
  refine WL (Xep j (1-w.Heap.Space) (by omega) (by omega)) λ y _ hy=>?_
  have hy0:=hy.2.2 hr (by omega) (by omega)
  obtain ⟨q0,q1,q2,q3⟩:=hy.1 hy0
  have hk:=hr.2.2.2 0 (by omega) (by omega)
  rw[Int.add_zero] at hk
  have hjl:j<y.1.length:=by omega
  refine Ug (by omega) (Ug (by omega) (Ok.get q0 hjl λ p1 hp1=>Ok.get q0 hjl λ p2 hp2=>Ok.get q0 hjl λ p3 hp3=>Wg λ _=>?_))
  have g1:=Yr hp1
  have g2:=Yr hp2
  have g3:=Yr hp3
  rw[q3 j q0,Wn rfl] at g1 g2 g3
  subst g1;subst g2;subst g3
  have hm:=JP hp.conf (i:=j) q0 (by omega)
  refine ⟨j,0,⟨⟨q0,by omega⟩,⟨by omega,by omega⟩,?_,rfl,rfl,rfl,rfl,rfl,rfl,?_,λ i hi hij=>?_,?_,.inr ⟨hk,rfl,rfl⟩⟩⟩
  ·show wU (wI (wI (4096+wI (j*w.Heap.Conf.PageWords))+0))=_
   rw[hc.conf,Xe (n:=j*h0.Conf.PageWords) (by omega) (by omega),Xe (n:=4096+j*h0.Conf.PageWords) (by omega) (by omega),Xe (by omega) (by omega),XT (by omega) (by omega)]
   rfl
  ·show (y.1.set _ _).length=_
   rw[Wv];exact q2
  ·show pg (y.1.set _ _) i=_
   rw[Vz _ q0 hjl hi,Wh hij,q3 i hi,Wh hij,Wh (by omega)]
  ·show (pg (y.1.set _ _) j).Kind=1/\(pg (y.1.set _ _) j).Used=_
   rw[Vz _ q0 hjl q0,Wn rfl]
   refine ⟨rfl,?_⟩
   show wI (0+n)=0+n
   rw[Xe (by omega) (by omega)]
 refine Ug (by omega) (IS (Wq (λ ht=>?_) λ _=>new))
 have ht:0<(w.Taken.length:Int):=Wu ht
 rw[Xe (n:=((w.Taken.length:Nat):Int)-1) (by omega) (by omega)]
 refine Ok.get (by omega) (by omega) λ j hj=>?_
 have hjm:=YN hj
 obtain ⟨t0,t1,t2,t3,t4⟩:=hc.tk j hjm
 refine Ok.get t0 t1 λ p hp2=>?_
 have g:=Yr hp2
 subst g
 rw[Xe (n:=(pg w.Heap.Pages j).Used+n) (by omega) (by omega)]
 refine Wq (λ hle=>?_) λ _=>new
 have hle:(pg w.Heap.Pages j).Used+n<=w.Heap.Conf.PageWords:=Wu hle
 rw[hc.conf] at hle
 refine Ok.get (by omega) (by omega) λ j' hj'=>?_
 obtain rfl:j=j':=Ww (hj.symm.trans hj')
 refine Ok.get t0 t1 λ p1 hp1=>Ok.get t0 t1 λ p2 hp2=>Ok.get t0 t1 λ p3 hp3=>Wg λ _=>?_
 have g1:=Yr hp1
 have g2:=Yr hp2
 have g3:=Yr hp3
 subst g1;subst g2;subst g3
 have hm:=JP hp.conf (i:=j) t0 (by omega)
 refine ⟨j,(pg w.Heap.Pages j).Used,⟨⟨t0,t1⟩,⟨t3,hle⟩,?_,rfl,rfl,rfl,rfl,rfl,rfl,?_,λ i hi hij=>?_,?_,.inl ⟨hjm,rfl,rfl⟩⟩⟩
 ·show wU (wI (wI (4096+wI (j*w.Heap.Conf.PageWords))+_))=_
  rw[hc.conf,Xe (n:=j*h0.Conf.PageWords) (by omega) (by omega),Xe (n:=4096+j*h0.Conf.PageWords) (by omega) (by omega),Xe (by omega) (by omega),XT (by omega) (by omega)]
  rfl
 ·show (w.Heap.Pages.set _ _).length=_
  rw[Wv]
 ·show pg (w.Heap.Pages.set _ _) i=_
  rw[Vz _ t0 t1 hi,Wh hij]
 ·show (pg (w.Heap.Pages.set _ _) j).Kind=1/\(pg (w.Heap.Pages.set _ _) j).Used=_
  rw[Vz _ t0 t1 t0,Wn rfl]
  refine ⟨t2,?_⟩
  show wI ((pg w.Heap.Pages j).Used+n)=_
  rw[Xe (by omega) (by omega)]
end
end Go.Sx
namespace Go.Sx
theorem Xm8 {a b:Int} (ha:4096<=a) (hb:4096<=b) (h:ix a=ix b):a=b:=by unfold ix at h;omega
theorem Xjs {ws:List Int} {x a v:Int} (hx:inW ws x) (ha:4096<=a):wd (ws.set (ix x) v) a=if a=x then v else wd ws a:=by
 unfold wd
 have hlt:ix x<ws.length:=by unfold inW at hx;unfold ix;omega
 rw[Wk,Wk,Iq]
 by_cases h:a=x
 ·subst h;rw[Wn rfl,Wn hlt,Wn rfl];rfl
 ·rw[Wh h,Wh]
  intro e
  exact h (Xm8 ha hx.1 e.symm)
theorem Xlo {ws:List Int} {to a x:Int} {k:Nat} (h1:Y4 ws a k) (h2:Y4 ws to k) (hx:4096<=x):wd (ovr ws ((ws.drop (ix a)).take k) (ix to)) x=if to<=x/\x<to+k then wd ws (a+(x-to)) else wd ws x:=by
 have hlen:((ws.drop (ix a)).take k).length=k:=by unfold Y4 at h1;simp[ix];omega
 unfold wd
 rw[Xei (by rw[hlen];unfold Y4 at h2;unfold ix;omega),hlen]
 unfold Y4 at h1 h2
 by_cases h:to<=x/\x<to+k
 ·rw[Wn h,Wn (by unfold ix;omega),Wk,UF,Wn (by unfold ix;omega),Iv,← Wk]
  congr 1
  unfold ix;omega
 ·rw[Wh h,Wh (by unfold ix;omega)]
theorem Xgq {ws:List Int} {to a:Int} {k:Nat} (h1:Y4 ws a k) (h2:Y4 ws to k):(ovr ws ((ws.drop (ix a)).take k) (ix to)).length=ws.length:=by
 have hlen:((ws.drop (ix a)).take k).length=k:=by unfold Y4 at h1;simp[ix];omega
 exact Kz (by rw[hlen];unfold Y4 at h2;unfold ix;omega)
theorem VX {c:Ut} (hc:Yq c=true) {i j o p:Int} (h:i<j) (h1:o<=c.PageWords) (h2:0<=p):XI c i o<=XI c j p:=by
 have hv:=XH.1 hc
 have:(i+1)*c.PageWords<=j*c.PageWords:=U8 (by omega) (by omega)
 have e:(i+1)*c.PageWords=i*c.PageWords+c.PageWords:=by rw[Oj,OE]
 unfold XI
 omega
section
variable {N:Nat} {h0:Wz} {l:List Int}
structure O3 (h0:Wz) (l:List Int) (w w':W9) (O:Int->Prop) (s:Int->Int):Prop where
 ci:CI h0 l w'
 ob:∃ O' s',ON h0 l w' O' s'/\∀ a,O a->O' a/\s' a=s a
 sc:w'.Scanned=w.Scanned
 ql:w.Queue.length<=w'.Queue.length
def SameK (ps qs:List W4):Prop:=qs.length=ps.length/\∀ i,0<=i->(pg qs i).Kind=(pg ps i).Kind/\(pg qs i).Used=(pg ps i).Used
theorem SameK.refl (ps:List W4):SameK ps ps:=⟨rfl,λ _ _=>⟨rfl,rfl⟩⟩
theorem SameK.set {ps qs:List W4} (h:SameK ps qs) {i:Int} (h0:0<=i) (h1:i<qs.length) (sp pins:Int):SameK ps (qs.set i.toNat ⟨(pg qs i).Kind,sp,(pg qs i).Used,pins⟩):=by
 refine ⟨by rw[Wv];exact h.1,λ j hj=>?_⟩
 rw[Vz _ h0 h1 hj]
 split
 ·rename_i e;subst e;exact h.2 j hj
 ·exact h.2 j hj
theorem Xjt (w:W9) (a:Int) {ps:List W4} (hl:ps.length<=100000):∀ (n:Nat) (i:Int) (qs:List W4),0<=i->i<=ps.length->(ps.length-i).toNat<n->SameK ps qs->Ok (QcQ N w a n i qs) λ r=>SameK ps r
 | 0,i,qs,_,_,hn,_=>by omega
 | n+1,i,qs,h0,hi,hn,hs=>by
  have hq:=hs.1
  rw[QcQ]
  refine Ug (by omega) (Wq (λ hc=>?_) λ _=>Wg hs)
  have hc:i<qs.length:=Wu hc
  rw[Xe (n:=i+1) (by omega) (by omega)]
  refine Ok.get h0 hc λ p hp=>Wq (λ _=>Ok.get h0 hc λ p hp=>?_) λ _=>Wg hs
  have hg:=Yr hp
  subst hg
  exact Xjt w a hl n (i+1) _ (by omega) (by omega) (by omega) (hs.set h0 hc _ _)
theorem CI.pages {w:W9} (hc:CI h0 l w) {qs:List W4} (h:SameK w.Heap.Pages qs):CI h0 l { w with Heap:={ w.Heap with Pages:=qs } }:=by
 obtain ⟨O,s,ho⟩:=hc.obj
 refine ⟨hc.conf,hc.wlen,h.1.trans hc.plen,hc.spc,hc.old,λ j hj=>?_,hc.tnd,λ a ha=>?_,hc.qnd,?_⟩
 ·have:=hc.tk j hj
  have h2:=h.2 j this.1
  show 0<=j/\j<qs.length/\(pg qs j).Kind=1/\0<=(pg qs j).Used/\(pg qs j).Used<=h0.Conf.PageWords
  rw[h2.1,h2.2,h.1];exact this
 ·show (pg qs _).Kind=_
  have hk:=hc.knd a ha
  by_cases hp:0<=pgi h0.Conf a
  ·rw[(h.2 _ hp).1];exact hk
  ·have e1:∀ ps:List W4,pg ps (pgi h0.Conf a)=pg ps 0:=λ ps=>by
    unfold pg
    have:(pgi h0.Conf a).toNat=(0:Int).toNat:=by omega
    rw[this]
   rw[e1,(h.2 0 (by omega)).1,← e1,hk]
 ·refine ⟨O,s,ho.old,ho.queue,ho.fit,ho.apart,λ a ha j hj=>?_,λ a ha j h1 h2 h3=>?_⟩
  ·show a+s a<=XI h0.Conf j (pg qs j).Used\/_
   rw[(h.2 j (hc.tk j hj).1).2];exact ho.taken a ha j hj
  ·have h2:j<qs.length:=h2
   have h3:(pg qs j).Kind=0:=h3
   rw[(h.2 j h1).1] at h3
   exact ho.free a ha j h1 (by rw[← h.1];exact h2) h3
theorem ON.pages {w:W9} {O:Int->Prop} {s:Int->Int} (hc:CI h0 l w) (ho:ON h0 l w O s) {qs:List W4} (h:SameK w.Heap.Pages qs):ON h0 l { w with Heap:={ w.Heap with Pages:=qs } } O s:=by
 refine ⟨ho.old,ho.queue,ho.fit,ho.apart,λ a ha j hj=>?_,λ a ha j h1 h2 h3=>?_⟩
 ·show a+s a<=XI h0.Conf j (pg qs j).Used\/_
  rw[(h.2 j (hc.tk j hj).1).2];exact ho.taken a ha j hj
 ·have h2:j<qs.length:=h2
  have h3:(pg qs j).Kind=0:=h3
  rw[(h.2 j h1).1] at h3
  exact ho.free a ha j h1 (by rw[← h.1];exact h2) h3
theorem CI.push {w:W9} {O:Int->Prop} {s:Int->Int} (hc:CI h0 l w) (ho:ON h0 l w O s) {a:Int} (ha:O a) (hq:a∉w.Queue) (rp:UL):O3 h0 l w { w with Queue:=w.Queue++[a],Report:=rp } O s:=by
 have ho2:ON h0 l { w with Queue:=w.Queue++[a],Report:=rp } O s:=by
  refine ⟨ho.old,λ x hx=>?_,ho.fit,ho.apart,ho.taken,ho.free⟩
  rcases WH.1 hx with hx | hx
  ·exact ho.queue x hx
  ·rw[UT.1 hx];exact ha
 refine ⟨⟨hc.conf,hc.wlen,hc.plen,hc.spc,hc.old,hc.tk,hc.tnd,hc.knd,?_,⟨O,s,ho2⟩⟩,⟨O,s,ho2,λ a h=>⟨h,rfl⟩⟩,rfl,?_⟩
 ·show (w.Queue++[a]).Nodup
  rw[IC]
  refine ⟨hc.qnd,by simp,λ x hx y hy=>?_⟩
  rw[UT.1 hy]
  rintro rfl
  exact hq hx
 ·show w.Queue.length<=(w.Queue++[a]).length
  rw[Wr];omega
end
end Go.Sx
namespace Go.Sx
section
variable {N:Nat} {h0:Wz} {l:List Int}
theorem Xm9 (hp:IH h0) (hk12:∀ a∈l,(pg h0.Pages (pgi h0.Conf a)).Kind=1\/(pg h0.Pages (pgi h0.Conf a)).Kind=2) (hpr:∀ a∈l,0<=pgi h0.Conf a) {w w':W9} {O:Int->Prop} {s:Int->Int} (hc:CI h0 l w) (ho:ON h0 l w O s) {a n at_ j u:Int} (hal:a∈l) (hn:n=szA w.Heap.Words a) (hn1:1<=n) (pq:OY h0 w n w' at_ j u) (v:Int) (hv:v % 4=2) (rp:UL) :
 Y4 w.Heap.Words a n.toNat/\Y4 w.Heap.Words at_ n.toNat/\4096<=at_/\at_<=200000/\O3 h0 l w { w' with Heap:={ w'.Heap with Words:=(ovr w.Heap.Words ((w.Heap.Words.drop (ix a)).take n.toNat) (ix at_)).set (ix a) v },Queue:=w'.Queue++[at_],Report:=rp } O s:=by
 have hvc:=XH.1 hp.conf
 obtain ⟨hOa,hsa⟩:=ho.old a hal
 obtain ⟨fa1,fa2,fa3,fa4⟩:=ho.fit a hOa
 rw[← hn] at fa4
 have hwl:=hc.wlen
 have hw0:=hp.words
 have hpl:=hc.plen
 have hpl0:=hp.pages
 obtain ⟨r1,r2⟩:=pq.rng
 have hm:=JP hp.conf (i:=j) r1 (by omega)
 obtain ⟨u0,u1⟩:=pq.fit
 have hat:at_=XI h0.Conf j u:=pq.addr
 have hat1:at_=4096+j*h0.Conf.PageWords+u:=hat
 have hend:at_+n=XI h0.Conf j (u+n):=by rw[hat];unfold XI;omega
 have hend2:at_+n<=XI h0.Conf (j+1) 0:=by
  have e:(j+1)*h0.Conf.PageWords=j*h0.Conf.PageWords+h0.Conf.PageWords:=by rw[Oj,OE]
  unfold XI;omega
 have i1:Y4 w.Heap.Words a n.toNat:=by unfold Y4;omega
 have i2:Y4 w.Heap.Words at_ n.toNat:=by unfold Y4;omega
 have away:∀ x,O x->x+s x<=at_\/XI h0.Conf (j+1) 0<=x:=by
  intro x hx
  rcases pq.way with ⟨g1,g2,g3⟩ | ⟨g1,g2,g3⟩
  ·have:=ho.taken x hx j g1
   rw[← g3,← hat] at this
   exact this
  ·have:=ho.free x hx j r1 r2 g1
   rw[g3] at hat
   rw[hat]
   exact this
 have fresh:¬ O at_:=by
  intro hx
  have:=away at_ hx
  have:=(ho.fit at_ hx).2.1
  omega
 have hne:a≠at_:=λ e=>fresh (e▸hOa)
 have aw2:∀ x,O x->x+s x<=at_\/at_+n<=x:=λ x hx=>by
  have:=away x hx
  omega
 have hlen:(ovr w.Heap.Words ((w.Heap.Words.drop (ix a)).take n.toNat) (ix at_)).length=w.Heap.Words.length:=Xgq i1 i2
 have hlen2:((ovr w.Heap.Words ((w.Heap.Words.drop (ix a)).take n.toNat) (ix at_)).set (ix a) v).length=w.Heap.Words.length:=by rw[Wv,hlen]
 have hwd:∀ x,4096<=x->wd ((ovr w.Heap.Words ((w.Heap.Words.drop (ix a)).take n.toNat) (ix at_)).set (ix a) v) x=if x=a then v else if at_<=x/\x<at_+n then wd w.Heap.Words (a+(x-at_)) else wd w.Heap.Words x:=by
  intro x hx
  rw[Xjs (by unfold inW;rw[hlen];omega) hx,Xlo i1 i2 hx]
  have:((n.toNat:Nat):Int)=n:=by omega
  rw[this]
 have hsz:∀ x,O x->szA ((ovr w.Heap.Words ((w.Heap.Words.drop (ix a)).take n.toNat) (ix at_)).set (ix a) v) x<=s x:=by
  intro x hx
  have hf:=ho.fit x hx
  by_cases hxa:x=a
  ·have:szA ((ovr w.Heap.Words ((w.Heap.Words.drop (ix a)).take n.toNat) (ix at_)).set (ix a) v) x=1:=by
    apply Xln
    rw[hwd x hf.1,Wn hxa];exact hv
   omega
  ·have:szA ((ovr w.Heap.Words ((w.Heap.Words.drop (ix a)).take n.toNat) (ix at_)).set (ix a) v) x=szA w.Heap.Words x:=by
    unfold szA hdA
    rw[hwd x hf.1,Wh hxa,Wh]
    have:=aw2 x hx
    omega
   omega
 have hszat:szA ((ovr w.Heap.Words ((w.Heap.Words.drop (ix a)).take n.toNat) (ix at_)).set (ix a) v) at_=n:=by
  refine Eq.trans ?_ hn.symm
  unfold szA hdA
  rw[hwd at_ (by omega),Wh (λ e=>hne e.symm),Wn (by omega)]
  rw[show a+(at_-at_)=a by omega]
 have hjk:=pq.this
 have hk0:∀ i,0<=i->(pg w'.Heap.Pages i).Kind=0->i≠j/\(pg w.Heap.Pages i).Kind=0:=by
  intro i hi hk
  have hij:i≠j:=by rintro rfl;rw[hjk.1] at hk;cases hk
  rw[pq.other i hi hij] at hk
  exact ⟨hij,hk⟩
 have htk:∀ i∈w'.Taken,i=j\/(i∈w.Taken/\i≠j):=by
  intro i hi
  by_cases hij:i=j
  ·exact .inl hij
  ·right
   refine ⟨?_,hij⟩
   rcases pq.way with ⟨_,g2,_⟩ | ⟨_,g2,_⟩
   ·rwa[g2] at hi
   ·rw[g2] at hi
    rcases WH.1 hi with hi | hi
    ·exact hi
    ·exact absurd (UT.1 hi) hij
 have hqe:w'.Queue=w.Queue:=pq.queue
 refine ⟨i1,i2,by omega,by omega,?_⟩
 have hO:ON h0 l { w' with Heap:={ w'.Heap with Words:=(ovr w.Heap.Words ((w.Heap.Words.drop (ix a)).take n.toNat) (ix at_)).set (ix a) v },Queue:=w'.Queue++[at_],Report:=rp } (λ x=>O x\/x=at_) (λ x=>if x=at_ then n else s x):=by
  have ne:∀ x,O x->x≠at_:=λ x hx e=>fresh (e▸hx)
  refine ⟨λ x hx=>?_,λ x hx=>?_,λ x hx=>?_,λ x y hx hy hxy=>?_,λ x hx i hi=>?_,λ x hx i g1 g2 g3=>?_⟩
  ·obtain ⟨q1,q2⟩:=ho.old x hx
   exact ⟨.inl q1,by rw[Wh (ne x q1)];exact q2⟩
  ·have hx:x∈w'.Queue++[at_]:=hx
   rcases WH.1 hx with hx | hx
   ·rw[hqe] at hx;exact .inl (ho.queue x hx)
   ·exact .inr (UT.1 hx)
  ·show 4096<=x/\1<=(if x=at_ then n else s x)/\x+(if x=at_ then n else s x)<=4096+((ovr w.Heap.Words ((w.Heap.Words.drop (ix a)).take n.toNat) (ix at_)).set (ix a) v).length/\szA ((ovr w.Heap.Words ((w.Heap.Words.drop (ix a)).take n.toNat) (ix at_)).set (ix a) v) x<=(if x=at_ then n else s x)
   rw[hlen2]
   rcases hx with hx | rfl
   ·rw[Wh (ne x hx)]
    obtain ⟨f1,f2,f3,f4⟩:=ho.fit x hx
    exact ⟨f1,f2,f3,hsz x hx⟩
   ·rw[Wn rfl,hszat]
    omega
  ·show x+(if x=at_ then n else s x)<=y\/y+(if y=at_ then n else s y)<=x
   rcases hx with hx | rfl
   ·rcases hy with hy | rfl
    ·rw[Wh (ne x hx),Wh (ne y hy)];exact ho.apart x y hx hy hxy
    ·rw[Wh (ne x hx),Wn rfl];have:=aw2 x hx;omega
   ·rcases hy with hy | rfl
    ·rw[Wn rfl,Wh (ne y hy)];have:=aw2 y hy;omega
    ·exact absurd rfl hxy
  ·show x+(if x=at_ then n else s x)<=XI h0.Conf i (pg w'.Heap.Pages i).Used\/XI h0.Conf (i+1) 0<=x
   rcases htk i hi with rfl | ⟨hi1,hi2⟩
   ·rw[hjk.2]
    rcases hx with hx | rfl
    ·rw[Wh (ne x hx)];have:=away x hx;have:at_<=XI h0.Conf i (u+n):=by omega
     omega
    ·rw[Wn rfl];left;omega
   ·obtain ⟨t1,t2,t3,t4,t5⟩:=hc.tk i hi1
    rw[pq.other i t1 hi2]
    rcases hx with hx | rfl
    ·rw[Wh (ne x hx)];exact ho.taken x hx i hi1
    ·rw[Wn rfl]
     by_cases hlt:i<j
     ·right
      have:=VX hp.conf (o:=h0.Conf.PageWords) (p:=u) hlt (by omega) u0
      have e:XI h0.Conf (i+1) 0=XI h0.Conf i h0.Conf.PageWords:=by unfold XI;rw[Oj,OE];omega
      omega
     ·left
      have:=VX hp.conf (i:=j) (j:=i) (o:=u+n) (p:=(pg w.Heap.Pages i).Used) (by omega) (by omega) t4
      omega
  ·have g2:i<w'.Heap.Pages.length:=g2
   have g3:(pg w'.Heap.Pages i).Kind=0:=g3
   show x+(if x=at_ then n else s x)<=XI h0.Conf i 0\/XI h0.Conf (i+1) 0<=x
   obtain ⟨k1,k2⟩:=hk0 i g1 g3
   rcases hx with hx | rfl
   ·rw[Wh (ne x hx)];exact ho.free x hx i g1 (by rw[← pq.plen];exact g2) k2
   ·rw[Wn rfl]
    by_cases hlt:i<j
    ·right
     have:=VX hp.conf (o:=h0.Conf.PageWords) (p:=u) hlt (by omega) u0
     have e:XI h0.Conf (i+1) 0=XI h0.Conf i h0.Conf.PageWords:=by unfold XI;rw[Oj,OE];omega
     omega
    ·left
     have:=VX hp.conf (i:=j) (j:=i) (o:=u+n) (p:=0) (by omega) (by omega) (by omega)
     omega
 refine ⟨⟨?_,?_,?_,?_,?_,λ i hi=>?_,?_,λ x hx=>?_,?_,⟨_,_,hO⟩⟩,⟨_,_,hO,λ x hx=>⟨.inl hx,?_⟩⟩,pq.scanned,?_⟩
 ·exact pq.conf.trans hc.conf
 ·exact hlen2.trans hc.wlen
 ·exact pq.plen.trans hc.plen
 ·exact pq.space.trans hc.spc
 ·exact pq.old.trans hc.old
 ·show 0<=i/\i<w'.Heap.Pages.length/\(pg w'.Heap.Pages i).Kind=1/\0<=(pg w'.Heap.Pages i).Used/\(pg w'.Heap.Pages i).Used<=h0.Conf.PageWords
  rw[pq.plen]
  rcases htk i hi with rfl | ⟨hi1,hi2⟩
  ·rw[hjk.1,hjk.2]
   omega
  ·have:=hc.tk i hi1
   rw[pq.other i this.1 hi2]
   exact this
 ·show w'.Taken.Nodup
  rcases pq.way with ⟨_,g2,_⟩ | ⟨g1,g2,_⟩
  ·rw[g2];exact hc.tnd
  ·rw[g2,IC]
   refine ⟨hc.tnd,by simp,λ x hx y hy=>?_⟩
   rw[UT.1 hy]
   rintro rfl
   rw[(hc.tk x hx).2.2.1] at g1
   cases g1
 ·show (pg w'.Heap.Pages _).Kind=_
  have hkx:=hc.knd x hx
  have h12:=hk12 x hx
  by_cases hij:pgi h0.Conf x=j
  ·rw[hij] at hkx h12 ⊢
   rw[hjk.1]
   rcases pq.way with ⟨g1,_,_⟩ | ⟨g1,_,_⟩
   ·rw[(hc.tk j g1).2.2.1] at hkx;exact hkx
   ·rw[g1] at hkx;rw[← hkx] at h12;rcases h12 with h | h<;>cases h
  ·rw[pq.other _ (hpr x hx) hij];exact hkx
 ·show (w'.Queue++[at_]).Nodup
  rw[hqe,IC]
  refine ⟨hc.qnd,by simp,λ x hx y hy=>?_⟩
  rw[UT.1 hy]
  rintro rfl
  exact fresh (ho.queue x hx)
 ·show (if x=at_ then n else s x)=s x
  exact Wh (λ e=>fresh (by rw[← e];exact hx))
 ·show w.Queue.length<=(w'.Queue++[at_]).length
  rw[hqe,Wr];omega
structure Start (N:Nat) (h0:Wz) (l:List Int):Prop where
 hb:HB h0
 good:l≠[]->OR N h0
 prop:l≠[]->IH h0
 st:OD N h0 l
theorem Xju (a:Int) (h0:0<=a) (h1:a<4294967296):wU (wU (4*a)+2) % 4=2:=by
 rw[XT (n:=4*a) (by omega) (by omega),XT (by omega) (by omega)]
 omega
theorem XbD {l:List Int} {a:Int} (h:l.contains a=false):a∉l:=by
 intro hm
 have:l.contains a=true:=by simpa using hm
 rw[h] at this;cases this
theorem Vq {l:List Int} {a:Int} (h:l.contains a=true):a∈l:=by simpa using h
theorem CI.wl {w:W9} (hb:HB h0) (hc:CI h0 l w):w.Heap.Words.length<=BIG:=by
 have:=hb.1
 have:=hc.wlen
 unfold BIG
 omega
theorem XbE (hN:NB N) (hs:Start N h0 l) {w:W9} {O:Int->Prop} {s:Int->Int} (hc:CI h0 l w) (ho:ON h0 l w O s) (a:Int):Ok (QcC N w a) λ r=>r.2.2=0->O3 h0 l w r.1 O s:=by
 have hN':=hN
 unfold NB at hN'
 have hb:=hs.hb
 have hql:=hc.ql hb
 have hwl:=hc.wl hb
 have hww:=hc.wlen
 have hb1:=hb.1
 have hb2:=hb.2
 have hpl:=hc.plen
 have same:O3 h0 l w w O s:=⟨hc,⟨O,s,ho,λ _ h=>⟨h,rfl⟩⟩,rfl,WQ _⟩
 rw[QcC]
 refine Wq (λ _=>Wg λ _=>same) λ _=>?_
 rw[Jq a (by omega) (by omega),Xa]
 refine Wq (λ _=>Wg λ _=>same) λ hq=>?_
 have hq:=XbD hq
 rw[Jq a (by rw[hc.old];have:=hs.st.len;omega) (by rw[hc.old];have:=hs.st.len;omega),Xa]
 refine Wq (λ _=>Wg λ e=>by cases e) λ hal=>?_
 have hal:a∈l:=by rw[← hc.old];exact Vq (by simpa using hal)
 have hne:l≠[]:=List.ne_nil_of_mem hal
 have hp:=hs.prop hne
 have hg:=hs.good hne
 have hat:=hs.st.obj.at_ a hal
 have hwd0:=hp.words
 have hpg0:=hp.pages
 have hvc:=XH.1 hp.conf
 have hrng:=hat.rng
 obtain ⟨_,q0,q1,_⟩:=JQ hp.conf hrng
 have hin:inW w.Heap.Words a:=by unfold inW;omega
 rw[KL hwl,Xa,Wn hin,XcA,Xa]
 have hof:QeL N w.Heap.Conf a=some (pgi h0.Conf a,pgo h0.Conf a,0):=by
  rw[Xel,hc.conf,hp.conf,Wh (by simp),Wn hrng];rfl
 rw[hof,Xa]
 refine Wq (λ _=>Wg λ _=>same) λ _=>?_
 refine Wq (λ _=>Wg λ e=>by cases e) λ _=>?_
 refine Wq (λ _=>Wg λ e=>by cases e) λ _=>?_
 refine WL (XaN hN (hc.tl hb) _) λ b _ _=>Wq (λ _=>?_) λ _=>?_
 ·rw[QeG,Xi (by omega),Xi (by omega),Xa]
  exact Wg λ _=>hc.push ho (ho.old a hal).1 hq _
 refine Ok.get q0 (by show pgi h0.Conf a<_;omega) λ p hpp=>Wq (λ _=>?_) λ hk2=>?_
 ·refine Ug (by omega) (Ok.get q0 (by show pgi h0.Conf a<_;omega) λ p hpp=>?_)
  have hgp:=Yr hpp
  subst hgp
  rw[Xe (n:=pgi h0.Conf a+1) (by omega) (by omega)]
  refine WL (Xjt w a (ps:=w.Heap.Pages) (by omega) N (pgi h0.Conf a+1) _ (by omega) (by omega) (by omega) ((SameK.refl _).set q0 (by omega) _ _)) λ qs _ hqs=>?_
  rw[QeG,Xi (by show w.Queue.length*8<=_;omega),Xi (by show (w.Queue.length+1)*8<=_;omega),Xa]
  refine Wg λ _=>?_
  have q:=λ rp=>(hc.pages hqs).push (ho.pages hc hqs) (ho.old a hal).1 hq rp
  exact ⟨(q _).ci,(q _).ob,(q w.Report).sc,(q w.Report).ql⟩
 ·have hgp:=Yr hpp
  have hk12:∀ x∈l,(pg h0.Pages (pgi h0.Conf x)).Kind=1\/(pg h0.Pages (pgi h0.Conf x)).Kind=2:=λ x hx=>(hs.st.obj.at_ x hx).kind
  have hpr:∀ x∈l,0<=pgi h0.Conf x:=λ x hx=>(JQ hp.conf (hs.st.obj.at_ x hx).rng).2.1
  have hk1:(pg h0.Pages (pgi h0.Conf a)).Kind=1:=by
   rcases hk12 a hal with h | h
   ·exact h
   ·exfalso
    rw[← hc.knd a hal,hgp] at h
    rw[h] at hk2;cases hk2
  have hsz:=hg.sz hs.st hal hk1
  have hso:=(ho.old a hal).2
  have hfit:=ho.fit a (ho.old a hal).1
  have hsw:=VA w.Heap.Words a
  rw[Xa0,Xa,ZY,Xa]
  have e1:ZE (KA (w.Heap.Words.getD (ix a) 0))=szA w.Heap.Words a:=hsw.1
  show Ok (bnd (QdW N w (ZE (KA (w.Heap.Words.getD (ix a) 0)))) _) _
  rw[e1]
  refine WL (Xjr hN hb hp hc (n:=szA w.Heap.Words a) hsw.2.1 (by omega)) λ y _ hy=>Wq (λ _=>Wg λ e=>by cases e) λ hy2=>?_
  obtain ⟨j,u,pq⟩:=hy (by simpa using hy2)
  have q:=λ v hv rp=>Xm9 (n:=szA w.Heap.Words a) hp hk12 hpr hc ho hal rfl hsw.2.1 pq v hv rp
  obtain ⟨i1,i2,a1,a2,_⟩:=q 2 rfl y.1.Report
  rw[pq.words]
  have en:szA w.Heap.Words a=(((szA w.Heap.Words a).toNat:Nat):Int):=by omega
  have hmv:=Xlf (N:=N) hwl y.2.1 a (szA w.Heap.Words a).toNat (by omega) (by omega)
  rw[← en,Wn ⟨i1,i2⟩] at hmv
  rw[hmv,Xa,Xfr,Xa,Wh (by omega)]
  have ol:=Xgq i1 i2
  rw[Xbx (by rw[ol];exact hwl) (by omega),Xa]
  have hin2:inW (ovr w.Heap.Words ((w.Heap.Words.drop (ix a)).take (szA w.Heap.Words a).toNat) (ix y.2.1)) a:=by unfold inW;rw[ol];exact hin
  rw[Wn hin2]
  have hqe:=pq.queue
  refine Ug (by rw[hqe];omega) (Ug (by rw[hqe];omega) (Wg λ _=>?_))
  exact (q _ (Xju y.2.1 (by omega) (by omega)) _).2.2.2.2
end
end Go.Sx
namespace Go.Sx
section
variable {N:Nat} {h0:Wz} {l:List Int}
theorem XbF (h:Wz) (y:List Int×Int) (hl:h.Pages.length<=100000):∀ (n:Nat) (i:Int) (qs:List W4),0<=i->i<=h.Pages.length->(h.Pages.length-i).toNat<n->SameK h.Pages qs->Ok (Qcf N h y n i qs) λ r=>SameK h.Pages r
 | 0,i,qs,_,_,hn,_=>by omega
 | n+1,i,qs,h0,hi,hn,hs=>by
  have hq:=hs.1
  rw[Qcf]
  refine Ug (by omega) (Wq (λ hc=>?_) λ _=>Wg hs)
  have hc:i<qs.length:=Wu hc
  rw[Xe (n:=i+1) (by omega) (by omega)]
  have next:=XbF h y hl n (i+1) qs (by omega) (by omega) (by omega) hs
  refine Ok.get h0 hc λ p hp=>Wq (λ _=>Wq (λ _=>Ok.get h0 hc λ p hp=>?_) λ _=>next) λ _=>next
  have hg:=Yr hp
  subst hg
  exact XbF h y hl n (i+1) _ (by omega) (by omega) (by omega) (hs.set h0 hc _ _)
theorem Xft {h:Wz} (hp:IH h) {a:Int} (ha:OL h a) {j:Int} (h1:0<=j) (hk:(pg h.Pages j).Kind=0):a+szA h.Words a<=XI h.Conf j 0\/XI h.Conf (j+1) 0<=a:=by
 obtain ⟨k,k1,k2,k3,k4⟩:=Xdv hp ha
 obtain ⟨q1,q2,q3,q4,q5⟩:=JQ hp.conf ha.rng
 have hvc:=XH.1 hp.conf
 have hkk:=ha.kind
 by_cases hlt:j<pgi h.Conf a
 ·right
  have:=VX hp.conf (o:=h.Conf.PageWords) (p:=pgo h.Conf a) hlt (by omega) q4
  have e:XI h.Conf (j+1) 0=XI h.Conf j h.Conf.PageWords:=by unfold XI;rw[Oj,OE];omega
  omega
 ·by_cases he:j=pgi h.Conf a
  ·subst he;rw[hk] at hkk;rcases hkk with h | h<;>cases h
  ·by_cases hlt2:j<pgi h.Conf a+k
   ·have:=k4 (j-pgi h.Conf a) (by omega) (by omega)
    rw[show pgi h.Conf a+(j-pgi h.Conf a)=j by omega] at this
    rw[hk] at this;cases this
   ·left
    have:(pgi h.Conf a+k)*h.Conf.PageWords<=j*h.Conf.PageWords:=U8 (by omega) (by omega)
    have e1:XI h.Conf (pgi h.Conf a+k) 0=4096+(pgi h.Conf a+k)*h.Conf.PageWords+0:=rfl
    have e2:XI h.Conf j 0=4096+j*h.Conf.PageWords+0:=rfl
    omega
theorem Xjv {h:Wz} (hb:HB h) (hp:IH h) {l:List Int} (hs:OD N h l) {w:W9} (e1:w.Heap.Conf=h.Conf) (e2:w.Heap.Words=h.Words) (e3:w.Heap.Space=h.Space) (hk:SameK h.Pages w.Heap.Pages) (e4:w.Old=l) (e5:w.Taken=[]) (e6:w.Queue=[]):CI h l w:=by
 have ho:ON h l w (λ a=>a∈l) (szA h.Words):=by
  refine ⟨λ a ha=>⟨ha,rfl⟩,λ a ha=>(by rw[e6] at ha;cases ha),λ a ha=>?_,λ a b ha hb' hab=>?_,λ a ha j hj=>(by rw[e5] at hj;cases hj),λ a ha j h1 h2 h3=>?_⟩
  ·rw[e2]
   have h1:=hs.obj.at_ a ha
   exact ⟨h1.rng.1,(VA h.Words a).2.1,Xlk hp h1,Int.le_refl _⟩
  ·have hpw:=hs.obj.pw
   rw[IF] at hpw
   obtain ⟨i,hi,ei⟩:=WX ha
   obtain ⟨j,hj,ej⟩:=WX hb'
   rcases Nat.lt_trichotomy i j with hij | hij | hij
   ·left;have:=hpw i j hi hj hij;rw[ei,ej] at this;exact this
   ·subst hij;exact absurd (ei.symm.trans ej) hab
   ·right;have:=hpw j i hj hi hij;rw[ei,ej] at this;exact this
  ·rw[(hk.2 j h1).1] at h3
   exact Xft hp (hs.obj.at_ a ha) h1 h3
 refine ⟨e1,by rw[e2],hk.1,e3,e4,λ j hj=>(by rw[e5] at hj;cases hj),by rw[e5];exact Is,λ a ha=>?_,by rw[e6];exact Is,⟨_,_,ho⟩⟩
 exact (hk.2 _ (JQ hp.conf (hs.obj.at_ a ha).rng).2.1).1
def zW:W9:=⟨zH,[],[],[],0,⟨0,0,0,0,0,0⟩⟩
theorem Xjw (N:Nat):Start N zH []:=⟨ZN,λ h=>absurd rfl h,λ h=>absurd rfl h,OD.nil N zH⟩
theorem Xn7:CI zH [] zW:=by
 refine ⟨rfl,rfl,rfl,rfl,rfl,λ j hj=>(by cases hj),Is,λ a ha=>(by cases ha),Is,⟨λ _=>False,λ _=>0,?_⟩⟩
 exact ⟨λ a ha=>(by cases ha),λ a ha=>(by cases ha),λ a ha=>ha.elim,λ a b ha=>ha.elim,λ a ha=>ha.elim,λ a ha=>ha.elim⟩
structure O9 (N:Nat) (h:Wz) (l:List Int) (w:W9):Prop where
 st:Start N h l
 ci:CI h l w
 sc:w.Scanned=0
 pr:IH h\/h.Pages=[]
theorem Xjx (hN:NB N) {h:Wz} (hb:HB h):Ok (QeN N h) λ r=>∃ h' l,O9 N h' l r.1:=by
 have hN':=hN
 unfold NB at hN'
 have hb2:=hb.2
 have zero:∃ h' l,O9 N h' l zW:=⟨zH,[],Xjw N,Xn7,rfl,.inr rfl⟩
 rw[QeN]
 refine WL (Zp (N:=N) (by omega) hb.1 hb.2) λ b eb hp=>Wq (λ _=>Wg zero) λ hb1=>?_
 have hp:=hp (by simpa using hb1)
 refine WL (Xa3 hN hb) λ b _ hg=>Wq (λ _=>Wg zero) λ hb2=>?_
 have hg:=hg (by simpa using hb2)
 refine WL (KB hN hb) λ y _ hy=>Ug (by omega) ?_
 refine WL (XbF h y (by omega) N 0 h.Pages (by omega) (by omega) (by omega) (SameK.refl _)) λ qs _ hqs=>Wg ?_
 exact ⟨h,y.1,⟨hb,λ _=>hg,λ _=>hp,hy.1⟩,Xjv hb hp hy.1 rfl rfl rfl hqs rfl rfl rfl,rfl,.inl hp⟩
theorem Xew (hN:NB N) (hs:Start N h0 l) (rs:List Int) (hl:rs.length<=1000000):∀ (n:Nat) (i:Int) (w:W9) (out:List Int),0<=i->i<=rs.length->(rs.length-i).toNat<n->CI h0 l w->(out.length:Int)=i ->
 Ok (Qbs N rs n i w.Heap.Conf.PageWords w.Heap.Conf.Pages w.Heap.Words w.Heap.Pages w.Heap.Space w.Heap.Bump w.Old w.Taken w.Queue w.Scanned w.Report.Copied w.Report.Kept w.Report.Filled w.Report.Freed w.Report.Cleared w.Report.Steps out) λ e=>match e with
  | .ret r=>r.2.2≠0
  | .nxt t=>∃ (w':W9) (out':List Int),CI h0 l w'/\w'.Scanned=w.Scanned/\out'.length=rs.length/\t=(w'.Heap.Conf.PageWords,w'.Heap.Conf.Pages,w'.Heap.Words,w'.Heap.Pages,w'.Heap.Space,w'.Heap.Bump,w'.Old,w'.Taken,w'.Queue,w'.Scanned,w'.Report.Copied,w'.Report.Kept,w'.Report.Filled,w'.Report.Freed,w'.Report.Cleared,w'.Report.Steps,out')
 | 0,i,w,out,_,_,hn,_,_=>by omega
 | n+1,i,w,out,g0,hi,hn,hc,ho=>by
  rw[Qbs]
  refine Wq (λ h1=>?_) λ h1=>Wg ⟨w,out,hc,rfl,by have:=WI h1;omega,rfl⟩
  have h1:i<rs.length:=Wu h1
  rw[Xe (n:=i+1) (by omega) (by omega)]
  obtain ⟨O,s,hob⟩:=hc.obj
  refine Ok.get g0 h1 λ p hp=>WL (XbE hN hs hc hob p) λ y _ hy=>Wq (λ he=>Wg (by simpa using he)) λ he=>?_
  have q:=hy (by simpa using he)
  refine Ug (by omega) ((Xew hN hs rs hl n (i+1) y.1 (out++[y.2.1]) (by omega) (by omega) (by omega) q.ci (by rw[Wr];simp;omega)).mono λ e he=>?_)
  cases e with
  | ret r=>exact he
  | nxt t=>obtain ⟨w',o',c1,c2,c3,c4⟩:=he;exact ⟨w',o',c1,c2.trans q.sc,c3,c4⟩
theorem Xjy (hN:NB N) (hs:Start N h0 l) {rs:List Int} (hl:rs.length<=1000000) {w:W9} (hc:CI h0 l w):Ok (QeO N w rs) λ r=>r.2.2=0->CI h0 l r.1/\r.1.Scanned=w.Scanned/\r.2.1.length=rs.length:=by
 have hN':=hN
 unfold NB at hN'
 rw[QeO]
 refine I7 (Xew hN hs rs hl N 0 w [] (by omega) (by omega) (by omega) hc rfl) (λ a q=>Wg λ e=>absurd e q) λ b q=>Wg λ _=>?_
 obtain ⟨w',o',c1,c2,c3,rfl⟩:=q
 exact ⟨c1,c2,c3⟩
end
end Go.Sx
namespace Go.Sx
theorem XcG {d:WE} {x:Int} (h:x∈Z8 d):0<=x/\x<d.Length:=by
 unfold Z8 at h
 by_cases hv:XW d=true
 ·rw[Wn hv] at h
  have:=Jp h
  have:=Yf hv
  omega
 ·rw[Wh hv] at h;cases h
theorem XcH (d:WE):(Z8 d).length<=255:=by
 unfold Z8
 by_cases hv:XW d=true
 ·rw[Wn hv]
  have:=VU (d:=d) (k:=d.Length.toNat) (i:=0)
  have:=Yf hv
  omega
 ·rw[Wh hv];simp
section
variable {N:Nat} {h0:Wz} {l:List Int}
theorem Xlp {w:W9} {O:Int->Prop} {s:Int->Int} (hc:CI h0 l w) (ho:ON h0 l w O s) {p x:Int} (hp:O p) (h1:p<x) (h2:x<p+s p) (v:Int) :
 inW w.Heap.Words x/\CI h0 l { w with Heap:={ w.Heap with Words:=w.Heap.Words.set (ix x) v } }/\ON h0 l { w with Heap:={ w.Heap with Words:=w.Heap.Words.set (ix x) v } } O s:=by
 have hf:=ho.fit p hp
 have hin:inW w.Heap.Words x:=by unfold inW;omega
 have ho2:ON h0 l { w with Heap:={ w.Heap with Words:=w.Heap.Words.set (ix x) v } } O s:=by
  refine ⟨ho.old,ho.queue,λ a ha=>?_,ho.apart,ho.taken,ho.free⟩
  show 4096<=a/\1<=s a/\a+s a<=4096+(w.Heap.Words.set (ix x) v).length/\szA (w.Heap.Words.set (ix x) v) a<=s a
  obtain ⟨f1,f2,f3,f4⟩:=ho.fit a ha
  rw[Wv]
  refine ⟨f1,f2,f3,?_⟩
  have:a≠x:=by
   rintro rfl
   by_cases he:a=p
   ·omega
   ·have:=ho.apart a p ha hp he
    omega
  unfold szA hdA at *
  rw[Xjs hin f1,Wh this]
  exact f4
 refine ⟨hin,⟨hc.conf,?_,hc.plen,hc.spc,hc.old,hc.tk,hc.tnd,hc.knd,hc.qnd,⟨O,s,ho2⟩⟩,ho2⟩
 show (w.Heap.Words.set (ix x) v).length=_
 rw[Wv];exact hc.wlen
theorem Xgr (hN:NB N) (hs:Start N h0 l) {p:Int} {ks:List Int} (hkl:ks.length<=255):∀ (n:Nat) (i:Int) (w:W9) (O:Int->Prop) (s:Int->Int),0<=i->i<=ks.length->(ks.length-i).toNat<n->CI h0 l w->ON h0 l w O s->O p->(∀ k∈ks,0<=k/\k<255/\k+1<s p) ->
 Ok (QbK N p ks n i w.Heap.Conf.PageWords w.Heap.Conf.Pages w.Heap.Words w.Heap.Pages w.Heap.Space w.Heap.Bump w.Old w.Taken w.Queue w.Scanned w.Report.Copied w.Report.Kept w.Report.Filled w.Report.Freed w.Report.Cleared w.Report.Steps) λ e=>match e with
  | .ret r=>r.2.2≠0
  | .nxt t=>∃ (w':W9),CI h0 l w'/\w'.Scanned=w.Scanned/\w.Queue.length<=w'.Queue.length/\t=(w'.Heap.Conf.PageWords,w'.Heap.Conf.Pages,w'.Heap.Words,w'.Heap.Pages,w'.Heap.Space,w'.Heap.Bump,w'.Old,w'.Taken,w'.Queue,w'.Scanned,w'.Report.Copied,w'.Report.Kept,w'.Report.Filled,w'.Report.Freed,w'.Report.Cleared,w'.Report.Steps)
 | 0,i,w,O,s,_,_,hn,_,_,_,_=>by omega
 | n+1,i,w,O,s,g0,hi,hn,hc,ho,hp,hk=>by
  have hN':=hN
  unfold NB at hN'
  have hb1:=hs.hb.1
  rw[QbK]
  refine Wq (λ h1=>?_) λ h1=>Wg ⟨w,hc,rfl,WQ _,rfl⟩
  have h1:i<ks.length:=Wu h1
  rw[Xe (n:=i+1) (by omega) (by omega)]
  refine Ok.get g0 h1 λ k hk2=>?_
  have hkm:=YN hk2
  obtain ⟨k0,k1,k2⟩:=hk k hkm
  have hf:=ho.fit p hp
  have hwl:=hc.wlen
  rw[XT (n:=p+1) (by omega) (by omega),XT (n:=k) (by omega) (by omega),XT (n:=p+1+k) (by omega) (by omega)]
  rw[KL (hc.wl hs.hb),Xa]
  refine WL (XbE hN hs hc ho _) λ y _ hy=>Wq (λ he=>Wg (by simpa using he)) λ he=>?_
  have q:=hy (by simpa using he)
  obtain ⟨O',s',ho',hx⟩:=q.ob
  obtain ⟨hp',hs'⟩:=hx p hp
  have st:=Xlp q.ci ho' hp' (x:=p+1+k) (by omega) (by omega) y.2.1
  rw[Xbx (q.ci.wl hs.hb) (by omega),Xa,Wn st.1]
  refine (Xgr hN hs hkl n (i+1) _ O' s' (by omega) (by omega) (by omega) st.2.1 st.2.2 hp' (λ k' hk'=>by rw[hs'];exact hk k' hk')).mono λ e he=>?_
  cases e with
  | ret r=>exact he
  | nxt t=>obtain ⟨w',c1,c2,c3,c4⟩:=he;exact ⟨w',c1,c2.trans q.sc,Ic q.ql c3,c4⟩
theorem Xlq (hN:NB N) (hs:Start N h0 l) {w:W9} (hc:CI h0 l w) (h0s:0<=w.Scanned) (h1s:w.Scanned<=w.Queue.length):Ok (Qfj N w) λ r=>r.2.2=0->CI h0 l r.1/\0<=r.1.Scanned/\r.1.Scanned<=r.1.Queue.length/\(r.2.1=true->r.1.Scanned=w.Scanned+1):=by
 have hN':=hN
 unfold NB at hN'
 have hb:=hs.hb
 have hql:=hc.ql hb
 rw[Qfj]
 refine Wq (λ _=>Wg λ _=>⟨hc,h0s,h1s,λ e=>by cases e⟩) λ hlt=>?_
 have hlt:w.Scanned<w.Queue.length:=by have:=WI hlt;omega
 refine Ok.get h0s hlt λ p hp=>?_
 have hpm:=YN hp
 obtain ⟨O,s,ho⟩:=hc.obj
 have hOp:=ho.queue p hpm
 have hf:=ho.fit p hOp
 have hin:inW w.Heap.Words p:=by unfold inW;omega
 rw[Qfb,KL (hc.wl hb),Xa,Wn hin,Xa0,Xa,Xa,Xjh (by omega),Xa]
 have hkl:=XcH (hdA w.Heap.Words p)
 have hvl:=Yf (Xby (wd w.Heap.Words p))
 refine I7 (Xgr hN hs (p:=p) (ks:=Z8 (hdA w.Heap.Words p)) hkl N 0 w O s (by omega) (by omega) (by omega) hc ho hOp λ k hk=>?_) (λ a q=>Wg λ e=>absurd e q) λ t q=>Wg λ _=>?_
 ·have h1:=XcG hk
  have h2:szA w.Heap.Words p=(hdA w.Heap.Words p).Length+1:=rfl
  have h3:(hdA w.Heap.Words p).Length<=255:=hvl.2.2.2
  omega
 ·obtain ⟨w',c1,c2,c3,rfl⟩:=q
  have e:wI (w'.Scanned+1)=w.Scanned+1:=by rw[c2,Xe (by omega) (by omega)]
  refine ⟨⟨c1.conf,c1.wlen,c1.plen,c1.spc,c1.old,c1.tk,c1.tnd,c1.knd,c1.qnd,?_⟩,?_,?_,λ _=>e⟩
  ·obtain ⟨O,s,h⟩:=c1.obj
   exact ⟨O,s,⟨h.old,h.queue,h.fit,h.apart,h.taken,h.free⟩⟩
  ·show 0<=wI (w'.Scanned+1);omega
  ·show wI (w'.Scanned+1)<=w'.Queue.length;omega
theorem Xjz (hN:NB N) (hs:Start N h0 l):∀ (n:Nat) (w:W9),CI h0 l w->0<=w.Scanned->w.Scanned<=w.Queue.length->(100001-w.Scanned).toNat<n ->
 Ok (Qb2 N n w.Heap.Conf.PageWords w.Heap.Conf.Pages w.Heap.Words w.Heap.Pages w.Heap.Space w.Heap.Bump w.Old w.Taken w.Queue w.Scanned w.Report.Copied w.Report.Kept w.Report.Filled w.Report.Freed w.Report.Cleared w.Report.Steps) λ r=>r.2=0->CI h0 l r.1
 | 0,w,_,_,_,hn=>by omega
 | n+1,w,hc,g0,g1,hn=>by
  rw[Qb2]
  have hql:=hc.ql hs.hb
  refine WL (Xlq hN hs hc g0 g1) λ y _ hy=>Wq (λ he=>Wg λ e=>absurd e (by simpa using he)) λ he=>?_
  obtain ⟨q1,q2,q3,q4⟩:=hy (by simpa using he)
  refine Wq (λ _=>Wg λ _=>q1) λ hb=>?_
  have q4:y.1.Scanned=w.Scanned+1:=q4 (by simpa using hb)
  have:=q1.ql hs.hb
  exact Xjz hN hs n y.1 q1 q2 q3 (by omega)
theorem Xna (hN:NB N) (hs:Start N h0 l) {w:W9} (hc:CI h0 l w) (g0:0<=w.Scanned) (g1:w.Scanned<=w.Queue.length):Ok (QfX N w) λ r=>r.2=0->CI h0 l r.1:=by
 have hN':=hN
 unfold NB at hN'
 rw[QfX]
 exact WL (Xjz hN hs N w hc g0 g1 (by omega)) λ y _ hy=>Wg hy
theorem XjA (hN:NB N) (hs:Start N h0 l) {w:W9} (hq:w.Queue.length<=100000) (hw:w.Heap.Words.length<=BIG) (a:Int):Ok (QeP N w a) λ _=>True:=by
 have hN':=hN
 unfold NB at hN'
 rw[QeP,Jq a (by omega) (by omega),Xa]
 refine Wq (λ _=>Wg trivial) λ _=>?_
 rw[KL hw,Xa,XcA,Xa]
 exact Wg trivial
theorem Xdx (hN:NB N) {w:W9} (hb:HB h0) (hc:CI h0 l w) {s:Int->Int} (hll:l.length<=4096) (hpw:l.Pairwise λ a b=>a+s a<=b) (hfit:∀ a∈l,4096<=a/\1<=s a/\a+s a<=4096+h0.Words.length):∀ (n k:Nat) (v:List Int) (c:Int),k<=l.length->l.length-k<n->v.length=h0.Words.length->(∀ a∈l.drop k,szA v a<=s a) ->
 Ok (QaT N w n (k:Int) v c) λ r=>r.1.length=h0.Words.length
 | 0,k,v,c,_,hn,_,_=>by omega
 | n+1,k,v,c,hk,hn,hv,hs=>by
  have hN':=hN
  unfold NB at hN'
  have hb1:=hb.1
  have hql:=hc.ql hb
  have htl:=hc.tl hb
  have hold:=hc.old
  rw[QaT]
  refine Wq (λ h1=>?_) λ _=>Wg hv
  have h1:k<l.length:=by have:=Wu h1;rw[hold] at this;omega
  have hkl:(k:Int)<w.Old.length:=by rw[hold];omega
  have hdr:=WA h1
  rw[Xe (n:=(k:Int)+1) (by omega) (by omega),show ((k:Int)+1)=((k+1:Nat):Int) by omega]
  have gp:∀ p,Xb w.Old (k:Int)=some p->p=l[k]:=by
   intro p hp
   rw[hold,Xd,Wc h1] at hp
   exact (Ww hp).symm
  have next:Ok (QaT N w n ((k+1:Nat):Int) v c) λ r=>r.1.length=h0.Words.length :=
   Xdx hN hb hc hll hpw hfit n (k+1) v c (by omega) (by omega) hv λ a ha=>hs a (by rw[hdr];exact Ud _ ha)
  refine Ok.get (by omega) hkl λ p hp=>?_
  rw[Xel,Xa]
  refine WL (XaN hN (w:={ w with Heap:={ w.Heap with Words:=v },Report:=⟨_,_,_,_,_,_⟩ }) htl _) λ b _ _=>Wq (λ _=>next) λ _=>?_
  refine Ok.get (by omega) hkl λ p hp=>?_
  rw[Jq p (by omega) (by omega),Xa]
  refine Wq (λ _=>next) λ _=>Ok.get (by omega) hkl λ p hp=>?_
  have hpe:=gp p hp
  have hpm:p∈l:=by rw[hpe];exact W6 h1
  obtain ⟨f1,f2,f3⟩:=hfit p hpm
  have hsp:=hs p (by rw[hdr,← hpe];exact List.mem_cons_self)
  have hin:inW v p:=by unfold inW;omega
  have hsz:=VA v p
  rw[Qfb,KL (by show v.length<=BIG;unfold BIG;omega),Xa,Wn hin,Xa0,Xa,Xa,Xdt,Xa]
  refine Ok.get (by omega) hkl λ p' hp'=>?_
  obtain rfl:p=p':=hpe.trans (gp p' hp').symm
  have e1:szA v p=(hdA v p).Length+1:=rfl
  have e2:(KA (v.getD (ix p) 0)).Length=(hdA v p).Length:=rfl
  refine Ug (by rw[e2];omega) (Ug (by rw[e2];omega) ?_)
  have hlen:∀ x:Int,([x]++List.replicate (KA (v.getD (ix p) 0)).Length.toNat (0:Int)).length=(szA v p).toNat:=by
   intro x;rw[Wr,Uc,e2];simp only[WM,Ub];omega
  rw[VS (by unfold BIG;omega) (by rw[hlen];unfold BIG;omega) (by rw[hlen];omega),Xa,hlen,Wn (by unfold Y4;omega)]
  have hlo:∀ x:Int,(ovr v ([x]++List.replicate (KA (v.getD (ix p) 0)).Length.toNat (0:Int)) (ix p)).length=v.length:=by
   intro x;apply Kz;rw[hlen];unfold ix;omega
  refine Xdx hN hb hc hll hpw hfit n (k+1) _ _ (by omega) (by omega) ((hlo _).trans hv) λ a ha=>?_
  have ham:a∈l:=Ui ha
  have hsa:=hs a (by rw[hdr];exact Ud _ ha)
  have hfa:=hfit a ham
  have hle:p+s p<=a:=by
   have hp2:=hpw.drop (i:=k)
   rw[hdr,List.pairwise_cons] at hp2
   rw[hpe]
   exact hp2.1 a ha
  have:∀ x:Int,szA (ovr v ([x]++List.replicate (KA (v.getD (ix p) 0)).Length.toNat (0:Int)) (ix p)) a=szA v a:=by
   intro x
   unfold szA hdA wd
   rw[Xei (by rw[hlen];unfold ix;omega),hlen,Wh]
   unfold ix
   have:p+szA v p<=a:=by omega
   omega
  rw[this];exact hsa
theorem Xlr (hN:NB N) (hs:Start N h0 l) {w:W9} (hc:CI h0 l w):Ok (Qfl N w) λ r=>r.Heap.Conf=h0.Conf/\r.Heap.Words.length=h0.Words.length/\r.Heap.Pages=w.Heap.Pages/\r.Heap.Pages.length=h0.Pages.length/\r.Taken.length<=100000:=by
 have hN':=hN
 unfold NB at hN'
 have hb:=hs.hb
 rw[Qfl]
 obtain ⟨O,s,ho⟩:=hc.obj
 have hpw:l.Pairwise λ a b=>a+s a<=b:=by
  refine List.Pairwise.imp_of_mem ?_ hs.st.obj.pw
  intro a b ha _ h
  rw[(ho.old a ha).2];exact h
 have hwl:=hc.wlen
 have:=Xdx hN (w:=w) hb hc (s:=s) hs.st.len hpw (λ a ha=>by have:=ho.fit a (ho.old a ha).1;omega) N 0 w.Heap.Words w.Report.Filled (by omega) (by have:=hs.st.len;omega) hwl λ a ha=>(ho.fit a (ho.old a (Ui ha)).1).2.2.2
 have htl:w.Taken.length<=100000:=hc.tl hb
 refine WL this λ r _ hr=>Wg ⟨hc.conf,hr,rfl,hc.plen,htl⟩
theorem Xgs {w:W9} (v4:List W4) (p5:W4) (i c:Int) (hp:IH h0) (hc:w.Heap.Conf=h0.Conf) (g0:0<=i) (g1:i<h0.Conf.Pages):∀ (n:Nat) (k:Int) (v:List Int),0<=k->(65-k).toNat<n->v.length=h0.Words.length->Ok (QbL N w v4 p5 i c n k v) λ r=>r.length=h0.Words.length
 | 0,k,v,_,hn,_=>by omega
 | n+1,k,v,k0,hn,hv=>by
  have hvc:=XH.1 hp.conf
  have hm:=JP hp.conf g0 g1
  have hw:=hp.words
  rw[QbL,hc]
  refine Wq (λ h1=>?_) λ _=>Wg hv
  have h1:k<h0.Conf.PageWords:=Wu h1
  rw[Xe (n:=k+1) (by omega) (by omega),Xe (n:=i*h0.Conf.PageWords) (by omega) (by omega),Xe (n:=i*h0.Conf.PageWords+k) (by omega) (by omega)]
  refine Ok.get (by omega) (by omega) λ p _=>Xgs v4 p5 i c hp hc g0 g1 n (k+1) _ (by omega) (by omega) (by rw[Wv];exact hv)
theorem Xdy (hN:NB N) {w:W9} (hb:HB h0) (hp:IH h0\/h0.Pages=[]) (hc:w.Heap.Conf=h0.Conf):∀ (n:Nat) (i c:Int) (v:List Int) (ps:List W4),0<=i->i<=h0.Pages.length->(h0.Pages.length-i).toNat<n->v.length=h0.Words.length->ps.length=h0.Pages.length->Ok (Qa9 N w n i c v ps) λ r=>r.2.1.length=h0.Words.length/\r.2.2.length=h0.Pages.length
 | 0,i,c,v,ps,_,_,hn,_,_=>by omega
 | n+1,i,c,v,ps,g0,gi,hn,hv,hps=>by
  have hN':=hN
  unfold NB at hN'
  have hb2:=hb.2
  rw[Qa9]
  refine Ug (by omega) (Wq (λ h1=>?_) λ _=>Wg ⟨hv,hps⟩)
  have h1:i<ps.length:=Wu h1
  rw[Xe (n:=i+1) (by omega) (by omega)]
  have next:=Xdy hN (w:=w) hb hp hc n (i+1) c v ps (by omega) (by omega) (by omega) hv hps
  refine Ok.get g0 h1 λ p _=>Wq (λ _=>next) λ _=>Wq (λ _=>next) λ _=>Ok.get g0 h1 λ p6 _=>?_
  rcases hp with hp | hp
  ·have hpp:=hp.pages
   refine WL (Xgs ps p i c hp hc g0 (by omega) N 0 v (by omega) (by omega) hv) λ r _ hr=>?_
   exact Xdy hN hb (.inl hp) hc n (i+1) _ r _ (by omega) (by omega) (by omega) hr (by rw[Wv];exact hps)
  ·rw[hp] at hps;simp at hps;rw[hps] at h1;simp at h1;omega
theorem Xls (hN:NB N) {w:W9} (hb:HB h0) (hp:IH h0\/h0.Pages=[]) (hc:w.Heap.Conf=h0.Conf) (hw:w.Heap.Words.length=h0.Words.length) (hpl:w.Heap.Pages.length=h0.Pages.length):Ok (Qfk N w) λ r=>HB r.Heap/\r.Taken=w.Taken:=by
 have hN':=hN
 unfold NB at hN'
 have hb1:=hb.1
 have hb2:=hb.2
 rw[Qfk]
 refine Ug (by omega) (Ug (by omega) (WL (Xdy hN hb hp hc N 0 _ _ _ (by omega) (by omega) (by omega) hw hpl) λ r _ hr=>Wg ⟨⟨?_,?_⟩,rfl⟩))
 ·show r.2.1.length<=_;omega
 ·show r.2.2.length<=_;omega
theorem Xgt (hN:NB N) (hs:Start N h0 l) (ws:List Int) (hl:ws.length<=1000000) (y5:W9×List Int×Int) (y6:W9×Int) (hc:CI h0 l y6.1):∀ (n:Nat) (i c:Int) (out:List Int),0<=i->i<=ws.length->(ws.length-i).toNat<n->(out.length:Int)=i->Ok (QaZ N ws y5 y6 n i c out) λ r=>r.2.length=ws.length
 | 0,i,c,out,_,_,hn,_=>by omega
 | n+1,i,c,out,g0,gi,hn,ho=>by
  rw[QaZ]
  refine Wq (λ h1=>?_) λ h1=>Wg (by have:=WI h1;show out.length=ws.length;omega)
  have h1:i<ws.length:=Wu h1
  rw[Xe (n:=i+1) (by omega) (by omega)]
  have next:=λ c' x=>Xgt hN hs ws hl y5 y6 hc n (i+1) c' (out++[x]) (by omega) (by omega) (by omega) (by rw[Wr];simp;omega)
  refine Ok.get g0 h1 λ p _=>IS (Wq (λ _=>Ok.get g0 h1 λ p _=>?_) λ _=>Ug (by omega) (next _ _))
  refine WL (XjA hN hs (w:=⟨_,_,_,_,_,_⟩) (hc.ql hs.hb) (hc.wl hs.hb) p) λ y _ _=>IS (Wq (λ _=>Ug (by omega) (next _ _)) λ _=>Ug (by omega) (next _ _))
structure O5 (rs ws:List Int) (r:Wz×List Int×List Int×UL×Int):Prop where
 hb:HB r.1
 len:r.2.2.2.2=0->r.2.1.length=rs.length/\r.2.2.1.length=ws.length
 no:r.2.2.2.2≠0->r.2.1=[]/\r.2.2.1=[]
theorem Xfu (hN:NB N) {h:Wz} (hb:HB h) {rs ws:List Int} (hr:rs.length<=1000000) (hw:ws.length<=1000000):Ok (Qdv N h rs ws) (O5 rs ws):=by
 have hN':=hN
 unfold NB at hN'
 have bad:∀ e:Int,e≠0->O5 rs ws (zH,[],[],⟨0,0,0,0,0,0⟩,e):=λ e he=>⟨ZN,λ h=>absurd h he,λ _=>⟨rfl,rfl⟩⟩
 rw[Qdv]
 refine WL (Zp (N:=N) (by omega) hb.1 hb.2) λ b _ _=>Wq (λ _=>Wg (bad 1 (by decide))) λ _=>IS ?_
 refine WL (Xap hN hb hr) λ b _ _=>Wq (λ _=>Wg (bad 19 (by decide))) λ _=>?_
 refine WL (Xap hN hb hw) λ b _ _=>Wq (λ _=>Wg (bad 19 (by decide))) λ _=>?_
 refine WL (Xjx hN hb) λ y4 _ hy4=>?_
 obtain ⟨h',l,bq⟩:=hy4
 have hs:=bq.st
 refine WL (Xjy hN hs hr bq.ci) λ y5 _ hy5=>Wq (λ he=>Wg (bad _ (by simpa using he))) λ he=>?_
 obtain ⟨c1,c2,c3⟩:=hy5 (by simpa using he)
 have hsc:=bq.sc
 refine WL (Xna hN hs c1 (by omega) (by omega)) λ y6 _ hy6=>Wq (λ he=>Wg (bad _ (by simpa using he))) λ he=>?_
 have d1:=hy6 (by simpa using he)
 refine WL (Xgt hN hs ws hw y5 y6 d1 N 0 _ [] (by omega) (by omega) (by omega) rfl) λ y16 _ hy16=>?_
 have d2:CI h' l (W9.mk y6.1.Heap y6.1.Old y6.1.Taken y6.1.Queue y6.1.Scanned (UL.mk y6.1.Report.Copied y6.1.Report.Kept y6.1.Report.Filled y6.1.Report.Freed y16.1 y6.1.Report.Steps)):=by
  obtain ⟨O,s,ho⟩:=d1.obj
  exact ⟨d1.conf,d1.wlen,d1.plen,d1.spc,d1.old,d1.tk,d1.tnd,d1.knd,d1.qnd,⟨O,s,⟨ho.old,ho.queue,ho.fit,ho.apart,ho.taken,ho.free⟩⟩⟩
 refine WL (Xlr hN hs d2) λ y17 _ ⟨f1,f2,f3,f4,f5⟩=>?_
 refine WL (Xls hN (h0:=h') hs.hb bq.pr f1 f2 f4) λ y18 _ ⟨g1,g2⟩=>?_
 have fin:∀ x:Int,O5 rs ws ((Wz.mk y18.Heap.Conf y18.Heap.Words y18.Heap.Pages (wI (1-y18.Heap.Space)) x),y5.2.1,y16.2,y18.Report,0):=λ x=>⟨g1,λ _=>⟨c3,hy16⟩,λ h=>absurd rfl h⟩
 refine IS (Wq (λ ht=>?_) λ _=>Wg (fin _))
 have ht:0<(y18.Taken.length:Int):=Wu ht
 rw[g2] at ht ⊢
 rw[Xe (by omega) (by omega)]
 exact Ok.get (by omega) (by omega) λ p _=>Wg (fin _)
end
end Go.Sx
namespace Go.Sx
def Zq {α σ:Type} (q:σ->Nat->α->Bool) (nxp:σ->α->σ):σ->Nat->List α->Bool
 | _,_,[]=>true
 | s,k,x::l=>q s k x&&Zq q nxp (nxp s x) (k+1) l
theorem Zi {α:Type} (q:α->Bool):∀ (k:Nat) (l:List α),Zq (λ (_:Unit) _ x=>q x) (λ s _=>s) () k l=l.all q
 | _,[]=>rfl
 | k,x::l=>by rw[Zq,Zi q (k+1) l,List.all_cons]
theorem K4 {α σ:Type} {l:List α} {F:Nat->σ->Int->Option (Ex Bool Unit)} {q:σ->Nat->α->Bool} {nxp:σ->α->σ} {I:σ->Prop}
 (hstep:∀ (n:Nat) (s:σ) (k:Nat) (p:α),I s->l[k]? = some p->F (n+1) s (k:Int)=bif q s k p then F n (nxp s p) ((k+1:Nat):Int) else some (.ret false))
 (hstop:∀ (n:Nat) (s:σ),F (n+1) s (l.length:Int)=some (.nxt ()))
 (hI:∀ s k p,I s->l[k]? = some p->q s k p=true->I (nxp s p)):∀ (n:Nat) (s:σ) (k:Nat),I s->k<=l.length->l.length-k<n->F n s (k:Int)=some (bif Zq q nxp s k (l.drop k) then .nxt () else .ret false)
 | 0,s,k,_,_,hn=>by omega
 | n+1,s,k,hs,hk,hn=>by
  by_cases h:k<l.length
  ·have e:=Wc h
   rw[hstep n s k _ hs e,WA h,Zq]
   cases hq:q s k l[k] with
   | false=>rfl
   | true =>
    rw[WN,We]
    exact K4 hstep hstop hI n _ (k+1) (hI s k _ hs e hq) (by omega) (by omega)
  ·obtain rfl:k=l.length:=by omega
   rw[hstop,WZ (WQ _)]
   rfl
theorem ZV {α:Type} {l:List α} {F:Nat->Int->Option (Ex Bool Unit)} {q:Nat->α->Bool}
 (hstep:∀ (n:Nat) (k:Nat) (p:α),l[k]? = some p->F (n+1) (k:Int)=bif q k p then F n ((k+1:Nat):Int) else some (.ret false))
 (hstop:∀ (n:Nat),F (n+1) (l.length:Int)=some (.nxt ())) {n:Nat} (hn:l.length<n):F n 0=some (bif Zq (λ (_:Unit)=>q) (λ s _=>s) () 0 l then .nxt () else .ret false):=by
 have h:=K4 (F:=λ n (_:Unit) i=>F n i) (q:=λ _=>q) (nxp:=λ s _=>s) (I:=λ _=>True) (l:=l) (λ n s k p _ e=>hstep n k p e) (λ n _=>hstop n) (λ _ _ _ _ _ _=>trivial) n () 0 trivial (by omega) (by omega)
 rw[Un] at h
 exact h
theorem Xw {k:Nat} {n:Nat} (h:k<n):decide ((k:Int)<((n:Nat):Int))=true:=Wo (by omega)
theorem Xr (n:Nat):decide (((n:Nat):Int)<((n:Nat):Int))=false:=Wl (by omega)
theorem Xo {α:Type} {l:List α} {k:Nat} {p:α} (h:l[k]? = some p):k<l.length:=(IT.1 h).1
theorem Xp {k:Nat} (h:k<=140737488355328):wI ((k:Int)+1)=((k+1:Nat):Int):=by rw[Xe (by omega) (by omega)];omega
def VY (e:WP):Bool:=!decide (e.Gen<1)&&(!decide (e.Gen>4294967295)&&(e.Live||!(e.Ref != 0)))
def YO (l:List WP):Bool:=l.all VY&&decide (l.length<=64)
def XE (l:List WP):List Int:=(l.filter (·.Live)).map (·.Ref)
theorem ZW {N:Nat} {t:WC} (hl:t.Entries.length<=1000000) (hN:1000000<N):QbF N t=some (YO t.Entries):=by
 have h:=ZV (l:=t.Entries) (F:=Qcb N t) (q:=λ _=>VY) (λ n k p e=>?_) (λ n=>?_) (n:=N) (by omega)
 ·rw[QbF,h,Xa,Zi,YO]
  cases t.Entries.all VY
  ·rw[Wa,X8];rfl
  ·rw[We,XN,WN]
   congr 1
   exact decide_eq_decide.2 (by omega)
 ·have hk:=Xo e
  rw[Qcb,Xw hk,We,Xd,e,Xa,Xp (by omega)]
  unfold VY
  cases decide (p.Gen<1)<;>cases decide (p.Gen>4294967295)<;>cases p.Live<;>cases (p.Ref != 0)<;>rfl
 ·rw[Qcb,Xr,Wa]
theorem XbG {N:Nat} {t:WC} (hl:t.Entries.length<=1000000) (hN:1000000<N) (hv:YO t.Entries=true):∀ (n k:Nat) (v:List Int),k<=t.Entries.length->t.Entries.length-k<n->v.length<=k ->
 Qa7 N t n (k:Int) v=some (v++XE (t.Entries.drop k))
 | 0,k,v,_,hn,_=>by omega
 | n+1,k,v,hk,hn,hlv=>by
  rw[Qa7]
  by_cases h:k<t.Entries.length
  ·rw[Xw h,We,ZW hl hN,Xa,hv,We,Xd,Wc h,Xa,Xa,Xp (by omega),WA h,XE]
   cases hL:t.Entries[k].Live
   ·rw[Wa,XbG hl hN hv n (k+1) v (by omega) (by omega) (by omega),Iz (by rw[hL];simp)]
    rfl
   ·rw[We,Xi (by omega),XbG hl hN hv n (k+1) _ (by omega) (by omega) (by rw[Wr];simp;omega),IA (by rw[hL])]
    simp[XE]
  ·obtain rfl:k=t.Entries.length:=by omega
   rw[Xr,Wa,WZ (WQ _)]
   simp[XE]
theorem YP {N:Nat} {t:WC} (hl:t.Entries.length<=1000000) (hN:1000000<N):Qa4 N t=some (bif YO t.Entries then XE t.Entries else []):=by
 rw[Qa4]
 cases hv:YO t.Entries
 ·obtain ⟨m,rfl⟩:∃ m,N=m+1:=⟨N-1,by omega⟩
  rw[Qa7,ZW hl hN,hv]
  by_cases h:0<t.Entries.length
  ·rw[show decide ((0:Int)<((t.Entries.length:Nat):Int))=true from Wo (by omega),We,Xa,Wa,Xa];rfl
  ·rw[show decide ((0:Int)<((t.Entries.length:Nat):Int))=false from Wl (by omega),Wa,Xa];rfl
 ·have h:=XbG hl hN hv N 0 [] (by omega) (by omega) (by simp)
  rw[show ((0:Nat):Int)=0 from rfl,Un,Uu] at h
  rw[h,Xa];rfl
theorem J6 (l:List WP):(XE l).length<=l.length:=by unfold XE;rw[Wt];exact List.length_filter_le _ _
theorem K5 {l:List WP} (h:YO l=true):l.length<=64:=by
 unfold YO at h
 rw[WG] at h
 exact Wu h.2
theorem VZ {l:List WP} (h:YO l=true) {e:WP} (he:e∈l):1<=e.Gen/\e.Gen<=4294967295/\(e.Live=false->e.Ref=0):=by
 unfold YO at h
 rw[WG,Ur] at h
 have:=h.1 e he
 unfold VY at this
 simp only[WG,Uv,Um,Ig,bne_eq_false_iff_eq] at this
 refine ⟨by omega,by omega,λ hL=>?_⟩
 rcases this.2.2 with h | h
 ·rw[hL] at h;cases h
 ·exact h
def YI (l:List WP) (i g:Int):Int×Int :=
 if YO l=false then (0,1) else if i<0\/(l.length:Int)<=i\/g<1 then (0,6) else
 match l[i.toNat]? with
 | none=>(0,6)
 | some e=>if g>e.Gen then (0,6) else if g<e.Gen then (0,8) else if e.Live then (e.Ref,0) else (0,8)
theorem V0 {N:Nat} {t:WC} (hl:t.Entries.length<=1000000) (hN:1000000<N) (i g:Int):Qc1 N t i g=some (YI t.Entries i g):=by
 rw[Qc1,ZW hl hN,Xa,YI]
 cases hv:YO t.Entries
 ·rfl
 ·simp only[Wx,Wa,Ib,Bool.true_eq_false,if_false]
  by_cases h0:i<0
  ·rw[Wn h0,Wn (.inl h0)]
  ·rw[Wh h0]
   by_cases h1:i>=((t.Entries.length:Nat):Int)
   ·rw[Wn h1,Wn (.inr (.inl h1))]
   ·rw[Wh h1]
    by_cases h2:g<1
    ·rw[Wn h2,Wn (.inr (.inr h2))]
    ·have hlt:i.toNat<t.Entries.length:=by omega
     rw[Wh h2,Wh (by omega),XM (by omega) (by omega),Xa,Wc hlt]
     simp only[Xa]
     by_cases h3:g>t.Entries[i.toNat].Gen
     ·rw[Wn h3,Wn h3]
     ·rw[Wh h3,Wh h3]
      by_cases h4:g<t.Entries[i.toNat].Gen
      ·rw[Wn h4,Wn h4]
      ·rw[Wh h4,Wh h4]
       cases t.Entries[i.toNat].Live<;>rfl
end Go.Sx
namespace Go.Sx
theorem KM {α σ:Type} {q:σ->Nat->α->Bool} {nxp:σ->α->σ}:∀ (l:List α) (s:σ) (k:Nat),Zq q nxp s k l=true↔∀ i p,l[i]? = some p->q ((l.take i).foldl nxp s) (k+i) p=true
 | [],s,k=>by simp[Zq]
 | x::l,s,k=>by
  rw[Zq,WG,KM l (nxp s x) (k+1)]
  constructor
  ·rintro ⟨h1,h2⟩ i p hp
   cases i with
   | zero=>simp at hp;subst hp;exact h1
   | succ i =>
    have:=h2 i p (by simpa using hp)
    rw[List.take_succ_cons,Oc,show k+(i+1)=k+1+i by omega]
    exact this
  ·intro h
   refine ⟨h 0 x rfl,λ i p hp=>?_⟩
   have:=h (i+1) p (by simpa using hp)
   rw[List.take_succ_cons,Oc,show k+(i+1)=k+1+i by omega] at this
   exact this
def Xlt (l:List Int):Bool:=l.all λ p=>!decide (p<0)&&!decide (p>4095)
def stQ (iss:List Int) (s:Int) (i:Nat) (p:UR):Bool:=!decide (p.Stamp<=s)&&(!decide (p.Stamp>((iss.length:Nat):Int))&&(!((iss.getD (p.Stamp-1).toNat 0) != (i:Int))&&(p.Live==(p.Ref != 0))))
def stB (iss:List Int) (l:List UR):Bool:=Zq (stQ iss) (λ _ p=>p.Stamp) 0 0 l
def neQ (n:Nat) (s:Int) (i:Nat) (p:UV):Bool:=(!((i:Int)==0)||(!(p.From != 0)&&p.Base))&&(!decide (p.From<s)&&(!decide (p.From>((n:Nat):Int))&&(!decide (p.Cap<0)&&!decide (p.Cap>64))))
def neB (n:Nat) (l:List UV):Bool:=Zq (neQ n) (λ _ p=>p.From) 0 0 l
def ZZ (l:List UR) (f t:Nat):Nat:=((l.drop f).take (t-f)).countP (·.Live)
def toL (a:Ws) (i:Nat):Int:=match a.Scopes[i+1]? with | some p=>p.From | none=>a.Slots.length
def XjB (a:Ws) (_:Unit) (i:Nat) (p:UV):Bool:=!decide (((ZZ a.Slots p.From.toNat (toL a i).toNat:Nat):Int)>p.Cap)
def Xfv (a:Ws):Bool:=Zq (XjB a) (λ s _=>s) () 0 a.Scopes
def YY (a:Ws):Bool:=!decide (((a.Issued.length:Nat):Int)>4096)&&(!decide (((a.Scopes.length:Nat):Int)>64)&&((!(((a.Scopes.length:Nat):Int)==0)||!decide (((a.Slots.length:Nat):Int)>0))&&(Xlt a.Issued&&(stB a.Issued a.Slots&&(neB a.Slots.length a.Scopes&&Xfv a)))))
def LBp (a:Ws):Prop:=a.Slots.length<=1000000/\a.Scopes.length<=1000000/\a.Issued.length<=1000000
theorem JR {n:Nat} {l:List UV} (h:neB n l=true) {i:Nat} {p:UV} (hp:l[i]? = some p):0<=p.From/\p.From<=n/\0<=p.Cap/\p.Cap<=64/\(i=0->p.From=0/\p.Base=true)/\∀ p',l[i+1]? = some p'->p.From<=p'.From:=by
 have hi:=(KM l (0:Int) 0).1 h
 have inv:∀ (k:Nat) (p:UV),l[k]? = some p->0<=p.From:=by
  intro k
  induction k with
  | zero =>
   intro p hp
   have:=hi 0 p hp
   unfold neQ at this
   simp at this
   omega
  | succ k ih =>
   intro p hp
   have hk:k<l.length:=by have:=Xo hp;omega
   have e:=Wc hk
   have h1:=ih _ e
   have h2:=hi (k+1) p hp
   rw[List.take_add_one,e] at h2
   simp only[List.foldl_append,Option.toList,Oc,List.foldl_nil] at h2
   unfold neQ at h2
   simp only[WG,Uv,Um] at h2
   have:=h2.2.1
   omega
 have h0:=hi i p hp
 unfold neQ at h0
 simp only[WG,Uv,Um,Ig,UM,bne_eq_false_iff_eq] at h0
 refine ⟨inv i p hp,by omega,by omega,by omega,λ hz=>?_,λ p' hp'=>?_⟩
 ·subst hz
  rcases h0.1 with h | h
  ·cases h
  ·exact h
 ·have h2:=hi (i+1) p' hp'
  rw[List.take_add_one,hp] at h2
  simp only[List.foldl_append,Option.toList,Oc,List.foldl_nil] at h2
  unfold neQ at h2
  simp only[WG,Uv,Um] at h2
  have:=h2.2.1
  omega
theorem Xhy {iss:List Int} {l:List UR} (h:stB iss l=true) {i:Nat} {p:UR} (hp:l[i]? = some p):(i:Int)+1<=p.Stamp/\p.Stamp<=iss.length/\iss.getD (p.Stamp-1).toNat 0=i/\(p.Live=true↔p.Ref≠0):=by
 have hi:=(KM l (0:Int) 0).1 h
 have inv:∀ (k:Nat) (p:UR),l[k]? = some p->(k:Int)+1<=p.Stamp:=by
  intro k
  induction k with
  | zero =>
   intro p hp
   have:=hi 0 p hp
   unfold stQ at this
   simp only[WG,Uv,Um,List.take_zero,List.foldl_nil] at this
   have:=WI this.1
   omega
  | succ k ih =>
   intro p hp
   have hk:k<l.length:=by have:=Xo hp;omega
   have e:=Wc hk
   have h1:=ih _ e
   have h2:=hi (k+1) p hp
   rw[List.take_add_one,e] at h2
   simp only[List.foldl_append,Option.toList,Oc,List.foldl_nil] at h2
   unfold stQ at h2
   simp only[WG,Uv,Um] at h2
   have:=h2.1
   omega
 have h0:=hi i p hp
 unfold stQ at h0
 simp only[WG,Uv,Um,UM,bne_eq_false_iff_eq,beq_iff_eq] at h0
 refine ⟨inv i p hp,by omega,h0.2.2.1,?_⟩
 rw[h0.2.2.2]
 simp
structure O6 (a:Ws):Prop where
 iss:a.Issued.length<=4096
 sc:a.Scopes.length<=64
 none:a.Scopes.length=0->a.Slots.length=0
 issr:∀ x∈a.Issued,0<=x/\x<=4095
 st:stB a.Issued a.Slots=true
 ne:neB a.Slots.length a.Scopes=true
 cap:Xfv a=true
theorem Zw {a:Ws}:YY a=true↔O6 a:=by
 unfold YY Xlt
 simp only[WG,Uv,Um,Ig,Ur,WY]
 constructor
 ·rintro ⟨h1,h2,h3,h4,h5,h6,h7⟩
  exact ⟨by omega,by omega,λ e=>by omega,λ x hx=>by have:=h4 x hx;omega,h5,h6,h7⟩
 ·intro h
  exact ⟨by have:=h.iss;omega,by have:=h.sc;omega,by have:=h.none;omega,λ x hx=>by have:=h.issr x hx;omega,h.st,h.ne,h.cap⟩
theorem O6.slots {a:Ws} (h:O6 a):a.Slots.length<=a.Issued.length:=by
 by_cases hz:a.Slots.length=0
 ·omega
 ·have e:=Wc (show a.Slots.length-1<a.Slots.length by omega)
  have:=Xhy h.st e
  omega
theorem Xdz {N:Nat} {a:Ws} (hl:a.Slots.length<=1000000) (t:Nat) (ht:t<=a.Slots.length):∀ (n f c:Nat),t-f<n->c<=f->f<=1000000->QcA N a (t:Int) n (c:Int) (f:Int)=some (((c+ZZ a.Slots f t:Nat):Int))
 | 0,f,c,hn,_,_=>by omega
 | n+1,f,c,hn,hc,hf=>by
  rw[QcA]
  by_cases h:f<t
  ·have hlt:f<a.Slots.length:=by omega
   rw[show decide ((f:Int)<(t:Int))=true from Wo (by omega),We,Xd,Wc hlt,Xa,Xp (by omega),Xp (by omega)]
   have e:ZZ a.Slots f t=(if a.Slots[f].Live then 1 else 0)+ZZ a.Slots (f+1) t:=by
    unfold ZZ
    rw[WA hlt,show t-f=(t-(f+1))+1 by omega,List.take_succ_cons,I6]
    omega
   cases hL:a.Slots[f].Live
   ·rw[Wa,Xdz hl t ht n (f+1) c (by omega) (by omega) (by omega),e,hL]
    simp
   ·rw[We,Xdz hl t ht n (f+1) (c+1) (by omega) (by omega) (by omega),e,hL]
    simp;omega
  ·rw[show decide ((f:Int)<(t:Int))=false from Wl (by omega),Wa]
   unfold ZZ
   rw[show t-f=0 by omega]
   simp
theorem Xgu {N:Nat} {a:Ws} (hl:a.Slots.length<=1000000) (hN:1000000<N) {f t:Int} (f0:0<=f) (f1:f<=1000000) (t0:0<=t) (t1:t<=a.Slots.length):Qf7 N a f t=some ((ZZ a.Slots f.toNat t.toNat:Nat):Int):=by
 obtain ⟨f,rfl⟩:=UU f0
 obtain ⟨t,rfl⟩:=UU t0
 rw[Qf7]
 have:=Xdz (N:=N) hl t (by omega) N f 0 (by omega) (by omega) (by omega)
 rw[show ((0:Nat):Int)=0 from rfl] at this
 show bnd (QcA N a (t:Int) N 0 (f:Int)) _=_
 rw[this,Xa]
 simp
theorem Xn8 {N:Nat} {a:Ws} {i:Nat} (hi:i<=1000000):Qg7 N a (i:Int)=some (toL a i):=by
 rw[Qg7,Xp (by omega),toL]
 by_cases h:i+1<a.Scopes.length
 ·rw[Xw h,We,Xd,Wc h,Xa]
 ·rw[show decide (((i+1:Nat):Int)<((a.Scopes.length:Nat):Int))=false from Wl (by omega),Wa,WK (by omega)]
theorem Xn9 {a:Ws} (h:neB a.Slots.length a.Scopes=true) (i:Nat):0<=toL a i/\toL a i<=a.Slots.length:=by
 unfold toL
 cases e:a.Scopes[i+1]? with
 | none=>simp
 | some p=>have:=JR h e;simp only;omega
theorem ZX {N:Nat} {a:Ws} (hl:LBp a) (hN:1000000<N):QbH N a=some (YY a):=by
 obtain ⟨hl1,hl2,hl3⟩:=hl
 have h1:=ZV (l:=a.Issued) (F:=QcK N a) (q:=λ _ p=>!decide (p<0)&&!decide (p>4095)) (λ n k p e=>by
  have hk:=Xo e
  rw[QcK,Xw hk,We,Xd,e,Xa,Xa,Xp (by omega)]
  cases decide (p<0)<;>cases decide (p>4095)<;>rfl) (λ n=>by rw[QcK,Xr,Wa]) (n:=N) (by omega)
 have h2:=K4 (l:=a.Slots) (F:=λ n s i=>Qam N a n s i) (q:=stQ a.Issued) (nxp:=λ _ p=>p.Stamp) (I:=λ s=>0<=s) (λ n s k p hs e=>by
  have hk:=Xo e
  show Qam N a (n+1) s (k:Int)=_
  rw[Qam,Xw hk,We,Xd,e,Xa,Xp (by omega)]
  unfold stQ
  cases g1:decide (p.Stamp<=s)
  ·cases g2:decide (p.Stamp>((a.Issued.length:Nat):Int))
   ·have g1:=WI g1
    have g2:=WI g2
    rw[Wa,Wa,Xe (by omega) (by omega),XM (by omega) (by omega),Xa]
    have ge:a.Issued[(p.Stamp-1).toNat]'(by omega)=a.Issued.getD (p.Stamp-1).toNat 0:=by
     rw[Wk,Wc (by omega)];rfl
    rw[ge]
    cases (a.Issued.getD (p.Stamp-1).toNat 0 != (k:Int))<;>cases (p.Live==(p.Ref != 0))<;>rfl
   ·rfl
  ·rfl) (λ n s=>by show Qam N a (n+1) s _=_;rw[Qam,Xr,Wa]) (λ s k p hs e hq=>by
   unfold stQ at hq
   simp only[WG,Uv,Um] at hq
   have:=hq.1
   omega) N 0 0 (by omega) (by omega) (by omega)
 have h3:=K4 (l:=a.Scopes) (F:=λ n s i=>Qak N a n s i) (q:=neQ a.Slots.length) (nxp:=λ _ p=>p.From) (I:=λ _=>True) (λ n s k p hs e=>by
  have hk:=Xo e
  show Qak N a (n+1) s (k:Int)=_
  rw[Qak,Xw hk,We,Xd,e,Xa,Xp (by omega)]
  unfold neQ
  cases ((k:Int)==0)<;>cases (p.From != 0)<;>cases p.Base<;>cases decide (p.From<s)<;>cases decide (p.From>((a.Slots.length:Nat):Int))<;>cases decide (p.Cap<0)<;>cases decide (p.Cap>64)<;>rfl) (λ n s=>by show Qak N a (n+1) s _=_;rw[Qak,Xr,Wa]) (λ _ _ _ _ _ _=>trivial) N 0 0 trivial (by omega) (by omega)
 rw[Un] at h2 h3
 rw[Zi] at h1
 rw[QbH,XY,h1,Xa]
 have e2:Qam N a N 0 0=some (bif stB a.Issued a.Slots then .nxt () else .ret false):=h2
 have e3:Qak N a N 0 0=some (bif neB a.Slots.length a.Scopes then .nxt () else .ret false):=h3
 unfold YY Xlt
 have main:(exK (bif (a.Issued.all λ p=>!decide (p<0)&&!decide (p>4095)) then Ex.nxt () else Ex.ret false) (λ r=>some r) λ y4 =>
  bnd (Qam N a N 0 0) λ e=>exK e (λ r=>some r) λ y9 =>
  bnd (Qak N a N 0 0) λ e=>exK e (λ r=>some r) λ y13 =>
  bnd (Qcc N a N 0) λ e=>exK e (λ r=>some r) λ y19=>some true)=some ((a.Issued.all λ p=>!decide (p<0)&&!decide (p>4095))&&(stB a.Issued a.Slots&&(neB a.Slots.length a.Scopes&&Xfv a))):=by
  cases (a.Issued.all λ p=>!decide (p<0)&&!decide (p>4095))
  ·rw[Wa,X8];rfl
  rw[We,XN,WN,e2,Xa]
  cases stB a.Issued a.Slots
  ·rw[Wa,X8];rfl
  rw[We,XN,WN,e3,Xa]
  cases hne:neB a.Slots.length a.Scopes
  ·rw[Wa,X8];rfl
  rw[We,XN,WN]
  have h4:=ZV (l:=a.Scopes) (F:=Qcc N a) (q:=XjB a ()) (λ n k p e=>by
   have hk:=Xo e
   have hf:=JR hne e
   have ht:=Xn9 hne k
   rw[Qcc,Xw hk,We,Xd,e,Xa,Xn8 (by omega),Xa,Xgu hl1 hN hf.1 (by omega) ht.1 ht.2,Xa,Xa,Xp (by omega)]
   unfold XjB
   cases decide (((ZZ a.Slots p.From.toNat (toL a k).toNat:Nat):Int)>p.Cap)<;>rfl) (λ n=>by rw[Qcc,Xr,Wa]) (n:=N) (by omega)
  rw[h4,Xa]
  show exK (bif Xfv a then Ex.nxt () else Ex.ret false) _ _=_
  cases Xfv a
  ·rw[Wa,X8]
  ·rw[We,XN]
 rw[main]
 cases decide (((a.Issued.length:Nat):Int)>4096)<;>cases decide (((a.Scopes.length:Nat):Int)>64)<;>cases (((a.Scopes.length:Nat):Int)==0)<;>cases decide (((a.Slots.length:Nat):Int)>0)<;>rfl
end Go.Sx
namespace Go.Sx
def zL:Ws:=⟨[],[],[]⟩
def Yc (l:List UR):List Int:=(l.filter (·.Live)).map (·.Ref)
theorem XcI (l:List UR):(Yc l).length<=l.length:=by unfold Yc;rw[Wt];exact List.length_filter_le _ _
section
variable {N:Nat} {a:Ws}
theorem XbH (hl:LBp a) (hN:1000000<N) (hv:YY a=true):∀ (n k:Nat) (v:List Int),k<=a.Slots.length->a.Slots.length-k<n->v.length<=k ->
 Qa8 N a n (k:Int) v=some (v++Yc (a.Slots.drop k))
 | 0,k,v,_,hn,_=>by omega
 | n+1,k,v,hk,hn,hlv=>by
  have hl1:=hl.1
  rw[Qa8]
  by_cases h:k<a.Slots.length
  ·rw[Xw h,We,ZX hl hN,Xa,hv,We,Xd,Wc h,Xa,Xa,Xp (by omega),WA h,Yc]
   cases hL:a.Slots[k].Live
   ·rw[Wa,XbH hl hN hv n (k+1) v (by omega) (by omega) (by omega),Iz (by rw[hL];simp)]
    rfl
   ·rw[We,Xi (by omega),XbH hl hN hv n (k+1) _ (by omega) (by omega) (by rw[Wr];simp;omega),IA (by rw[hL])]
    simp[Yc]
  ·obtain rfl:k=a.Slots.length:=by omega
   rw[Xr,Wa,WZ (WQ _)]
   simp[Yc]
theorem KC (hl:LBp a) (hN:1000000<N):Qb3 N a=some (bif YY a then Yc a.Slots else []):=by
 rw[Qb3]
 cases hv:YY a
 ·obtain ⟨m,rfl⟩:∃ m,N=m+1:=⟨N-1,by omega⟩
  rw[Qa8,ZX hl hN,hv]
  by_cases h:0<a.Slots.length
  ·rw[show decide ((0:Int)<((a.Slots.length:Nat):Int))=true from Wo (by omega),We,Xa,Wa,Xa];rfl
  ·rw[show decide ((0:Int)<((a.Slots.length:Nat):Int))=false from Wl (by omega),Wa,Xa];rfl
 ·have h:=XbH hl hN hv N 0 [] (by omega) (by have:=hl.1;omega) (by simp)
  rw[show ((0:Nat):Int)=0 from rfl,Un,Uu] at h
  rw[h,Xa];rfl
def KJ (a:Ws):UV:=a.Scopes.getD (a.Scopes.length-1) ⟨0,0,false⟩
theorem V1 (h:a.Scopes.length≠0) (hl:a.Scopes.length<=1000000):Xb a.Scopes (wI (((a.Scopes.length:Nat):Int)-1))=some (KJ a):=by
 rw[Xe (by omega) (by omega),show ((a.Scopes.length:Nat):Int)-1=((a.Scopes.length-1:Nat):Int) by omega,Xd,KJ,Wk,Wc (by omega)]
 rfl
def Zj (a:Ws) (id:Int):Ws×Int×Int×Int :=
 if YY a=false then (zL,0,0,1) else if id=0 then (zL,0,0,1) else if a.Scopes.length=0 then (zL,0,0,9)
 else if (KJ a).Cap<=((ZZ a.Slots (KJ a).From.toNat a.Slots.length:Nat):Int) then (zL,0,0,10)
 else if a.Issued.length=4096 then (zL,0,0,18)
 else (⟨a.Slots++[⟨(a.Issued.length:Int)+1,id,true⟩],a.Scopes,a.Issued++[(a.Slots.length:Int)]⟩,(a.Slots.length:Int),(a.Issued.length:Int)+1,0)
theorem XbI (hv:YY a=true) (h:a.Scopes.length≠0):0<=(KJ a).From/\(KJ a).From<=a.Slots.length:=by
 have hf:=Zw.1 hv
 have e:=Wc (show a.Scopes.length-1<a.Scopes.length by omega)
 have:=JR hf.ne e
 have e2:KJ a=a.Scopes[a.Scopes.length-1]:=by unfold KJ;rw[Wk,e];rfl
 rw[e2];omega
theorem V2 (hl:LBp a) (hN:1000000<N) (id:Int):QdP N a id=some (Zj a id):=by
 obtain ⟨hl1,hl2,hl3⟩:=hl
 rw[QdP,ZX ⟨hl1,hl2,hl3⟩ hN,Xa,Zj]
 cases hv:YY a
 ·rfl
 rw[Wx,Wa,Wh (by simp)]
 by_cases h1:id=0
 ·subst h1;rfl
 rw[Wh h1,show (id==0)=false by simpa using h1,Wa]
 by_cases h2:a.Scopes.length=0
 ·rw[Wn h2,h2];rfl
 rw[Wh h2,show (((a.Scopes.length:Nat):Int)==0)=false by simpa using h2,Wa,V1 h2 hl2,Xa]
 have ht:=XbI hv h2
 rw[Xgu hl1 hN ht.1 (by omega) (by omega) (by omega),Xa,Xa,WD]
 by_cases h3:(KJ a).Cap<=((ZZ a.Slots (KJ a).From.toNat a.Slots.length:Nat):Int)
 ·rw[Wn h3,Wo (show ((ZZ a.Slots (KJ a).From.toNat a.Slots.length:Nat):Int)>=_ from h3),We];rfl
 rw[Wh h3,Wl (show ¬ ((ZZ a.Slots (KJ a).From.toNat a.Slots.length:Nat):Int)>=_ from h3),Wa]
 by_cases h4:a.Issued.length=4096
 ·rw[Wn h4,h4];rfl
 rw[Wh h4,show (((a.Issued.length:Nat):Int)==4096)=false by simp;omega,Wa,Xi (by omega),Xi (by omega),Xi (by omega),Xi (by omega),Xe (by omega) (by omega)]
theorem Zx:LBp zL:=⟨by simp[zL],by simp[zL],by simp[zL]⟩
theorem Xgv (hl:LBp a) (id:Int):LBp (Zj a id).1:=by
 obtain ⟨hl1,hl2,hl3⟩:=hl
 unfold Zj
 cases hv:YY a
 ·exact Zx
 have hf:=Zw.1 hv
 have hs:=hf.slots
 have hi:=hf.iss
 split
 ·exact Zx
 split
 ·exact Zx
 split
 ·exact Zx
 split
 ·exact Zx
 split
 ·exact Zx
 refine ⟨?_,hl2,?_⟩
 ·show (a.Slots++[_]).length<=_
  rw[Wr];simp;omega
 ·show (a.Issued++[_]).length<=_
  rw[Wr];simp;omega
def Y9 (a:Ws) (i g:Int):Int×Int :=
 if YY a=false then (0,1) else if g<1\/(a.Issued.length:Int)<g then (0,6) else
 if a.Issued.getD (g-1).toNat 0≠i then (0,6) else if (a.Slots.length:Int)<=i then (0,7) else
 match a.Slots[i.toNat]? with
 | none=>(0,7)
 | some p=>if p.Stamp≠g then (0,7) else if p.Live then (p.Ref,0) else (0,8)
theorem Xa4 (hl:LBp a) (hN:1000000<N) (i g:Int):QdQ N a i g=some (Y9 a i g):=by
 have hl':=hl
 obtain ⟨hl1,hl2,hl3⟩:=hl
 rw[QdQ,ZX hl' hN,Xa,Y9]
 cases hv:YY a
 ·rfl
 have hf:=Zw.1 hv
 rw[Wx,Wa,Wh (by simp)]
 by_cases h1:g<1
 ·rw[Wo h1,We,Wn (.inl h1)]
 rw[Wl h1,Wa]
 by_cases h2:g>((a.Issued.length:Nat):Int)
 ·rw[Wo h2,We,Wn (.inr h2)]
 have hlt:(g-1).toNat<a.Issued.length:=by omega
 rw[Wl h2,Wa,Wh (by omega),Xe (by omega) (by omega),XM (by omega) (by omega),Xa]
 have ge:a.Issued[(g-1).toNat]=a.Issued.getD (g-1).toNat 0:=by rw[Wk,Wc hlt];rfl
 have hm:=hf.issr _ (W6 hlt)
 rw[ge] at hm ⊢
 by_cases h3:a.Issued.getD (g-1).toNat 0=i
 ·rw[h3] at hm ⊢
  rw[show (i != i)=false by simp,Wa,Wh (by simp)]
  by_cases h4:i>=((a.Slots.length:Nat):Int)
  ·rw[Wo h4,We,Wn h4]
  ·have hlt2:i.toNat<a.Slots.length:=by omega
   rw[Wl h4,Wa,Wh (by omega),XM (by omega) (by omega),Xa,Wc hlt2]
   simp only[Xa]
   by_cases h5:a.Slots[i.toNat].Stamp=g
   ·rw[h5,show (g != g)=false by simp,Wa,Wh (by simp)]
    cases a.Slots[i.toNat].Live<;>rfl
   ·rw[show (a.Slots[i.toNat].Stamp != g)=true by simpa using h5,We,Wn h5]
 ·rw[show (a.Issued.getD (g-1).toNat 0 != i)=true by simpa using h3,We,Wn h3]
theorem Xaq {i g:Int} (h:(Y9 a i g).2=0):YY a=true/\0<=i/\∃ p,a.Slots[i.toNat]? = some p/\p.Stamp=g/\p.Live=true/\(Y9 a i g).1=p.Ref:=by
 unfold Y9 at h ⊢
 cases hv:YY a
 ·rw[hv] at h;cases h
 have hf:=Zw.1 hv
 rw[hv] at h
 rw[Wh (by simp)] at h ⊢
 by_cases h1:g<1\/(a.Issued.length:Int)<g
 ·rw[Wn h1] at h;cases h
 rw[Wh h1] at h ⊢
 have hlt:(g-1).toNat<a.Issued.length:=by omega
 have ge:a.Issued[(g-1).toNat]=a.Issued.getD (g-1).toNat 0:=by rw[Wk,Wc hlt];rfl
 have hm:=hf.issr _ (W6 hlt)
 rw[ge] at hm
 by_cases h2:a.Issued.getD (g-1).toNat 0≠i
 ·rw[Wn h2] at h;cases h
 rw[Wh h2] at h ⊢
 by_cases h3:(a.Slots.length:Int)<=i
 ·rw[Wn h3] at h;cases h
 rw[Wh h3] at h ⊢
 have hi:0<=i:=by have:a.Issued.getD (g-1).toNat 0=i:=Classical.not_not.1 h2;omega
 have e:=Wc (show i.toNat<a.Slots.length by omega)
 rw[e] at h ⊢
 simp only at h ⊢
 by_cases h4:a.Slots[i.toNat].Stamp≠g
 ·rw[Wn h4] at h;cases h
 rw[Wh h4] at h ⊢
 cases hL:a.Slots[i.toNat].Live
 ·rw[hL] at h;cases h
 ·exact ⟨trivial,hi,_,rfl,Classical.not_not.1 h4,hL,rfl⟩
def VC (a:Ws) (i g:Int):Ws×Int :=
 if (Y9 a i g).2≠0 then (zL,(Y9 a i g).2) else (⟨a.Slots.set i.toNat ⟨g,0,false⟩,a.Scopes,a.Issued⟩,0)
theorem XdA (hl:LBp a) (hN:1000000<N) (i g:Int):Qc2 N a i g=some (VC a i g):=by
 rw[Qc2,Xa4 hl hN,Xa,VC]
 by_cases h:(Y9 a i g).2=0
 ·obtain ⟨_,h0,p,hp,_⟩:=Xaq h
  have:=Xo hp
  have hl1:=hl.1
  rw[h,show ((0:Int) != 0)=false from rfl,Wa,Wh (by simp),Xi (by omega),XM h0 (by omega),Xa]
 ·rw[show ((Y9 a i g).2 != 0)=true by simpa using h,We,Wn h];rfl
theorem Xgw (hl:LBp a) (i g:Int):LBp (VC a i g).1:=by
 unfold VC
 split
 ·exact Zx
 ·exact ⟨by show (a.Slots.set _ _).length<=_;rw[Wv];exact hl.1,hl.2⟩
def Jr (a:Ws) (c:Int):Ws×Int :=
 if YY a=false\/c<0\/64<c then (zL,1) else if a.Scopes.length=0 then (zL,9) else if a.Scopes.length=64 then (zL,17) else (⟨a.Slots,a.Scopes++[⟨(a.Slots.length:Int),c,false⟩],a.Issued⟩,0)
theorem V3 (hl:LBp a) (hN:1000000<N) (c:Int):QdL N a c=some (Jr a c):=by
 have hl2:=hl.2.1
 rw[QdL,Qf8,ZX hl hN,Xa,Jr]
 cases hv:YY a
 ·rw[WS,We,Xa,Wn (.inl rfl)];rfl
 rw[Wx,Wa]
 by_cases h1:c<0
 ·rw[Wo h1,We,Xa,Wn (.inr (.inl h1))];rfl
 by_cases h2:c>64
 ·rw[Wl h1,Wa,Wo h2,We,Xa,Wn (.inr (.inr h2))];rfl
 rw[Wl h1,Wa,Wl h2,Wa,XY,WS,We,Wh (by rintro (h | h | h);cases h;exact h1 h;exact h2 h)]
 by_cases h3:a.Scopes.length=0
 ·rw[Wn h3,h3];rw[show (((0:Nat):Int)==0)=true from rfl,We,Xa];rfl
 rw[Wh h3,show (((a.Scopes.length:Nat):Int)==0)=false by simpa using h3,Wa]
 by_cases h4:a.Scopes.length=64
 ·rw[Wn h4,h4];rw[show (((64:Nat):Int)==64)=true from rfl,We,Xa];rfl
 rw[Wh h4,show (((a.Scopes.length:Nat):Int)==64)=false by simp;omega,Wa,Xi (by omega),Xi (by omega),Xa]
theorem Xex (hl:LBp a) (c:Int):LBp (Jr a c).1:=by
 unfold Jr
 cases hv:YY a
 ·exact Zx
 have:=(Zw.1 hv).sc
 split
 ·exact Zx
 split
 ·exact Zx
 split
 ·exact Zx
 ·exact ⟨hl.1,by show (a.Scopes++[_]).length<=_;rw[Wr];simp;omega,hl.2.2⟩
def ZC (a:Ws):Ws×Int :=
 if YY a=false then (zL,1) else if a.Scopes.length=0 then (zL,9) else if (KJ a).Base then (zL,9) else (⟨a.Slots.take (KJ a).From.toNat,a.Scopes.take (a.Scopes.length-1),a.Issued⟩,0)
theorem Xa5 (hl:LBp a) (hN:1000000<N):QeD N a=some (ZC a):=by
 obtain ⟨hl1,hl2,hl3⟩:=hl
 rw[QeD,ZX ⟨hl1,hl2,hl3⟩ hN,Xa,ZC]
 cases hv:YY a
 ·rfl
 rw[Wx,Wa,Wh (by simp)]
 by_cases h2:a.Scopes.length=0
 ·rw[Wn h2,h2];rfl
 have ht:=XbI hv h2
 rw[Wh h2,show (((a.Scopes.length:Nat):Int)==0)=false by simpa using h2,Wa,V1 h2 hl2,Xa]
 cases hB:(KJ a).Base
 ·rw[Wa,Qgu,V1 h2 hl2,Xa,Xe (by omega) (by omega),Xi (by omega),Xi (by omega),Xi (by omega),Xi (by omega),Xa]
  rw[show (((a.Scopes.length:Nat):Int)-1).toNat=a.Scopes.length-1 by omega]
  rfl
 ·rw[We];rfl
theorem V4 (hl:LBp a):LBp (ZC a).1:=by
 unfold ZC
 split
 ·exact Zx
 split
 ·exact Zx
 split
 ·exact Zx
 ·obtain ⟨hl1,hl2,hl3⟩:=hl
  exact ⟨by show (a.Slots.take _).length<=_;rw[WO];omega,by show (a.Scopes.take _).length<=_;rw[WO];omega,hl3⟩
theorem XbJ (rs:List Int) (hl:a.Slots.length<=1000000):∀ (n k:Nat) (c:Int) (v:List UR),k<=a.Slots.length->a.Slots.length-k<n->v.length=a.Slots.length->v.drop k=a.Slots.drop k->0<=c->c+(Yc (a.Slots.drop k)).length=rs.length->rs.length<=1000000 ->
 Ok (Qbl N a rs n c (k:Int) v) λ e=>match e with | .ret r=>r=(zL,1) | .nxt v=>v.length=a.Slots.length
 | 0,k,c,v,_,hn,_,_,_,_,_=>by omega
 | n+1,k,c,v,hk,hn,hv,hd,hc,hr,hrl=>by
  rw[Qbl]
  refine Ug (by omega) (Wq (λ h=>?_) λ h=>Wg hv)
  have h:k<a.Slots.length:=by have:=Wu h;omega
  have hkv:(k:Int)<v.length:=by omega
  rw[Xp (by omega)]
  have hdv:=WA (show k<v.length by omega)
  have hda:=WA h
  rw[hd,hda] at hdv
  have e1:a.Slots[k]=v[k]:=(List.cons.inj hdv).1
  have e2:a.Slots.drop (k+1)=v.drop (k+1):=(List.cons.inj hdv).2
  refine Ok.get (by omega) hkv λ p hp=>?_
  have hpe:p=a.Slots[k]:=by
   rw[Xd,Wc (by omega),← e1] at hp
   exact (Ww hp).symm
  rw[hda] at hr
  refine Wq (λ hL=>?_) λ hL=>?_
  ·have hL:a.Slots[k].Live=false:=by rw[← hpe];simpa using hL
   refine XbJ rs hl n (k+1) c v (by omega) (by omega) hv e2.symm hc ?_ hrl
   rw[← hr];unfold Yc;rw[Iz (by rw[hL];simp)]
  ·have hL:a.Slots[k].Live=true:=by rw[← hpe];simpa using hL
   have hr2:c+1+(Yc (a.Slots.drop (k+1))).length=rs.length:=by
    rw[← hr];unfold Yc;rw[IA (by rw[hL]),WV,WM];omega
   refine Ok.get hc (by omega) λ q _=>Wq (λ _=>Wg rfl) λ _=>Ok.get hc (by omega) λ q _=>Ok.get (by omega) hkv λ p' _=>?_
   rw[Xe (n:=c+1) (by omega) (by omega)]
   refine XbJ rs hl n (k+1) (c+1) _ (by omega) (by omega) (by rw[Wv];exact hv) ?_ (by omega) hr2 hrl
   rw[List.drop_set_of_lt (by omega)]
   exact e2.symm
theorem XjC (hl:LBp a) (hN:1000000<N) {rs:List Int} (hr:rs.length<=1000000):Ok (Qfm N a rs) λ r=>LBp r.1:=by
 have hl':=hl
 obtain ⟨hl1,hl2,hl3⟩:=hl
 rw[Qfm,ZX hl' hN,Xa]
 refine Wq (λ _=>Wg Zx) λ hv=>?_
 have hv:YY a=true:=by simpa using hv
 rw[KC hl' hN,Xa,hv,We]
 refine Wq (λ _=>Wg Zx) λ he=>Ug (by omega) ?_
 have he:((rs.length:Nat):Int)=(((Yc a.Slots).length:Nat):Int):=by simpa using he
 refine I7 (XbJ rs hl1 N 0 0 a.Slots (by omega) (by omega) rfl rfl (by omega) (by rw[Un];omega) hr) (λ r q=>Wg (by have q:r=(zL,1):=q;rw[q];exact Zx)) λ v q=>Wg ⟨?_,hl2,hl3⟩
 have q:v.length=a.Slots.length:=q
 show v.length<=_
 omega
end
end Go.Sx
namespace Go.Sx
def TB (t:WC):Prop:=t.Entries.length<=1000000
def zT:WC:=⟨[]⟩
theorem XbK:TB zT:=by simp[TB,zT]
section
variable {N:Nat} {t:WC}
def XaO (l:List WP):Option Nat:=l.findIdx? λ e=>!e.Live&&decide (e.Gen<4294967295)
def YB (t:WC) (id:Int):WC×Int×Int×Int :=
 if YO t.Entries=false then (zT,0,0,1) else
 match XaO t.Entries with
 | some k=>(⟨t.Entries.set k ⟨(t.Entries.getD k ⟨0,0,false⟩).Gen+1,id,true⟩⟩,(k:Int),(t.Entries.getD k ⟨0,0,false⟩).Gen+1,0)
 | none=>if t.Entries.length=64 then (zT,0,0,18) else (⟨t.Entries++[⟨1,id,true⟩]⟩,(t.Entries.length:Int),1,0)
theorem Xgx (hl:TB t) (hv:YO t.Entries=true) (id:Int):∀ (n k:Nat),k<=t.Entries.length->t.Entries.length-k<n->Qbj N t id n (k:Int)=some (match (t.Entries.drop k).findIdx? (λ e=>!e.Live&&decide (e.Gen<4294967295)) with
 | some j=>.ret (⟨t.Entries.set (k+j) ⟨(t.Entries.getD (k+j) ⟨0,0,false⟩).Gen+1,id,true⟩⟩,((k+j:Nat):Int),(t.Entries.getD (k+j) ⟨0,0,false⟩).Gen+1,0)
 | none=>.nxt ())
 | 0,k,_,hn=>by omega
 | n+1,k,hk,hn=>by
  unfold TB at hl
  rw[Qbj,Xi (by omega)]
  by_cases h:k<t.Entries.length
  ·have e:=Wc h
   have gd:t.Entries.getD k ⟨0,0,false⟩=t.Entries[k]:=by rw[Wk,e];rfl
   have hg:=VZ hv (W6 h)
   rw[Xw h,We,Xd,e]
   simp only[Xa]
   rw[Xp (by omega),WA h,Oa]
   have next:=Xgx hl hv id n (k+1) (by omega) (by omega)
   have go:Qbj N t id n ((k+1:Nat):Int)=some (match Option.map (λ i=>i+1) ((t.Entries.drop (k+1)).findIdx? (λ e=>!e.Live&&decide (e.Gen<4294967295))) with
    | some j=>.ret (⟨t.Entries.set (k+j) ⟨(t.Entries.getD (k+j) ⟨0,0,false⟩).Gen+1,id,true⟩⟩,((k+j:Nat):Int),(t.Entries.getD (k+j) ⟨0,0,false⟩).Gen+1,0)
    | none=>.nxt ()):=by
    rw[next]
    cases (t.Entries.drop (k+1)).findIdx? (λ e=>!e.Live&&decide (e.Gen<4294967295)) with
    | none=>rfl
    | some j=>simp only[Im];rw[show k+1+j=k+(j+1) by omega]
   cases hL:t.Entries[k].Live
   ·cases hG:decide (t.Entries[k].Gen<4294967295)
    ·rw[WS,We,Wa,Bool.and_false,Wh (by simp)]
     exact go
    ·have hG:=Wu hG
     rw[WS,We,We,Bool.and_true,Wn rfl]
     have hk2:(k:Int).toNat=k:=by omega
     rw[Xe (by omega) (by omega),hk2,Xd,Iq,Wn rfl,Wn h,Xa]
     simp only[I8]
     rw[gd]
   ·rw[Wx,Wa,UC,Wh (by simp)]
    exact go
  ·obtain rfl:k=t.Entries.length:=by omega
   rw[Xr,Wa,WZ (WQ _)]
   rfl
theorem KN (hl:TB t) (hN:1000000<N) (id:Int):QbZ N t id=some (YB t id):=by
 have hl':=hl
 unfold TB at hl
 rw[QbZ,ZW hl hN,Xa,YB]
 cases hv:YO t.Entries
 ·rfl
 have h1:=Xgx (N:=N) hl' hv id N 0 (by omega) (by omega)
 rw[show ((0:Nat):Int)=0 from rfl,Un] at h1
 rw[Wx,Wa,Xi (by omega),h1,Xa,Wh (by simp),XaO]
 cases t.Entries.findIdx? (λ e=>!e.Live&&decide (e.Gen<4294967295)) with
 | some j=>simp only[X8,UM]
 | none =>
  simp only[XN]
  rw[Xi (by omega)]
  by_cases h:t.Entries.length=64
  ·rw[Wn h,h];rfl
  ·rw[Wh h,show (((t.Entries.length:Nat):Int)==64)=false by simp;omega,Wa,Xi (by omega),Xi (by omega)]
theorem Xgy (hl:TB t) (id:Int):TB (YB t id).1:=by
 unfold YB
 cases hv:YO t.Entries
 ·exact XbK
 have:=K5 hv
 rw[Wh (by simp)]
 cases XaO t.Entries with
 | some k=>show (t.Entries.set _ _).length<=_;rw[Wv];exact hl
 | none =>
  simp only
  split
  ·exact XbK
  ·show (t.Entries++[_]).length<=_
   rw[Wr];simp;omega
theorem Xar {i g:Int} (h:(YI t.Entries i g).2=0):YO t.Entries=true/\0<=i/\∃ p,t.Entries[i.toNat]? = some p/\p.Gen=g/\p.Live=true/\(YI t.Entries i g).1=p.Ref:=by
 unfold YI at h ⊢
 cases hv:YO t.Entries
 ·rw[hv] at h;cases h
 rw[hv] at h
 rw[Wh (by simp)] at h ⊢
 by_cases h1:i<0\/(t.Entries.length:Int)<=i\/g<1
 ·rw[Wn h1] at h;cases h
 rw[Wh h1] at h ⊢
 have e:=Wc (show i.toNat<t.Entries.length by omega)
 rw[e] at h ⊢
 simp only at h ⊢
 by_cases h4:g>t.Entries[i.toNat].Gen
 ·rw[Wn h4] at h;cases h
 rw[Wh h4] at h ⊢
 by_cases h5:g<t.Entries[i.toNat].Gen
 ·rw[Wn h5] at h;cases h
 rw[Wh h5] at h ⊢
 cases hL:t.Entries[i.toNat].Live
 ·rw[hL] at h;cases h
 ·exact ⟨trivial,by omega,_,rfl,by omega,hL,rfl⟩
def KR (t:WC) (i g:Int):WC×Int :=
 if (YI t.Entries i g).2≠0 then (zT,(YI t.Entries i g).2) else (⟨t.Entries.set i.toNat ⟨g,0,false⟩⟩,0)
theorem J7 (hl:TB t) (hN:1000000<N) (i g:Int):Qb1 N t i g=some (KR t i g):=by
 have hl':=hl
 unfold TB at hl
 rw[Qb1,V0 hl hN,Xa,KR]
 by_cases h:(YI t.Entries i g).2=0
 ·obtain ⟨_,h0,p,hp,_⟩:=Xar h
  have:=Xo hp
  rw[h,show ((0:Int) != 0)=false from rfl,Wa,Wh (by simp),Qgv,Xi (by omega),XM h0 (by omega),Xa,Xa]
 ·rw[show ((YI t.Entries i g).2 != 0)=true by simpa using h,We,Wn h];rfl
theorem Xgz (hl:TB t) (i g:Int):TB (KR t i g).1:=by
 unfold KR
 split
 ·exact XbK
 ·show (t.Entries.set _ _).length<=_;rw[Wv];exact hl
theorem XbL (rs:List Int) (hl:t.Entries.length<=1000000):∀ (n k:Nat) (c:Int) (v:List WP),k<=t.Entries.length->t.Entries.length-k<n->v.length=t.Entries.length->v.drop k=t.Entries.drop k->0<=c->c+(XE (t.Entries.drop k)).length=rs.length->rs.length<=1000000 ->
 Ok (QaS N rs n c (k:Int) v) λ v=>v.length=t.Entries.length
 | 0,k,c,v,_,hn,_,_,_,_,_=>by omega
 | n+1,k,c,v,hk,hn,hv,hd,hc,hr,hrl=>by
  rw[QaS]
  refine Ug (by omega) (Wq (λ h=>?_) λ h=>Wg hv)
  have h:k<t.Entries.length:=by have:=Wu h;omega
  have hkv:(k:Int)<v.length:=by omega
  rw[Xp (by omega)]
  have hdv:=WA (show k<v.length by omega)
  have hda:=WA h
  rw[hd,hda] at hdv
  have e1:t.Entries[k]=v[k]:=(List.cons.inj hdv).1
  have e2:t.Entries.drop (k+1)=v.drop (k+1):=(List.cons.inj hdv).2
  refine Ok.get (by omega) hkv λ p hp=>?_
  have hpe:p=t.Entries[k]:=by
   rw[Xd,Wc (by omega),← e1] at hp
   exact (Ww hp).symm
  rw[hda] at hr
  refine Wq (λ hL=>?_) λ hL=>?_
  ·have hL:t.Entries[k].Live=true:=by rw[← hpe];exact hL
   have hr2:c+1+(XE (t.Entries.drop (k+1))).length=rs.length:=by
    rw[← hr];unfold XE;rw[IA (by rw[hL]),WV,WM];omega
   refine Ok.get hc (by omega) λ q _=>Ok.get (by omega) hkv λ p' _=>?_
   rw[Xe (n:=c+1) (by omega) (by omega)]
   refine XbL rs hl n (k+1) (c+1) _ (by omega) (by omega) (by rw[Wv];exact hv) ?_ (by omega) hr2 hrl
   rw[List.drop_set_of_lt (by omega)]
   exact e2.symm
  ·have hL:t.Entries[k].Live=false:=by rw[← hpe];exact hL
   refine XbL rs hl n (k+1) c v (by omega) (by omega) hv e2.symm hc ?_ hrl
   rw[← hr];unfold XE;rw[Iz (by rw[hL];simp)]
theorem XcJ (hl:TB t) (hN:1000000<N) {rs:List Int} (hr:rs.length<=1000000):Ok (Qcr N t rs) λ r=>r.1.Entries.length<=t.Entries.length:=by
 have hl':=hl
 unfold TB at hl
 rw[Qcr,ZW hl hN,Xa]
 refine Wq (λ _=>Wg (by simp)) λ hv=>?_
 have hv:YO t.Entries=true:=by simpa using hv
 have hll:=J6 t.Entries
 rw[YP hl hN,Xa,hv,We]
 refine Ug (by omega) (Wq (λ _=>Wg (by simp)) λ he=>Ug (by omega) ?_)
 have he:((rs.length:Nat):Int)=(((XE t.Entries).length:Nat):Int):=by simpa using he
 refine WL (XbL rs hl N 0 0 t.Entries (by omega) (by omega) rfl rfl (by omega) (by rw[Un];omega) hr) λ v _ q=>Wg ?_
 show v.length<=_
 omega
theorem Xey (hl:TB t) (hN:1000000<N) {rs:List Int} (hr:rs.length<=1000000):Ok (Qcr N t rs) λ r=>TB r.1:=(XcJ hl hN hr).mono λ r h=>Ic h hl
theorem Xez {k:Nat} (hl:t.Entries.length<=1000+k) (id:Int):(YB t id).1.Entries.length<=1000+k:=by
 unfold YB
 cases hv:YO t.Entries
 ·simp[zT]
 have:=K5 hv
 rw[Wh (by simp)]
 cases XaO t.Entries with
 | some k=>show (t.Entries.set _ _).length<=_;rw[Wv];exact hl
 | none =>
  simp only
  split
  ·simp[zT]
  ·show (t.Entries++[_]).length<=_
   rw[Wr];simp;omega
theorem XeA {k:Nat} (hl:t.Entries.length<=1000+k) (i g:Int):(KR t i g).1.Entries.length<=1000+k:=by
 unfold KR
 split
 ·simp[zT]
 ·show (t.Entries.set _ _).length<=_;rw[Wv];exact hl
end
end Go.Sx
