import Derived.KernelRfl
import Derived.Test.YtjmgebidnekjdaaGreatLC
set_option linter.all false
namespace Go.Sx
def Ok {α:Type} (o:Option α) (P:α->Prop):Prop:=∃ r,o=some r/\P r
section
variable {α β γ:Type} {P:β->Prop}
def Xa (x:α) (f:α->Option β):bnd (some x) f=f x:=by unfold bnd;rfl
def Xb3 (f:α->Option β):bnd none f=none:=by unfold bnd;rfl
def Xf {p:Prop} [Decidable p] (h:p) (x:Option α):grd p x=x:=by unfold grd;rw[Wn h]
def XN {κ:Type} (k:κ) (f:κ->γ):jn k f=f k:=by unfold jn;rfl
def Xl (a:α) (f:α->γ) (k:β->γ):exK (.ret a) f k=f a:=by unfold exK;rfl
def Xk (b:β) (f:α->γ) (k:β->γ):exK (.nxt b) f k=k b:=by unfold exK;rfl
def Xc (l:List α) (k:Nat):Xb l (k:Int)=l[k]?:=by unfold Xb;simp
def Yg {l:List α} {i:Int} (h0:0<=i) (h1:i<l.length):Xb l i=some (l[i.toNat]'(by omega)):=by
 unfold Xb;rw[Wn h0];exact Wb _
def VE {l:List α} {i:Int} {p:α}:Xb l i=some p↔0<=i/\l[i.toNat]? = some p:=by
 unfold Xb
 by_cases h0:0<=i
 ·rw[Wn h0];exact ⟨λ h=>⟨h0,h⟩,λ h=>h.2⟩
 ·rw[Wm h0];exact ⟨λ h=>(by cases h),λ h=>absurd h.1 h0⟩
def Yo {l:List α} {i:Int} {p:α} (h:Xb l i=some p):p∈l:=Ua (VE.1 h).2
def Vo {l:List α} {i:Int} (h:¬ (0<=i/\i<l.length)):Xb l i=none:=by
 unfold Xb;split
 ·exact WZ (by omega)
 ·rfl
def Wh {x:β} (h:P x):Ok (some x) P:=⟨x,rfl,h⟩
def WN {o:Option α} {f:α->Option β} {Q:α->Prop} (h:Ok o Q) (k:∀ y,o=.some y->Q y->Ok (f y) P):Ok (Sx.bnd o f) P:=by
 obtain ⟨y,rfl,hq⟩:=h;rw[Xa];exact k y rfl hq
def WY {p:Prop} [Decidable p] {x:Option β} (h:p) (k:Ok x P):Ok (Sx.grd p x) P:=by rw[Xf h];exact k
def IB {κ:Type} {k:κ} {f:κ->Option β} (h:Ok (f k) P):Ok (Sx.jn k f) P:=by rw[XN];exact h
def Wo {b:Bool} {x y:Option β} (h1:b=true->Ok x P) (h2:b=false->Ok y P):Ok (bif b then x else y) P:=by
 cases b
 ·exact h2 rfl
 ·exact h1 rfl
def Ok.get {l:List α} {i:Int} {f:α->Option β} (h0:0<=i) (h1:i<l.length) (k:∀ p,Xb l i=.some p->Ok (f p) P):Ok (Sx.bnd (Xb l i) f) P:=by
 rw[Yg h0 h1,Xa];exact k _ (Yg h0 h1)
def Ok.mono {o:Option β} {Q:β->Prop} (h:Ok o Q) (k:∀ x,Q x->P x):Ok o P:=by
 obtain ⟨y,rfl,hq⟩:=h;exact ⟨y,rfl,k y hq⟩
def Ok.get_eq {o:Option β} {x:β} (h:Ok o P) (e:o=.some x):P x:=by
 obtain ⟨y,h1,h2⟩:=h;rw[e] at h1;exact Ug h1▸h2
def Ok.isSome {o:Option β} (h:Ok o P):o≠none:=by obtain ⟨y,rfl,_⟩:=h;simp
def IW {α':Type} {o:Option (Ex α' α)} {f:α'->Option β} {k:α->Option β} {Q:Ex α' α->Prop} (h:Ok o Q) (h1:∀ a,Q (.ret a)->Ok (f a) P) (h2:∀ b,Q (.nxt b)->Ok (k b) P):Ok (Sx.bnd o λ e=>exK e f k) P:=by
 obtain ⟨y,rfl,hq⟩:=h
 rw[Xa]
 cases y with
 | ret a=>rw[Xl];exact h1 a hq
 | nxt b=>rw[Xk];exact h2 b hq
end
def Xd {n:Int} (h1 : -9223372036854775808<=n) (h2:n<=9223372036854775807):wI n=n:=by
 have e:wI n=if n % 18446744073709551616>=9223372036854775808 then n % 18446744073709551616-18446744073709551616 else n % 18446744073709551616:=by
  have e1:IntKind.bits .i64=64:=rfl
  have e2:IntKind.signed .i64=true:=rfl
  simp[wI,IntKind.wrap,e1,e2]
 rw[e]
 split<;>omega
def Xdb (n:Int):wU n=n % 18446744073709551616:=by
 have e1:IntKind.bits .u64=64:=rfl
 have e2:IntKind.signed .u64=false:=rfl
 simp[wU,IntKind.wrap,e1,e2]
def XC {n:Int} (h1:0<=n) (h2:n<=18446744073709551615):wU n=n:=by rw[Xdb];omega
def Xb4 (n:Int):0<=wU n/\wU n<=18446744073709551615:=by rw[Xdb];omega
def XkN (n:Int):wW n=n % 4294967296:=by
 have e1:IntKind.bits .u32=32:=rfl
 have e2:IntKind.signed .u32=false:=rfl
 simp[wW,IntKind.wrap,e1,e2]
def XoZ {n:Int} (h1:0<=n) (h2:n<=4294967295):wW n=n:=by rw[XkN];omega
def XkO {n:Int} (h0:0<=n) (h1:n<=63):K4 .u64 1 n=2 ^ n.toNat:=by
 have e1:IntKind.bits .u64=64:=rfl
 have h:min n.toNat 64=n.toNat:=by omega
 have hp:(2:Int) ^ n.toNat<=2 ^ 63:=by
  have:2 ^ n.toNat<=2 ^ 63:=Nat.pow_le_pow_right (by omega) (by omega)
  exact_mod_cast this
 have hq:(0:Int)<=2 ^ n.toNat:=Int.pow_nonneg (by decide)
 show IntKind.wrap .u64 (1*2 ^ min n.toNat (IntKind.bits .u64))=_
 rw[e1,h,Oj]
 exact XC hq (by omega)
def Zp (a:Int) (k:Nat) (hk:k<=64) (h0:0<=a):Yf .u64 a k=a / 2 ^ k:=by
 have e1:IntKind.bits .u64=64:=rfl
 show a.fdiv (2 ^ min (k:Int).toNat (IntKind.bits .u64))=_
 rw[e1,U5,Oh hk]
 exact Int.fdiv_eq_ediv_of_nonneg _ (Int.pow_nonneg (by decide))
def Zf (a:Int) (k:Nat) (hk:k<=63) (h0:0<=a) (h1:a<=18446744073709551615):YF .u64 a (2 ^ k-1)=a % 2 ^ k:=by
 obtain ⟨n,rfl⟩:=Il h0
 have hb:IntKind.u64.bits=64:=rfl
 show IntKind.u64.wrap ((BitVec.ofInt IntKind.u64.bits n &&& BitVec.ofInt IntKind.u64.bits (2 ^ k-1)).toNat:Int)=_
 rw[hb]
 have hk2:(2:Int) ^ k-1=((2 ^ k-1:Nat):Int):=by
  have h1:=Nat.one_le_two_pow (n:=k)
  have h2:(2:Int) ^ k=((2 ^ k:Nat):Int):=by simp
  rw[h2];omega
 have e1:BitVec.ofInt 64 (n:Int)=BitVec.ofNat 64 n:=by simp
 have e2:BitVec.ofInt 64 ((2 ^ k-1:Nat):Int)=BitVec.ofNat 64 (2 ^ k-1):=by simp
 rw[hk2,e1,e2,BitVec.toNat_and,BitVec.toNat_ofNat,BitVec.toNat_ofNat]
 have hn:n % 2 ^ 64=n:=Nat.mod_eq_of_lt (by omega)
 have hp:2 ^ k<=2 ^ 63:=Nat.pow_le_pow_right (by omega) hk
 have hm:(2 ^ k-1) % 2 ^ 64=2 ^ k-1:=Nat.mod_eq_of_lt (by omega)
 rw[hn,hm,Nat.and_two_pow_sub_one_eq_mod]
 have hlt:n % 2 ^ k<2 ^ k:=On _ (Nat.two_pow_pos k)
 show wU _=_
 rw[XC (by omega) (by omega)]
 simp
def PT {α:Type} (o:Option α) (P:α->Prop):Prop:=∀ r,o=some r->P r
def tU (n:Int):Prop:=0<=n/\n<=18446744073709551615
def tW (n:Int):Prop:=0<=n/\n<=4294967295
def tL {α:Type} (T:α->Prop) (l:List α):Prop:=∀ x∈l,T x
def tE {α β:Type} (A:α->Prop) (B:β->Prop):Ex α β->Prop
 | .ret a=>A a
 | .nxt b=>B b
section
variable {α β γ:Type} {P:β->Prop} {T:α->Prop}
def Wg {x:β} (h:P x):PT (some x) P:=λ r e=>Ug e▸h
def II:PT none P:=λ r e=>by cases e
def Wu {o:Option α} {f:α->Option β} {Q:α->Prop} (h:PT o Q) (k:∀ y,Q y->PT (f y) P):PT (Sx.bnd o f) P:=by
 cases o with
 | none=>rw[Xb3];exact II
 | some y=>rw[Xa];exact k y (h y rfl)
def Wz {o:Option α} {f:α->Option β} (k:∀ y,PT (f y) P):PT (Sx.bnd o f) P:=by
 cases o with
 | none=>rw[Xb3];exact II
 | some y=>rw[Xa];exact k y
def WJ {p:Prop} [Decidable p] {x:Option β} (k:PT x P):PT (Sx.grd p x) P:=by
 unfold Sx.grd
 split
 ·exact k
 ·exact II
def U3 {κ:Type} {k:κ} {f:κ->Option β} {Q:κ->Prop} (h:Q k) (g:∀ j,Q j->PT (f j) P):PT (Sx.jn k f) P:=by rw[XN];exact g k h
def Wl {b:Bool} {x y:Option β} (h1:PT x P) (h2:PT y P):PT (bif b then x else y) P:=by cases b;exact h2;exact h1
def PT.get {l:List α} {i:Int} {f:α->Option β} (h:tL T l) (k:∀ p,T p->PT (f p) P):PT (Sx.bnd (Xb l i) f) P :=
 Wu (Q:=T) (λ r e=>h r (Yo e)) k
def Ow {α':Type} {o:Option (Ex α' α)} {f:α'->Option β} {k:α->Option β} {A:α'->Prop} (h:PT o (tE A T)) (h1:∀ a,A a->PT (f a) P) (h2:∀ b,T b->PT (k b) P):PT (Sx.bnd o λ e=>exK e f k) P:=by
 refine Wu h λ y hy=>?_
 cases y with
 | ret a=>rw[Xl];exact h1 a hy
 | nxt b=>rw[Xk];exact h2 b hy
def OR {o:Option β} {r:β} (h:PT o P) (e:o=.some r):P r:=h r e
end
@[simp] def XsP {α β:Type} (A:α->Prop) (B:β->Prop) (a:α):tE A B (.ret a)=A a:=rfl
@[simp] def XsQ {α β:Type} (A:α->Prop) (B:β->Prop) (b:β):tE A B (.nxt b)=B b:=rfl
@[simp] def XsR (n:Nat):tU (no_index (OfNat.ofNat n):Int)=((OfNat.ofNat n:Nat)<=18446744073709551615):=by
 have:(no_index (OfNat.ofNat n):Int)=((n:Nat):Int):=rfl
 unfold tU
 rw[this]
 simp only[eq_iff_iff]
 show (0:Int)<=n/\(n:Int)<=18446744073709551615↔n<=18446744073709551615
 omega
@[simp] def XsS (n:Nat):tW (no_index (OfNat.ofNat n):Int)=((OfNat.ofNat n:Nat)<=4294967295):=by
 have:(no_index (OfNat.ofNat n):Int)=((n:Nat):Int):=rfl
 unfold tW
 rw[this]
 simp only[eq_iff_iff]
 show (0:Int)<=n/\(n:Int)<=4294967295↔n<=4294967295
 omega
@[simp] def Xth (n:Int):tU (wU n):=Xb4 n
@[simp] def Xq2 (n:Int):tW (wW n):=by unfold tW;rw[XkN];omega
def Xaa (n:Int):tU (IntKind.wrap .u64 n):=Xb4 n
def XkP (n:Int):tW (IntKind.wrap .u32 n):=Xq2 n
@[simp] def Xsy (a b:Int):tU (YF .u64 a b):=Xaa _
@[simp] def XsT (a b:Int):tU (bOr .u64 a b):=Xaa _
@[simp] def Xsz (a b:Int):tU (XmC .u64 a b):=Xaa _
@[simp] def XsA (a b:Int):tU (K4 .u64 a b):=Xaa _
@[simp] def XsB (a b:Int):tW (YF .u32 a b):=XkP _
def Xo0 {a b:Int} (h:0<=a) (k:IntKind):0<=Yf k a b/\Yf k a b<=a:=by
 show 0<=a.fdiv _/\a.fdiv _<=a
 have hp:(0:Int)<2 ^ min b.toNat (IntKind.bits k):=Int.pow_pos (by decide)
 rw[Int.fdiv_eq_ediv_of_nonneg _ (by omega)]
 exact ⟨Int.ediv_nonneg h (by omega),Int.ediv_le_self _ h⟩
@[simp] def XsC {a b:Int} (h:tU a):tU (Yf .u64 a b):=by
 have:=Xo0 (b:=b) h.1 .u64
 unfold tU at *;omega
@[simp] def XsD {a b:Int} (h:tW a):tW (Yf .u32 a b):=by
 have:=Xo0 (b:=b) h.1 .u32
 unfold tW at *;omega
@[simp] def XsE {a b:Int} (h:tU a):tU (a.tmod b):=by
 unfold tU at *
 rw[IG h.1]
 by_cases hb:b=0
 ·subst hb;rw[Int.emod_zero];exact h
 ·have h1:=Int.emod_nonneg a hb
  have h2:a % b<=a:=by
   obtain ⟨n,rfl⟩:=Il h.1
   rcases Int.natAbs_eq b with e | e
   ·rw[e,← Int.natCast_emod]
    have:=Nat.mod_le n b.natAbs
    omega
   ·rw[e,Int.emod_neg,← Int.natCast_emod]
    have:=Nat.mod_le n b.natAbs
    omega
  omega
section
variable {α:Type} {T:α->Prop}
@[simp] def XsU:tL T ([]:List α):=λ x h=>by cases h
@[simp] def XsF {x:α} {l:List α}:tL T (x::l)↔T x/\tL T l:=by unfold tL;simp
@[simp] def XqB {a b:List α}:tL T (a++b)↔tL T a/\tL T b:=by
 unfold tL;simp only[WK];exact ⟨λ h=>⟨λ x hx=>h x (.inl hx),λ x hx=>h x (.inr hx)⟩,λ h x hx=>hx.elim (h.1 x) (h.2 x)⟩
@[simp] def Xb5 {l:List α} {i:Nat} {x:α} (h:tL T l) (hx:T x):tL T (l.set i x):=λ y hy=>by
 rcases UK hy with h1 | h1
 ·exact h y h1
 ·rw[h1];exact hx
@[simp] def XsG {l:List α} {i:Nat} (h:tL T l):tL T (l.take i):=λ y hy=>h y (W9 hy)
@[simp] def XsH {l:List α} {i:Nat} (h:tL T l):tL T (l.drop i):=λ y hy=>h y (Uf hy)
@[simp] def XsV {n:Nat} {x:α} (h:T x):tL T (List.replicate n x):=λ y hy=>by rw[List.eq_of_mem_replicate hy];exact h
end
@[simp] def XsW {p:Prop} [Decidable p] {a b:Int} (ha:tU a) (hb:tU b):tU (if p then a else b):=by split;exact ha;exact hb
set_option maxHeartbeats 1000000
def XJ (s:Wv):Prop:=(tL tU) s.Words
def Yd (s:U1):Prop:=tU s.Ref
def XG (s:WD):Prop:=(tL Yd) s.Slots
def Xy (s:Uj):Prop:=tU s.Ref
def XY (s:WT):Prop:=(tL Xy) s.Entries
def YI (s:U4):Prop:=tU s.Ref
def X4 (s:Ud):Prop:=XJ s.Heap/\XG s.Locals/\XY s.Globals/\XY s.Weaks/\(tL YI) s.Pins/\(tL tU) s.Roots
def YJ (s:WI):Prop:=tW s.Map
def Yv (s:UL):Prop:=YJ s.Header/\(tL tU) s.Fields
def Y8 (s:U7):Prop:=tU s.Id/\tU s.Base
def Xz (s:Wy):Prop:=(tL Yv) s.Things/\XG s.Locals/\XY s.Globals/\XY s.Weaks/\(tL Y8) s.Marks/\(tL tU) s.Roots
def VO (s:ID):Prop:=X4 s.Env/\Xz s.World/\(tL tU) s.Words
def XnF (s:WE):Prop:=tU s.Addr/\tU s.Id
def Xb6 (s:Oo):Prop:=tU s.A/\tU s.B/\tU s.C
def Xb7 (s:IA):Prop:=XJ s.Heap/\(tL tU) s.Strong/\(tL tU) s.Weak
def XgF (s:Oq):Prop:=tU s.Base
def XkQ (s:Og):Prop:=XG s.Locals
def XT (s:Uk):Prop:=XJ s.Heap/\(tL tU) s.Old/\(tL tU) s.Queue
def XiX (s:Us):Prop:=tU s.Addr
def XnG (s:U0):Prop:=tU s.addr/\YJ s.hd
@[simp] def XnH {l:List U1} {i:Nat} {x:U1} (h:tL Yd l) (hx:tU x.Ref):tL Yd (l.set i x):=Xb5 h hx
@[simp] def XmA {l:List Uj} {i:Nat} {x:Uj} (h:tL Xy l) (hx:tU x.Ref):tL Xy (l.set i x):=Xb5 h hx
@[simp] def Xo1 {l:List U4} {i:Nat} {x:U4} (h:tL YI l) (hx:tU x.Ref):tL YI (l.set i x):=Xb5 h hx
@[simp] def XnI {l:List U7} {i:Nat} {x:U7} (h:tL Y8 l) (hx:tU x.Id/\tU x.Base):tL Y8 (l.set i x):=Xb5 h hx
@[simp] def XmB {l:List UL} {i:Nat} {x:UL} (h:tL Yv l) (hx:tW x.Header.Map/\(tL tU) x.Fields):tL Yv (l.set i x):=Xb5 h hx
attribute [local simp] XJ Yd XG Xy XY YI X4 YJ Yv Y8 Xz VO XnF Xb6 Xb7 XgF XkQ XT XiX XnG
def QnA {N a0}:PT (Qgf N a0) (λ r=>XJ r.1):=by
 rw[Qgf]
 refine (Wz λ y1=>(Wl (Wg ?_) (WJ (WJ (Wg ?_)))))
 all_goals simp_all (maxDischargeDepth:=9)
def QnB {N a0}:PT (QeU N a0) (λ r=>X4 r.1):=by
 rw[QeU]
 refine (Wu (QnA) λ y1 h1=>(Wg ?_))
 all_goals simp_all (maxDischargeDepth:=9)
def QnC {N a0}:PT (Qgg N a0) (λ r=>Xz r.1):=by
 rw[Qgg]
 refine (Wz λ y1=>(Wl (Wg ?_) (Wg ?_)))
 all_goals simp_all (maxDischargeDepth:=9)
def QiS {N a0}:PT (QbF N a0) (λ r=>VO r.1):=by
 rw[QbF]
 refine (Wz λ y1=>(Wu (QnB) λ y2 h1=>(Wu (QnC) λ y3 h2=>(Wz λ y4=>(Wg ?_)))))
 all_goals simp_all (maxDischargeDepth:=9)
def QeS {N a0 a1} (ka0:(tL tU) a0) (ka1:tU a1):PT (Qbm N a0 a1) (λ r=>tU r.1):=by
 rw[Qbm]
 refine (Wz λ y1=>(Wl (Wg ?_) (PT.get (T:=tU) ?_ λ p2 h1=>(Wg ?_))))
 all_goals simp_all (maxDischargeDepth:=9) []
def Qhe {N a0} (ka0:YJ a0):PT (Qc1 N a0) (λ r=>tU r.1):=by
 rw[Qc1]
 refine (Wz λ y1=>(Wl (Wg ?_) (Wg ?_)))
 all_goals simp_all (maxDischargeDepth:=9)
def Qhf {N a0} (ka0:tU a0):PT (Qb2 N a0) (λ r=>YJ r.1):=by
 rw[Qb2]
 refine (Wu (Qhe ?_) λ y1 h1=>(Wl (Wg ?_) (Wl (Wg ?_) (Wg ?_))))
 all_goals simp_all (maxDischargeDepth:=9)
def Qib {N a0 a1} (ka0:XJ a0) (ka1:tU a1):PT (Qav N a0 a1) (λ r=>YJ r.1):=by
 rw[Qav]
 refine (Wz λ y1=>(Wl (Wg ?_) (Wz λ y2=>(Wl (Wg ?_) (Wz λ p3=>(Wu (QeS ?_ ?_) λ y4 h1=>(Wu (Qhf ?_) λ y5 h2=>(U3 (Q:=λ k=>∀ _,PT (k ()) _) (λ _=>(Wz λ y6=>(Wl (Wl (Wg ?_) (Wl (Wl (Wg ?_) (Wl (Wg ?_) (Wg ?_))) (Wg ?_))) (Wl (Wl (Wg ?_) (Wl (Wg ?_) (Wg ?_))) (Wg ?_))))) λ j1 hj1=>(Wl (Wl (Wg ?_) (Wl (Wg ?_) (Wl (Wg ?_) (hj1 ())))) (Wl (Wg ?_) (Wl (Wg ?_) (hj1 ()))))))))))))
 all_goals simp_all (maxDischargeDepth:=9)
def QjA {N a0 a1 a2}:PT (Qca N a0 a1 a2) (λ r=>tU r.1):=by
 rw[Qca]
 refine (Wz λ y1=>(Wl (Wg ?_) (Wl (Wg ?_) (Wl (Wg ?_) (Wl (Wg ?_) (Wl (Wg ?_) (Wg ?_)))))))
 all_goals simp_all (maxDischargeDepth:=9) []
def QhK {N a0 a1 p2} (ka0:XJ a0):∀ n v3 v4,(tL tU) v4->PT (Qbe N a0 a1 p2 n v3 v4) (tE (λ r=>(tL tU) r.1) (tL tU))
 | 0,_,_,_=>by rw[Qbe];exact II
 | n+1,v3,v4,kv4=>by
  have ih:=QhK (N:=N) (a0:=a0) (a1:=a1) (p2:=p2) ka0 n
  rw[Qbe]
  refine (Wl (Wu (QjA) λ y5 h1=>(Wu (Qib ?_ ?_) λ y6 h2=>(Wl (Wg ?_) (WJ (Wl (Wg ?_) (Wz λ y7=>(ih _ _ ?_))))))) (Wg ?_))
  all_goals (clear ih;simp_all (maxDischargeDepth:=9))
def QjB {N a0 a1 p2 n v3 v4} (ka0:XJ a0) (kv4:(tL tU) v4):PT (Qbe N a0 a1 p2 n v3 v4) (tE (λ r=>(tL tU) r.1) (tL tU)):=QhK ka0 n _ _ kv4
def Qmt {N a0 a1} (ka0:XJ a0):PT (Qay N a0 a1) (λ r=>(tL tU) r.1):=by
 rw[Qay]
 refine (Wz λ y1=>(Wl (Wg ?_) (Wl (Wg ?_) (Wl (Wg ?_) (Wz λ p2=>(Wl (Wg ?_) (Wl (Wg ?_) (Ow (QjB ?_ ?_) (λ r h1=>(Wg ?_)) λ y8 h2=>(Wg ?_)))))))))
 all_goals simp_all (maxDischargeDepth:=9)
def QhL {N a0 a1} (ka0:XJ a0) (ka1:tU a1):PT (Qbn N a0 a1) (λ r=>YJ r.1):=by
 rw[Qbn]
 refine (Wz λ y1=>(Wl (Wg ?_) (Wl (Wg ?_) (Wu (Qib ?_ ?_) λ y2 h1=>(Wl (Wl (Wg ?_) (Wg ?_)) (Wg ?_))))))
 all_goals simp_all (maxDischargeDepth:=9)
def Qmu {N a0 a1 a2} (ka0:(tL tU) a0) (ka1:tU a1):PT (Qc2 N a0 a1 a2) (λ r=>(tL tU) r.1):=by
 rw[Qc2]
 refine (Wl (Wg ?_) (Wz λ y1=>(Wl (Wg ?_) (WJ (WJ (Wg ?_))))))
 all_goals simp_all (maxDischargeDepth:=9) []
def Qhv {N a0} (ka0:XJ a0):∀ n v2 v3,(tL tU) v3->PT (Qa2 N a0 n v2 v3) (tE (λ r=>(tL tU) r.1) (tL tU))
 | 0,_,_,_=>by rw[Qa2];exact II
 | n+1,v2,v3,kv3=>by
  have ih:=Qhv (N:=N) (a0:=a0) ka0 n
  rw[Qa2]
  refine (Wl (Wu (Qmt ?_) λ y4 h1=>(Wl (Wg ?_) (WJ (ih _ _ ?_)))) (Wg ?_))
  all_goals (clear ih;simp_all (maxDischargeDepth:=9))
def QiT {N a0 n v2 v3} (ka0:XJ a0) (kv3:(tL tU) v3):PT (Qa2 N a0 n v2 v3) (tE (λ r=>(tL tU) r.1) (tL tU)):=Qhv ka0 n _ _ kv3
def QkE {N a0} (ka0:XJ a0):PT (Qc3 N a0) (λ r=>(tL tU) r.1):=by
 rw[Qc3]
 refine (Wz λ y1=>(Wl (Wg ?_) (Ow (QiT ?_ ?_) (λ r h1=>(Wg ?_)) λ y5 h2=>(Wg ?_))))
 all_goals simp_all (maxDischargeDepth:=9)
def Qhh {N a0 y1} (ka0:XJ a0) (ky1:(λ r=>(tL tU) r.1) y1):∀ n v2 v3,(tL tU) v3->PT (QaC N a0 y1 n v2 v3) (tL tU)
 | 0,_,_,_=>by rw[QaC];exact II
 | n+1,v2,v3,kv3=>by
  have ih:=Qhh (N:=N) (a0:=a0) (y1:=y1) ka0 ky1 n
  rw[QaC]
  refine (Wl (PT.get (T:=tU) ?_ λ p4 h1=>(Wu (Qib ?_ ?_) λ y5 h2=>(Wl (PT.get (T:=tU) ?_ λ p6 h3=>(WJ (ih _ _ ?_))) (ih _ _ ?_)))) (Wg ?_))
  all_goals (clear ih;simp_all (maxDischargeDepth:=9))
def Qiu {N a0 y1 n v2 v3} (ka0:XJ a0) (ky1:(λ r=>(tL tU) r.1) y1) (kv3:(tL tU) v3):PT (QaC N a0 y1 n v2 v3) (tL tU):=Qhh ka0 ky1 n _ _ kv3
def QjC {N a0} (ka0:XJ a0):PT (Qaq N a0) (λ r=>(tL tU) r.1):=by
 rw[Qaq]
 refine (Wu (QkE ?_) λ y1 h1=>(Wu (Qiu ?_ ?_ ?_) λ y7 h2=>(Wg ?_)))
 all_goals simp_all (maxDischargeDepth:=9)
def QhM {N a0} (ka0:XY a0):∀ n v1 v2,(tL tU) v2->PT (Qbw N a0 n v1 v2) (tL tU)
 | 0,_,_,_=>by rw[Qbw];exact II
 | n+1,v1,v2,kv2=>by
  have ih:=QhM (N:=N) (a0:=a0) ka0 n
  rw[Qbw]
  refine (Wl (Wz λ y3=>(Wl (PT.get (T:=Xy) ?_ λ p4 h1=>(Wl (PT.get (T:=Xy) ?_ λ p5 h2=>(WJ (ih _ _ ?_))) (ih _ _ ?_))) (Wg ?_))) (Wg ?_))
  all_goals (clear ih;simp_all (maxDischargeDepth:=9))
def QjD {N a0 n v1 v2} (ka0:XY a0) (kv2:(tL tU) v2):PT (Qbw N a0 n v1 v2) (tL tU):=QhM ka0 n _ _ kv2
def QfW {N a0} (ka0:XY a0):PT (QaM N a0) (tL tU):=by
 rw[QaM]
 refine (Wu (QjD ?_ ?_) λ y6 h1=>(Wg ?_))
 all_goals simp_all (maxDischargeDepth:=9)
def QhN {N a0} (ka0:XG a0):∀ n v1 v2,(tL tU) v2->PT (Qbx N a0 n v1 v2) (tL tU)
 | 0,_,_,_=>by rw[Qbx];exact II
 | n+1,v1,v2,kv2=>by
  have ih:=QhN (N:=N) (a0:=a0) ka0 n
  rw[Qbx]
  refine (Wl (Wz λ y3=>(Wl (PT.get (T:=Yd) ?_ λ p4 h1=>(Wl (PT.get (T:=Yd) ?_ λ p5 h2=>(WJ (ih _ _ ?_))) (ih _ _ ?_))) (Wg ?_))) (Wg ?_))
  all_goals (clear ih;simp_all (maxDischargeDepth:=9))
def QjE {N a0 n v1 v2} (ka0:XG a0) (kv2:(tL tU) v2):PT (Qbx N a0 n v1 v2) (tL tU):=QhN ka0 n _ _ kv2
def Qhx {N a0} (ka0:XG a0):PT (Qb0 N a0) (tL tU):=by
 rw[Qb0]
 refine (Wu (QjE ?_ ?_) λ y6 h1=>(Wg ?_))
 all_goals simp_all (maxDischargeDepth:=9)
def QlJ {N a0} (ka0:XJ a0):PT (QdI N a0) (λ r=>XT r.1):=by
 rw[QdI]
 refine (Wz λ y1=>(Wl (Wg ?_) (Wz λ y2=>(Wl (Wg ?_) (Wu (QjC ?_) λ y3 h1=>(WJ (Wz λ y8=>(Wg ?_))))))))
 all_goals simp_all (maxDischargeDepth:=9)
def Qh7 {N a0} (ka0:tU a0):PT (QdS N a0) (λ r=>tU r.1):=by
 rw[QdS]
 refine (Wl (Wg ?_) (Wl (Wg ?_) (Wg ?_)))
 all_goals simp_all (maxDischargeDepth:=9) []
def QhB {N a2 y1} (ka2:(tL tU) a2):∀ n v2 v3,(tL tU) v3->PT (QbR N a2 y1 n v2 v3) (tL tU)
 | 0,_,_,_=>by rw[QbR];exact II
 | n+1,v2,v3,kv3=>by
  have ih:=QhB (N:=N) (a2:=a2) (y1:=y1) ka2 n
  rw[QbR]
  refine (Wl (PT.get (T:=tU) ?_ λ p4 h1=>(PT.get (T:=tU) ?_ λ p5 h2=>(ih _ _ ?_))) (Wg ?_))
  all_goals (clear ih;simp_all (maxDischargeDepth:=9) [])
def Qjf {N a2 y1 n v2 v3} (ka2:(tL tU) a2) (kv3:(tL tU) v3):PT (QbR N a2 y1 n v2 v3) (tL tU):=QhB ka2 n _ _ kv3
def QgG {N a0 a1 a2} (ka0:(tL tU) a0) (ka1:tU a1) (ka2:(tL tU) a2):PT (QcV N a0 a1 a2) (λ r=>(tL tU) r.1):=by
 rw[QcV]
 refine (Wz λ y1=>(Wl (Wg ?_) (WJ (Wu (Qjf ?_ ?_) λ y6 h1=>(Wg ?_)))))
 all_goals simp_all (maxDischargeDepth:=9) []
def Qhl {N a0 a1 a2} (ka0:(tL tU) a0) (ka1:tU a1) (ka2:tU a2):PT (QdJ N a0 a1 a2) (λ r=>(tL tU) r.1):=by
 rw[QdJ]
 refine (Wu (QgG ?_ ?_ ?_) λ y1 h1=>(Wg ?_))
 all_goals simp_all (maxDischargeDepth:=9) []
def Qis {N a0 a1} (ka0:XT a0) (ka1:tU a1):PT (QeZ N a0 a1) XT:=by
 rw[QeZ]
 refine (WJ (WJ (Wg ?_)))
 all_goals simp_all (maxDischargeDepth:=9)
def QlK {N a0 a1} (ka0:XT a0):PT (Qer N a0 a1) (λ r=>XT r.1/\tU r.2.1):=by
 rw[Qer]
 refine (WJ (U3 (Q:=λ k=>∀ _,PT (k ()) _) (λ _=>(Wz λ y4=>(Wl (Wg ?_) (Wz λ y5=>(WJ (WJ (Wz λ p13=>(Wz λ p14=>(Wz λ p15=>(Wg ?_)))))))))) λ j1 hj1=>(Wl (Wz λ p1=>(Wz λ p2=>(Wl (Wz λ p3=>(Wz λ p10=>(Wz λ p11=>(Wz λ p12=>(Wg ?_))))) (hj1 ())))) (hj1 ()))))
 all_goals simp_all (maxDischargeDepth:=9)
def Qmv {N a0 a1 a2 a3} (ka0:(tL tU) a0) (ka1:tU a1) (ka2:tU a2):PT (QfC N a0 a1 a2 a3) (λ r=>(tL tU) r.1):=by
 rw[QfC]
 refine (Wu (Qmu ?_ ?_) λ y1 h1=>(Wl (Wg ?_) (Wu (QgG ?_ ?_ ?_) λ y2 h2=>(Wg ?_))))
 all_goals simp_all (maxDischargeDepth:=9) []
def QjF {N a0} (ka0:tU a0):PT (Qd2 N a0) (λ r=>tU r.1):=by
 rw[Qd2]
 refine (Wl (Wg ?_) (Wg ?_))
 all_goals simp_all (maxDischargeDepth:=9) []
def QhO {N a0 a1} (ka0:XT a0) (ka1:tU a1):PT (Qdk N a0 a1) (λ r=>XT r.1/\tU r.2.1):=by
 rw[Qdk]
 refine (Wl (Wg ?_) (Wz λ y1=>(Wl (Wg ?_) (Wz λ y2=>(Wl (Wg ?_) (Wu (QeS ?_ ?_) λ y3 h1=>(Wu (Qh7 ?_) λ y4 h2=>(Wl (Wg ?_) (Wz λ y5=>(Wl (Wg ?_) (Wl (Wg ?_) (Wz λ y6=>(Wl (Wu (Qis ?_ ?_) λ y7 h3=>(Wg ?_)) (Wz λ p8=>(Wl (WJ (Wz λ p9=>(Wz λ y14=>(Wu (Qis ?_ ?_) λ y15 h4=>(Wg ?_))))) (Wu (Qhf ?_) λ y16 h5=>(Wz λ y17=>(Wu (QlK ?_) λ y18 h6=>(Wl (Wg ?_) (Wu (Qmv ?_ ?_ ?_) λ y19 h7=>(Wu (QjF ?_) λ y20 h8=>(Wu (Qhl ?_ ?_ ?_) λ y21 h9=>(WJ (WJ (Wg ?_)))))))))))))))))))))))))
 all_goals simp_all (maxDischargeDepth:=9)
def QhC {N a1} (ka1:(tL tU) a1):∀ n v1 v2 v3 v4 v5 v6 v7 v8 v9 v10 v11 v12 v13 v14 v15 v16 v17 v18,(tL tU) v4->(tL tU) v8->(tL tU) v10->(tL tU) v18->PT (QbS N a1 n v1 v2 v3 v4 v5 v6 v7 v8 v9 v10 v11 v12 v13 v14 v15 v16 v17 v18) (tE (λ r=>XT r.1/\(tL tU) r.2.1) (λ r=>(tL tU) r.2.2.1/\(tL tU) r.2.2.2.2.2.2.1/\(tL tU) r.2.2.2.2.2.2.2.2.1/\(tL tU) r.2.2.2.2.2.2.2.2.2.2.2.2.2.2.2.2))
 | 0,_,_,_,_,_,_,_,_,_,_,_,_,_,_,_,_,_,_,_,_,_,_=>by rw[QbS];exact II
 | n+1,v1,v2,v3,v4,v5,v6,v7,v8,v9,v10,v11,v12,v13,v14,v15,v16,v17,v18,kv4,kv8,kv10,kv18=>by
  have ih:=QhC (N:=N) (a1:=a1) ka1 n
  rw[QbS]
  refine (Wl (PT.get (T:=tU) ?_ λ p19 h1=>(Wu (QhO ?_ ?_) λ y20 h2=>(Wl (Wg ?_) (WJ (ih _ _ _ _ _ _ _ _ _ _ _ _ _ _ _ _ _ _ ?_ ?_ ?_ ?_))))) (Wg ?_))
  all_goals (clear ih;simp_all (maxDischargeDepth:=9))
def Qjg {N a1 n v1 v2 v3 v4 v5 v6 v7 v8 v9 v10 v11 v12 v13 v14 v15 v16 v17 v18} (ka1:(tL tU) a1) (kv4:(tL tU) v4) (kv8:(tL tU) v8) (kv10:(tL tU) v10) (kv18:(tL tU) v18):PT (QbS N a1 n v1 v2 v3 v4 v5 v6 v7 v8 v9 v10 v11 v12 v13 v14 v15 v16 v17 v18) (tE (λ r=>XT r.1/\(tL tU) r.2.1) (λ r=>(tL tU) r.2.2.1/\(tL tU) r.2.2.2.2.2.2.1/\(tL tU) r.2.2.2.2.2.2.2.2.1/\(tL tU) r.2.2.2.2.2.2.2.2.2.2.2.2.2.2.2.2)):=QhC ka1 n _ _ _ _ _ _ _ _ _ _ _ _ _ _ _ _ _ _ kv4 kv8 kv10 kv18
def QlL {N a0 a1} (ka0:XT a0) (ka1:(tL tU) a1):PT (Qe8 N a0 a1) (λ r=>XT r.1/\(tL tU) r.2.1):=by
 rw[Qe8]
 refine (Ow (Qjg ?_ ?_ ?_ ?_ ?_) (λ r h1=>(Wg ?_)) λ y21 h2=>(Wg ?_))
 all_goals simp_all (maxDischargeDepth:=9)
def QiU {N a0 a1} (ka0:XT a0) (ka1:tU a1):PT (Qfx N a0 a1) YJ:=by
 rw[Qfx]
 refine (Wu (QeS ?_ ?_) λ y1 h1=>(Wu (Qhf ?_) λ y2 h2=>(Wg ?_)))
 all_goals simp_all (maxDischargeDepth:=9)
def QhP {N p1 y3} (kp1:tU p1):∀ n v4 v5 v6 v7 v8 v9 v10 v11 v12 v13 v14 v15 v16 v17 v18 v19 v20,(tL tU) v7->(tL tU) v11->(tL tU) v13->PT (Qce N p1 y3 n v4 v5 v6 v7 v8 v9 v10 v11 v12 v13 v14 v15 v16 v17 v18 v19 v20) (tE (λ r=>XT r.1) (λ r=>(tL tU) r.2.2.1/\(tL tU) r.2.2.2.2.2.2.1/\(tL tU) r.2.2.2.2.2.2.2.2.1))
 | 0,_,_,_,_,_,_,_,_,_,_,_,_,_,_,_,_,_,_,_,_=>by rw[Qce];exact II
 | n+1,v4,v5,v6,v7,v8,v9,v10,v11,v12,v13,v14,v15,v16,v17,v18,v19,v20,kv7,kv11,kv13=>by
  have ih:=QhP (N:=N) (p1:=p1) (y3:=y3) kp1 n
  rw[Qce]
  refine (Wl (Wz λ p21=>(Wu (QeS ?_ ?_) λ y22 h1=>(Wu (QhO ?_ ?_) λ y23 h2=>(Wl (Wg ?_) (Wu (Qhl ?_ ?_ ?_) λ y24 h3=>(ih _ _ _ _ _ _ _ _ _ _ _ _ _ _ _ _ _ ?_ ?_ ?_)))))) (Wg ?_))
  all_goals (clear ih;simp_all (maxDischargeDepth:=9))
def QjG {N p1 y3 n v4 v5 v6 v7 v8 v9 v10 v11 v12 v13 v14 v15 v16 v17 v18 v19 v20} (kp1:tU p1) (kv7:(tL tU) v7) (kv11:(tL tU) v11) (kv13:(tL tU) v13):PT (Qce N p1 y3 n v4 v5 v6 v7 v8 v9 v10 v11 v12 v13 v14 v15 v16 v17 v18 v19 v20) (tE (λ r=>XT r.1) (λ r=>(tL tU) r.2.2.1/\(tL tU) r.2.2.2.2.2.2.1/\(tL tU) r.2.2.2.2.2.2.2.2.1)):=QhP kp1 n _ _ _ _ _ _ _ _ _ _ _ _ _ _ _ _ _ kv7 kv11 kv13
def Qmw {N a0} (ka0:XT a0):PT (QfD N a0) (λ r=>XT r.1):=by
 rw[QfD]
 refine (Wl (Wg ?_) (PT.get (T:=tU) ?_ λ p1 h1=>(Wu (QiU ?_ ?_) λ y2 h2=>(Wz λ y3=>(Ow (QjG ?_ ?_ ?_ ?_) (λ r h3=>(Wg ?_)) λ y25 h4=>(Wg ?_))))))
 all_goals simp_all (maxDischargeDepth:=9)
def Qh8 {N}:∀ n v1 v2 v3 v4 v5 v6 v7 v8 v9 v10 v11 v12 v13 v14 v15 v16,(tL tU) v3->(tL tU) v7->(tL tU) v9->PT (Qcw N n v1 v2 v3 v4 v5 v6 v7 v8 v9 v10 v11 v12 v13 v14 v15 v16) (λ r=>XT r.1)
 | 0,_,_,_,_,_,_,_,_,_,_,_,_,_,_,_,_,_,_,_=>by rw[Qcw];exact II
 | n+1,v1,v2,v3,v4,v5,v6,v7,v8,v9,v10,v11,v12,v13,v14,v15,v16,kv3,kv7,kv9=>by
  have ih:=Qh8 (N:=N) n
  rw[Qcw]
  refine (Wu (Qmw ?_) λ y17 h1=>(Wl (Wg ?_) (Wl (Wg ?_) (ih _ _ _ _ _ _ _ _ _ _ _ _ _ _ _ _ ?_ ?_ ?_))))
  all_goals (clear ih;simp_all (maxDischargeDepth:=9))
def QkF {N n v1 v2 v3 v4 v5 v6 v7 v8 v9 v10 v11 v12 v13 v14 v15 v16} (kv3:(tL tU) v3) (kv7:(tL tU) v7) (kv9:(tL tU) v9):PT (Qcw N n v1 v2 v3 v4 v5 v6 v7 v8 v9 v10 v11 v12 v13 v14 v15 v16) (λ r=>XT r.1):=Qh8 n _ _ _ _ _ _ _ _ _ _ _ _ _ _ _ _ kv3 kv7 kv9
def QnD {N a0} (ka0:XT a0):PT (Qgh N a0) (λ r=>XT r.1):=by
 rw[Qgh]
 refine (Wu (QkF ?_ ?_ ?_) λ r h1=>(Wg ?_))
 all_goals simp_all (maxDischargeDepth:=9)
def QlM {N a0 a1} (ka0:XT a0) (ka1:tU a1):PT (Qe9 N a0 a1) tU:=by
 rw[Qe9]
 refine (Wz λ y1=>(Wl (Wg ?_) (Wu (QeS ?_ ?_) λ y2 h1=>(Wu (Qh7 ?_) λ y3 h2=>(Wg ?_)))))
 all_goals simp_all (maxDischargeDepth:=9)
def QhQ {N a0 v4 p5 v1 v2} (ka0:XT a0):∀ n v7 v8,(tL tU) v8->PT (Qcf N a0 v4 p5 v1 v2 n v7 v8) (tL tU)
 | 0,_,_,_=>by rw[Qcf];exact II
 | n+1,v7,v8,kv8=>by
  have ih:=QhQ (N:=N) (a0:=a0) (v4:=v4) (p5:=p5) (v1:=v1) (v2:=v2) ka0 n
  rw[Qcf]
  refine (Wl (PT.get (T:=tU) ?_ λ p9 h1=>(ih _ _ ?_)) (Wg ?_))
  all_goals (clear ih;simp_all (maxDischargeDepth:=9))
def QjH {N a0 v4 p5 v1 v2 n v7 v8} (ka0:XT a0) (kv8:(tL tU) v8):PT (Qcf N a0 v4 p5 v1 v2 n v7 v8) (tL tU):=QhQ ka0 n _ _ kv8
def QhR {N a0} (ka0:XT a0):∀ n v1 v2 v3 v4,(tL tU) v3->PT (Qby N a0 n v1 v2 v3 v4) (λ r=>(tL tU) r.2.1)
 | 0,_,_,_,_,_=>by rw[Qby];exact II
 | n+1,v1,v2,v3,v4,kv3=>by
  have ih:=QhR (N:=N) (a0:=a0) ka0 n
  rw[Qby]
  refine (WJ (Wl (Wz λ p5=>(Wl (ih _ _ _ _ ?_) (Wl (ih _ _ _ _ ?_) (Wz λ p6=>(Wu (QjH ?_ ?_) λ y10 h1=>(ih _ _ _ _ ?_)))))) (Wg ?_)))
  all_goals (clear ih;simp_all (maxDischargeDepth:=9))
def QjI {N a0 n v1 v2 v3 v4} (ka0:XT a0) (kv3:(tL tU) v3):PT (Qby N a0 n v1 v2 v3 v4) (λ r=>(tL tU) r.2.1):=QhR ka0 n _ _ _ _ kv3
def Qmx {N a0} (ka0:XT a0):PT (Qei N a0) XT:=by
 rw[Qei]
 refine (WJ (WJ (Wu (QjI ?_ ?_) λ y11 h1=>(Wg ?_))))
 all_goals simp_all (maxDischargeDepth:=9)
def QhS {N a0} (ka0:XT a0):∀ n v1 v2 v3,(tL tU) v2->PT (Qbh N a0 n v1 v2 v3) (λ r=>(tL tU) r.1)
 | 0,_,_,_,_=>by rw[Qbh];exact II
 | n+1,v1,v2,v3,kv2=>by
  have ih:=QhS (N:=N) (a0:=a0) ka0 n
  rw[Qbh]
  refine (Wl (PT.get (T:=tU) ?_ λ p4 h1=>(Wz λ y5=>(Wz λ y6=>(Wl (ih _ _ _ ?_) (PT.get (T:=tU) ?_ λ p7 h2=>(Wz λ y8=>(Wl (ih _ _ _ ?_) (PT.get (T:=tU) ?_ λ p9 h3=>(Wu (QiU ?_ ?_) λ y10 h4=>(Wu (Qhe ?_) λ y11 h5=>(PT.get (T:=tU) ?_ λ p12 h6=>(WJ (WJ (Wu (QgG ?_ ?_ ?_) λ y13 h7=>(ih _ _ _ ?_))))))))))))))) (Wg ?_))
  all_goals (clear ih;simp_all (maxDischargeDepth:=9))
def QjJ {N a0 n v1 v2 v3} (ka0:XT a0) (kv2:(tL tU) v2):PT (Qbh N a0 n v1 v2 v3) (λ r=>(tL tU) r.1):=QhS ka0 n _ _ _ kv2
def Qmy {N a0} (ka0:XT a0):PT (QfE N a0) XT:=by
 rw[QfE]
 refine (Wu (QjJ ?_ ?_) λ y14 h1=>(Wg ?_))
 all_goals simp_all (maxDischargeDepth:=9)
def Qhi {N a2 y5 y6} (ka2:(tL tU) a2) (ky5:(λ r=>XT r.1/\(tL tU) r.2.1) y5) (ky6:(λ r=>XT r.1) y6):∀ n v7 v8 v9,(tL tU) v9->PT (Qbo N a2 y5 y6 n v7 v8 v9) (λ r=>(tL tU) r.2)
 | 0,_,_,_,_=>by rw[Qbo];exact II
 | n+1,v7,v8,v9,kv9=>by
  have ih:=Qhi (N:=N) (a2:=a2) (y5:=y5) (y6:=y6) ka2 ky5 ky6 n
  rw[Qbo]
  refine (Wl (PT.get (T:=tU) ?_ λ p10 h1=>(U3 (Q:=λ k=>∀ x14 x15,tU x14->PT (k x14 x15) _) (λ x14 x15 h2=>(WJ (ih _ _ _ ?_))) λ j3 hj3=>(Wl (PT.get (T:=tU) ?_ λ p11 h3=>(Wu (QlM ?_ ?_) λ y12 h4=>(U3 (Q:=λ k=>∀ x13,PT (k x13) _) (λ x13=>(hj3 _ _ ?_)) λ j2 hj2=>(Wl (hj2 _) (hj2 _))))) (hj3 _ _ ?_)))) (Wg ?_))
  all_goals (clear ih;simp_all (maxDischargeDepth:=9))
def Qiv {N a2 y5 y6 n v7 v8 v9} (ka2:(tL tU) a2) (ky5:(λ r=>XT r.1/\(tL tU) r.2.1) y5) (ky6:(λ r=>XT r.1) y6) (kv9:(tL tU) v9):PT (Qbo N a2 y5 y6 n v7 v8 v9) (λ r=>(tL tU) r.2):=Qhi ka2 ky5 ky6 n _ _ _ kv9
def QjK {N a0 a1 a2} (ka0:XJ a0) (ka1:(tL tU) a1) (ka2:(tL tU) a2):PT (QcE N a0 a1 a2) (λ r=>XJ r.1/\(tL tU) r.2.1/\(tL tU) r.2.2.1):=by
 rw[QcE]
 refine (Wz λ y1=>(Wl (Wg ?_) (U3 (Q:=λ k=>∀ _,PT (k ()) _) (λ _=>(Wg ?_)) λ j1 hj1=>(Wz λ y2=>(Wl (hj1 ()) (Wz λ y3=>(Wl (hj1 ()) (Wu (QlJ ?_) λ y4 h1=>(Wu (QlL ?_ ?_) λ y5 h2=>(Wl (Wg ?_) (Wu (QnD ?_) λ y6 h3=>(Wl (Wg ?_) (Wu (Qiv ?_ ?_ ?_ ?_) λ y16 h4=>(Wu (Qmy ?_) λ y17 h5=>(Wu (Qmx ?_) λ y18 h6=>(U3 (Q:=λ k=>∀ x20,PT (k x20) _) (λ x20=>(Wg ?_)) λ j4 hj4=>(Wl (Wz λ p19=>(hj4 _)) (hj4 _))))))))))))))))))
 all_goals simp_all (maxDischargeDepth:=9)
def Qhw {N a0} (ka0:X4 a0):∀ n v3 v4,(tL tU) v4->PT (Qa3 N a0 n v3 v4) (tL tU)
 | 0,_,_,_=>by rw[Qa3];exact II
 | n+1,v3,v4,kv4=>by
  have ih:=Qhw (N:=N) (a0:=a0) ka0 n
  rw[Qa3]
  refine (Wl (PT.get (T:=YI) ?_ λ p5 h1=>(WJ (ih _ _ ?_))) (Wg ?_))
  all_goals (clear ih;simp_all (maxDischargeDepth:=9))
def QiV {N a0 n v3 v4} (ka0:X4 a0) (kv4:(tL tU) v4):PT (Qa3 N a0 n v3 v4) (tL tU):=Qhw ka0 n _ _ kv4
def QkG {N a0} (ka0:X4 a0):PT (QeE N a0) (tL tU):=by
 rw[QeE]
 refine (WJ (Wu (Qhx ?_) λ y1 h1=>(WJ (Wu (QfW ?_) λ y2 h2=>(WJ (Wu (QiV ?_ ?_) λ y6 h3=>(Wg ?_)))))))
 all_goals simp_all (maxDischargeDepth:=9)
def QhT {N a0 a1} (ka0:XG a0) (ka1:(tL tU) a1):∀ n v3 v4 v5,(tL Yd) v5->PT (Qbi N a0 a1 n v3 v4 v5) (tE (λ r=>XG r.1) (tL Yd))
 | 0,_,_,_,_=>by rw[Qbi];exact II
 | n+1,v3,v4,v5,kv5=>by
  have ih:=QhT (N:=N) (a0:=a0) (a1:=a1) ka0 ka1 n
  rw[Qbi]
  refine (WJ (Wl (PT.get (T:=Yd) ?_ λ p6 h1=>(Wl (ih _ _ _ ?_) (PT.get (T:=tU) ?_ λ p7 h2=>(Wl (Wg ?_) (PT.get (T:=tU) ?_ λ p8 h3=>(PT.get (T:=Yd) ?_ λ p9 h4=>(ih _ _ _ ?_))))))) (Wg ?_)))
  all_goals (clear ih;simp_all (maxDischargeDepth:=9))
def QjL {N a0 a1 n v3 v4 v5} (ka0:XG a0) (ka1:(tL tU) a1) (kv5:(tL Yd) v5):PT (Qbi N a0 a1 n v3 v4 v5) (tE (λ r=>XG r.1) (tL Yd)):=QhT ka0 ka1 n _ _ _ kv5
def Qmz {N a0 a1} (ka0:XG a0) (ka1:(tL tU) a1):PT (Qej N a0 a1) (λ r=>XG r.1):=by
 rw[Qej]
 refine (Wz λ y1=>(Wl (Wg ?_) (Wu (Qhx ?_) λ y2 h1=>(Wl (Wg ?_) (WJ (Ow (QjL ?_ ?_ ?_) (λ r h2=>(Wg ?_)) λ y10 h3=>(Wg ?_)))))))
 all_goals simp_all (maxDischargeDepth:=9)
def QhU {N a1} (ka1:(tL tU) a1):∀ n v3 v4 v5,(tL Xy) v5->PT (Qbj N a1 n v3 v4 v5) (tL Xy)
 | 0,_,_,_,_=>by rw[Qbj];exact II
 | n+1,v3,v4,v5,kv5=>by
  have ih:=QhU (N:=N) (a1:=a1) ka1 n
  rw[Qbj]
  refine (WJ (Wl (PT.get (T:=Xy) ?_ λ p6 h1=>(Wl (PT.get (T:=tU) ?_ λ p7 h2=>(PT.get (T:=Xy) ?_ λ p8 h3=>(ih _ _ _ ?_))) (ih _ _ _ ?_))) (Wg ?_)))
  all_goals (clear ih;simp_all (maxDischargeDepth:=9))
def QjM {N a1 n v3 v4 v5} (ka1:(tL tU) a1) (kv5:(tL Xy) v5):PT (Qbj N a1 n v3 v4 v5) (tL Xy):=QhU ka1 n _ _ _ kv5
def Qhy {N a0 a1} (ka0:XY a0) (ka1:(tL tU) a1):PT (QcF N a0 a1) (λ r=>XY r.1):=by
 rw[QcF]
 refine (Wz λ y1=>(Wl (Wg ?_) (Wu (QfW ?_) λ y2 h1=>(WJ (Wl (Wg ?_) (WJ (Wu (QjM ?_ ?_) λ y9 h2=>(Wg ?_))))))))
 all_goals simp_all (maxDischargeDepth:=9)
def Qhj {N a0 y4 y5 y6 y7 y8 y9} (ka0:X4 a0) (ky4:(λ r=>XJ r.1/\(tL tU) r.2.1/\(tL tU) r.2.2.1) y4) (ky5:(tL tU) y5) (ky6:(tL tU) y6) (ky7:(λ r=>XG r.1) y7) (ky8:(λ r=>XY r.1) y8) (ky9:(λ r=>XY r.1) y9):∀ n v10 v11,(tL YI) v11->PT (QaP N a0 y4 y5 y6 y7 y8 y9 n v10 v11) (tL YI)
 | 0,_,_,_=>by rw[QaP];exact II
 | n+1,v10,v11,kv11=>by
  have ih:=Qhj (N:=N) (a0:=a0) (y4:=y4) (y5:=y5) (y6:=y6) (y7:=y7) (y8:=y8) (y9:=y9) ka0 ky4 ky5 ky6 ky7 ky8 ky9 n
  rw[QaP]
  refine (Wl (PT.get (T:=tU) ?_ λ p12 h1=>(PT.get (T:=YI) ?_ λ p13 h2=>(WJ (ih _ _ ?_)))) (Wg ?_))
  all_goals (clear ih;simp_all (maxDischargeDepth:=9))
def Qiw {N a0 y4 y5 y6 y7 y8 y9 n v10 v11} (ka0:X4 a0) (ky4:(λ r=>XJ r.1/\(tL tU) r.2.1/\(tL tU) r.2.2.1) y4) (ky5:(tL tU) y5) (ky6:(tL tU) y6) (ky7:(λ r=>XG r.1) y7) (ky8:(λ r=>XY r.1) y8) (ky9:(λ r=>XY r.1) y9) (kv11:(tL YI) v11):PT (QaP N a0 y4 y5 y6 y7 y8 y9 n v10 v11) (tL YI):=Qhj ka0 ky4 ky5 ky6 ky7 ky8 ky9 n _ _ kv11
def QhV {N a0} (ka0:X4 a0):PT (Qbk N a0) (λ r=>X4 r.1):=by
 rw[Qbk]
 refine (Wz λ y1=>(Wl (Wg ?_) (Wu (QkG ?_) λ y2 h1=>(Wu (QfW ?_) λ y3 h2=>(Wu (QjK ?_ ?_ ?_) λ y4 h3=>(Wl (Wg ?_) (Wu (Qhx ?_) λ y5 h4=>(Wu (QfW ?_) λ y6 h5=>(WJ (WJ (WJ (WJ (Wu (Qmz ?_ ?_) λ y7 h6=>(WJ (Wu (Qhy ?_ ?_) λ y8 h7=>(Wu (Qhy ?_ ?_) λ y9 h8=>(Wu (Qiw ?_ ?_ ?_ ?_ ?_ ?_ ?_ ?_) λ y14 h9=>(Wg ?_))))))))))))))))))
 all_goals simp_all (maxDischargeDepth:=9)
def Qhk {N a0 y2} (ka0:Xz a0):∀ n v4 v5,(tL tU) v5->PT (QaQ N a0 y2 n v4 v5) (tL tU)
 | 0,_,_,_=>by rw[QaQ];exact II
 | n+1,v4,v5,kv5=>by
  have ih:=Qhk (N:=N) (a0:=a0) (y2:=y2) ka0 n
  rw[QaQ]
  refine (WJ (Wl (PT.get (T:=tU) ?_ λ p6 h1=>(Wl (PT.get (T:=tU) ?_ λ p7 h2=>(Wz λ p8=>(Wl (PT.get (T:=tU) ?_ λ p9 h3=>(ih _ _ ?_)) (ih _ _ ?_)))) (ih _ _ ?_))) (Wg ?_)))
  all_goals (clear ih;simp_all (maxDischargeDepth:=9))
def Qix {N a0 y2 n v4 v5} (ka0:Xz a0) (kv5:(tL tU) v5):PT (QaQ N a0 y2 n v4 v5) (tL tU):=Qhk ka0 n _ _ kv5
def QhW {N a0} (ka0:Xz a0):PT (Qdl N a0) (λ r=>Xz r.1):=by
 rw[Qdl]
 refine (Wz λ y1=>(Wl (Wg ?_) (Wz λ y2=>(Wu (QfW ?_) λ y3 h1=>(Wu (Qix ?_ ?_) λ y10 h2=>(Wu (Qhy ?_ ?_) λ y11 h3=>(Wg ?_)))))))
 all_goals simp_all (maxDischargeDepth:=9)
def Qad {N a0}:PT (Qac N a0) (λ r=>X4 r.1/\tU r.2.1):=by
 rw[Qac]
 refine (Wg ?_)
 all_goals simp_all (maxDischargeDepth:=9)
def Qhm {N a0 a1 a2} (ka1:tU a1) (ka2:tU a2):PT (Qcg N a0 a1 a2) (λ r=>YJ r.1):=by
 rw[Qcg]
 refine (Wl (Wl (Wg ?_) (Wg ?_)) (Wg ?_))
 all_goals simp_all (maxDischargeDepth:=9)
def QhX {N a0 a1} (ka0:XG a0) (ka1:tU a1):PT (Qes N a0 a1) (λ r=>XG r.1):=by
 rw[Qes]
 refine (Wz λ y1=>(Wl (Wg ?_) (Wl (Wg ?_) (Wl (Wg ?_) (Wz λ p2=>(Wz λ y3=>(Wz λ p4=>(Wl (Wg ?_) (Wl (Wg ?_) (WJ (WJ (WJ (WJ (Wg ?_))))))))))))))
 all_goals simp_all (maxDischargeDepth:=9)
def QlN {N a0 a1} (ka0:XJ a0):PT (QdL N a0 a1) (λ r=>XJ r.1/\tU r.2.1):=by
 rw[QdL]
 refine (WJ (Wz λ y1=>(Wz λ y2=>(U3 (Q:=λ k=>∀ _,PT (k ()) _) (λ _=>(Wz λ y5=>(Wl (Wg ?_) (Wl (Wg ?_) (Wz λ y6=>(Wz λ p11=>(Wz λ p12=>(Wz λ p13=>(Wg ?_))))))))) λ j1 hj1=>(Wl (hj1 ()) (Wz λ p3=>(Wl (hj1 ()) (Wz λ p4=>(Wl (hj1 ()) (Wl (hj1 ()) (Wz λ p14=>(Wz λ p15=>(Wz λ p16=>(Wg ?_))))))))))))))
 all_goals simp_all (maxDischargeDepth:=9)
def QlO {N a0 a1 a2} (ka0:XJ a0):PT (Qet N a0 a1 a2) (λ r=>XJ r.1/\tU r.2.1):=by
 rw[Qet]
 refine (Wz λ y1=>(Wl (Wg ?_) (Wz λ y2=>(Wz λ y3=>(Wl (Wg ?_) (Wz λ y4=>(Wg ?_)))))))
 all_goals simp_all (maxDischargeDepth:=9)
def QmA {N a0 a1 a2} (ka0:XJ a0) (ka1:tU a1) (ka2:YJ a2):PT (QcG N a0 a1 a2) (λ r=>XJ r.1):=by
 rw[QcG]
 refine (Wu (Qhe ?_) λ y1 h1=>(Wz λ y2=>(Wl (Wg ?_) (Wl (Wg ?_) (WJ (WJ (Wu (QgG ?_ ?_ ?_) λ y3 h2=>(Wl (Wg ?_) (Wg ?_)))))))))
 all_goals simp_all (maxDischargeDepth:=9)
def QiW {N a0 a1} (ka0:XJ a0) (ka1:YJ a1):PT (Qeu N a0 a1) (λ r=>XJ r.1/\tU r.2.1):=by
 rw[Qeu]
 refine (Wz λ y1=>(Wl (Wg ?_) (Wz λ y2=>(Wl (Wg ?_) (Wz λ y3=>(Wz λ y4=>(Wu (QlN ?_) λ y5 h1=>(U3 (Q:=λ k=>∀ x7 x8 x9 x10 x11 x12 x13 x14,tU x7->(tL tU) x11->PT (k x7 x8 x9 x10 x11 x12 x13 x14) _) (λ x7 x8 x9 x10 x11 x12 x13 x14 h2 h3=>(Wl (Wg ?_) (Wu (QmA ?_ ?_ ?_) λ y15 h4=>(Wg ?_)))) λ j1 hj1=>(Wl (Wu (QlO ?_) λ y6 h5=>(hj1 _ _ _ _ _ _ _ _ ?_ ?_)) (hj1 _ _ _ _ _ _ _ _ ?_ ?_))))))))))
 all_goals simp_all (maxDischargeDepth:=9)
def QlP {N a0 a1} (ka0:X4 a0) (ka1:YJ a1):PT (Qch N a0 a1) (λ r=>X4 r.1/\tU r.2.1):=by
 rw[Qch]
 refine (Wz λ y1=>(Wl (Wg ?_) (Wu (QiW ?_ ?_) λ y2 h1=>(U3 (Q:=λ k=>∀ x5 x6 x7 x8 x9 x10 x11 x12 x13 x14 x15 x16 x17 x18 x19 x20 x21 x22 x23 x24 x25,tU x5->(tL tU) x9->(tL Yd) x13->(tL Xy) x16->(tL Xy) x17->(tL YI) x18->(tL tU) x19->(tL tU) x22->PT (k x5 x6 x7 x8 x9 x10 x11 x12 x13 x14 x15 x16 x17 x18 x19 x20 x21 x22 x23 x24 x25) _) (λ x5 x6 x7 x8 x9 x10 x11 x12 x13 x14 x15 x16 x17 x18 x19 x20 x21 x22 x23 x24 x25 h2 h3 h4 h5 h6 h7 h8 h9=>(Wl (Wg ?_) (Wg ?_))) λ j1 hj1=>(Wl (Wu (QhV ?_) λ y3 h10=>(Wl (Wg ?_) (Wu (QiW ?_ ?_) λ y4 h11=>(hj1 _ _ _ _ _ _ _ _ _ _ _ _ _ _ _ _ _ _ _ _ _ ?_ ?_ ?_ ?_ ?_ ?_ ?_ ?_)))) (hj1 _ _ _ _ _ _ _ _ _ _ _ _ _ _ _ _ _ _ _ _ _ ?_ ?_ ?_ ?_ ?_ ?_ ?_ ?_))))))
 all_goals simp_all (maxDischargeDepth:=9)
def Qga {N a0}:PT (QbO N a0) (λ r=>tU r.1):=by
 rw[QbO]
 refine (Wz λ y1=>(Wl (Wg ?_) (Wg ?_)))
 all_goals simp_all (maxDischargeDepth:=9) []
def QgH {N a0 a1} (ka0:X4 a0) (ka1:tU a1):PT (Qci N a0 a1) (λ r=>X4 r.1/\tU r.2.1):=by
 rw[Qci]
 refine (Wl (Wg ?_) (Wu (QhX ?_ ?_) λ y1 h1=>(Wl (Wu (Qad) λ y2 h2=>(Wg ?_)) (Wu (Qga) λ y3 h3=>(Wg ?_)))))
 all_goals simp_all (maxDischargeDepth:=9)
def QkH {N a0 a1 a2 a3} (ka0:X4 a0) (ka2:tU a2) (ka3:tU a3):PT (Qc7 N a0 a1 a2 a3) (λ r=>X4 r.1/\tU r.2.1):=by
 rw[Qc7]
 refine (Wl (Wu (Qad) λ y1 h1=>(Wg ?_)) (Wu (Qhm ?_ ?_) λ y2 h2=>(U3 (Q:=λ k=>∀ _,PT (k ()) _) (λ _=>(Wu (Qad) λ y4 h3=>(Wg ?_))) λ j1 hj1=>(Wl (hj1 ()) (Wz λ y3=>(Wl (hj1 ()) (Wu (QhX ?_ ?_) λ y5 h4=>(Wl (Wu (Qad) λ y6 h5=>(Wg ?_)) (Wu (QlP ?_ ?_) λ y7 h6=>(Wl (Wu (Qad) λ y8 h7=>(Wg ?_)) (Wu (QgH ?_ ?_) λ y9 h8=>(Wg ?_))))))))))))
 all_goals simp_all (maxDischargeDepth:=9)
def QhY {N a0 a1 a2} (ka0:XG a0):PT (Qe0 N a0 a1 a2) (λ r=>tU r.1):=by
 rw[Qe0]
 refine (Wz λ y1=>(Wl (Wg ?_) (Wl (Wg ?_) (Wl (Wg ?_) (Wz λ p2=>(Wl (Wg ?_) (Wl (Wg ?_) (PT.get (T:=Yd) ?_ λ p3 h1=>(Wl (Wg ?_) (PT.get (T:=Yd) ?_ λ p4 h2=>(Wl (Wg ?_) (PT.get (T:=Yd) ?_ λ p5 h3=>(Wg ?_)))))))))))))
 all_goals simp_all (maxDischargeDepth:=9)
def Qgp {N a0 a1 a2} (ka0:XY a0):PT (QdT N a0 a1 a2) (λ r=>tU r.1):=by
 rw[QdT]
 refine (Wz λ y1=>(Wl (Wg ?_) (Wl (Wg ?_) (Wl (Wg ?_) (Wl (Wg ?_) (PT.get (T:=Xy) ?_ λ p2 h1=>(Wl (Wg ?_) (PT.get (T:=Xy) ?_ λ p3 h2=>(Wl (Wg ?_) (PT.get (T:=Xy) ?_ λ p4 h3=>(Wl (Wg ?_) (PT.get (T:=Xy) ?_ λ p5 h4=>(Wg ?_)))))))))))))
 all_goals simp_all (maxDischargeDepth:=9)
def QcK {N a0 a1} (ka0:X4 a0) (ka1:tU a1):PT (Qbl N a0 a1) (λ r=>tU r.1):=by
 rw[Qbl]
 refine (Wz λ y1=>(Wl (Wg ?_) (Wl (Wg ?_) (Wz λ y2=>(Wl (Wg ?_) (Wl (Wu (QhY ?_) λ y3 h1=>(Wg ?_)) (Wl (Wu (Qgp ?_) λ y4 h2=>(Wg ?_)) (Wu (Qgp ?_) λ y5 h3=>(Wg ?_)))))))))
 all_goals simp_all (maxDischargeDepth:=9)
def QgI {N a0 a1} (ka0:X4 a0) (ka1:tU a1):PT (QcY N a0 a1) (λ r=>tU r.1):=by
 rw[QcY]
 refine (Wu (QcK ?_ ?_) λ y1 h1=>(Wl (Wl (Wg ?_) (Wg ?_)) (Wg ?_)))
 all_goals simp_all (maxDischargeDepth:=9)
def Qig {N a0 a1 a2 a3} (ka0:X4 a0) (ka1:tU a1) (ka2:tU a2):PT (QcZ N a0 a1 a2 a3) (λ r=>tU r.1):=by
 rw[QcZ]
 refine (Wu (QgI ?_ ?_) λ y1 h1=>(Wl (Wg ?_) (Wu (QhL ?_ ?_) λ y2 h2=>(Wl (Wg ?_) (Wz λ y3=>(Wl (Wg ?_) (Wg ?_)))))))
 all_goals simp_all (maxDischargeDepth:=9)
def Qih {N a0 a1 a2} (ka0:XJ a0) (ka1:tU a1):PT (QbI N a0 a1 a2) (λ r=>tU r.1):=by
 rw[QbI]
 refine (Wu (QhL ?_ ?_) λ y1 h1=>(Wl (Wg ?_) (Wl (Wg ?_) (Wl (Wg ?_) (Wu (QeS ?_ ?_) λ y2 h2=>(Wg ?_))))))
 all_goals simp_all (maxDischargeDepth:=9)
def Qjh {N a0 a1 a2 a3} (ka0:XJ a0) (ka1:tU a1) (ka3:tU a3):PT (QbC N a0 a1 a2 a3) (λ r=>XJ r.1):=by
 rw[QbC]
 refine (Wu (Qih ?_ ?_) λ y1 h1=>(Wl (Wg ?_) (Wu (Qhl ?_ ?_ ?_) λ y2 h2=>(Wg ?_))))
 all_goals simp_all (maxDischargeDepth:=9)
def QlQ {N a0 a1 a2 a3 a4} (ka0:X4 a0) (ka2:tU a2) (ka3:tU a3) (ka4:tU a4):PT (QdM N a0 a1 a2 a3 a4) (λ r=>X4 r.1/\tU r.2.1):=by
 rw[QdM]
 refine (U3 (Q:=λ k=>∀ x3 x4 x5,tU x3->PT (k x3 x4 x5) _) (λ x3 x4 x5 h1=>(Wl (Wu (Qad) λ y6 h2=>(Wg ?_)) (Wu (Qih ?_ ?_) λ y7 h3=>(Wl (Wg ?_) (Wl (Wu (QgH ?_ ?_) λ y8 h4=>(Wg ?_)) (U3 (Q:=λ k=>∀ x11,tU x11->PT (k x11) _) (λ x11 h5=>(Wu (Qjh ?_ ?_ ?_) λ y12 h6=>(Wg ?_))) λ j2 hj2=>(Wl (Wu (QcK ?_ ?_) λ y9 h7=>(Wl (Wu (Qad) λ y10 h8=>(Wg ?_)) (hj2 _ ?_))) (hj2 _ ?_)))))))) λ j1 hj1=>(Wl (Wu (Qig ?_ ?_ ?_) λ y1 h9=>(hj1 _ _ _ ?_)) (Wu (Qig ?_ ?_ ?_) λ y2 h10=>(hj1 _ _ _ ?_))))
 all_goals simp_all (maxDischargeDepth:=9)
def QlR {N a0 a1 a2 a3} (ka0:X4 a0) (ka2:tU a2) (ka3:tU a3):PT (QdN N a0 a1 a2 a3) (λ r=>X4 r.1/\tU r.2.1):=by
 rw[QdN]
 refine (U3 (Q:=λ k=>∀ x1,PT (k x1) _) (λ x1=>(Wl (Wu (QgI ?_ ?_) λ y2 h1=>(Wl (Wu (Qad) λ y3 h2=>(Wg ?_)) (Wu (QhL ?_ ?_) λ y4 h3=>(Wl (Wg ?_) (Wg ?_))))) (Wl (Wu (QcK ?_ ?_) λ y5 h4=>(Wl (Wu (Qad) λ y6 h5=>(Wg ?_)) (Wu (QcK ?_ ?_) λ y7 h6=>(Wl (Wu (Qad) λ y8 h7=>(Wg ?_)) (Wl (Wg ?_) (Wg ?_)))))) (Wu (QcK ?_ ?_) λ y9 h8=>(Wl (Wu (Qad) λ y10 h9=>(Wg ?_)) (Wu (QgH ?_ ?_) λ y11 h10=>(Wg ?_))))))) λ j1 hj1=>(Wl (hj1 _) (hj1 _)))
 all_goals simp_all (maxDischargeDepth:=9)
def Qh9 {N a0 a1} (ka0:XY a0) (ka1:tU a1):∀ n v2,PT (QbP N a0 a1 n v2) (tE (λ r=>XY r.1) (λ _=>True))
 | 0,_=>by rw[QbP];exact II
 | n+1,v2=>by
  have ih:=Qh9 (N:=N) (a0:=a0) (a1:=a1) ka0 ka1 n
  rw[QbP]
  refine (WJ (Wl (PT.get (T:=Xy) ?_ λ p3 h1=>(Wl (PT.get (T:=Xy) ?_ λ p4 h2=>(Wl (PT.get (T:=Xy) ?_ λ p5 h3=>(PT.get (T:=Xy) ?_ λ p6 h4=>(PT.get (T:=Xy) ?_ λ p7 h5=>(Wg ?_)))) (ih _))) (ih _))) (Wg ?_)))
  all_goals (clear ih;simp_all (maxDischargeDepth:=9))
def QkI {N a0 a1 n v2} (ka0:XY a0) (ka1:tU a1):PT (QbP N a0 a1 n v2) (tE (λ r=>XY r.1) (λ _=>True)):=Qh9 ka0 ka1 n _
def QhZ {N a0 a1} (ka0:XY a0) (ka1:tU a1):PT (Qcs N a0 a1) (λ r=>XY r.1):=by
 rw[Qcs]
 refine (Wz λ y1=>(Wl (Wg ?_) (WJ (Ow (QkI ?_ ?_) (λ r h1=>(Wg ?_)) λ y8 h2=>(WJ (Wl (Wg ?_) (WJ (WJ (Wg ?_)))))))))
 all_goals simp_all (maxDischargeDepth:=9)
def QjN {N a0 a1 a2} (ka0:X4 a0) (ka2:tU a2):PT (QcH N a0 a1 a2) (λ r=>X4 r.1/\tU r.2.1):=by
 rw[QcH]
 refine (Wu (QgI ?_ ?_) λ y1 h1=>(Wl (Wu (Qad) λ y2 h2=>(Wg ?_)) (U3 (Q:=λ k=>∀ x3 x4,(tL Xy) x4->PT (k x3 x4) _) (λ x3 x4 h3=>(Wu (QhZ ?_ ?_) λ y5 h4=>(Wl (Wu (Qad) λ y6 h5=>(Wg ?_)) (U3 (Q:=λ k=>∀ x7 x8,(tL Xy) x7->(tL Xy) x8->PT (k x7 x8) _) (λ x7 x8 h6 h7=>(Wu (Qga) λ y9 h8=>(Wg ?_))) λ j2 hj2=>(Wl (hj2 _ _ ?_ ?_) (hj2 _ _ ?_ ?_)))))) λ j1 hj1=>(Wl (hj1 _ _ ?_) (hj1 _ _ ?_)))))
 all_goals simp_all (maxDischargeDepth:=9)
def Qia {N a0 a1 a2} (ka0:XG a0):PT (QdU N a0 a1 a2) (λ r=>XG r.1):=by
 rw[QdU]
 refine (Wu (QhY ?_) λ y1 h1=>(Wl (Wg ?_) (WJ (PT.get (T:=Yd) ?_ λ p2 h2=>(Wg ?_)))))
 all_goals simp_all (maxDischargeDepth:=9)
def QnE {N a0 a1 a2} (ka0:XY a0) (ka2:Xy a2):PT (QgY N a0 a1 a2) XY:=by
 rw[QgY]
 refine (WJ (PT.get (T:=Xy) ?_ λ p1 h1=>(Wg ?_)))
 all_goals simp_all (maxDischargeDepth:=9)
def Qgb {N a0 a1 a2} (ka0:XY a0):PT (Qcx N a0 a1 a2) (λ r=>XY r.1):=by
 rw[Qcx]
 refine (Wu (Qgp ?_) λ y1 h1=>(Wl (Wg ?_) (Wu (QnE ?_ ?_) λ y2 h2=>(Wg ?_))))
 all_goals simp_all (maxDischargeDepth:=9)
def QkJ {N a0 a1 a2} (ka0:X4 a0) (ka2:tU a2):PT (Qc8 N a0 a1 a2) (λ r=>X4 r.1/\tU r.2.1):=by
 rw[Qc8]
 refine (Wl (Wu (Qad) λ y1 h1=>(Wg ?_)) (Wu (QcK ?_ ?_) λ y2 h2=>(Wl (Wu (Qad) λ y3 h3=>(Wg ?_)) (Wz λ y4=>(U3 (Q:=λ k=>∀ _,PT (k ()) _) (λ _=>(Wl (Wu (Qia ?_) λ y6 h4=>(Wg ?_)) (Wl (Wu (Qgb ?_) λ y7 h5=>(Wg ?_)) (Wu (Qgb ?_) λ y8 h6=>(Wg ?_))))) λ j2 hj2=>(U3 (Q:=λ k=>∀ _,PT (k ()) _) (λ _=>(Wu (Qad) λ y5 h7=>(Wg ?_))) λ j1 hj1=>(Wl (Wl (hj1 ()) (Wl (Wl (hj1 ()) (Wl (Wl (hj1 ()) (hj2 ())) (hj2 ()))) (Wl (Wl (hj1 ()) (hj2 ())) (hj2 ())))) (Wl (Wl (hj1 ()) (Wl (Wl (hj1 ()) (hj2 ())) (hj2 ()))) (Wl (Wl (hj1 ()) (hj2 ())) (hj2 ()))))))))))
 all_goals simp_all (maxDischargeDepth:=9)
def QmB {N a0 a1 a2} (ka0:XG a0):PT (Qgw N a0 a1 a2) (λ r=>XG r.1):=by
 rw[Qgw]
 refine (Wz λ y1=>(Wl (Wg ?_) (Wl (Wg ?_) (Wl (Wg ?_) (U3 (Q:=λ k=>∀ _,PT (k ()) _) (λ _=>(Wl (Wg ?_) (WJ (WJ (Wg ?_))))) λ j1 hj1=>(Wl (Wl (Wg ?_) (hj1 ())) (hj1 ())))))))
 all_goals simp_all (maxDischargeDepth:=9)
def Qit {N a0 a1} (ka0:XG a0):PT (Qek N a0 a1) (λ r=>XG r.1):=by
 rw[Qek]
 refine (Wu (QmB ?_) λ y1 h1=>(Wg ?_))
 all_goals simp_all (maxDischargeDepth:=9)
def QnF {N a0 a1} (ka0:XG a0):PT (QgZ N a0 a1) XG:=by
 rw[QgZ]
 refine (Wz λ p1=>(WJ (WJ (WJ (WJ (Wg ?_))))))
 all_goals simp_all (maxDischargeDepth:=9)
def QiX {N a0} (ka0:XG a0):PT (Qe1 N a0) (λ r=>XG r.1):=by
 rw[Qe1]
 refine (Wz λ y1=>(Wl (Wg ?_) (Wl (Wg ?_) (Wz λ p2=>(Wl (Wg ?_) (Wu (QnF ?_) λ y3 h1=>(Wg ?_)))))))
 all_goals simp_all (maxDischargeDepth:=9)
def QkK {N a0 a1 a2} (ka0:X4 a0) (ka2:tU a2):PT (Qc9 N a0 a1 a2) (λ r=>X4 r.1/\tU r.2.1):=by
 rw[Qc9]
 refine (Wl (Wl (Wu (Qad) λ y1 h1=>(Wg ?_)) (Wu (Qit ?_) λ y2 h2=>(Wl (Wu (Qad) λ y3 h3=>(Wg ?_)) (Wg ?_)))) (Wu (QcK ?_ ?_) λ y4 h4=>(Wl (Wu (Qad) λ y5 h5=>(Wg ?_)) (Wu (QiX ?_) λ y6 h6=>(Wl (Wu (Qad) λ y7 h7=>(Wg ?_)) (Wu (QgH ?_ ?_) λ y8 h8=>(Wg ?_)))))))
 all_goals simp_all (maxDischargeDepth:=9)
def Qhn {N a0 a1 a2} (ka0:XJ a0) (ka1:tU a1):PT (Qcj N a0 a1 a2) XJ:=by
 rw[Qcj]
 refine (WJ (Wz λ y1=>(Wz λ p2=>(Wz λ p3=>(Wg ?_)))))
 all_goals simp_all (maxDischargeDepth:=9)
def QjO {N a0 a1 a2} (ka0:XJ a0) (ka1:(tL YI) a1) (ka2:tU a2):PT (Qbz N a0 a1 a2) (λ r=>XJ r.1/\(tL YI) r.2.1):=by
 rw[Qbz]
 refine (Wz λ y1=>(Wl (Wg ?_) (Wl (Wg ?_) (Wz λ y2=>(Wl (Wg ?_) (WJ (PT.get (T:=YI) ?_ λ p3 h1=>(PT.get (T:=YI) ?_ λ p4 h2=>(PT.get (T:=YI) ?_ λ p5 h3=>(Wl (WJ (WJ (WJ (Wu (Qhn ?_ ?_) λ y7 h4=>(Wg ?_))))) (Wu (Qhn ?_ ?_) λ y8 h5=>(Wg ?_))))))))))))
 all_goals simp_all (maxDischargeDepth:=9)
def QnG {N a0 a1 a2} (ka0:XJ a0) (ka1:(tL YI) a1) (ka2:tU a2):PT (Qdn N a0 a1 a2) (λ r=>XJ r.1/\(tL YI) r.2.1/\tU r.2.2.1):=by
 rw[Qdn]
 refine (Wz λ y1=>(Wl (Wg ?_) (Wl (Wg ?_) (Wz λ y2=>(Wl (Wg ?_) (Wz λ y3=>(U3 (Q:=λ k=>∀ _,PT (k ()) _) (λ _=>(WJ (U3 (Q:=λ k=>∀ x11,(tL YI) x11->PT (k x11) _) (λ x11 h1=>(Wu (Qhn ?_ ?_) λ y12 h2=>(Wg ?_))) λ j2 hj2=>(Wl (PT.get (T:=YI) ?_ λ p9 h3=>(PT.get (T:=YI) ?_ λ p10 h4=>(hj2 _ ?_))) (WJ (hj2 _ ?_)))))) λ j1 hj1=>(Wl (PT.get (T:=YI) ?_ λ p4 h5=>(Wl (Wg ?_) (Wl (Wl (Wg ?_) (Wz λ y5=>(Wl (Wg ?_) (hj1 ())))) (Wz λ y6=>(Wl (Wg ?_) (hj1 ())))))) (Wl (Wl (Wg ?_) (Wz λ y7=>(Wl (Wg ?_) (hj1 ())))) (Wz λ y8=>(Wl (Wg ?_) (hj1 ()))))))))))))
 all_goals simp_all (maxDischargeDepth:=9)
def QmC {N a0 a1 a2} (ka0:X4 a0) (ka2:tU a2):PT (Qel N a0 a1 a2) (λ r=>X4 r.1/\tU r.2.1):=by
 rw[Qel]
 refine (Wu (QgI ?_ ?_) λ y1 h1=>(Wl (Wu (Qad) λ y2 h2=>(Wg ?_)) (Wl (Wu (QjO ?_ ?_ ?_) λ y3 h3=>(Wl (Wu (Qad) λ y4 h4=>(Wg ?_)) (Wg ?_))) (Wu (QnG ?_ ?_ ?_) λ y5 h5=>(Wl (Wu (Qad) λ y6 h6=>(Wg ?_)) (Wg ?_))))))
 all_goals simp_all (maxDischargeDepth:=9)
def QmD {N a0 a1 a2 a3 a4} (ka0:X4 a0) (ka2:tU a2) (ka3:tU a3) (ka4:tU a4):PT (Qem N a0 a1 a2 a3 a4) (λ r=>X4 r.1/\tU r.2.1):=by
 rw[Qem]
 refine (Wz λ y1=>(Wl (Wu (Qad) λ y2 h1=>(Wg ?_)) (U3 (Q:=λ k=>∀ x4,PT (k x4) _) (λ x4=>(Wl (Wu (QkH ?_ ?_ ?_) λ y5 h2=>(Wg ?_)) (U3 (Q:=λ k=>∀ x8,PT (k x8) _) (λ x8=>(Wl (Wu (QlQ ?_ ?_ ?_ ?_) λ y9 h3=>(Wg ?_)) (U3 (Q:=λ k=>∀ x12,PT (k x12) _) (λ x12=>(Wl (Wu (QlR ?_ ?_ ?_) λ y13 h4=>(Wg ?_)) (U3 (Q:=λ k=>∀ x14,PT (k x14) _) (λ x14=>(Wl (Wu (QjN ?_ ?_) λ y15 h5=>(Wg ?_)) (U3 (Q:=λ k=>∀ x17,PT (k x17) _) (λ x17=>(Wl (Wu (QkJ ?_ ?_) λ y18 h6=>(Wg ?_)) (U3 (Q:=λ k=>∀ x19,PT (k x19) _) (λ x19=>(Wl (Wu (QkK ?_ ?_) λ y20 h7=>(Wg ?_)) (U3 (Q:=λ k=>∀ x21,PT (k x21) _) (λ x21=>(Wl (Wu (QmC ?_ ?_) λ y22 h8=>(Wg ?_)) (Wu (Qad) λ y23 h9=>(Wg ?_)))) λ j13 hj13=>(Wl (hj13 _) (hj13 _))))) λ j12 hj12=>(Wl (hj12 _) (hj12 _))))) λ j11 hj11=>(Wl (hj11 _) (U3 (Q:=λ k=>∀ x16,PT (k x16) _) (λ x16=>(hj11 _)) λ j10 hj10=>(Wl (hj10 _) (hj10 _))))))) λ j9 hj9=>(Wl (hj9 _) (hj9 _))))) λ j8 hj8=>(Wl (hj8 _) (U3 (Q:=λ k=>∀ x11,PT (k x11) _) (λ x11=>(hj8 _)) λ j7 hj7=>(Wl (hj7 _) (U3 (Q:=λ k=>∀ x10,PT (k x10) _) (λ x10=>(hj7 _)) λ j6 hj6=>(Wl (hj6 _) (hj6 _))))))))) λ j5 hj5=>(Wl (hj5 _) (U3 (Q:=λ k=>∀ x7,PT (k x7) _) (λ x7=>(hj5 _)) λ j4 hj4=>(Wl (hj4 _) (U3 (Q:=λ k=>∀ x6,PT (k x6) _) (λ x6=>(hj4 _)) λ j3 hj3=>(Wl (hj3 _) (hj3 _))))))))) λ j2 hj2=>(Wl (hj2 _) (U3 (Q:=λ k=>∀ x3,PT (k x3) _) (λ x3=>(hj2 _)) λ j1 hj1=>(Wl (hj1 _) (hj1 _)))))))
 all_goals simp_all (maxDischargeDepth:=9)
def QjP {N a0 a1 a2 a3 a4} (ka0:X4 a0) (ka1:X4 a1) (ka3:tU a3):PT (Qd4 N a0 a1 a2 a3 a4) XgF:=by
 rw[Qd4]
 refine (U3 (Q:=λ k=>∀ x1,PT (k x1) _) (λ x1=>(U3 (Q:=λ k=>∀ x2,PT (k x2) _) (λ x2=>(Wl (Wl (Wg ?_) (Wg ?_)) (Wg ?_))) λ j2 hj2=>(Wl (hj2 _) (hj2 _)))) λ j1 hj1=>(Wl (hj1 _) (Wl (hj1 _) (hj1 _))))
 all_goals simp_all (maxDischargeDepth:=9)
def QfJ {N a0 a1} (ka0:Xz a0) (ka1:tU a1):PT (QaE N a0 a1) (λ r=>tU r.1):=by
 rw[QaE]
 refine (Wz λ y1=>(Wl (Wg ?_) (Wl (Wg ?_) (Wz λ y2=>(Wl (Wg ?_) (Wl (Wu (QhY ?_) λ y3 h1=>(Wg ?_)) (Wl (Wu (Qgp ?_) λ y4 h2=>(Wg ?_)) (Wu (Qgp ?_) λ y5 h3=>(Wg ?_)))))))))
 all_goals simp_all (maxDischargeDepth:=9)
def QgJ {N a0 a1} (ka0:Xz a0) (ka1:tU a1):PT (Qcy N a0 a1) (λ r=>Xz r.1/\tU r.2):=by
 rw[Qcy]
 refine (Wl (Wg ?_) (Wu (QhX ?_ ?_) λ y1 h1=>(Wu (Qga) λ y2 h2=>(Wg ?_))))
 all_goals simp_all (maxDischargeDepth:=9)
def QiY {N a0 a1 a2 a3} (ka0:Xz a0) (ka1:tU a1) (ka3:tU a3):PT (Qfy N a0 a1 a2 a3) Xz:=by
 rw[Qfy]
 refine (WJ (PT.get (T:=Yv) ?_ λ p1 h1=>(WJ (PT.get (T:=tU) ?_ λ p2 h2=>(PT.get (T:=Yv) ?_ λ p3 h3=>(Wg ?_))))))
 all_goals simp_all (maxDischargeDepth:=9)
def QjQ {N a0 a1 a2} (ka0:Xz a0) (ka2:tU a2):PT (Qd5 N a0 a1 a2) (λ r=>Xz r.1/\tU r.2):=by
 rw[Qd5]
 refine (U3 (Q:=λ k=>∀ x3 x4 x5 x6 x7,(tL Xy) x3->(tL Xy) x4->PT (k x3 x4 x5 x6 x7) _) (λ x3 x4 x5 x6 x7 h1 h2=>(Wu (Qga) λ y8 h3=>(Wg ?_))) λ j1 hj1=>(Wl (Wu (QhZ ?_ ?_) λ y1 h4=>(hj1 _ _ _ _ _ ?_ ?_)) (Wu (QhZ ?_ ?_) λ y2 h5=>(hj1 _ _ _ _ _ ?_ ?_))))
 all_goals simp_all (maxDischargeDepth:=9)
def QkL {N a0 a1} (ka0:Xz a0) (ka1:tU a1):PT (QeF N a0 a1) Xz:=by
 rw[QeF]
 refine (Wz λ y1=>(Wl (Wu (Qia ?_) λ y2 h1=>(Wg ?_)) (Wl (Wu (Qgb ?_) λ y3 h2=>(Wg ?_)) (Wu (Qgb ?_) λ y4 h3=>(Wg ?_)))))
 all_goals simp_all (maxDischargeDepth:=9)
def QmE {N a0 a1 a2 a3} (ka0:Xz a0) (ka2:tU a2) (ka3:tU a3):PT (QfG N a0 a1 a2 a3) (λ r=>Xz r.1/\tU r.2):=by
 rw[QfG]
 refine (Wz λ y1=>(WJ (Wl (PT.get (T:=Y8) ?_ λ p2 h1=>(PT.get (T:=Y8) ?_ λ p3 h2=>(PT.get (T:=Y8) ?_ λ p4 h3=>(Wl (WJ (WJ (WJ (Wg ?_)))) (Wg ?_))))) (Wl (PT.get (T:=Y8) ?_ λ p7 h4=>(PT.get (T:=Y8) ?_ λ p8 h5=>(PT.get (T:=Y8) ?_ λ p9 h6=>(Wg ?_)))) (WJ (Wg ?_))))))
 all_goals simp_all (maxDischargeDepth:=9)
def QmF {N a0 a1 a2 a3 a4 a5} (ka0:Xz a0) (ka2:tU a2) (ka3:tU a3) (ka4:tU a4) (ka5:XgF a5):PT (QfH N a0 a1 a2 a3 a4 a5) (λ r=>Xz r.1/\tU r.2.1):=by
 rw[QfH]
 refine (Wz λ y1=>(Wl (Wg ?_) (U3 (Q:=λ k=>∀ x3,tU x3->PT (k x3) _) (λ x3 h1=>(U3 (Q:=λ k=>∀ x5,PT (k x5) _) (λ x5=>(Wl (U3 (Q:=λ k=>∀ x7 x8 x9 x10 x11 x12 x13 x14 x15 x16,(tL Yv) x9->(tL Yd) x10->(tL Xy) x13->(tL Xy) x14->(tL Y8) x15->(tL tU) x16->PT (k x7 x8 x9 x10 x11 x12 x13 x14 x15 x16) _) (λ x7 x8 x9 x10 x11 x12 x13 x14 x15 x16 h2 h3 h4 h5 h6 h7=>(Wu (Qhm ?_ ?_) λ y17 h8=>(WJ (WJ (WJ (WJ (Wu (QgJ ?_ ?_) λ y18 h9=>(Wg ?_)))))))) λ j4 hj4=>(Wl (Wu (QhW ?_) λ y6 h10=>(hj4 _ _ _ _ _ _ _ _ _ _ ?_ ?_ ?_ ?_ ?_ ?_)) (hj4 _ _ _ _ _ _ _ _ _ _ ?_ ?_ ?_ ?_ ?_ ?_))) (Wl (PT.get (T:=Yv) ?_ λ p19 h11=>(Wg ?_)) (Wl (PT.get (T:=Yv) ?_ λ p20 h12=>(Wg ?_)) (Wl (PT.get (T:=Yv) ?_ λ p21 h13=>(PT.get (T:=tU) ?_ λ p22 h14=>(Wg ?_))) (Wl (Wu (QiY ?_ ?_ ?_) λ y23 h15=>(Wg ?_)) (Wl (PT.get (T:=Yv) ?_ λ p24 h16=>(PT.get (T:=tU) ?_ λ p25 h17=>(Wu (QgJ ?_ ?_) λ y26 h18=>(Wg ?_)))) (Wl (Wu (QfJ ?_ ?_) λ y27 h19=>(Wu (QiY ?_ ?_ ?_) λ y28 h20=>(Wg ?_))) (Wl (Wu (QfJ ?_ ?_) λ y29 h21=>(Wl (Wg ?_) (Wg ?_))) (Wl (Wu (QgJ ?_ ?_) λ y30 h22=>(Wg ?_)) (U3 (Q:=λ k=>∀ x31,PT (k x31) _) (λ x31=>(Wl (Wu (QjQ ?_ ?_) λ y32 h23=>(Wg ?_)) (U3 (Q:=λ k=>∀ x34,PT (k x34) _) (λ x34=>(Wl (Wu (QkL ?_ ?_) λ y35 h24=>(Wg ?_)) (Wl (Wu (Qit ?_) λ y36 h25=>(Wg ?_)) (Wl (Wu (QiX ?_) λ y37 h26=>(Wu (QgJ ?_ ?_) λ y38 h27=>(Wg ?_))) (Wu (QmE ?_ ?_ ?_) λ y39 h28=>(Wg ?_)))))) λ j7 hj7=>(Wl (hj7 _) (U3 (Q:=λ k=>∀ x33,PT (k x33) _) (λ x33=>(hj7 _)) λ j6 hj6=>(Wl (hj6 _) (hj6 _))))))) λ j5 hj5=>(Wl (hj5 _) (hj5 _))))))))))))) λ j3 hj3=>(Wl (hj3 _) (U3 (Q:=λ k=>∀ x4,PT (k x4) _) (λ x4=>(hj3 _)) λ j2 hj2=>(Wl (hj2 _) (hj2 _)))))) λ j1 hj1=>(Wl (Wl (Wu (QfJ ?_ ?_) λ y2 h29=>(hj1 _ ?_)) (hj1 _ ?_)) (hj1 _ ?_)))))
 all_goals simp_all (maxDischargeDepth:=9)
def QkM {N a0 a1} (ka0:VO a0) (ka1:Xb6 a1):PT (Qb6 N a0 a1) (λ r=>VO r.1/\tU r.2.1):=by
 rw[Qb6]
 refine (Wl (Wu (QhV ?_) λ y1 h1=>(U3 (Q:=λ k=>∀ x3 x4 x5 x6 x7 x8 x9 x10 x11 x12 x13 x14 x15 x16 x17 x18 x19 x20 x21 x22 x23 x24 x25,(tL tU) x5->(tL Yd) x9->(tL Xy) x12->(tL Xy) x13->(tL YI) x14->(tL tU) x15->(tL Yv) x18->(tL Yd) x19->(tL Xy) x22->(tL Xy) x23->(tL Y8) x24->(tL tU) x25->PT (k x3 x4 x5 x6 x7 x8 x9 x10 x11 x12 x13 x14 x15 x16 x17 x18 x19 x20 x21 x22 x23 x24 x25) _) (λ x3 x4 x5 x6 x7 x8 x9 x10 x11 x12 x13 x14 x15 x16 x17 x18 x19 x20 x21 x22 x23 x24 x25 h2 h3 h4 h5 h6 h7 h8 h9 h10 h11 h12 h13=>(Wg ?_)) λ j1 hj1=>(Wl (Wu (QhW ?_) λ y2 h14=>(hj1 _ _ _ _ _ _ _ _ _ _ _ _ _ _ _ _ _ _ _ _ _ _ _ ?_ ?_ ?_ ?_ ?_ ?_ ?_ ?_ ?_ ?_ ?_ ?_)) (hj1 _ _ _ _ _ _ _ _ _ _ _ _ _ _ _ _ _ _ _ _ _ _ _ ?_ ?_ ?_ ?_ ?_ ?_ ?_ ?_ ?_ ?_ ?_ ?_)))) (Wu (QmD ?_ ?_ ?_ ?_) λ y26 h15=>(Wu (QjP ?_ ?_ ?_) λ y27 h16=>(Wu (QmF ?_ ?_ ?_ ?_ ?_) λ y28 h17=>(U3 (Q:=λ k=>∀ x29 x30 x31 x32 x33 x34 x35 x36 x37 x38,(tL Yv) x31->(tL Yd) x32->(tL Xy) x35->(tL Xy) x36->(tL Y8) x37->(tL tU) x38->PT (k x29 x30 x31 x32 x33 x34 x35 x36 x37 x38) _) (λ x29 x30 x31 x32 x33 x34 x35 x36 x37 x38 h18 h19 h20 h21 h22 h23=>(Wl (Wl (WJ (WJ (Wg ?_))) (Wg ?_)) (Wg ?_))) λ j2 hj2=>(Wl (hj2 _ _ _ _ _ _ _ _ _ _ ?_ ?_ ?_ ?_ ?_ ?_) (hj2 _ _ _ _ _ _ _ _ _ _ ?_ ?_ ?_ ?_ ?_ ?_)))))))
 all_goals simp_all (maxDischargeDepth:=9)
def Qfk {N a0 a1} (ka0:VO a0):PT (QbD N a0 a1) (λ r=>tU r.1):=by
 rw[QbD]
 refine (Wz λ y1=>(Wl (Wz λ y2=>(PT.get (T:=tU) ?_ λ p3 h1=>(Wg ?_))) (Wl (Wz λ y4=>(PT.get (T:=tU) ?_ λ p5 h2=>(Wz λ y6=>(Wg ?_)))) (U3 (Q:=λ k=>∀ x8,PT (k x8) _) (λ x8=>(Wl (Wz λ y9=>(PT.get (T:=tU) ?_ λ p10 h3=>(Wg ?_))) (Wz λ y11=>(PT.get (T:=tU) ?_ λ p12 h4=>(Wg ?_))))) λ j2 hj2=>(Wl (hj2 _) (U3 (Q:=λ k=>∀ x7,PT (k x7) _) (λ x7=>(hj2 _)) λ j1 hj1=>(Wl (hj1 _) (hj1 _))))))))
 all_goals simp_all (maxDischargeDepth:=9)
def Qji {N a0 a1} (ka0:VO a0):PT (QcR N a0 a1) (λ r=>Xb6 r.1):=by
 rw[QcR]
 refine (Wz λ y1=>(Wz λ p2=>(Wl (Wz λ y3=>(WJ (Wz λ y4=>(Wg ?_)))) (U3 (Q:=λ k=>∀ x5,PT (k x5) _) (λ x5=>(Wl (Wz λ y6=>(Wz λ y7=>(Wl (Wz λ y8=>(Wg ?_)) (Wg ?_)))) (Wl (Wz λ y9=>(Wg ?_)) (Wu (Qfk ?_) λ y10 h1=>(Wz λ y11=>(Wz λ y12=>(U3 (Q:=λ k=>∀ x16 x17 x18,tU x18->PT (k x16 x17 x18) _) (λ x16 x17 x18 h2=>(Wl (Wu (Qfk ?_) λ y19 h3=>(Wg ?_)) (Wg ?_))) λ j2 hj2=>(Wl (Wu (Qfk ?_) λ y14 h4=>(hj2 _ _ _ ?_)) (Wz λ y13=>(Wl (Wu (Qfk ?_) λ y15 h5=>(hj2 _ _ _ ?_)) (hj2 _ _ _ ?_))))))))))) λ j1 hj1=>(Wl (hj1 _) (hj1 _))))))
 all_goals simp_all (maxDischargeDepth:=9)
def Qiy {N a0 a1} (ka0:Xb7 a0):PT (QbJ N a0 a1) (λ r=>Xb7 r.1):=by
 rw[QbJ]
 refine (WJ (WJ (WJ (Wz λ y1=>(WJ (Wz λ y2=>(Wz λ y3=>(U3 (Q:=λ k=>∀ x4,PT (k x4) _) (λ x4=>(Wl (Wz λ y5=>(PT.get (T:=tU) ?_ λ p6 h1=>(PT.get (T:=tU) ?_ λ p7 h2=>(Wg ?_)))) (Wl (PT.get (T:=tU) ?_ λ p8 h3=>(Wz λ y9=>(WJ (PT.get (T:=tU) ?_ λ p10 h4=>(Wg ?_))))) (Wl (Wz λ y11=>(Wz λ p12=>(Wg ?_))) (Wl (Wz λ y13=>(Wz λ p14=>(Wg ?_))) (Wl (Wz λ p15=>(Wz λ y16=>(Wz λ p17=>(Wg ?_)))) (Wl (Wz λ y18=>(Wz λ p19=>(Wg ?_))) (Wl (Wz λ y20=>(Wg ?_)) (Wl (WJ (Wz λ y21=>(Wg ?_))) (Wl (Wg ?_) (Wl (WJ (Wg ?_)) (Wl (Wz λ y26=>(Wg ?_)) (Wg ?_))))))))))))) λ j1 hj1=>(Wl (hj1 _) (hj1 _))))))))))
 all_goals simp_all (maxDischargeDepth:=9)
def QnH {N a0 a1} (ka0:X4 a0):PT (Qe2 N a0 a1) (λ r=>X4 r.1):=by
 rw[Qe2]
 refine (Wz λ y1=>(Wl (Wu (Qiy ?_) λ y2 h1=>(Wg ?_)) (Wl (WJ (Wz λ y3=>(WJ (Wg ?_)))) (Wl (Wl (WJ (Wz λ y4=>(PT.get (T:=Yd) ?_ λ p5 h2=>(Wz λ y6=>(PT.get (T:=Yd) ?_ λ p7 h3=>(Wg ?_)))))) (Wg ?_)) (Wl (WJ (Wz λ y8=>(Wz λ y9=>(WJ (Wg ?_))))) (Wl (WJ (Wz λ y10=>(Wz λ y11=>(WJ (Wg ?_))))) (Wl (WJ (Wz λ y12=>(Wz λ y13=>(WJ (Wg ?_))))) (Wl (WJ (Wz λ y14=>(Wz λ y15=>(WJ (Wg ?_))))) (Wg ?_)))))))))
 all_goals simp_all (maxDischargeDepth:=9)
def QmG {N a0 a1} (ka0:Xz a0):PT (QfI N a0 a1) (λ r=>Xz r.1):=by
 rw[QfI]
 refine (Wz λ y1=>(Wl (WJ (Wz λ y2=>(WJ (Wg ?_)))) (Wl (Wl (WJ (Wz λ y3=>(Wz λ y4=>(PT.get (T:=Yv) ?_ λ p5 h1=>(Wg ?_))))) (Wg ?_)) (Wl (WJ (Wz λ y6=>(Wz λ y7=>(Wz λ y8=>(WJ (Wg ?_)))))) (Wl (WJ (Wz λ y9=>(WJ (Wg ?_)))) (Wl (Wz λ y10=>(Wg ?_)) (Wl (WJ (Wg ?_)) (Wg ?_))))))))
 all_goals simp_all (maxDischargeDepth:=9)
def BIG:Nat:=1099511627776
def Xd8 {ws:List Int} (hl:ws.length<=BIG) (N:Nat) (a k:Int) (hk : -1<=k/\k<=1000000000000000000):QdH N ws a k =
 some (if 4096<=a/\a<=4096+ws.length then (a-4096,decide (a+k<=4096+ws.length)) else (0,false)):=by
 unfold BIG at hl
 simp only[QdH,UI]
 rw[XC (n:=(ws.length:Int)) (by omega) (by omega),XC (n:=4096+(ws.length:Int)) (by omega) (by omega)]
 by_cases h1:a<4096
 ·rw[Wn h1,Wm (by omega)]
 ·rw[Wm h1]
  by_cases h2:a>4096+ws.length
  ·rw[Wn h2,Wm (by omega)]
  ·rw[Wm h2,Wn (by omega),XC (n:=a-4096) (by omega) (by omega),Xd (n:=a-4096) (by omega) (by omega),Xd (by omega) (by omega)]
   congr 2
   exact decide_eq_decide.2 (by omega)
def inW (ws:List Int) (a:Int):Prop:=4096<=a/\a<4096+ws.length
instance (ws:List Int) (a:Int):Decidable (inW ws a):=by unfold inW;infer_instance
def ix (a:Int):Nat:=(a-4096).toNat
def ZJ {ws:List Int} (hl:ws.length<=BIG) (N:Nat) (a:Int):Qbm N ws a=some (if inW ws a then (ws.getD (ix a) 0,0) else (0,2)):=by
 simp only[Qbm,QfY,Xd8 hl N a 1 (by omega),Xa]
 by_cases h:4096<=a/\a<=4096+ws.length
 ·simp only[Wn h]
  by_cases h2:inW ws a
  ·have h3:a+1<=4096+ws.length:=by unfold inW at h2;omega
   simp only[Wn h2,h3,decide_true,Ws,Wa,Xa]
   have h4:(a-4096).toNat<ws.length:=by unfold inW at h2;omega
   rw[show ((0:Int) != 0)=false from rfl,Wa,Yg (by omega) (by unfold inW at h2;omega),Xa]
   simp[ix,List.getD,h4]
  ·have h3:¬ a+1<=4096+ws.length:=by unfold inW at h2;omega
   simp only[Wm h2,h3,decide_false,WS,We,Xa]
   rfl
 ·have h2:¬ inW ws a:=by unfold inW;omega
  simp only[Wm h,Wm h2,WS,We,Xa]
  rfl
def ovr (ws l:List Int) (i:Nat):List Int:=ws.take i++l++ws.drop (i+l.length)
def ZX {ws l:List Int} {i:Nat} (h:i+l.length<=ws.length):(ovr ws l i).length=ws.length:=by
 simp[ovr];omega
def Xd9 {ws l:List Int} {i:Nat} (h:i+l.length<=ws.length) (j:Nat):(ovr ws l i)[j]? = if i<=j/\j<i+l.length then l[j-i]? else ws[j]?:=by
 unfold ovr
 have hm:(ws.take i).length=i:=by simp only[WC];omega
 by_cases h1:j<i
 ·rw[Wm (by omega),Ul,Uy (by omega),W6,Wn h1]
 ·by_cases h2:j<i+l.length
  ·rw[Wn (by omega),Uy (by rw[Wp];omega),UW (by omega),hm]
  ·rw[Wm (by omega),UW (by rw[Wp];omega),Uu,Wp,hm]
   congr 1
   omega
def Xfk {ws l:List Int} {i:Nat} (h:i+l.length<=ws.length) (j:Nat):(ovr ws l i).getD j 0=if i<=j/\j<i+l.length then l.getD (j-i) 0 else ws.getD j 0:=by
 simp only[Wr,Xd9 h]
 split<;>rfl
def Xfl {l:List Int} (y:Int×Bool) (i:Nat) (N:Nat) (ws:List Int) (hi:y.1=i) (h:i+l.length<=ws.length) (hl:ws.length<=BIG):∀ (n k:Nat) (v:List Int),k<=l.length->l.length-k<n->v=ovr ws (l.take k) i ->
 QbR N l y n (k:Int) v=some (ovr ws l i)
 | 0,k,v,_,hn,_=>by omega
 | n+1,k,v,hk,hn,hv=>by
  unfold BIG at hl
  rw[QbR]
  have hlt:(l.take k).length=k:=by simp;omega
  have hvl:v.length=ws.length:=by rw[hv];exact ZX (by rw[hlt];omega)
  by_cases h1:k<l.length
  ·have e1:decide ((k:Int)<((l.length:Nat):Int))=true:=by simp;omega
   have e2:wI (y.1+(k:Int))=((i+k:Nat):Int):=by rw[hi,Xd (by omega) (by omega)];simp
   have e3:wI ((k:Int)+1)=((k+1:Nat):Int):=by rw[Xd (by omega) (by omega)];simp
   rw[e1,We,Yg (by omega) (by omega),Xa,e2,Yg (by omega) (by omega),Xa,e3]
   refine Xfl y i N ws hi h (by unfold BIG;omega) n (k+1) _ (by omega) (by omega) ?_
   rw[hv]
   simp only[U5]
   apply I8
   intro j
   have hlt2:(l.take (k+1)).length=k+1:=by simp only[WC];omega
   rw[Is,ZX (by omega),Xd9 (by omega),Xd9 (by omega),hlt,hlt2]
   by_cases hj:i+k=j
   ·subst hj
    rw[Wn rfl,Wn (by omega),Wn (by omega),W6,Wn (by omega),IS,Wb h1]
   ·rw[Wm hj]
    by_cases hj2:i<=j/\j<i+k
    ·rw[Wn hj2,Wn (by omega),W6,W6,Wn (by omega),Wn (by omega)]
    ·rw[Wm hj2,Wm (by omega)]
  ·have e1:decide ((k:Int)<((l.length:Nat):Int))=false:=by simp;omega
   rw[e1,Wa,hv,In (by omega)]
def Yq (ws:List Int) (a:Int) (k:Nat):Prop:=4096<=a/\a+k<=4096+ws.length
instance (ws:List Int) (a:Int) (k:Nat):Decidable (Yq ws a k):=by unfold Yq;infer_instance
def Jj {ws l:List Int} (hl:ws.length<=BIG) (h2:l.length<=BIG) {N:Nat} (hN:l.length<N) (a:Int):QcV N ws a l=some (if Yq ws a l.length then (ovr ws l (ix a),0) else ([],2)):=by
 simp only[QcV]
 rw[Xd8 hl N a _ (by unfold BIG at h2;omega),Xa]
 by_cases h:Yq ws a l.length
 ·have h3:4096<=a/\a<=4096+ws.length:=by unfold Yq at h;omega
  have h4:a+(l.length:Int)<=4096+ws.length:=by unfold Yq at h;omega
  simp only[Wn h,Wn h3,h4,decide_true,Ws,Wa]
  rw[Xf (by unfold BIG at hl;omega)]
  have:=Xfl (l:=l) (a-4096,true) (ix a) N ws (by unfold ix;simp;omega) (by unfold ix;omega) hl N 0 ws (by omega) (by omega) (by simp[ovr])
  rw[show ((0:Nat):Int)=0 from rfl] at this
  rw[this,Xa]
 ·by_cases h3:4096<=a/\a<=4096+ws.length
  ·have h4:¬ a+(l.length:Int)<=4096+ws.length:=by unfold Yq at h;omega
   simp only[Wm h,Wn h3,h4,decide_false,WS,We]
  ·simp only[Wm h,Wm h3,WS,We]
def Xab {ws:List Int} (hl:ws.length<=BIG) {N:Nat} (hN:1<N) (a v:Int):QdJ N ws a v=some (if inW ws a then (ws.set (ix a) v,0) else ([],2)):=by
 simp only[QdJ]
 rw[Jj (l:=[v]) hl (by unfold BIG;simp) (by simpa using hN),Xa]
 by_cases h:inW ws a
 ·have h1:Yq ws a [v].length:=by unfold inW at h;unfold Yq;simp only[Uc,UG];omega
  simp only[Wn h,Wn h1]
  congr 2
  unfold ovr
  have hlt:ix a<ws.length:=by unfold inW at h;unfold ix;omega
  simp[List.set_eq_take_append_cons_drop,hlt]
 ·have h1:¬ Yq ws a [v].length:=by unfold inW at h;unfold Yq;simp only[Uc,UG];omega
  simp only[Wm h,Wm h1]
def Xbv {ws:List Int} (hl:ws.length<=BIG) (N:Nat) (a:Int) (k:Nat) (hk:k<=1000000000):Qc2 N ws a (k:Int)=some (if Yq ws a k then ((ws.drop (ix a)).take k,0) else ([],2)):=by
 simp only[Qc2]
 have e1:decide ((k:Int)<0)=false:=Wk (by omega)
 rw[e1,Wa,Xd8 hl N a _ (by omega),Xa]
 unfold BIG at hl
 by_cases h:Yq ws a k
 ·have h3:4096<=a/\a<=4096+ws.length:=by unfold Yq at h;omega
  have h4:a+(k:Int)<=4096+ws.length:=by unfold Yq at h;omega
  simp only[Wn h,Wn h3,h4,decide_true,Ws,Wa]
  rw[Xd (n:=a-4096+(k:Int)) (by omega) (by omega),Xf (by omega),Xf (by omega)]
  have e2:(a-4096+(k:Int)).toNat-(a-4096).toNat=k:=by omega
  rw[e2];rfl
 ·by_cases h3:4096<=a/\a<=4096+ws.length
  ·have h4:¬ a+(k:Int)<=4096+ws.length:=by unfold Yq at h;omega
   simp only[Wm h,Wn h3,h4,decide_false,WS,We]
  ·simp only[Wm h,Wm h3,WS,We]
def XnJ {ws:List Int} (hl:ws.length<=BIG) {N:Nat} (to a:Int) (k:Nat) (hk:k<=1000000000) (hN:k<N):QfC N ws to a (k:Int) =
 some (if Yq ws a k/\Yq ws to k then (ovr ws ((ws.drop (ix a)).take k) (ix to),0) else ([],2)):=by
 simp only[QfC]
 rw[Xbv hl N a k hk,Xa]
 by_cases h:Yq ws a k
 ·have hlen:((ws.drop (ix a)).take k).length=k:=by unfold Yq at h;simp[ix];omega
  simp only[Wn h]
  rw[show ((0:Int) != 0)=false from rfl,Wa,Jj hl (by rw[hlen];unfold BIG;omega) (by rw[hlen];exact hN),Xa,hlen]
  by_cases h2:Yq ws to k
  ·rw[Wn h2,Wn ⟨h,h2⟩]
  ·rw[Wm h2,Wm (λ h3=>h2 h3.2)]
 ·simp only[Wm h]
  rw[show ((2:Int) != 0)=true from rfl,We,Wm (λ h3=>h h3.1)]
def XD (d:WI):Bool:=decide (0<=d.Kind/\d.Kind<=3/\0<=d.Length/\d.Length<=255)&&(if d.Kind=1 then decide (d.Length<=32)&&decide (d.Map % 18446744073709551616<2 ^ d.Length.toNat) else decide (d.Map=0))
def Zg (N:Nat) (d:WI):QcU N d=some (XD d):=by
 simp only[QcU,UI,XD]
 by_cases h1:d.Kind<0
 ·rw[Wn h1,Wk (by omega),W5]
 rw[Wm h1]
 by_cases h2:d.Kind>3
 ·rw[Wn h2,Wk (by omega),W5]
 rw[Wm h2]
 by_cases h3:d.Length<0
 ·rw[Wn h3,Wk (by omega),W5]
 rw[Wm h3]
 by_cases h4:d.Length>255
 ·rw[Wn h4,Wk (by omega),W5]
 rw[Wm h4,Wj (p:=0<=d.Kind/\d.Kind<=3/\0<=d.Length/\d.Length<=255) (by omega),WA]
 by_cases h5:d.Kind=1
 ·rw[Wn h5,h5,show ((1:Int) != 1)=false from rfl,Wa]
  by_cases h6:d.Length<=32
  ·rw[Wn h6,XC (n:=d.Length) (by omega) (by omega),Xf (by omega),XkO (by omega) (by omega),Xdb,Wj h6,WA]
  ·rw[Wm h6,Wk h6,W5]
 ·have:(d.Kind != 1)=true:=by simpa using h5
  rw[Wm h5,this,We]
  congr 1
def XH {d:WI} (h:XD d=true):0<=d.Kind/\d.Kind<=3/\0<=d.Length/\d.Length<=255:=by
 unfold XD at h
 simp only[Ww,decide_eq_true_eq] at h
 exact h.1
def X1 (d:WI):Int:=if XD d then d.Length+1 else 0
def YB (N:Nat) (d:WI):QcB N d=some (X1 d):=by
 simp only[QcB,Zg,Xa,X1]
 cases h:XD d with
 | false=>rfl
 | true=>have:=XH h;simp[Xd (n:=d.Length+1) (by omega) (by omega)]
def XkR (d:WI):0<=X1 d/\X1 d<=256:=by
 unfold X1
 split
 ·rename_i h;have:=XH h;omega
 ·omega
def XaS (d:WI):Int:=wU (wU (wU (1+wU (4*wU d.Kind))+wU (16*wU d.Length))+K4 .u64 (wU d.Map) 16)
def Xac (N:Nat) (d:WI):Qc1 N d=some (if XD d then (XaS d,0) else (0,1)):=by
 simp only[Qc1,Zg,Xa]
 cases h:XD d<;>rfl
def VP (w:Int):WI:=⟨wI (YF .u64 (Yf .u64 w 2) 3),wI (YF .u64 (Yf .u64 w 4) 4095),wW (Yf .u64 w 16)⟩
def okH (w:Int):Bool:=XD (VP w)&&(XaS (VP w)==w)
def Z9 (w:Int):WI:=if okH w then VP w else ⟨0,0,0⟩
def Xad (N:Nat) (w:Int):Qb2 N w=some (Z9 w,okH w):=by
 show Qb2 N w=_
 simp only[Qb2]
 rw[Xac N (WI.mk _ _ _),Xa]
 show _=some (Z9 w,okH w)
 unfold Z9 okH VP
 cases h:XD (VP w) with
 | false=>unfold VP at h;simp only[h];rfl
 | true =>
  unfold VP at h
  simp only[h,if_true,WA]
  rw[show ((0:Int) != 0)=false from rfl,Wa]
  by_cases h2:XaS ⟨wI (YF .u64 (Yf .u64 w 2) 3),wI (YF .u64 (Yf .u64 w 4) 4095),wW (Yf .u64 w 16)⟩=w
  ·simp[h2]
  ·rw[show (XaS ⟨wI (YF .u64 (Yf .u64 w 2) 3),wI (YF .u64 (Yf .u64 w 4) 4095),wW (Yf .u64 w 16)⟩ != w)=true by simpa using h2,show (XaS ⟨wI (YF .u64 (Yf .u64 w 2) 3),wI (YF .u64 (Yf .u64 w 4) 4095),wW (Yf .u64 w 16)⟩==w)=false by simpa using h2]
   rfl
def ZY (w:Int):XD (Z9 w)=true:=by
 unfold Z9
 split
 ·rename_i h;unfold okH at h;simp only[Ww] at h;exact h.1
 ·rfl
def Xdc (w:Int):X1 (Z9 w)=(Z9 w).Length+1/\1<=X1 (Z9 w)/\X1 (Z9 w)<=256:=by
 have h:=ZY w
 have:=XH h
 unfold X1
 rw[Wn h]
 omega
def ZK (d:WI) (i:Int):Bool:=XD d&&(decide (0<=i/\i<d.Length)&&(decide (d.Kind=2)||(decide (d.Kind=1)&&(YF .u32 (Yf .u32 d.Map (wU i)) 1==1))))
def JA (N:Nat) (d:WI) (i:Int):QbN N d i=some (ZK d i):=by
 simp only[QbN,Zg,Xa,ZK,UI]
 cases h:XD d with
 | false=>rfl
 | true =>
  simp only[Ws,Wa,WA]
  by_cases h1:i<0
  ·rw[Wn h1,Wk (by omega),W5]
  rw[Wm h1]
  by_cases h2:i>=d.Length
  ·rw[Wn h2,Wk (by omega),W5]
  rw[Wm h2,Wj (p:=0<=i/\i<d.Length) (by omega),WA,Xf (Xb4 i).1]
  by_cases h3:d.Kind=2
  ·simp[h3]
  ·by_cases h4:d.Kind=1
   ·simp[h4]
   ·have e1:(d.Kind==2)=false:=by simpa using h3
    have e2:(d.Kind==1)=false:=by simpa using h4
    simp[e1,e2,h3,h4]
def X7 (d:WI):Nat->Int->List Int
 | 0,_=>[]
 | k+1,i=>(if ZK d i then [i] else [])++X7 d k (i+1)
def Y9 (d:WI):List Int:=if XD d then X7 d d.Length.toNat 0 else []
def JB {d:WI}:∀ {k:Nat} {i x:Int},x∈X7 d k i->i<=x/\x<i+k/\ZK d x=true
 | 0,i,x,h=>by simp[X7] at h
 | k+1,i,x,h=>by
  simp only[X7,WK] at h
  rcases h with h | h
  ·split at h
   ·rename_i hp;simp at h;subst h;exact ⟨by omega,by omega,hp⟩
   ·simp at h
  ·have:=JB h;exact ⟨by omega,by omega,this.2.2⟩
def JC {d:WI}:∀ {k:Nat} {i:Int},(X7 d k i).length<=k
 | 0,i=>by simp[X7]
 | k+1,i=>by
  have:=JC (d:=d) (k:=k) (i:=i+1)
  simp only[X7,Wp]
  split<;>simp<;>omega
def J4 (N:Nat) (d:WI) (hv:XD d=true):∀ (n:Nat) (i:Int) (v:List Int),0<=i->i<=d.Length->(d.Length-i).toNat<n->v.length<=1000-(d.Length-i).toNat->v.length+(d.Length-i).toNat<=1000 ->
 QbY N d n i v=some (v++X7 d (d.Length-i).toNat i)
 | 0,i,v,_,_,h,_,_=>by omega
 | n+1,i,v,h0,h1,h2,h3,h4=>by
  have hb:=XH hv
  rw[QbY]
  by_cases h:i<d.Length
  ·obtain ⟨k,hk⟩:∃ k,(d.Length-i).toNat=k+1:=⟨(d.Length-i).toNat-1,by omega⟩
   have hk2:(d.Length-(i+1)).toNat=k:=by omega
   rw[Wj h,We,Zg,Xa,hv,We,JA,Xa,hk,Xd (n:=i+1) (by omega) (by omega)]
   simp only[X7]
   cases hp:ZK d i with
   | true =>
    rw[We,Xf (by omega),J4 N d hv n (i+1) _ (by omega) (by omega) (by omega) (by rw[Wp];simp only[Uc,UG];omega) (by rw[Wp];simp only[Uc,UG];omega),hk2]
    simp
   | false =>
    rw[Wa,J4 N d hv n (i+1) _ (by omega) (by omega) (by omega) (by omega) (by omega),hk2]
    simp
  ·rw[Wk h,Wa,show (d.Length-i).toNat=0 by omega]
   simp[X7]
def XkS {N:Nat} (hN:300<N) (d:WI):Qfm N d=some (Y9 d):=by
 simp only[Qfm,Y9]
 cases hv:XD d with
 | true =>
  have hb:=XH hv
  rw[J4 N d hv N 0 [] (by omega) (by omega) (by omega) (by simp only[UG];omega) (by simp only[UG];omega),Xa]
  simp
 | false =>
  obtain ⟨n,rfl⟩:∃ n,N=n+1:=⟨N-1,by omega⟩
  rw[QbY,Zg,Xa,hv,Wa]
  cases h:decide ((0:Int)<d.Length)<;>simp[Xa]
def Xo2 (w:Int):Bool:=decide (w.tmod 4=2)&&decide (Yf .u64 w 2<4294967296)
def Xdd (N:Nat) (w:Int):QdS N w=some (if Xo2 w then (Yf .u64 w 2,true) else (0,false)):=by
 simp only[QdS,Xo2,UI]
 by_cases h1:w.tmod 4=2
 ·by_cases h2:Yf .u64 w 2>=4294967296
  ·have h3:¬ Yf .u64 w 2<4294967296:=by omega
   simp[h1,h2,h3]
  ·have h3:Yf .u64 w 2<4294967296:=by omega
   simp[h1,h2,h3]
 ·have:(w.tmod 4 != 2)=true:=by simpa using h1
  simp[this,h1]
def XgG (N:Nat) (a:Int):Qd2 N a=some (if a>=4294967296 then (0,1) else (wU (wU (4*a)+2),0)):=by
 simp only[Qd2,UI]
 split<;>rfl
def XZ (c:Um):Bool:=decide (16<=c.PageWords/\c.PageWords<=64/\c.PageWords % 4=0/\8<=c.Pages/\c.Pages<=64)
def Xj {c:Um}:XZ c=true↔16<=c.PageWords/\c.PageWords<=64/\c.PageWords % 4=0/\8<=c.Pages/\c.Pages<=64:=by simp[XZ]
def YC (N:Nat) (c:Um):Qax N c=some (XZ c):=by
 simp only[Qax,UI,XZ]
 by_cases h1:c.PageWords>=16
 ·rw[Wn h1]
  by_cases h2:c.PageWords<=64
  ·rw[Wn h2]
   have e:c.PageWords.tmod 4=c.PageWords % 4:=IG (by omega)
   rw[e]
   by_cases h3:c.PageWords % 4=0
   ·rw[h3,show ((0:Int)==0)=true from rfl,We]
    by_cases h4:c.Pages>=8
    ·rw[Wn h4]
     congr 1
     exact decide_eq_decide.2 (by omega)
    ·rw[Wm h4,Wk (by omega)]
   ·rw[show (c.PageWords % 4==0)=false by simpa using h3,Wa,Wk (by omega)]
  ·rw[Wm h2,Wk (by omega)]
 ·rw[Wm h1,Wk (by omega)]
def JN (c:Um):Int:=if XZ c then c.Pages / 4 else 0
def Xea (N:Nat) (c:Um):QfZ N c=some (JN c):=by
 simp only[QfZ,YC,Xa,JN]
 cases h:XZ c with
 | false=>rfl
 | true =>
  have:=Xj.1 h
  simp only[Ws,Wa,if_true]
  rw[Io (by omega),Xd (by omega) (by omega)]
def smC (c:Um):Int:=if XZ c then c.PageWords / 4 else 0
def Xhz (N:Nat) (c:Um):Qb1 N c=some (smC c):=by
 simp only[Qb1,YC,Xa,smC]
 cases h:XZ c with
 | false=>rfl
 | true =>
  have:=Xj.1 h
  simp only[Ws,Wa,if_true]
  rw[Io (by omega),Xd (by omega) (by omega)]
def XQ (c:Um) (w:Int):Int :=
 if XZ c=true/\1<=w then (if w<=c.PageWords / 4 then 0 else if c.PageWords>=w then 1 else if 2*c.PageWords>=w then 2 else if 3*c.PageWords>=w then 3 else if 4*c.PageWords>=w then 4 else -1) else -1
def Xbw (N:Nat) (c:Um) (w:Int) (hc:XZ c=true) (k:Int) (hk:1<=k/\k<=4) (n:Nat):QcA N c w (n+1) k=if k*c.PageWords>=w then some (.ret k) else QcA N c w n (k+1):=by
 have h:=Xj.1 hc
 have hm:0<=k*c.PageWords/\k*c.PageWords<=256:=by
  constructor
  ·exact Int.mul_nonneg (by omega) (by omega)
  ·have:=Int.mul_le_mul (a:=k) (b:=c.PageWords) (c:=4) (d:=64) (by omega) (by omega) (by omega) (by omega)
   omega
 rw[QcA,Wj (by omega),We,UI,Xd (n:=k*c.PageWords) (by omega) (by omega),Xd (n:=k+1) (by omega) (by omega)]
def Kl {N:Nat} (hN:10<=N) (c:Um) (w:Int):QeV N c w=some (XQ c w):=by
 simp only[QeV,YC,Xhz,Xa,XQ,smC]
 cases hc:XZ c with
 | false=>simp
 | true =>
  have h:=Xj.1 hc
  simp only[Ws,Wa,if_true,UI]
  by_cases h1:w<1
  ·rw[Wn h1,Wm (show ¬ (True/\1<=w) from λ h=>by omega)]
  rw[Wm h1,Wn (show True/\1<=w from ⟨trivial,by omega⟩)]
  by_cases h2:w<=c.PageWords / 4
  ·rw[Wn h2,Wn h2]
  rw[Wm h2,Wm h2]
  obtain ⟨n,rfl⟩:∃ n,N=n+5:=⟨N-5,by omega⟩
  rw[Xbw _ c w hc 1 (by omega),Xbw _ c w hc (1+1) (by omega),Xbw _ c w hc (1+1+1) (by omega),Xbw _ c w hc (1+1+1+1) (by omega)]
  rw[show QcA (n+5) c w (n+1) (1+1+1+1+1)=some (.nxt ()) by rw[QcA,Wk (by omega),Wa]]
  simp only[Oj,show (1:Int)+1=2 from rfl,show (2:Int)+1=3 from rfl,show (3:Int)+1=4 from rfl]
  by_cases h3:c.PageWords>=w
  ·simp only[Wn h3,Xa,Xl]
  simp only[Wm h3]
  by_cases h4:2*c.PageWords>=w
  ·simp only[Wn h4,Xa,Xl]
  simp only[Wm h4]
  by_cases h5:3*c.PageWords>=w
  ·simp only[Wn h5,Xa,Xl]
  simp only[Wm h5]
  by_cases h6:4*c.PageWords>=w
  ·simp only[Wn h6,Xa,Xl]
  ·simp only[Wm h6,Xa,Xk]
def KW (c:Um) (w:Int) : -1<=XQ c w/\XQ c w<=4:=by
 unfold XQ;repeat' split
 all_goals omega
def X5 {c:Um} (hc:XZ c=true) {i:Int} (h0:0<=i) (h1:i<c.Pages):0<=i*c.PageWords/\i*c.PageWords+c.PageWords<=c.Pages*c.PageWords/\c.Pages*c.PageWords<=4096:=by
 have h:=Xj.1 hc
 refine ⟨Int.mul_nonneg h0 (by omega),?_,?_⟩
 ·have:=UO (a:=i+1) (b:=c.Pages) (c:=c.PageWords) (by omega) (by omega)
  rw[IU] at this
  omega
 ·have:=Int.mul_le_mul (a:=c.Pages) (b:=c.PageWords) (c:=64) (d:=64) (by omega) (by omega) (by omega) (by omega)
  omega
def Xi (c:Um) (p o:Int):Int:=4096+p*c.PageWords+o
def Vp (N:Nat) (c:Um) (p o:Int):Qca N c p o=some (if XZ c=false then (0,1) else if 0<=p/\p<c.Pages/\0<=o/\o<c.PageWords then (Xi c p o,0) else (0,2)):=by
 simp only[Qca,YC,Xa,UI]
 cases hc:XZ c with
 | false=>simp
 | true =>
  have h:=Xj.1 hc
  simp only[Ws,Wa]
  rw[Wm (show ¬ (true=false) by simp)]
  by_cases h1:p<0
  ·rw[Wn h1,Wm (by omega)]
  rw[Wm h1]
  by_cases h2:p>=c.Pages
  ·rw[Wn h2,Wm (by omega)]
  rw[Wm h2]
  by_cases h3:o<0
  ·rw[Wn h3,Wm (by omega)]
  rw[Wm h3]
  by_cases h4:o>=c.PageWords
  ·rw[Wn h4,Wm (by omega)]
  rw[Wm h4,Wn (by omega)]
  have hm:=X5 hc (i:=p) (by omega) (by omega)
  rw[Xd (n:=p*c.PageWords) (by omega) (by omega),Xd (n:=4096+p*c.PageWords) (by omega) (by omega),Xd (n:=4096+p*c.PageWords+o) (by omega) (by omega),XC (by omega) (by omega)]
  rfl
def Xae (N:Nat) (c:Um) (a:Int):Qdr N c a=some (if XZ c=false then (0,0,1) else if 4096<=a/\a<4096+c.Pages*c.PageWords then ((a-4096) / c.PageWords,(a-4096) % c.PageWords,0) else (0,0,2)):=by
 simp only[Qdr,YC,Xa,UI]
 cases hc:XZ c with
 | false=>simp
 | true =>
  have h:=Xj.1 hc
  have hm:=X5 hc (i:=0) (by omega) (by omega)
  simp only[Ws,Wa]
  rw[Wm (show ¬ (true=false) by simp)]
  rw[Xd (n:=c.Pages*c.PageWords) (by omega) (by omega),Xd (n:=4096+c.Pages*c.PageWords) (by omega) (by omega),XC (n:=4096+c.Pages*c.PageWords) (by omega) (by omega)]
  by_cases h1:a<4096
  ·rw[Wn h1,Wm (by omega)]
  rw[Wm h1]
  by_cases h2:a>=4096+c.Pages*c.PageWords
  ·rw[Wn h2,Wm (by omega)]
  rw[Wm h2,Wn (by omega),Xf (by omega),Xf (by omega)]
  rw[XC (n:=a-4096) (by omega) (by omega),Xd (n:=a-4096) (by omega) (by omega),Io (by omega),IG (by omega)]
  have hd:0<=(a-4096) / c.PageWords:=Int.ediv_nonneg (by omega) (by omega)
  have hd2:(a-4096) / c.PageWords<=a-4096:=Int.ediv_le_self _ (by omega)
  rw[Xd (by omega) (by omega)]
def Xeb {c:Um} (hc:XZ c=true) {a:Int} (h1:4096<=a) (h2:a<4096+c.Pages*c.PageWords) :
 0<=(a-4096) / c.PageWords/\(a-4096) / c.PageWords<c.Pages/\0<=(a-4096) % c.PageWords/\(a-4096) % c.PageWords<c.PageWords/\a=Xi c ((a-4096) / c.PageWords) ((a-4096) % c.PageWords):=by
 have h:=Xj.1 hc
 refine ⟨Int.ediv_nonneg (by omega) (by omega),Int.ediv_lt_of_lt_mul (by omega) (by omega),Int.emod_nonneg _ (by omega),Int.emod_lt_of_pos _ (by omega),?_⟩
 have:=Int.mul_ediv_add_emod (a-4096) c.PageWords
 unfold Xi
 rw[Om] at this
 omega
def XnK {c:Um} (hc:XZ c=true) {p o:Int} (h0:0<=o) (h1:o<c.PageWords):(Xi c p o-4096) / c.PageWords=p/\(Xi c p o-4096) % c.PageWords=o:=by
 have h:=Xj.1 hc
 have e:Xi c p o-4096=o+c.PageWords*p:=by unfold Xi;rw[Om p];omega
 rw[e,Int.add_mul_ediv_left _ _ (by omega),Int.add_mul_emod_self_left,Int.ediv_eq_zero_of_lt h0 h1,Int.emod_eq_of_lt h0 h1]
 exact ⟨by omega,rfl⟩
def Xbe:WM:=⟨0,0,0,0⟩
def pg (ps:List WM) (i:Int):WM:=ps.getD i.toNat Xbe
def Yl {ps:List WM} {i:Int} {p:WM} (h:Xb ps i=some p):pg ps i=p:=by
 have:=(VE.1 h).2
 simp[pg,this]
def Zx {ps:List WM} {i:Int} (h0:0<=i) (h1:i<ps.length):Xb ps i=some (pg ps i):=by
 rw[Yg h0 h1]
 have:i.toNat<ps.length:=by omega
 simp[pg,List.getD,this]
def Xfm (N:Nat) (ps:List WM) (sp:Int) (hl:ps.length<=BIG):∀ (n:Nat) (c i:Int),0<=i->0<=c->c<=BIG*2->i<=BIG*2->(ps.length:Int)+c-i<=BIG*2->(ps.length-i).toNat<n ->
 Ok (QcN N ps sp n c i) λ r=>c<=r/\∀ m,0<=m->m<r-c->i+m<ps.length/\(pg ps (i+m)).Kind=3
 | 0,c,i,_,_,_,_,_,h=>by omega
 | n+1,c,i,h0,hc,hc2,hi,hs,hn=>by
  unfold BIG at *
  rw[QcN]
  refine Wo (λ h=>?_) λ h=>Wh ⟨Int.le_refl _,λ m h1 h2=>by omega⟩
  have h1:i<ps.length:=by simpa using h
  refine Ok.get h0 h1 λ p hp=>Wo (λ hk=>?_) λ hk=>Wh ⟨Int.le_refl _,λ m h1 h2=>by omega⟩
  refine Ok.get h0 h1 λ p' hp'=>Wo (λ hk2=>?_) λ hk=>Wh ⟨Int.le_refl _,λ m h1 h2=>by omega⟩
  rw[Xd (n:=c+1) (by omega) (by omega),Xd (n:=i+1) (by omega) (by omega)]
  refine (Xfm N ps sp (by unfold BIG;omega) n (c+1) (i+1) (by omega) (by omega) (by unfold BIG;omega) (by unfold BIG;omega) (by unfold BIG;omega) (by omega)).mono λ r hr=>⟨by omega,λ m h2 h3=>?_⟩
  by_cases hm:m=0
  ·subst hm;rw[Int.add_zero];exact ⟨h1,by rw[Yl hp];simpa using hk⟩
  ·have:=hr.2 (m-1) (by omega) (by omega)
   rw[show i+1+(m-1)=i+m by omega] at this
   exact this
def XkT {N:Nat} {ps:List WM} (sp i:Int) (hl:ps.length<N) (hl2:ps.length<=100000000) (h0:0<=i) (hi:i<=100000000):Ok (Qe7 N ps i sp) λ r=>0<=r/\∀ m,1<=m->m<=r->i+m<ps.length/\(pg ps (i+m)).Kind=3:=by
 rw[Qe7,Xd (n:=i+1) (by omega) (by omega)]
 refine WN (Xfm N ps sp (by unfold BIG;omega) N 0 (i+1) (by omega) (by omega) (by unfold BIG;omega) (by unfold BIG;omega) (by unfold BIG;omega) (by omega)) λ r _ h=>Wh ⟨h.1,λ m h1 h2=>?_⟩
 have:=h.2 (m-1) (by omega) (by omega)
 rwa[show i+1+(m-1)=i+m by omega] at this
def Xbx (N:Nat) (n:Int):Qg5 N n=some (decide (0<=n/\n<=2147483647)):=by
 simp only[Qg5,UI]
 split
 ·congr 1;exact decide_eq_decide.2 (by omega)
 ·rw[Wk (by omega)]
structure OJ (h:Wv) (i:Int):Prop where
 kind:0<=(pg h.Pages i).Kind/\(pg h.Pages i).Kind<=3
 space:0<=(pg h.Pages i).Space/\(pg h.Pages i).Space<=1
 pins:0<=(pg h.Pages i).Pins/\(pg h.Pages i).Pins<=2147483647
 free:(pg h.Pages i).Kind=0->pg h.Pages i=Xbe
 small:(pg h.Pages i).Kind=1->0<=(pg h.Pages i).Used/\(pg h.Pages i).Used<=h.Conf.PageWords
 large:(pg h.Pages i).Kind=2->1<=XQ h.Conf (pg h.Pages i).Used/\∀ m,1<=m->m<XQ h.Conf (pg h.Pages i).Used->i+m<h.Pages.length/\(pg h.Pages (i+m)).Kind=3
structure UR (h:Wv):Prop where
 conf:XZ h.Conf=true
 words:(h.Words.length:Int)=h.Conf.Pages*h.Conf.PageWords
 pages:(h.Pages.length:Int)=h.Conf.Pages
 space:0<=h.Space/\h.Space<=1
 bump:h.Bump = -1\/(0<=h.Bump/\h.Bump<h.Pages.length/\(pg h.Pages h.Bump).Kind=1)
 pgs:∀ i:Int,0<=i->i<h.Pages.length->OJ h i
 first:(pg h.Pages 0).Kind≠3
def PL (h:Wv) (i:Int):Ex Bool Unit->Prop
 | .ret a=>a=false
 | .nxt _=>(∀ j,i<=j->j<h.Pages.length->OJ h j)/\(i=0->(0:Int)<h.Pages.length->(pg h.Pages 0).Kind≠3)
def Xde {N:Nat} {h:Wv} (hc:XZ h.Conf=true) (hN:100000<N) (hl:(h.Pages.length:Int)=h.Conf.Pages):∀ (n:Nat) (due i:Int),0<=i->0<=due->due<=4->(h.Pages.length-i).toNat<n->(i=0->due=0) ->
 Ok (Qau N h n due i) (PL h i)
 | 0,due,i,_,_,_,hn,_=>by omega
 | n+1,due,i,h0,hd,hd4,hn,hi0=>by
  have hv:=Xj.1 hc
  rw[Qau]
  refine Wo (λ h1=>?_) λ h1=>Wh ⟨λ j hj hj2=>?_,λ hi hpos=>?_⟩
  rotate_left
  ·have:¬ i<h.Pages.length:=by simpa using h1
   omega
  ·have:¬ i<h.Pages.length:=by simpa using h1
   omega
  have hlt:i<h.Pages.length:=by simpa using h1
  refine Ok.get h0 hlt λ p hp=>?_
  have hpg:=Yl hp
  refine Wo (λ _=>Wh rfl) λ g1=>?_
  refine Wo (λ _=>Wh rfl) λ g2=>?_
  refine Wo (λ _=>Wh rfl) λ g3=>?_
  rw[Xbx,Xa]
  refine Wo (λ _=>Wh rfl) λ g4=>?_
  simp only[Bool.not_eq_false',beq_iff_eq,Ub,decide_eq_true_eq,Int.not_lt,Int.not_le] at g1 g2 g3 g4
  have hk3:p.Kind=3↔0<due:=by
   have e:(p.Kind==3)=decide (due>0):=g1
   by_cases hx:p.Kind=3
   ·have:(p.Kind==3)=true:=by simpa using hx
    rw[this] at e
    have:=Wq e.symm
    exact ⟨λ _=>this,λ _=>hx⟩
   ·have:(p.Kind==3)=false:=by simpa using hx
    rw[this] at e
    have:=WG e.symm
    exact ⟨λ h=>absurd h hx,λ h=>absurd h this⟩
  have next:∀ (due':Int),0<=due'->due'<=4->OJ h i->Ok (Qau N h n (if 0<wI (due'-1) then wI (due'-1) else 0) (wI (i+1))) (PL h i):=by
   intro due' hd1 hd2 hok
   rw[Xd (n:=i+1) (by omega) (by omega),Xd (n:=due'-1) (by omega) (by omega)]
   refine (Xde hc hN hl n _ (i+1) (by omega) (by split<;>omega) (by split<;>omega) (by omega) (by omega)).mono λ e he=>?_
   cases e with
   | ret a=>exact he
   | nxt b =>
   obtain ⟨k1,k2⟩:=he
   refine ⟨λ j hj hj2=>?_,λ hi hpos hk=>?_⟩
   ·by_cases hji:j=i
    ·subst hji;exact hok
    ·exact k1 j (by omega) hj2
   ·subst hi
    rw[hpg] at hk
    have:=hk3.1 hk
    have:=hi0 rfl
    omega
  refine IB ?_
  refine Wo (λ q0=>Wo (λ _=>Wh rfl) λ q1=>?_) λ q0=>IB (Wo (λ q1=>Wo (λ _=>Wh rfl) λ q2=>Wo (λ _=>Wh rfl) λ q3=>?_) λ q1=>IB (Wo (λ q2=>?_) λ q2=>Wo (λ q3=>Wo (λ _=>Wh rfl) λ q4=>Wo (λ _=>Wh rfl) λ q5=>?_) λ q3=>Wh rfl))
  ·refine next due hd hd4 ?_
   have hk:p.Kind=0:=by simpa using q0
   simp only[Bool.not_eq_false',Ww,beq_iff_eq] at q1
   have hz:pg h.Pages i=Xbe:=by
    rw[hpg];cases p;simp only at q1;obtain ⟨rfl,rfl,rfl,rfl⟩:=q1;rfl
   refine ⟨by rw[hz];decide,by rw[hz];decide,by rw[hz];decide,λ _=>hz,λ e=>?_,λ e=>?_⟩
   ·rw[hz] at e;cases e
   ·rw[hz] at e;cases e
  ·refine next due hd hd4 ?_
   have hk:p.Kind=1:=by simpa using q1
   simp only[Ub,Int.not_lt] at q2 q3
   exact ⟨by rw[hpg];omega,by rw[hpg];omega,by rw[hpg];omega,λ e=>by rw[hpg] at e;omega,λ _=>by rw[hpg];omega,λ e=>by rw[hpg] at e;omega⟩
  ·have hk:p.Kind=2:=by simpa using q2
   rw[Kl (by omega),Xa]
   refine Wo (λ _=>Wh rfl) λ q3=>?_
   refine WN (XkT (N:=N) (ps:=h.Pages) p.Space i (by omega) (by omega) h0 (by omega)) λ t _ ht=>?_
   refine Wo (λ _=>Wh rfl) λ q4=>?_
   have hr:=KW h.Conf p.Used
   have hn1:1<=XQ h.Conf p.Used:=by have:=WG q3;omega
   have hn2:XQ h.Conf p.Used-1<=t:=by
    have:=WG q4
    rw[Xd (by omega) (by omega)] at this
    omega
   refine next _ (by omega) (by omega) ?_
   exact ⟨by rw[hpg];omega,by rw[hpg];omega,by rw[hpg];omega,λ e=>by rw[hpg] at e;omega,λ e=>by rw[hpg] at e;omega,λ _=>by rw[hpg];exact ⟨hn1,λ m h1 h2=>ht.2 m h1 (by omega)⟩⟩
  ·refine next due hd hd4 ?_
   have hk:p.Kind=3:=by simpa using q3
   exact ⟨by rw[hpg];omega,by rw[hpg];omega,by rw[hpg];omega,λ e=>by rw[hpg] at e;omega,λ e=>by rw[hpg] at e;omega,λ e=>by rw[hpg] at e;omega⟩
def Yr {N:Nat} (hN:100000<N) {h:Wv} (hw:h.Words.length<=100000) (hp:h.Pages.length<=100000):Ok (Qab N h) λ b=>b=true->UR h:=by
 rw[Qab,YC,Xa]
 refine Wo (λ _=>Wh λ e=>by cases e) λ g1=>?_
 have hc:XZ h.Conf=true:=by simpa using g1
 have hv:=Xj.1 hc
 have hm:=X5 hc (i:=0) (by omega) (by omega)
 refine Wo (λ _=>Wh λ e=>by cases e) λ g2=>?_
 refine Wo (λ _=>Wh λ e=>by cases e) λ g3=>?_
 refine Wo (λ _=>Wh λ e=>by cases e) λ g4=>?_
 refine Wo (λ _=>Wh λ e=>by cases e) λ g5=>?_
 have e2:(h.Words.length:Int)=h.Conf.Pages*h.Conf.PageWords:=by
  have:(h.Words.length:Int)=wI (h.Conf.Pages*h.Conf.PageWords):=by simpa using g2
  rwa[Xd (by omega) (by omega)] at this
 have e3:(h.Pages.length:Int)=h.Conf.Pages:=by simpa using g3
 have e4:0<=h.Space/\h.Space<=1:=⟨by simpa using g4,by simpa using g5⟩
 have main:(h.Bump = -1\/(0<=h.Bump/\h.Bump<h.Pages.length/\(pg h.Pages h.Bump).Kind=1))->Ok (bnd (Qau N h N 0 0) λ e=>exK e (λ r=>some r) λ y12=>some true) λ b=>b=true->UR h:=by
  intro hb
  refine IW (Xde (N:=N) (h:=h) hc hN e3 N 0 0 (by omega) (by omega) (by omega) (by omega) (by omega)) (λ a hq=>?_) λ b hq=>Wh λ _=>?_
  ·have ha:a=false:=hq
   subst ha
   exact Wh λ e=>by cases e
  ·obtain ⟨k1,k2⟩:=hq
   exact ⟨hc,e2,e3,e4,hb,k1,k2 rfl (by omega)⟩
 refine IB (Wo (λ b1=>Wo (λ _=>Wh λ e=>by cases e) λ b2=>Wo (λ _=>Wh λ e=>by cases e) λ b3=>?_) λ b1=>main (.inl (by simpa using b1)))
 have h2:0<=h.Bump:=by simpa using b2
 have h3:h.Bump<h.Pages.length:=by simpa using b3
 refine Ok.get h2 h3 λ p hp=>Wo (λ _=>Wh λ e=>by cases e) λ b4=>main (.inr ⟨h2,h3,?_⟩)
 rw[Yl hp];simpa using b4
def dlt {a b:Int} (h:decide (a<b)=true):a<b:=Wq h
def VQ {ps:List WM} {i j:Int} (p:WM) (hi:0<=i) (hi2:i<ps.length) (hj:0<=j):pg (ps.set i.toNat p) j=if j=i then p else pg ps j:=by
 unfold pg
 simp only[Wr,Is]
 by_cases h:j=i
 ·subst h;rw[Wn rfl,Wn rfl,Wn (by omega)];rfl
 ·rw[Wm (by omega),Wm h]
def Xb8 (N:Nat) (ps:List WM) (hl:ps.length<=100000000):∀ (n:Nat) (c i:Int),0<=i->0<=c->c<=i->i<=ps.length->(ps.length-i).toNat<n->Ok (Qdz N ps n c i) λ r=>0<=r/\r<=ps.length
 | 0,c,i,_,_,_,_,h=>by omega
 | n+1,c,i,h0,hc,hci,hi,hn=>by
  rw[Qdz]
  refine Wo (λ h=>?_) λ h=>Wh ⟨hc,by omega⟩
  have h1:i<ps.length:=dlt h
  refine Ok.get h0 h1 λ p hp=>?_
  rw[Xd (n:=c+1) (by omega) (by omega),Xd (n:=i+1) (by omega) (by omega)]
  refine Wo (λ _=>?_) λ _=>?_
  ·exact Xb8 N ps hl n (c+1) (i+1) (by omega) (by omega) (by omega) (by omega) (by omega)
  ·exact Xb8 N ps hl n c (i+1) (by omega) (by omega) (by omega) (by omega) (by omega)
def Xb9 {N:Nat} {ps:List WM} (hl:ps.length<=100000000) (hN:ps.length<N):Ok (Qf0 N ps) λ r=>0<=r/\r<=ps.length :=
 WN (Xb8 N ps hl N 0 0 (by omega) (by omega) (by omega) (by omega) (by omega)) λ r _ h=>Wh h
def RunOK (ps:List WM) (i k:Int):Prop:=0<=i/\1<=k/\i+k<=ps.length/\∀ m,0<=m->m<k->(pg ps (i+m)).Kind=0
def Xby (N:Nat) (ps:List WM) (hl:ps.length<=100000000):∀ (n:Nat) (i:Int) (rs:List Ox),0<=i->i<=ps.length->(ps.length-i).toNat<n->rs.length<=i->(∀ r∈rs,RunOK ps r.From r.Len) ->
 Ok (QcD N ps n i rs) λ out=>out.length<=ps.length/\∀ r∈out,RunOK ps r.From r.Len
 | 0,i,rs,_,_,h,_,_=>by omega
 | n+1,i,rs,h0,hi,hn,hlen,hrs=>by
  rw[QcD]
  refine Wo (λ h=>?_) λ h=>Wh ⟨by omega,hrs⟩
  have h1:i<ps.length:=dlt h
  refine Ok.get h0 h1 λ p hp=>?_
  have hpg:=Yl hp
  rw[Xd (n:=i+1) (by omega) (by omega)]
  refine Wo (λ _=>Xby N ps hl n (i+1) rs (by omega) (by omega) (by omega) (by omega) hrs) λ hk=>?_
  have hk:p.Kind=0:=by simpa using hk
  have new:Ok (grd ((rs.length+1)*16<=140737488355328) (QcD N ps n (i+1) (rs++[Ox.mk i 1]))) λ out=>out.length<=ps.length/\∀ r∈out,RunOK ps r.From r.Len:=by
   refine WY (by omega) (Xby N ps hl n (i+1) _ (by omega) (by omega) (by omega) (by rw[Wp];simp only[Uc,UG];omega) λ r hr=>?_)
   rcases WK.1 hr with hr | hr
   ·exact hrs r hr
   ·have:r=Ox.mk i 1:=by simpa using hr
    subst this
    refine ⟨h0,by show (1:Int)<=1;omega,by show i+1<=_;omega,λ m h1 h2=>?_⟩
    have h2:m<1:=h2
    have:m=0:=by omega
    subst this
    show (pg ps (i+0)).Kind=0
    rw[Int.add_zero,hpg];exact hk
  refine WY (by omega) (IB (Wo (λ hp1=>?_) λ _=>new))
  have hp1:0<(rs.length:Int):=Wq hp1
  rw[Xd (n:=((rs.length:Nat):Int)-1) (by omega) (by omega)]
  refine Ok.get (by omega) (by omega) λ q hq=>Ok.get (by omega) (by omega) λ q' hq'=>?_
  obtain rfl:q=q':=Ug (hq.symm.trans hq')
  have hqm:=hrs q (Yo hq)
  have hb:=hqm.2.2.1
  rw[Xd (n:=q.From+q.Len) (by have:=hqm.1;have:=hqm.2.1;omega) (by omega)]
  refine Wo (λ he=>?_) λ _=>new
  have he:q.From+q.Len=i:=by simpa using he
  refine Ok.get (by omega) (by omega) λ q2 hq2=>Ok.get (by omega) (by omega) λ q3 hq3=>?_
  obtain rfl:q=q2:=Ug (hq.symm.trans hq2)
  obtain rfl:q=q3:=Ug (hq.symm.trans hq3)
  have:=hqm.1
  have:=hqm.2.1
  rw[Xd (n:=q.Len+1) (by omega) (by omega)]
  refine Xby N ps hl n (i+1) _ (by omega) (by omega) (by omega) (by rw[Wx];omega) λ r hr=>?_
  rcases UK hr with hr | hr
  ·exact hrs r hr
  ·subst hr
   refine ⟨hqm.1,by show 1<=q.Len+1;omega,by show q.From+(q.Len+1)<=_;omega,λ m h1 h2=>?_⟩
   show (pg ps (q.From+m)).Kind=0
   have h2:m<q.Len+1:=h2
   by_cases hm:m<q.Len
   ·exact hqm.2.2.2 m h1 hm
   ·have:q.From+m=i:=by omega
    rw[this,hpg];exact hk
def XnL {N:Nat} {ps:List WM} (hl:ps.length<=100000000) (hN:ps.length<N):Ok (QhE N ps) λ out=>out.length<=ps.length/\∀ r∈out,RunOK ps r.From r.Len :=
 WN (Xby N ps hl N 0 [] (by omega) (by omega) (by omega) (by simp) (by simp)) λ r _ h=>Wh h
def RunOK.less {ps:List WM} {i k j:Int} (h:RunOK ps i k) (h1:1<=j) (h2:j<=k):RunOK ps i j:=⟨h.1,h1,by have:=h.2.2.1;omega,λ m a b=>h.2.2.2 m a (by omega)⟩
def Xfn (N:Nat) (ps:List WM) (k:Int) (rs:List Ox) (hl:rs.length<=100000000) (hrs:∀ r∈rs,RunOK ps r.From r.Len):∀ (n:Nat) (i:Int),0<=i->i<=rs.length->(rs.length-i).toNat<n ->
 Ok (Qdu N k rs n i) λ e=>∀ a,e=.ret a->RunOK ps a k
 | 0,i,_,_,h=>by omega
 | n+1,i,h0,hi,hn=>by
  rw[Qdu]
  refine Wo (λ h=>?_) λ h=>Wh λ a e=>by cases e
  have h1:i<rs.length:=dlt h
  rw[Xd (n:=i+1) (by omega) (by omega)]
  have next:=Xfn N ps k rs hl hrs n (i+1) (by omega) (by omega) (by omega)
  refine Wo (λ hk=>?_) λ _=>next
  refine Ok.get h0 h1 λ p hp=>Wo (λ hk2=>?_) λ _=>next
  refine Ok.get h0 h1 λ p' hp'=>Wh λ a e=>?_
  obtain rfl:p=p':=Ug (hp.symm.trans hp')
  cases e
  have hk:1<=k:=Wq hk
  have hk2:k<=p.Len:=Wq hk2
  exact (hrs p (Yo hp)).less hk hk2
def KJ {N:Nat} {ps:List WM} (k:Int) (hl:ps.length<=100000000) (hN:ps.length<N):Ok (QcW N ps k) λ i=>i = -1\/RunOK ps i k:=by
 refine WN (XnL hl hN) λ rs _ h=>?_
 refine IW (Xfn N ps k rs (by omega) h.2 N 0 (by omega) (by omega) (by omega)) (λ a q=>Wh (.inr (q a rfl))) λ _ _=>Wh (.inl rfl)
def Taken (ps out:List WM) (i k:Int) (first rest:WM):Prop:=out.length=ps.length/\∀ j,0<=j->pg out j=if j=i then first else if i<=j/\j<i+k then rest else pg ps j
def XhA (N:Nat) (ps:List WM) (i k:Int) (f r:WM) (hl:ps.length<=100000000) (hi:0<=i) (hk:i+k<=ps.length):∀ (n:Nat) (m:Int) (v:List WM),0<=m->(m<=k\/m=0)->(k-m).toNat<n->v.length=ps.length->(∀ j,0<=j->pg v j=if i<=j/\j<i+m then r else pg ps j) ->
 Ok (Qdj N i k f r n m v) λ e=>(∀ o,e=.nxt o->o.length=ps.length/\∀ j,0<=j->pg o j=if i<=j/\j<i+k then r else pg ps j)/\(∀ o,e=.ret o->o.2=20/\o.1=[])/\((∀ j,m<=j->j<k->(pg ps (i+j)).Kind=0)->∀ o,e≠.ret o)
 | 0,m,v,_,_,h,_,_=>by omega
 | n+1,m,v,h0,hm,hn,hv,hpg=>by
  rw[Qdj]
  refine Wo (λ h=>?_) λ h=>Wh ⟨λ o e=>?_,λ o e=>(by cases e),λ _ o e=>(by cases e)⟩
  rotate_left
  ·cases e
   have:¬ m<k:=WG h
   refine ⟨hv,λ j hj=>?_⟩
   rw[hpg j hj]
   by_cases hc:i<=j/\j<i+m
   ·rw[Wn hc,Wn (by omega)]
   ·rw[Wm hc,Wm (by omega)]
  have h1:m<k:=dlt h
  rw[Xd (n:=i+m) (by omega) (by omega),Xd (n:=m+1) (by omega) (by omega)]
  refine Ok.get (by omega) (by omega) λ p hp=>?_
  have hpk:p=pg ps (i+m):=by rw[← Yl hp,hpg _ (by omega),Wm (by omega)]
  refine Wo (λ hk2=>Wh ⟨λ o e=>(by cases e),λ o e=>(by cases e;exact ⟨rfl,rfl⟩),λ hall=>?_⟩) λ hk2=>?_
  ·have:=hall m (by omega) h1
   rw[← hpk] at this
   simp[this] at hk2
  refine Ok.get (by omega) (by omega) λ p' hp'=>?_
  refine (XhA N ps i k f r hl hi hk n (m+1) _ (by omega) (by omega) (by omega) (by rw[Wx];exact hv) λ j hj=>?_).mono λ e he=>⟨he.1,he.2.1,λ hall=>he.2.2 λ j a b=>hall j (by omega) b⟩
  rw[VQ r (by omega) (by omega) hj,hpg j hj]
  by_cases hc:j=i+m
  ·rw[Wn hc,Wn (by omega)]
  ·rw[Wm hc]
   by_cases hd:i<=j/\j<i+m
   ·rw[Wn hd,Wn (by omega)]
   ·rw[Wm hd,Wm (by omega)]
def XhB {N:Nat} {ps:List WM} (i k:Int) (f r:WM) (hl:ps.length<=1000000) (hN:1000000<N) (hk1:1<=k) (hk2:k<=1000000):Ok (Qeh N ps i k f r) λ o=>(o.2=0->0<=i/\i+k<=ps.length/\Taken ps o.1 i k f r)/\(o.2≠0->o.1=[])/\(RunOK ps i k->o.2=0):=by
 rw[Qeh]
 refine Wo (λ h=>Wh ⟨λ e=>(by cases e),λ _=>rfl,λ hr=>?_⟩) λ h1=>?_
 ·have:=Wq h;have:=hr.1;omega
 have h1:¬ i<0:=WG h1
 refine Wo (λ h=>Wh ⟨λ e=>(by cases e),λ _=>rfl,λ hr=>?_⟩) λ h2=>?_
 ·have:=Wq h;have:=hr.2.2.1;omega
 have h2:¬ i>=(ps.length:Int):=WG h2
 rw[Xd (n:=((ps.length:Nat):Int)-i) (by omega) (by omega)]
 refine Wo (λ h=>Wh ⟨λ e=>(by cases e),λ _=>rfl,λ hr=>?_⟩) λ h3=>?_
 ·have:=Wq h;have:=hr.2.2.1;omega
 have h3:¬ k>(ps.length:Int)-i:=WG h3
 refine WY (by omega) (IW (XhA N ps i k f r (by omega) (by omega) (by omega) N 0 ps (by omega) (by omega) (by omega) rfl λ j hj=>(by rw[Wm (by omega)])) (λ a q=>?_) λ o q=>?_)
 ·obtain ⟨e1,e2⟩:=q.2.1 a rfl
  refine Wh ⟨λ e=>(by rw[e1] at e;cases e),λ _=>e2,λ hr=>?_⟩
  exact absurd rfl (q.2.2 (λ j a b=>hr.2.2.2 j a b) a)
 ·obtain ⟨e1,e2⟩:=q.1 o rfl
  refine Ok.get (by omega) (by omega) λ p hp=>Wh ⟨λ _=>⟨by omega,by omega,⟨by rw[Wx];exact e1,λ j hj=>?_⟩⟩,λ e=>absurd rfl e,λ _=>rfl⟩
  rw[VQ f (by omega) (by omega) hj,e2 j hj]
def Xfo {N:Nat} {ps:List WM} (i sp:Int) (hl:ps.length<=1000000) (hN:1000000<N):Ok (QcX N ps i sp) λ o=>(o.2=0->0<=i/\i+1<=ps.length/\Taken ps o.1 i 1 ⟨1,sp,0,0⟩ ⟨0,0,0,0⟩)/\(o.2≠0->o.1=[])/\(RunOK ps i 1->0<=sp->sp<=1->o.2=0):=by
 rw[QcX]
 refine Wo (λ h=>Wh ⟨λ e=>(by cases e),λ _=>rfl,λ _ h1 h2=>?_⟩) λ h1=>?_
 ·have:=Wq h;omega
 refine Wo (λ h=>Wh ⟨λ e=>(by cases e),λ _=>rfl,λ _ h1 h2=>?_⟩) λ h2=>?_
 ·have:=Wq h;omega
 refine WN (XhB i 1 ⟨1,sp,0,0⟩ ⟨0,0,0,0⟩ hl hN (by omega) (by omega)) λ y _ hy=>Wh ⟨hy.1,hy.2.1,λ hr _ _=>hy.2.2 hr⟩
def XkU {N:Nat} {ps:List WM} (c:Um) (i sp w:Int) (hl:ps.length<=1000000) (hN:1000000<N):Ok (Qfa N c ps i sp w) λ o=>(o.2=0->0<=i/\i+XQ c w<=ps.length/\1<=XQ c w/\Taken ps o.1 i (XQ c w) ⟨2,sp,w,0⟩ ⟨3,sp,0,0⟩)/\(o.2≠0->o.1=[]):=by
 rw[Qfa,Kl (by omega),Xa]
 refine Wo (λ h=>Wh ⟨λ e=>(by cases e),λ _=>rfl⟩) λ h0=>?_
 have h0:¬ XQ c w<1:=WG h0
 refine Wo (λ h=>Wh ⟨λ e=>(by cases e),λ _=>rfl⟩) λ h1=>?_
 refine Wo (λ h=>Wh ⟨λ e=>(by cases e),λ _=>rfl⟩) λ h2=>?_
 have hr:=KW c w
 refine WN (XhB i (XQ c w) ⟨2,sp,w,0⟩ ⟨3,sp,0,0⟩ hl hN (by omega) (by omega)) λ y _ hy=>Wh ⟨λ e=>?_,hy.2.1⟩
 obtain ⟨a,b,c'⟩:=hy.1 e
 exact ⟨a,b,by omega,c'⟩
def HB (h:Wv):Prop:=h.Words.length<=100000/\h.Pages.length<=100000
def NB (N:Nat):Prop:=10000000<N
def zH:Wv:=⟨⟨0,0⟩,[],[],0,0⟩
def ZT:HB zH:=⟨by decide,by decide⟩
def wd (ws:List Int) (a:Int):Int:=ws.getD (ix a) 0
def hdA (ws:List Int) (a:Int):WI:=Z9 (wd ws a)
def szA (ws:List Int) (a:Int):Int:=(hdA ws a).Length+1
def ZL (ws:List Int) (a:Int):X1 (hdA ws a)=szA ws a/\1<=szA ws a/\szA ws a<=256:=by
 have:=Xdc (wd ws a)
 unfold szA hdA
 omega
def pgi (c:Um) (a:Int):Int:=(a-4096) / c.PageWords
def pgo (c:Um) (a:Int):Int:=(a-4096) % c.PageWords
structure Of (h:Wv) (a:Int):Prop where
 rng:4096<=a/\a<4096+h.Conf.Pages*h.Conf.PageWords
 kind:(pg h.Pages (pgi h.Conf a)).Kind=1\/(pg h.Pages (pgi h.Conf a)).Kind=2
 ok:okH (wd h.Words a)=true
 used:pgo h.Conf a<(pg h.Pages (pgi h.Conf a)).Used
 small:(pg h.Pages (pgi h.Conf a)).Kind=1->pgo h.Conf a+szA h.Words a<=(pg h.Pages (pgi h.Conf a)).Used
 large:(pg h.Pages (pgi h.Conf a)).Kind=2->pgo h.Conf a=0/\szA h.Words a=(pg h.Pages (pgi h.Conf a)).Used
def Xfp {N:Nat} (hN:NB N) {h:Wv} (hb:HB h) (a:Int):Ok (Qav N h a) λ r=>r.2=0->UR h/\Qab N h=some true/\Of h a/\r.1=hdA h.Words a:=by
 unfold NB at hN
 rw[Qav]
 refine WN (Yr (N:=N) (by omega) hb.1 hb.2) λ b eb hp=>?_
 refine Wo (λ _=>Wh λ e=>by cases e) λ hb1=>?_
 have hbt:b=true:=by simpa using hb1
 subst hbt
 have hp:=hp rfl
 rw[Xae,Xa,hp.conf,Wm (by simp)]
 have hv:=Xj.1 hp.conf
 by_cases hr:4096<=a/\a<4096+h.Conf.Pages*h.Conf.PageWords
 rotate_left
 ·rw[Wm hr];exact Wo (λ _=>Wh λ e=>by cases e) λ e=>by cases e
 rw[Wn hr,show (a-4096) / h.Conf.PageWords=pgi h.Conf a from rfl,show (a-4096) % h.Conf.PageWords=pgo h.Conf a from rfl]
 have hof:=Xeb hp.conf hr.1 hr.2
 refine Wo (λ e=>by cases e) λ _=>?_
 show Ok (bnd (Xb h.Pages (pgi h.Conf a)) _) _
 have hl:=hp.pages
 have h0:0<=pgi h.Conf a:=hof.1
 have h1:pgi h.Conf a<h.Pages.length:=by have:pgi h.Conf a<h.Conf.Pages:=hof.2.1;omega
 refine Ok.get h0 h1 λ p hpp=>?_
 have hpg:=Yl hpp
 have hin:inW h.Words a:=by unfold inW;have:=hp.words;omega
 rw[ZJ (by unfold BIG;have:=hb.1;omega),Xa,Wn hin]
 show Ok (bnd (Qb2 N (wd h.Words a)) _) _
 rw[Xad,Xa]
 show Ok (jn _ _) _
 have hsz:=ZL h.Words a
 have hpo:pgo h.Conf a<h.Conf.PageWords:=hof.2.2.2.1
 have hpo0:0<=pgo h.Conf a:=hof.2.2.1
 have rest:okH (wd h.Words a)=true->(p.Kind=1\/p.Kind=2)->pgo h.Conf a<p.Used->Ok (α:=WI×Int) (bnd (QcB N (Z9 (wd h.Words a))) λ y6 =>
  bif (p.Kind==1) then (bif (decide ((wI (pgo h.Conf a+y6))>p.Used)) then some ((WI.mk 0 0 0),19)
   else bif (p.Kind==2) then (bif (pgo h.Conf a != 0) then some ((WI.mk 0 0 0),19)
    else bif (y6 != p.Used) then some ((WI.mk 0 0 0),19)
    else some (Z9 (wd h.Words a),0))
   else some (Z9 (wd h.Words a),0))
  else bif (p.Kind==2) then (bif (pgo h.Conf a != 0) then some ((WI.mk 0 0 0),19)
   else bif (y6 != p.Used) then some ((WI.mk 0 0 0),19)
   else some (Z9 (wd h.Words a),0))
  else some (Z9 (wd h.Words a),0)) λ r=>r.2=0->UR h/\Qab N h=some true/\Of h a/\r.1=hdA h.Words a:=by
  intro ho hk hu
  rw[YB,Xa]
  have e1:X1 (Z9 (wd h.Words a))=szA h.Words a:=hsz.1
  rw[e1,Xd (by omega) (by omega)]
  refine Wo (λ k1=>?_) λ k1=>?_
  ·have k1:p.Kind=1:=by simpa using k1
   refine Wo (λ _=>Wh λ e=>by cases e) λ k2=>?_
   have k2:¬ pgo h.Conf a+szA h.Words a>p.Used:=WG k2
   refine Wo (λ k3=>by rw[k1] at k3;cases k3) λ _=>Wh λ _=>⟨hp,eb,⟨hr,by rw[hpg];exact hk,ho,by rw[hpg];exact hu,λ _=>by rw[hpg];omega,λ e=>by rw[hpg,k1] at e;cases e⟩,rfl⟩
  ·have k1:¬ p.Kind=1:=by simpa using k1
   have k2:p.Kind=2:=by omega
   refine Wo (λ _=>?_) λ k3=>by rw[k2] at k3;cases k3
   refine Wo (λ _=>Wh λ e=>by cases e) λ k3=>?_
   refine Wo (λ _=>Wh λ e=>by cases e) λ k4=>Wh λ _=>⟨hp,eb,⟨hr,by rw[hpg];exact hk,ho,by rw[hpg];exact hu,λ e=>by rw[hpg] at e;omega,λ _=>⟨by simpa using k3,by rw[hpg];simpa using k4⟩⟩,rfl⟩
 refine IB (Wo (λ k1=>Wo (λ _=>Wh λ e=>by cases e) λ k2=>Wo (λ _=>Wh λ e=>by cases e) λ k3=>Wo (λ _=>Wh λ e=>by cases e) λ k4=>?_) λ k1=>Wo (λ _=>Wh λ e=>by cases e) λ k3=>Wo (λ _=>Wh λ e=>by cases e) λ k4=>?_)
 ·exact rest (by simpa using k4) (.inr (by simpa using k2)) (by have k5:¬ (pgo h.Conf a>=p.Used):=WG k3;omega)
 ·exact rest (by simpa using k4) (.inl (by simpa using k1)) (by have k5:¬ (pgo h.Conf a>=p.Used):=WG k3;omega)
def VR {N:Nat} (hN:NB N) {h:Wv} (hb:HB h) (a:Int):Ok (Qbn N h a) λ r=>r.2=0->UR h/\Qab N h=some true/\Of h a/\r.1=hdA h.Words a/\r.1.Kind≠0:=by
 have hN':=hN
 unfold NB at hN
 rw[Qbn]
 refine WN (Yr (N:=N) (by omega) hb.1 hb.2) λ b eb hp=>?_
 refine Wo (λ _=>Wh λ e=>by cases e) λ hb1=>?_
 refine Wo (λ _=>Wh λ e=>by cases e) λ _=>?_
 refine WN (Xfp hN' hb a) λ y ey hy=>?_
 refine Wo (λ k1=>Wo (λ _=>Wh λ e=>by cases e) λ k2=>Wh λ e=>?_) λ k1=>Wh λ e=>?_
 ·obtain ⟨q1,q2,q3,q4⟩:=hy e
  exact ⟨q1,q2,q3,q4,by simpa using k2⟩
 ·exact absurd e (by simpa using k1)
def Xca {N:Nat} (hN:NB N) {h:Wv} (hb:HB h) (a i:Int):Ok (QbI N h a i) λ r=>r.2=0->UR h/\Of h a/\0<=i/\i<(hdA h.Words a).Length:=by
 rw[QbI]
 refine WN (VR hN hb a) λ y ey hy=>?_
 refine Wo (λ k=>Wh λ e=>absurd e (by simpa using k)) λ k1=>?_
 refine Wo (λ _=>Wh λ e=>by cases e) λ k2=>?_
 refine Wo (λ _=>Wh λ e=>by cases e) λ k3=>?_
 obtain ⟨q1,q2,q3,q4,q5⟩:=hy (by simpa using k1)
 rw[ZJ (by unfold BIG;have:=hb.1;omega),Xa]
 refine Wh λ _=>⟨q1,q3,?_,?_⟩
 ·have:=WG k2;omega
 ·have:=WG k3;rw[q4] at this;omega
def Xfq {N:Nat} (hN:NB N) {h:Wv} (hb:HB h) (a i v:Int):Ok (QbC N h a i v) λ r=>HB r.1:=by
 rw[QbC]
 refine WN (Xca hN hb a i) λ y ey hy=>?_
 refine Wo (λ _=>Wh ZT) λ k1=>?_
 have hN':=hN
 unfold NB at hN'
 rw[Xab (by unfold BIG;have:=hb.1;omega) (by omega),Xa]
 refine Wh ?_
 split
 ·exact ⟨by rw[Wx];exact hb.1,hb.2⟩
 ·exact ⟨by simp,hb.2⟩
def XiY {N:Nat} (hN:NB N) {h:Wv} (hb:HB h) (a:Int):Ok (Qcv N h a) λ r=>r.1.length<=256:=by
 rw[Qcv]
 refine WN (VR hN hb a) λ y ey hy=>?_
 refine Wo (λ _=>Wh (by simp)) λ k1=>?_
 obtain ⟨q1,q2,q3,q4,q5⟩:=hy (by simpa using k1)
 have hsz:=ZL h.Words a
 have hlen:y.1.Length=szA h.Words a-1:=by rw[q4];unfold szA;omega
 obtain ⟨k,hk⟩:=Il (a:=y.1.Length) (by omega)
 rw[hk,Xbv (by unfold BIG;have:=hb.1;omega) N _ k (by omega),Xa]
 refine Wh ?_
 split
 ·simp only[WC];omega
 ·simp
def XhC {N:Nat} (hN:NB N) {h:Wv} (hb:HB h) (a:Int) (hd:WI):Ok (QcG N h a hd) λ r=>HB r.1:=by
 have hN':=hN
 unfold NB at hN'
 rw[QcG,Xac,Xa]
 refine WN (Yr (N:=N) (by omega) hb.1 hb.2) λ b eb hp=>?_
 refine Wo (λ _=>Wh ZT) λ _=>?_
 refine Wo (λ _=>Wh ZT) λ k1=>?_
 have hv:XD hd=true:=by
  cases hv:XD hd with
  | true=>rfl
  | false=>rw[hv] at k1;cases k1
 have hb2:=XH hv
 refine WY (by omega) (WY (by omega) ?_)
 rw[Wn hv,Jj (by unfold BIG;have:=hb.1;omega) (by unfold BIG;simp;omega) (by simp;omega),Xa]
 split
 ·rename_i hin
  refine Wo (λ e=>by cases e) λ _=>Wh ⟨?_,hb.2⟩
  have hb1:=hb.1
  rw[ZX]
  ·exact hb1
  ·unfold Yq at hin;unfold ix;omega
 ·exact Wo (λ _=>Wh ZT) λ e=>by cases e
def XkV (N:Nat) (l:List Int) (v:Int) (hl:l.length<=1000000000):∀ (n k:Nat),k<=l.length->l.length-k<n->Qfl N l v n (k:Int)=some (if (l.drop k).contains v then .ret true else .nxt ())
 | 0,k,_,h=>by omega
 | n+1,k,hk,hn=>by
  rw[Qfl]
  by_cases h:k<l.length
  ·have e1:decide ((k:Int)<((l.length:Nat):Int))=true:=Wj (by omega)
   rw[e1,We,Xc,Wb h,Xa,Xd (by omega) (by omega)]
   rw[show ((k:Int)+1)=((k+1:Nat):Int) by omega,XkV N l v hl n (k+1) (by omega) (by omega)]
   rw[Wt h,List.contains_cons]
   by_cases h2:l[k]=v
   ·subst h2;simp
   ·rw[show (l[k]==v)=false by simpa using h2,Wa,show (v==l[k])=false by simpa using λ e=>h2 e.symm,UZ]
  ·have e1:decide ((k:Int)<((l.length:Nat):Int))=false:=Wk (by omega)
   rw[e1,Wa,WL (by omega)]
   simp
def YZ {N:Nat} {l:List Int} (v:Int) (hl:l.length<=1000000000) (hN:l.length<N):QcM N l v=some (l.contains v):=by
 have h:=XkV N l v hl N 0 (by omega) (by omega)
 rw[show ((0:Nat):Int)=0 from rfl,WP] at h
 rw[QcM,h,Xa]
 cases l.contains v
 ·simp[Xk]
 ·simp[Xl]
structure Oz (N:Nat) (h:Wv) (l:List Int):Prop where
 at_:∀ a∈l,Of h a
 ev:∀ a∈l,Qav N h a=some (hdA h.Words a,0)
 pw:l.Pairwise λ a b=>a+szA h.Words a<=b
def XgH (h:Wv) (i:Int) (l:List Int):Prop:=∀ a∈l,Xi h.Conf i 0<=a/\pgi h.Conf a=i
def Xdf {c:Um} {i o p:Int} (h:o<=p):Xi c i o<=Xi c i p:=by unfold Xi;omega
def Xfr {c:Um} (hc:XZ c=true) {p o:Int} (h0:0<=o) (h1:o<c.PageWords):pgi c (Xi c p o)=p/\pgo c (Xi c p o)=o:=XnK hc h0 h1
def J5 {c:Um} (hc:XZ c=true) {a:Int} (h:4096<=a/\a<4096+c.Pages*c.PageWords):a=Xi c (pgi c a) (pgo c a)/\0<=pgi c a/\pgi c a<c.Pages/\0<=pgo c a/\pgo c a<c.PageWords:=by
 have:=Xeb hc h.1 h.2
 exact ⟨this.2.2.2.2,this.1,this.2.1,this.2.2.1,this.2.2.2.1⟩
def XsX (N:Nat) (h:Wv) (i o:Int) (l:List Int):Prop:=Oz N h l/\XgH h i l/\(∀ a∈l,a+szA h.Words a<=Xi h.Conf i o)/\(l.length:Int)<=o
def Oz.snoc {N:Nat} {h:Wv} {l:List Int} {a:Int} (hl:Oz N h l) (ha:Of h a) (hev:Qav N h a=some (hdA h.Words a,0)) (hle:∀ b∈l,b+szA h.Words b<=a):Oz N h (l++[a]):=by
 refine ⟨λ x hx=>?_,λ x hx=>?_,?_⟩
 ·rcases WK.1 hx with hx | hx
  ·exact hl.at_ x hx
  ·have:x=a:=by simpa using hx
   subst this;exact ha
 ·rcases WK.1 hx with hx | hx
  ·exact hl.ev x hx
  ·have:x=a:=by simpa using hx
   subst this;exact hev
 ·rw[I9]
  refine ⟨hl.pw,by simp,λ b hb c hc=>?_⟩
  have:c=a:=by simpa using hc
  subst this;exact hle b hb
def PageL (N:Nat) (h:Wv) (i:Int) (l:List Int):Prop:=Oz N h l/\XgH h i l/\(l.length:Int)<=64
def Xq3 (N:Nat) (h:Wv) (i:Int):Ex (List Int×Int) (List Int)->Prop
 | .ret r=>r=([],19)
 | .nxt l=>PageL N h i l
def QoZ {N:Nat} (hN:NB N) {h:Wv} (hb:HB h) (hp:UR h) {i:Int} (h0:0<=i) (h1:i<h.Pages.length) (hk:(pg h.Pages i).Kind=1\/(pg h.Pages i).Kind=2):∀ (n:Nat) (o:Int) (l:List Int),0<=o->(65-o).toNat<n->XsX N h i o l->((pg h.Pages i).Kind=1->o<=(pg h.Pages i).Used)->((pg h.Pages i).Kind=2->o=0) ->
 Ok (Qbe N h i (pg h.Pages i) n o l) (Xq3 N h i)
 | 0,o,l,_,hn,hu,k1,k2=>by
  have hv:=Xj.1 hp.conf
  have ho:=(hp.pgs i h0 h1).small
  rcases hk with hk | hk
  ·have:=k1 hk;have:=ho hk;omega
  ·have:=k2 hk;omega
 | n+1,o,l,ho0,hn,hu,k1,k2=>by
  have hv:=Xj.1 hp.conf
  have hsm:=(hp.pgs i h0 h1).small
  have hpl:=hp.pages
  have hle64:(l.length:Int)<=64:=by
   have:=hu.2.2.2
   rcases hk with hk | hk
   ·have:=k1 hk;have:=hsm hk;omega
   ·have:=k2 hk;omega
  rw[Qbe]
  refine Wo (λ hlt=>?_) λ _=>Wh ⟨hu.1,hu.2.1,hle64⟩
  have hlt:o<(pg h.Pages i).Used:=Wq hlt
  have hopw:o<h.Conf.PageWords:=by
   rcases hk with hk | hk
   ·have:=hsm hk;omega
   ·have:=k2 hk;omega
  rw[Vp,hp.conf,Xa,Wm (by simp),Wn (by omega)]
  dsimp only
  refine WN (Xfp hN hb (Xi h.Conf i o)) λ y ey hy=>?_
  refine Wo (λ _=>Wh rfl) λ hy0=>?_
  obtain ⟨_,_,hat,hhd⟩:=hy (by simpa using hy0)
  have hpi:=Xfr hp.conf (p:=i) ho0 hopw
  have hsz:=ZL h.Words (Xi h.Conf i o)
  have hev:Qav N h (Xi h.Conf i o)=some (hdA h.Words (Xi h.Conf i o),0):=by
   rw[ey];congr 1;exact Prod.ext hhd (by simpa using hy0)
  have hobj:Oz N h (l++[Xi h.Conf i o]):=hu.1.snoc hat hev hu.2.2.1
  have hon:XgH h i (l++[Xi h.Conf i o]):=by
   intro x hx
   rcases WK.1 hx with hx | hx
   ·exact hu.2.1 x hx
   ·have:x=Xi h.Conf i o:=by simpa using hx
    subst this;exact ⟨Xdf ho0,hpi.1⟩
  have hlen1:((l++[Xi h.Conf i o]).length:Int)=l.length+1:=by simp
  have hlo:=hu.2.2.2
  refine WY (by omega) (Wo (λ kk=>Wh ⟨hobj,hon,by have:=k2 (by simpa using kk);omega⟩) λ kk=>?_)
  have kk:(pg h.Pages i).Kind=1:=by
   rcases hk with hk | hk
   ·exact hk
   ·rw[hk] at kk;cases kk
  rw[hhd,YB,Xa]
  rw[hsz.1]
  have hs:=hat.small (by rw[hpi.1];exact kk)
  rw[hpi.1,hpi.2] at hs
  have:=hsm kk
  rw[Xd (by omega) (by omega)]
  refine QoZ hN hb hp h0 h1 hk n _ _ (by omega) (by omega) ⟨hobj,hon,λ x hx=>?_,by omega⟩ (λ _=>by omega) (λ e=>by rw[kk] at e;cases e)
  rcases WK.1 hx with hx | hx
  ·have:=hu.2.2.1 x hx
   have:=Xdf (c:=h.Conf) (i:=i) (o:=o) (p:=o+szA h.Words (Xi h.Conf i o)) (by omega)
   omega
  ·have:x=Xi h.Conf i o:=by simpa using hx
   subst this
   unfold Xi;omega
def PageL.nil (N:Nat) (h:Wv) (i:Int):PageL N h i []:=⟨⟨by simp,by simp,by simp⟩,λ a ha=>by simp at ha,by simp⟩
def Qo0 {N:Nat} (hN:NB N) {h:Wv} (hb:HB h) (i:Int):Ok (Qay N h i) λ r=>(r.2≠0->r.1=[])/\r.1.length<=64/\(UR h->PageL N h i r.1):=by
 have hN':=hN
 unfold NB at hN'
 rw[Qay]
 refine WN (Yr (N:=N) (by omega) hb.1 hb.2) λ b eb hp=>?_
 refine Wo (λ _=>Wh ⟨λ _=>rfl,by simp,λ _=>PageL.nil N h i⟩) λ hb1=>?_
 have hp:=hp (by simpa using hb1)
 refine Wo (λ _=>Wh ⟨λ _=>rfl,by simp,λ _=>PageL.nil N h i⟩) λ h0=>?_
 refine Wo (λ _=>Wh ⟨λ _=>rfl,by simp,λ _=>PageL.nil N h i⟩) λ h1=>?_
 have h0:0<=i:=by have:=WG h0;omega
 have h1:i<h.Pages.length:=by have:=WG h1;omega
 refine Ok.get h0 h1 λ p hpp=>?_
 have hpg:=Yl hpp
 subst hpg
 refine Wo (λ _=>Wh ⟨λ _=>rfl,by simp,λ _=>PageL.nil N h i⟩) λ k0=>?_
 refine Wo (λ _=>Wh ⟨λ _=>rfl,by simp,λ _=>PageL.nil N h i⟩) λ k3=>?_
 have hkk:=(hp.pgs i h0 h1).kind
 have k0:¬ (pg h.Pages i).Kind=0:=by simpa using k0
 have k3:¬ (pg h.Pages i).Kind=3:=by simpa using k3
 refine IW (QoZ hN hb hp h0 h1 (by omega) N 0 [] (by omega) (by omega) ⟨⟨by simp,by simp,by simp⟩,λ a ha=>by simp at ha,by simp,by simp⟩ (λ k=>((hp.pgs i h0 h1).small k).1) (λ _=>rfl)) (λ a q=>?_) λ l q=>?_
 ·have:a=([],19):=q
  subst this
  exact Wh ⟨λ _=>rfl,by simp,λ _=>PageL.nil N h i⟩
 ·have q:PageL N h i l:=q
  exact Wh ⟨λ e=>absurd rfl e,by have:=q.2.2;dsimp only;omega,λ _=>q⟩
def XhD {c:Um} (hc:XZ c=true) {w:Int} (h:1<=XQ c w):w<=XQ c w*c.PageWords:=by
 unfold XQ at h ⊢
 by_cases h0:XZ c=true/\1<=w
 ·rw[Wn h0] at h ⊢
  by_cases h1:w<=c.PageWords / 4
  ·rw[Wn h1] at h;omega
  rw[Wm h1] at h ⊢
  by_cases h2:c.PageWords>=w
  ·rw[Wn h2];omega
  rw[Wm h2] at h ⊢
  by_cases h3:2*c.PageWords>=w
  ·rw[Wn h3];omega
  rw[Wm h3] at h ⊢
  by_cases h4:3*c.PageWords>=w
  ·rw[Wn h4];omega
  rw[Wm h4] at h ⊢
  by_cases h5:4*c.PageWords>=w
  ·rw[Wn h5];omega
  rw[Wm h5] at h;omega
 ·rw[Wm h0] at h;omega
def Xec {h:Wv} (hp:UR h) {a:Int} (ha:Of h a):∃ k,1<=k/\pgi h.Conf a+k<=h.Conf.Pages/\a+szA h.Words a<=Xi h.Conf (pgi h.Conf a+k) 0/\∀ m,1<=m->m<k->(pg h.Pages (pgi h.Conf a+m)).Kind=3:=by
 have hv:=Xj.1 hp.conf
 obtain ⟨e,q0,q1,q2,q3⟩:=J5 hp.conf ha.rng
 have hpl:=hp.pages
 rcases ha.kind with hk | hk
 ·have hs:=ha.small hk
  have:=(hp.pgs _ q0 (by omega)).small hk
  refine ⟨1,by omega,by omega,?_,λ m h1 h2=>by omega⟩
  have e2:Xi h.Conf (pgi h.Conf a+1) 0=4096+pgi h.Conf a*h.Conf.PageWords+h.Conf.PageWords:=by unfold Xi;rw[IU];omega
  rw[e2]
  have e3:a=4096+pgi h.Conf a*h.Conf.PageWords+pgo h.Conf a:=e
  omega
 ·obtain ⟨z1,z2⟩:=ha.large hk
  obtain ⟨l1,l2⟩:=(hp.pgs _ q0 (by omega)).large hk
  have hle:=XhD hp.conf l1
  refine ⟨_,l1,?_,?_,λ m h1 h2=>(l2 m h1 h2).2⟩
  ·by_cases h1:XQ h.Conf (pg h.Pages (pgi h.Conf a)).Used=1
   ·omega
   ·have:=(l2 (XQ h.Conf (pg h.Pages (pgi h.Conf a)).Used-1) (by omega) (by omega)).1
    omega
  ·have e3:a=4096+pgi h.Conf a*h.Conf.PageWords+pgo h.Conf a:=e
   unfold Xi
   rw[IU]
   omega
def Vq {h:Wv} (hp:UR h) {a:Int} (ha:Of h a):a+szA h.Words a<=4096+h.Words.length:=by
 obtain ⟨k,h1,h2,h3,_⟩:=Xec hp ha
 have hv:=Xj.1 hp.conf
 have:=hp.words
 have hm:(pgi h.Conf a+k)*h.Conf.PageWords<=h.Conf.Pages*h.Conf.PageWords:=UO h2 (by omega)
 unfold Xi at h3
 omega
def XiZ {h:Wv} (hp:UR h) {a b:Int} (ha:Of h a) (hb:Of h b) (hlt:pgi h.Conf a<pgi h.Conf b):a+szA h.Words a<=b:=by
 obtain ⟨k,h1,h2,h3,h4⟩:=Xec hp ha
 have hv:=Xj.1 hp.conf
 obtain ⟨e,q0,q1,q2,q3⟩:=J5 hp.conf hb.rng
 have hge:pgi h.Conf a+k<=pgi h.Conf b:=by
  rcases (by omega:pgi h.Conf b<pgi h.Conf a+k\/pgi h.Conf a+k<=pgi h.Conf b) with hc | hc
  ·have:=h4 (pgi h.Conf b-pgi h.Conf a) (by omega) (by omega)
   rw[show pgi h.Conf a+(pgi h.Conf b-pgi h.Conf a)=pgi h.Conf b by omega] at this
   rcases hb.kind with hk | hk<;>omega
  ·exact hc
 have hm:(pgi h.Conf a+k)*h.Conf.PageWords<=pgi h.Conf b*h.Conf.PageWords:=UO hge (by omega)
 unfold Xi at h3 e
 omega
def Qh0 {N:Nat} (hN:NB N) {h:Wv} (hb:HB h) (hp:UR h) (i:Int) (h0:0<=i) (h1:i<h.Pages.length):Ok (Qay N h i) λ r=>PageL N h i r.1/\r.1.length<=64:=(Qo0 hN hb i).mono λ r hr=>⟨hr.2.2 hp,hr.2.1⟩
structure Oi (N:Nat) (h:Wv) (l:List Int):Prop where
 obj:Oz N h l
 page:∀ a∈l,∃ r,Qay N h (pgi h.Conf a)=some r/\a∈r.1
 len:l.length<=4096
def Oi.nil (N:Nat) (h:Wv):Oi N h []:=⟨⟨by simp,by simp,by simp⟩,by simp,by simp⟩
def Xdg {N:Nat} (hN:NB N) {h:Wv} (hb:HB h) (hp:UR h):∀ (n:Nat) (i:Int) (l:List Int),0<=i->i<=h.Pages.length->(h.Pages.length-i).toNat<n->Oz N h l->(∀ a∈l,∃ r,Qay N h (pgi h.Conf a)=some r/\a∈r.1)->(∀ a∈l,pgi h.Conf a<i)->(l.length:Int)<=64*i ->
 Ok (Qa2 N h n i l) λ e=>match e with | .ret r=>r.1=[]/\r.2≠0 | .nxt l=>Oi N h l
 | 0,i,l,_,_,hn,_,_,_,_=>by omega
 | n+1,i,l,h0,hi,hn,hl,hpp,hlt,hlen=>by
  have hv:=Xj.1 hp.conf
  have hpl:=hp.pages
  rw[Qa2]
  refine Wo (λ hc=>?_) λ _=>Wh ⟨hl,hpp,by omega⟩
  have hc:i<h.Pages.length:=Wq hc
  refine WN (Qh0 hN hb hp i h0 hc) λ y ey hy=>?_
  refine Wo (λ hk=>Wh ⟨rfl,by simpa using hk⟩) λ hk=>?_
  have hy2:=hy.2
  refine WY (by omega) ?_
  rw[Xd (by omega) (by omega)]
  have hon:∀ a∈y.1,pgi h.Conf a=i:=λ a ha=>(hy.1.2.1 a ha).2
  refine Xdg hN hb hp n (i+1) _ (by omega) (by omega) (by omega) ⟨λ a ha=>?_,λ a ha=>?_,?_⟩ (λ a ha=>?_) (λ a ha=>?_) (by rw[Wp];omega)
  ·rcases WK.1 ha with ha | ha
   ·exact hl.at_ a ha
   ·exact hy.1.1.at_ a ha
  ·rcases WK.1 ha with ha | ha
   ·exact hl.ev a ha
   ·exact hy.1.1.ev a ha
  ·rw[I9]
   refine ⟨hl.pw,hy.1.1.pw,λ a ha b hb'=>?_⟩
   exact XiZ hp (hl.at_ a ha) (hy.1.1.at_ b hb') (by rw[hon b hb'];exact hlt a ha)
  ·rcases WK.1 ha with ha | ha
   ·exact hpp a ha
   ·exact ⟨y,by rw[hon a ha];exact ey,ha⟩
  ·rcases WK.1 ha with ha | ha
   ·have:=hlt a ha;omega
   ·have:=hon a ha;omega
def XaT {N:Nat} (hN:NB N) {h:Wv} (hb:HB h):Ok (Qc3 N h) λ r=>Oi N h r.1/\(r.2=0->UR h)/\(r.2≠0->r.1=[]):=by
 have hN':=hN
 unfold NB at hN'
 rw[Qc3]
 refine WN (Yr (N:=N) (by omega) hb.1 hb.2) λ b eb hp=>?_
 refine Wo (λ _=>Wh ⟨Oi.nil N h,λ e=>(by cases e),λ _=>rfl⟩) λ hb1=>?_
 have hp:=hp (by simpa using hb1)
 have hbb:=hb.2
 refine IW (Xdg hN hb hp N 0 [] (by omega) (by omega) (by omega) ⟨by simp,by simp,by simp⟩ (by simp) (by simp) (by simp)) (λ a q=>?_) λ l q=>Wh ⟨q,λ _=>hp,λ e=>absurd rfl e⟩
 refine Wh ⟨?_,λ e=>absurd e q.2,λ _=>q.1⟩
 rw[q.1];exact Oi.nil N h
def Oi.sub {N:Nat} {h:Wv} {l l':List Int} (hs:Oi N h l) (h':l'.Sublist l):Oi N h l' :=
 ⟨⟨λ a ha=>hs.obj.at_ a (h'.subset ha),λ a ha=>hs.obj.ev a (h'.subset ha),hs.obj.pw.sublist h'⟩,λ a ha=>hs.page a (h'.subset ha),UB h'.length_le hs.len⟩
def VS {N:Nat} (hN:NB N) {h:Wv} (hb:HB h) (y:List Int×Int) (hy:y.1.length<=4096):∀ (n k:Nat) (l:List Int),k<=y.1.length->y.1.length-k<n->l.Sublist (y.1.take k)->Ok (QaC N h y n (k:Int) l) λ o=>o.Sublist y.1
 | 0,k,l,_,hn,_=>by omega
 | n+1,k,l,hk,hn,hs=>by
  rw[QaC]
  have hlen:l.length<=4096:=UB hs.length_le (by rw[WC];omega)
  refine Wo (λ hc=>?_) λ _=>Wh (hs.trans (List.take_sublist _ _))
  have hc:(k:Int)<y.1.length:=Wq hc
  have hkl:k<y.1.length:=by omega
  refine Ok.get (by omega) hc λ p hp=>?_
  refine WN (Xfp hN hb p) λ z ez hz=>?_
  have e1:wI ((k:Int)+1)=((k+1:Nat):Int):=by rw[Xd (by omega) (by omega)];omega
  rw[e1]
  refine Wo (λ _=>?_) λ _=>VS hN hb y hy n (k+1) l (by omega) (by omega) (hs.trans (List.take_sublist_take_left (by omega)))
  refine Ok.get (by omega) hc λ p' hp'=>WY (by omega) (VS hN hb y hy n (k+1) _ (by omega) (by omega) ?_)
  have hpe:p'=y.1[k]:=by
   rw[Xc,Wb hkl] at hp'
   exact (Ug hp').symm
  rw[List.take_succ_eq_append_getElem hkl,hpe]
  exact hs.append (List.Sublist.refl _)
def Zy {N:Nat} (hN:NB N) {h:Wv} (hb:HB h):Ok (Qaq N h) λ r=>Oi N h r.1/\(r.2=0->UR h)/\(r.1≠[]->UR h):=by
 rw[Qaq]
 refine WN (XaT hN hb) λ y ey hy=>?_
 have hN':=hN
 unfold NB at hN'
 have hl:=hy.1.len
 have:=VS hN hb y hl N 0 [] (by omega) (by omega) (by simp)
 rw[show ((0:Nat):Int)=0 from rfl] at this
 refine WN this λ o eo ho=>Wh ⟨hy.1.sub ho,hy.2.1,λ hne=>?_⟩
 by_cases h2:y.2=0
 ·exact hy.2.1 h2
 ·rw[hy.2.2 h2] at ho
  exact absurd (List.sublist_nil.1 ho) hne
def Xbf {N:Nat} (hN:NB N) {h:Wv} (hb:HB h) (a:Int):Ok (Qez N h a) λ b=>b=true->UR h/\Of h a:=by
 rw[Qez]
 have hN':=hN
 unfold NB at hN'
 refine WN (Zy hN hb) λ y ey hy=>?_
 have hl:=hy.1.len
 rw[YZ a (by omega) (by omega),Xa]
 refine Wh λ e=>?_
 have hm:a∈y.1:=by simpa using e
 exact ⟨hy.2.2 (List.ne_nil_of_mem hm),hy.1.obj.at_ a hm⟩
def XnM {N:Nat} {h:Wv} (hb:HB h) (i o:Int):Ok (Qfz N h i o) λ _=>True:=by
 rw[Qfz,Qg6,Vp,Xa,ZJ (by unfold BIG;have:=hb.1;omega),Xa,Xa]
 exact Wh trivial
def Xcb (h:Wv) (i:Int) (l:List Int):Prop:=(pg h.Pages i).Kind=1->∀ a∈l,szA h.Words a<=smC h.Conf
def Xfs {N:Nat} (hN:NB N) {h:Wv} (hb:HB h) {i:Int} (h0:0<=i) (h1:i<h.Pages.length) (l:List Int) (hl:l.length<=4096) (hev:∀ a∈l,Qav N h a=some (hdA h.Words a,0)/\a≠0):∀ (n k:Nat),k<=l.length->l.length-k<n ->
 Ok (Qbf N h i l n (k:Int)) λ e=>match e with | .ret r=>r≠0 | .nxt _=>(pg h.Pages i).Kind=1->∀ a∈l.drop k,szA h.Words a<=smC h.Conf
 | 0,k,_,hn=>by omega
 | n+1,k,hk,hn=>by
  rw[Qbf]
  refine Wo (λ hc=>?_) λ hc=>Wh ?_
  rotate_left
  ·have hc:=WG hc
   rw[WL (by omega)]
   simp
  have hc:(k:Int)<l.length:=Wq hc
  have hkl:k<l.length:=by omega
  refine Ok.get (by omega) hc λ p hp=>?_
  have hpe:p=l[k]:=by
   rw[Xc,Wb hkl] at hp
   exact (Ug hp).symm
  have hpm:p∈l:=Yo hp
  rw[(hev p hpm).1,Xa]
  dsimp only
  rw[YB,Xa,Xhz,Xa,(ZL h.Words p).1]
  have e1:wI ((k:Int)+1)=((k+1:Nat):Int):=by rw[Xd (by omega) (by omega)];omega
  rw[e1]
  have ret:∀ p',Xb l (k:Int)=some p'->p'≠0:=λ p' hp'=>(hev p' (Yo hp')).2
  have next:((pg h.Pages i).Kind=1->szA h.Words p<=smC h.Conf)->Ok (Qbf N h i l n ((k+1:Nat):Int)) λ e=>match e with | .ret r=>r≠0 | .nxt _=>(pg h.Pages i).Kind=1->∀ a∈l.drop k,szA h.Words a<=smC h.Conf:=by
   intro hs
   refine (Xfs hN hb h0 h1 l hl hev n (k+1) (by omega) (by omega)).mono λ e he=>?_
   cases e with
   | ret r=>exact he
   | nxt _ =>
    intro hk1 a ha
    rw[Wt hkl] at ha
    rcases UQ.1 ha with rfl | ha
    ·rw[← hpe];exact hs hk1
    ·exact he hk1 a ha
  refine Ok.get h0 h1 λ q hq=>?_
  have hqg:=Yl hq
  refine Wo (λ k1=>?_) λ k1=>?_
  ·refine Wo (λ _=>Ok.get (by omega) hc λ p' hp'=>Wh (ret p' hp')) λ k2=>?_
   have hs:szA h.Words p<=smC h.Conf:=by simpa using k2
   refine Ok.get h0 h1 λ q2 hq2=>Wo (λ _=>Wo (λ _=>Ok.get (by omega) hc λ p' hp'=>Wh (ret p' hp')) λ _=>next λ _=>hs) λ _=>next λ _=>hs
  ·have hs:(pg h.Pages i).Kind=1->szA h.Words p<=smC h.Conf:=by
    intro e;rw[hqg] at e;rw[e] at k1;cases k1
   refine Ok.get h0 h1 λ q2 hq2=>Wo (λ _=>Wo (λ _=>Ok.get (by omega) hc λ p' hp'=>Wh (ret p' hp')) λ _=>next hs) λ _=>next hs
def XkW {N:Nat} (hN:NB N) {h:Wv} (hb:HB h) {i:Int} (h0:0<=i) (h1:i<h.Pages.length) {l:List Int} (hl:l.length<=64) (hev:∀ a∈l,Qav N h a=some (hdA h.Words a,0)/\a≠0) :
 Ok (Qeo N h i l) λ r=>r=0->Xcb h i l:=by
 rw[Qeo]
 have hN':=hN
 unfold NB at hN'
 have:=Xfs hN hb h0 h1 l (by omega) hev N 0 (by omega) (by omega)
 rw[show ((0:Nat):Int)=0 from rfl] at this
 refine IW this (λ a q=>Wh λ e=>absurd e q) λ _ q=>Wh λ _=>?_
 rw[WP] at q
 exact q
def Xed {N:Nat} {h:Wv} (i:Int) (l:List Int) (k:Int) (hk0:0<=k) (hk:k<l.length) (x:Int) (hx:x<=256):∀ (n:Nat) (w:Int) (u:List Bool),0<=w->(x-w).toNat<n->u.length<=1000->Ok (Qbv N h i l k x n w u) λ r=>r.length=u.length
 | 0,w,u,_,hn,_=>by omega
 | n+1,w,u,h0,hn,hu=>by
  rw[Qbv]
  refine Wo (λ hc=>?_) λ _=>Wh rfl
  have hc:w<x:=Wq hc
  refine Ok.get hk0 hk λ p hp=>?_
  rw[Xd (n:=w+1) (by omega) (by omega)]
  have next:=Xed (N:=N) (h:=h) i l k hk0 hk x hx n (w+1) u (by omega) (by omega) hu
  refine Wo (λ h1=>?_) λ _=>next
  refine WY (by omega) (Wo (λ h2=>?_) λ _=>next)
  refine Ok.get (Wq h1) (Wq h2) λ q hq=>?_
  refine (Xed i l k hk0 hk x hx n (w+1) _ (by omega) (by omega) (by rw[Wx];exact hu)).mono λ r hr=>?_
  rw[hr,Wx]
def XhE {N:Nat} (hN:NB N) {h:Wv} (hb:HB h) (i:Int) (l:List Int) (hl:l.length<=100000):∀ (n:Nat) (k:Int) (u:List Bool),0<=k->k<=l.length->(l.length-k).toNat<n->u.length<=1000->Ok (QcC N h i l n k u) λ r=>r.length=u.length
 | 0,k,u,_,_,hn,_=>by omega
 | n+1,k,u,h0,hk,hn,hu=>by
  rw[QcC]
  refine Wo (λ hc=>?_) λ _=>Wh rfl
  have hc:k<l.length:=Wq hc
  have hN':=hN
  unfold NB at hN'
  refine Ok.get h0 hc λ p hp=>WN (Xfp hN hb p) λ y ey hy=>?_
  rw[YB,Xa]
  have hs:=XkR y.1
  have next:∀ x:Int,x<=256->Ok (bnd (Qbv N h i l k x N 0 u) λ y11=>QcC N h i l n (wI (k+1)) y11) λ r=>r.length=u.length:=by
   intro x hx
   refine WN (Xed i l k h0 hc x hx N 0 u (by omega) (by omega) hu) λ r er hr=>?_
   rw[Xd (n:=k+1) (by omega) (by omega)]
   exact (XhE hN hb i l hl n (k+1) r (by omega) (by omega) (by omega) (by omega)).mono λ o ho=>by omega
  exact IB (Wo (λ _=>next 1 (by omega)) λ _=>next _ (by omega))
def Xee (N:Nat) {h:Wv} (hf:(pg h.Pages 0).Kind≠3):∀ (n:Nat) (i:Int),0<=i->i<h.Pages.length->h.Pages.length<=100000->i.toNat<n->Ok (Qdh N h n i) λ r=>0<=r/\r<h.Pages.length
 | 0,i,_,_,_,hn=>by omega
 | n+1,i,h0,h1,hl,hn=>by
  rw[Qdh]
  refine Ok.get h0 h1 λ p hp=>Wo (λ hk=>?_) λ _=>Wh ⟨h0,h1⟩
  have hk:p.Kind=3:=by simpa using hk
  have:i≠0:=by rintro rfl;exact hf (by rw[Yl hp];exact hk)
  rw[Xd (by omega) (by omega)]
  exact Xee N hf n (i-1) (by omega) (by omega) hl (by omega)
def XhF {N:Nat} {h:Wv} (hb:HB h) (i:Int) (u:List Bool) (hu:u.length<=1000):∀ (n:Nat) (k:Int),0<=k->k<=u.length->(u.length-k).toNat<n->Ok (Qcb N h i u n k) λ _=>True
 | 0,k,_,_,hn=>by omega
 | n+1,k,h0,hk,hn=>by
  rw[Qcb]
  refine Wo (λ hc=>?_) λ _=>Wh trivial
  have hc:k<u.length:=Wq hc
  rw[Xd (n:=k+1) (by omega) (by omega)]
  have next:=XhF (N:=N) hb i u hu n (k+1) (by omega) (by omega) (by omega)
  refine Ok.get h0 hc λ p hp=>Wo (λ _=>WN (XnM hb i k) λ y _ _=>Wo (λ _=>?_) λ _=>next) λ _=>next
  rw[QfM,Xa]
  exact Wh trivial
def XnN {N:Nat} (hN:NB N) {h:Wv} (hb:HB h) (hp:UR h) {i:Int} (h0:0<=i) (h1:i<h.Pages.length):Ok (QeX N h i) λ _=>True:=by
 have hN':=hN
 unfold NB at hN'
 have hbb:=hb.2
 have hv:=Xj.1 hp.conf
 rw[QeX,QeW]
 refine WN (WN (Xee N hp.first N i h0 h1 hbb (by omega)) λ r _ hr=>Wh hr) λ r _ hr=>?_
 refine WN (Qh0 hN hb hp r hr.1 hr.2) λ y _ hy=>?_
 rw[Qgt]
 refine WN (Q:=λ r=>r.length<=1000) (WY (by omega) (WN (XhE hN hb i y.1 (by have:=hy.2;omega) N 0 _ (by omega) (by omega) (by have:=hy.2;omega) (by rw[WO];omega)) λ u _ hu=>Wh ?_)) λ u _ hu=>?_
 ·rw[hu,WO];omega
 ·exact IW (XhF hb i u hu N 0 (by omega) (by omega) (by omega)) (λ _ _=>Wh trivial) λ _ _=>Wh trivial
def XkX {N:Nat} (hN:NB N) {h:Wv} (hb:HB h) (hp:UR h) {i:Int} (h0:0<=i) (h1:i<h.Pages.length):Ok (QeY N h i) λ f=>f.Fault=0->∀ r,Qay N h i=some r->Xcb h i r.1:=by
 rw[QeY]
 have main:Ok (bnd (Qay N h i) λ y3 =>
  bif (y3.2 != 0) then some (Us.mk 3 i 0)
  else bnd (Qeo N h i y3.1) λ y4 =>
  bif (y4 != 0) then some (Us.mk 5 i y4)
  else bnd (QeX N h i) λ y5 =>
  bif (y5 != 0) then some (Us.mk 4 i y5)
  else some (Us.mk 0 0 0)) λ f=>f.Fault=0->∀ r,Qay N h i=some r->Xcb h i r.1:=by
  refine WN (Qh0 hN hb hp i h0 h1) λ y ey hy=>?_
  refine Wo (λ _=>Wh λ e=>by cases e) λ _=>?_
  refine WN (XkW hN hb h0 h1 hy.2 λ a ha=>⟨hy.1.1.ev a ha,by have:=(hy.1.1.at_ a ha).rng;omega⟩) λ c _ hc=>?_
  refine Wo (λ _=>Wh λ e=>by cases e) λ hc0=>?_
  refine WN (XnN hN hb hp h0 h1) λ d _ _=>?_
  refine Wo (λ _=>Wh λ e=>by cases e) λ _=>Wh λ _ r hr=>?_
  rw[ey] at hr
  exact Ug hr▸hc (by simpa using hc0)
 refine IB (Ok.get h0 h1 λ p hp=>Wo (λ _=>Ok.get h0 h1 λ p hp=>Wo (λ _=>Wh λ e=>by cases e) λ _=>main) λ _=>main)
def Xbg {N:Nat} {h:Wv} (y1 y6:List Int×Int) (h1:y1.1.length<=4096) (h6:y6.1.length<=256) (hN:1000000<N) (v:Int) (hv0:0<=v) (hv:v<y1.1.length) (y4:WI×Int):∀ (n:Nat) (k:Int),0<=k->k<=y6.1.length->(y6.1.length-k).toNat<n->Ok (Qan N h y1 y6 v y4 n k) λ e=>∀ f,e=.ret f->f.Fault=6
 | 0,k,_,_,hn=>by omega
 | n+1,k,h0,hk,hn=>by
  rw[Qan]
  refine Wo (λ hc=>?_) λ _=>Wh λ f e=>by cases e
  have hc:k<y6.1.length:=Wq hc
  rw[Xd (n:=k+1) (by omega) (by omega)]
  have next:=Xbg (N:=N) (h:=h) y1 y6 h1 h6 hN v hv0 hv y4 n (k+1) (by omega) (by omega) (by omega)
  rw[JA,Xa]
  refine Wo (λ _=>Ok.get h0 hc λ p hp=>Wo (λ _=>Ok.get h0 hc λ p hp=>?_) λ _=>next) λ _=>next
  rw[YZ p (by omega) (by omega),Xa]
  refine Wo (λ _=>Ok.get hv0 hv λ q hq=>?_) λ _=>next
  rw[Xae,Xa]
  exact Wh λ f e=>by cases e;rfl
def Xbh {N:Nat} (hN:NB N) {h:Wv} (hb:HB h) (y1:List Int×Int) (h1:y1.1.length<=4096):∀ (n:Nat) (k:Int),0<=k->k<=y1.1.length->(y1.1.length-k).toNat<n->Ok (Qbr N h y1 n k) λ e=>∀ f,e=.ret f->f.Fault=6
 | 0,k,_,_,hn=>by omega
 | n+1,k,h0,hk,hn=>by
  have hN':=hN
  unfold NB at hN'
  rw[Qbr]
  refine Wo (λ hc=>?_) λ _=>Wh λ f e=>by cases e
  have hc:k<y1.1.length:=Wq hc
  rw[Xd (n:=k+1) (by omega) (by omega)]
  refine Ok.get h0 hc λ p hp=>WN (VR hN hb p) λ y4 _ _=>Ok.get h0 hc λ p hp=>WN (XiY hN hb p) λ y6 _ h6=>?_
  refine IW (Xbg y1 y6 h1 h6 (by omega) k h0 hc y4 N 0 (by omega) (by omega) (by omega)) (λ a q=>Wh λ f e=>?_) λ _ _=>Xbh hN hb y1 h1 n (k+1) (by omega) (by omega) (by omega)
  cases e;exact q a rfl
def Xft {N:Nat} (hN:NB N) {h:Wv} (hb:HB h):Ok (Qds N h) λ _=>True:=by
 have hN':=hN
 unfold NB at hN'
 rw[Qds]
 refine WN (Zy hN hb) λ y _ hy=>?_
 have:=hy.1.len
 exact IW (Xbh hN hb y hy.1.len N 0 (by omega) (by omega) (by omega)) (λ _ _=>Wh trivial) λ _ _=>Wh trivial
def Xfu {N:Nat} (hN:NB N) {h:Wv} (hb:HB h) (hp:UR h):∀ (n:Nat) (i:Int),0<=i->i<=h.Pages.length->(h.Pages.length-i).toNat<n->Ok (QaY N h n i) λ e=>match e with | .ret f=>f.Fault≠0 | .nxt _=>∀ j,i<=j->j<h.Pages.length->∀ r,Qay N h j=some r->Xcb h j r.1
 | 0,i,_,_,hn=>by omega
 | n+1,i,h0,hi,hn=>by
  have hbb:=hb.2
  rw[QaY]
  refine Wo (λ hc=>?_) λ hc=>Wh λ j h1 h2=>?_
  rotate_left
  ·have:=WG hc;omega
  have hc:i<h.Pages.length:=Wq hc
  refine WN (XkX hN hb hp h0 hc) λ f _ hf=>Wo (λ hk=>Wh (by simpa using hk)) λ hk=>?_
  rw[Xd (by omega) (by omega)]
  refine (Xfu hN hb hp n (i+1) (by omega) (by omega) (by omega)).mono λ e he=>?_
  cases e with
  | ret f=>exact he
  | nxt _ =>
   intro j h1 h2
   by_cases hj:j=i
   ·subst hj;exact hf (by simpa using hk)
   ·exact he j (by omega) h2
def Xfv {N:Nat} {h:Wv} (hl:h.Pages.length<=100000):∀ (n:Nat) (c i:Int),0<=i->i<=h.Pages.length->(h.Pages.length-i).toNat<n->Ok (QbA N h n c i) λ _=>True
 | 0,c,i,_,_,hn=>by omega
 | n+1,c,i,h0,hi,hn=>by
  rw[QbA]
  refine Wo (λ hc=>?_) λ _=>Wh trivial
  have hc:i<h.Pages.length:=Wq hc
  rw[Xd (n:=i+1) (by omega) (by omega)]
  have next:=λ c'=>Xfv (N:=N) hl n c' (i+1) (by omega) (by omega) (by omega)
  exact Ok.get h0 hc λ p hp=>Wo (λ _=>Ok.get h0 hc λ p hp=>Wo (λ _=>next _) λ _=>next _) λ _=>next _
structure Oy (N:Nat) (h:Wv):Prop where
 prop:UR h
 small:∀ j:Int,0<=j->j<h.Pages.length->∀ r,Qay N h j=some r->Xcb h j r.1
def Km {N:Nat} (hN:NB N) {h:Wv} (hb:HB h):Ok (Qa6 N h) λ b=>b=true->Oy N h:=by
 have hN':=hN
 unfold NB at hN'
 have hbb:=hb.2
 rw[Qa6,Qep]
 refine WN (Q:=λ f=>f.Fault=0->Oy N h) (WN (Yr (N:=N) (by omega) hb.1 hb.2) λ b eb hp=>Wo (λ _=>Wh λ e=>by cases e) λ hb1=>?_) λ f _ hf=>Wh λ e=>?_
 ·have hp:=hp (by simpa using hb1)
  refine IW (Xfu hN hb hp N 0 (by omega) (by omega) (by omega)) (λ a q=>Wh λ e=>absurd e q) λ _ q=>?_
  have hg:Oy N h:=⟨hp,q⟩
  refine WN (Xft hN hb) λ f _ _=>Wo (λ _=>Wh λ _=>hg) λ _=>?_
  exact WN (Xfv hbb N 0 0 (by omega) (by omega) (by omega)) λ c _ _=>Wo (λ _=>Wh λ _=>hg) λ _=>Wh λ _=>hg
 ·simp only[Ww,beq_iff_eq] at e
  exact hf e.1
def Oy.sz {N:Nat} {h:Wv} (hg:Oy N h) {l:List Int} (hl:Oi N h l) {a:Int} (ha:a∈l) (hk:(pg h.Pages (pgi h.Conf a)).Kind=1):szA h.Words a<=h.Conf.PageWords / 4:=by
 obtain ⟨r,hr,hm⟩:=hl.page a ha
 have hat:=hl.obj.at_ a ha
 obtain ⟨_,q0,q1,_⟩:=J5 hg.prop.conf hat.rng
 have:=hg.small _ q0 (by have:=hg.prop.pages;omega) r hr hk a hm
 unfold smC at this
 rwa[Wn hg.prop.conf] at this
def Xdh {N:Nat} (l:List Int) (hl:l.length<=100000000) (y:List Int×Int) (hy:y.1.length<=4096) (hN:1000000<N):∀ (n:Nat) (k:Int),0<=k->k<=l.length->(l.length-k).toNat<n->Ok (Qak N l y n k) λ _=>True
 | 0,k,_,_,hn=>by omega
 | n+1,k,h0,hk,hn=>by
  rw[Qak]
  refine Wo (λ hc=>?_) λ _=>Wh trivial
  have hc:k<l.length:=Wq hc
  rw[Xd (n:=k+1) (by omega) (by omega)]
  have next:=Xdh (N:=N) l hl y hy hN n (k+1) (by omega) (by omega) (by omega)
  refine Ok.get h0 hc λ p hp=>Wo (λ _=>Ok.get h0 hc λ p hp=>?_) λ _=>next
  rw[YZ p (by omega) (by omega),Xa]
  exact Wo (λ _=>Wh trivial) λ _=>next
def Jk {N:Nat} (hN:NB N) {h:Wv} (hb:HB h) {l:List Int} (hl:l.length<=1000000):Ok (Qa5 N h l) λ b=>b=true->Oy N h:=by
 have hN':=hN
 unfold NB at hN'
 rw[Qa5]
 refine WN (Km hN hb) λ b _ hb1=>Wo (λ _=>Wh λ e=>by cases e) λ hb2=>?_
 have hg:=hb1 (by simpa using hb2)
 refine WN (Zy hN hb) λ y _ hy=>?_
 exact IW (Xdh l (by omega) y hy.1.len (by omega) N 0 (by omega) (by omega) (by omega)) (λ _ _=>Wh λ _=>hg) λ _ _=>Wh λ _=>hg
def XkY (d:WI):XaS d % 4=1:=by
 have e:K4 .u64 (wU d.Map) 16=wU (wU d.Map*65536):=rfl
 unfold XaS
 rw[e]
 simp only[Xdb]
 omega
def XnO (ws:List Int) (a:Int) (h:wd ws a % 4=2):szA ws a=1:=by
 have:okH (wd ws a)=false:=by
  unfold okH
  have h1:=XkY (VP (wd ws a))
  have:(XaS (VP (wd ws a))==wd ws a)=false:=by
   rw[Iz]
   intro e
   rw[e] at h1
   omega
  rw[this,IF]
 unfold szA hdA Z9
 rw[this]
 rfl
structure Ov (h0:Wv) (l:List Int) (w:Uk) (O:Int->Prop) (s:Int->Int):Prop where
 old:∀ a∈l,O a/\s a=szA h0.Words a
 queue:∀ a∈w.Queue,O a
 fit:∀ a,O a->4096<=a/\1<=s a/\a+s a<=4096+w.Heap.Words.length/\szA w.Heap.Words a<=s a
 apart:∀ a b,O a->O b->a≠b->a+s a<=b\/b+s b<=a
 taken:∀ a,O a->∀ j∈w.Taken,a+s a<=Xi h0.Conf j (pg w.Heap.Pages j).Used\/Xi h0.Conf (j+1) 0<=a
 free:∀ a,O a->∀ j:Int,0<=j->j<w.Heap.Pages.length->(pg w.Heap.Pages j).Kind=0->a+s a<=Xi h0.Conf j 0\/Xi h0.Conf (j+1) 0<=a
structure CI (h0:Wv) (l:List Int) (w:Uk):Prop where
 conf:w.Heap.Conf=h0.Conf
 wlen:w.Heap.Words.length=h0.Words.length
 plen:w.Heap.Pages.length=h0.Pages.length
 spc:w.Heap.Space=h0.Space
 old:w.Old=l
 tk:∀ j∈w.Taken,0<=j/\j<w.Heap.Pages.length/\(pg w.Heap.Pages j).Kind=1/\0<=(pg w.Heap.Pages j).Used/\(pg w.Heap.Pages j).Used<=h0.Conf.PageWords
 tnd:w.Taken.Nodup
 knd:∀ a∈l,(pg w.Heap.Pages (pgi h0.Conf a)).Kind=(pg h0.Pages (pgi h0.Conf a)).Kind
 qnd:w.Queue.Nodup
 obj:∃ O s,Ov h0 l w O s
def Xaf:∀ (n:Nat) (a:Int) (l:List Int),l.Nodup->(∀ x∈l,a<=x/\x<a+n)->l.length<=n
 | 0,a,l,_,h=>by
  cases l with
  | nil=>simp
  | cons x l=>have:=h x (by simp);omega
 | n+1,a,l,hn,h=>by
  by_cases hm:a+(n:Int)∈l
  ·have h1:=Xaf n a (l.erase (a+(n:Int))) (hn.erase _) λ x hx=>by
    have h2:=(List.Nodup.mem_erase_iff hn).1 hx
    have h3:=h x h2.2
    have:=h2.1
    omega
   have h2:=List.length_erase_of_mem hm
   omega
  ·have h1:=Xaf n a l hn λ x hx=>by
    have h3:=h x hx
    have:x≠a+(n:Int):=λ e=>hm (e▸hx)
    omega
   omega
section
variable {N:Nat} {h0:Wv} {l:List Int}
def CI.ql {w:Uk} (hb:HB h0) (hc:CI h0 l w):w.Queue.length<=100000:=by
 obtain ⟨O,s,ho⟩:=hc.obj
 have:=Xaf w.Heap.Words.length 4096 w.Queue hc.qnd λ x hx=>by
  have:=ho.fit x (ho.queue x hx)
  omega
 have:=hb.1
 have:=hc.wlen
 omega
def CI.tl {w:Uk} (hb:HB h0) (hc:CI h0 l w):w.Taken.length<=100000:=by
 have:=Xaf w.Heap.Pages.length 0 w.Taken hc.tnd λ x hx=>by
  have:=hc.tk x hx
  omega
 have:=hb.2
 have:=hc.plen
 omega
def Xdi {w:Uk} (hl:w.Taken.length<=100000) (i:Int):∀ (n:Nat) (k:Int),0<=k->k<=w.Taken.length->(w.Taken.length-k).toNat<n->Ok (Qex N w i n k) λ _=>True
 | 0,k,_,_,hn=>by omega
 | n+1,k,h0,hk,hn=>by
  rw[Qex]
  refine Wo (λ hc=>?_) λ _=>Wh trivial
  have hc:k<w.Taken.length:=Wq hc
  rw[Xd (n:=k+1) (by omega) (by omega)]
  exact Ok.get h0 hc λ p hp=>Wo (λ _=>Wh trivial) λ _=>Xdi hl i n (k+1) (by omega) (by omega) (by omega)
def Xbi (hN:NB N) {w:Uk} (hl:w.Taken.length<=100000) (i:Int):Ok (Qey N w i) λ b=>b=true->0<=i/\i<w.Heap.Pages.length:=by
 unfold NB at hN
 rw[Qey]
 refine Wo (λ _=>Wh λ e=>by cases e) λ h1=>Wo (λ _=>Wh λ e=>by cases e) λ h2=>?_
 have h1:0<=i:=by have:=WG h1;omega
 have h2:i<w.Heap.Pages.length:=by have:=WG h2;omega
 refine Ok.get h1 h2 λ p hp=>Wo (λ _=>Wo (λ _=>WN (Q:=λ _=>True) ?_ λ y _ _=>Wh λ _=>⟨h1,h2⟩) λ _=>Wh λ e=>by cases e) λ _=>Wh λ e=>by cases e
 rw[Qhp]
 exact IW (Xdi hl i N 0 (by omega) (by omega) (by omega)) (λ _ _=>Wh trivial) λ _ _=>Wh trivial
structure OC (h0:Wv) (w:Uk) (n:Int) (w':Uk) (at_:Int) (j u:Int):Prop where
 rng:0<=j/\j<w.Heap.Pages.length
 fit:0<=u/\u+n<=h0.Conf.PageWords
 addr:at_=Xi h0.Conf j u
 conf:w'.Heap.Conf=w.Heap.Conf
 words:w'.Heap.Words=w.Heap.Words
 space:w'.Heap.Space=w.Heap.Space
 old:w'.Old=w.Old
 queue:w'.Queue=w.Queue
 scanned:w'.Scanned=w.Scanned
 plen:w'.Heap.Pages.length=w.Heap.Pages.length
 other:∀ i,0<=i->i≠j->pg w'.Heap.Pages i=pg w.Heap.Pages i
 this:(pg w'.Heap.Pages j).Kind=1/\(pg w'.Heap.Pages j).Used=u+n
 way:(j∈w.Taken/\w'.Taken=w.Taken/\u=(pg w.Heap.Pages j).Used)\/((pg w.Heap.Pages j).Kind=0/\w'.Taken=w.Taken++[j]/\u=0)
def XkZ (hN:NB N) (hb:HB h0) (hp:UR h0) {w:Uk} (hc:CI h0 l w) {n:Int} (hn:1<=n) (hn2:n<=h0.Conf.PageWords):Ok (Qer N w n) λ r=>r.2.2=true->∃ j u,OC h0 w n r.1 r.2.1 j u:=by
 have hN':=hN
 unfold NB at hN'
 have hbb:=hb.2
 have hpl:=hc.plen
 have hv:=Xj.1 hp.conf
 have htl:=hc.tl hb
 have hpp:=hp.pages
 rw[Qer]
 have new:Ok (bnd (QcW N w.Heap.Pages 1) λ y4 =>
  bif (decide (y4<0)) then some ((Uk.mk (Wv.mk (Um.mk 0 0) [] [] 0 0) [] [] [] 0 (UC.mk 0 0 0 0 0 0)),0,false)
  else bnd (QcX N w.Heap.Pages y4 (wI (1-w.Heap.Space))) λ y5 =>
  grd (w.Taken.length*8<=140737488355328) <|
  grd ((w.Taken.length+1)*8<=140737488355328) <|
  bnd (Xb y5.1 y4) λ p13 =>
  bnd (Xb y5.1 y4) λ p14 =>
  bnd (Xb y5.1 y4) λ p15 =>
  some ((Uk.mk (Wv.mk w.Heap.Conf w.Heap.Words (y5.1.set y4.toNat (WM.mk p15.Kind p15.Space (wI (p14.Used+n)) p15.Pins)) w.Heap.Space w.Heap.Bump) w.Old (w.Taken++[y4]) w.Queue w.Scanned w.Report),(wU (wI ((wI (4096+(wI (y4*w.Heap.Conf.PageWords))))+p13.Used))),true)) λ r=>r.2.2=true->∃ j u,OC h0 w n r.1 r.2.1 j u:=by
  refine WN (KJ 1 (by omega) (by omega)) λ j _ hj=>Wo (λ _=>Wh λ e=>by cases e) λ hj0=>?_
  have hr:RunOK w.Heap.Pages j 1:=by
   rcases hj with rfl | hj
   ·cases hj0
   ·exact hj
  have hsp:=hp.space
  have hws:=hc.spc
  rw[Xd (n:=1-w.Heap.Space) (by omega) (by omega)]
  refine WN (Xfo j (1-w.Heap.Space) (by omega) (by omega)) λ y _ hy=>?_
  have hy0:=hy.2.2 hr (by omega) (by omega)
  obtain ⟨q0,q1,q2,q3⟩:=hy.1 hy0
  have hk:=hr.2.2.2 0 (by omega) (by omega)
  rw[Int.add_zero] at hk
  have hjl:j<y.1.length:=by omega
  refine WY (by omega) (WY (by omega) (Ok.get q0 hjl λ p1 hp1=>Ok.get q0 hjl λ p2 hp2=>Ok.get q0 hjl λ p3 hp3=>Wh λ _=>?_))
  have g1:=Yl hp1
  have g2:=Yl hp2
  have g3:=Yl hp3
  rw[q3 j q0,Wn rfl] at g1 g2 g3
  subst g1;subst g2;subst g3
  have hm:=X5 hp.conf (i:=j) q0 (by omega)
  refine ⟨j,0,⟨⟨q0,by omega⟩,⟨by omega,by omega⟩,?_,rfl,rfl,rfl,rfl,rfl,rfl,?_,λ i hi hij=>?_,?_,.inr ⟨hk,rfl,rfl⟩⟩⟩
  ·show wU (wI (wI (4096+wI (j*w.Heap.Conf.PageWords))+0))=_
   rw[hc.conf,Xd (n:=j*h0.Conf.PageWords) (by omega) (by omega),Xd (n:=4096+j*h0.Conf.PageWords) (by omega) (by omega),Xd (by omega) (by omega),XC (by omega) (by omega)]
   rfl
  ·show (y.1.set _ _).length=_
   rw[Wx];exact q2
  ·show pg (y.1.set _ _) i=_
   rw[VQ _ q0 hjl hi,Wm hij,q3 i hi,Wm hij,Wm (by omega)]
  ·show (pg (y.1.set _ _) j).Kind=1/\(pg (y.1.set _ _) j).Used=_
   rw[VQ _ q0 hjl q0,Wn rfl]
   refine ⟨rfl,?_⟩
   show wI (0+n)=0+n
   rw[Xd (by omega) (by omega)]
 refine WY (by omega) (IB (Wo (λ ht=>?_) λ _=>new))
 have ht:0<(w.Taken.length:Int):=Wq ht
 rw[Xd (n:=((w.Taken.length:Nat):Int)-1) (by omega) (by omega)]
 refine Ok.get (by omega) (by omega) λ j hj=>?_
 have hjm:=Yo hj
 obtain ⟨t0,t1,t2,t3,t4⟩:=hc.tk j hjm
 refine Ok.get t0 t1 λ p hp2=>?_
 have g:=Yl hp2
 subst g
 rw[Xd (n:=(pg w.Heap.Pages j).Used+n) (by omega) (by omega)]
 refine Wo (λ hle=>?_) λ _=>new
 have hle:(pg w.Heap.Pages j).Used+n<=w.Heap.Conf.PageWords:=Wq hle
 rw[hc.conf] at hle
 refine Ok.get (by omega) (by omega) λ j' hj'=>?_
 obtain rfl:j=j':=Ug (hj.symm.trans hj')
 refine Ok.get t0 t1 λ p1 hp1=>Ok.get t0 t1 λ p2 hp2=>Ok.get t0 t1 λ p3 hp3=>Wh λ _=>?_
 have g1:=Yl hp1
 have g2:=Yl hp2
 have g3:=Yl hp3
 subst g1;subst g2;subst g3
 have hm:=X5 hp.conf (i:=j) t0 (by omega)
 refine ⟨j,(pg w.Heap.Pages j).Used,⟨⟨t0,t1⟩,⟨t3,hle⟩,?_,rfl,rfl,rfl,rfl,rfl,rfl,?_,λ i hi hij=>?_,?_,.inl ⟨hjm,rfl,rfl⟩⟩⟩
 ·show wU (wI (wI (4096+wI (j*w.Heap.Conf.PageWords))+_))=_
  rw[hc.conf,Xd (n:=j*h0.Conf.PageWords) (by omega) (by omega),Xd (n:=4096+j*h0.Conf.PageWords) (by omega) (by omega),Xd (by omega) (by omega),XC (by omega) (by omega)]
  rfl
 ·show (w.Heap.Pages.set _ _).length=_
  rw[Wx]
 ·show pg (w.Heap.Pages.set _ _) i=_
  rw[VQ _ t0 t1 hi,Wm hij]
 ·show (pg (w.Heap.Pages.set _ _) j).Kind=1/\(pg (w.Heap.Pages.set _ _) j).Used=_
  rw[VQ _ t0 t1 t0,Wn rfl]
  refine ⟨t2,?_⟩
  show wI ((pg w.Heap.Pages j).Used+n)=_
  rw[Xd (by omega) (by omega)]
end
def XpO {a b:Int} (ha:4096<=a) (hb:4096<=b) (h:ix a=ix b):a=b:=by unfold ix at h;omega
def Xk0 {ws:List Int} {x a v:Int} (hx:inW ws x) (ha:4096<=a):wd (ws.set (ix x) v) a=if a=x then v else wd ws a:=by
 unfold wd
 have hlt:ix x<ws.length:=by unfold inW at hx;unfold ix;omega
 rw[Wr,Wr,Is]
 by_cases h:a=x
 ·subst h;rw[Wn rfl,Wn hlt,Wn rfl];rfl
 ·rw[Wm h,Wm]
  intro e
  exact h (XpO ha hx.1 e.symm)
def XnP {ws:List Int} {to a x:Int} {k:Nat} (h1:Yq ws a k) (h2:Yq ws to k) (hx:4096<=x):wd (ovr ws ((ws.drop (ix a)).take k) (ix to)) x=if to<=x/\x<to+k then wd ws (a+(x-to)) else wd ws x:=by
 have hlen:((ws.drop (ix a)).take k).length=k:=by unfold Yq at h1;simp[ix];omega
 unfold wd
 rw[Xfk (by rw[hlen];unfold Yq at h2;unfold ix;omega),hlen]
 unfold Yq at h1 h2
 by_cases h:to<=x/\x<to+k
 ·rw[Wn h,Wn (by unfold ix;omega),Wr,W6,Wn (by unfold ix;omega),Uu,← Wr]
  congr 1
  unfold ix;omega
 ·rw[Wm h,Wm (by unfold ix;omega)]
def XhG {ws:List Int} {to a:Int} {k:Nat} (h1:Yq ws a k) (h2:Yq ws to k):(ovr ws ((ws.drop (ix a)).take k) (ix to)).length=ws.length:=by
 have hlen:((ws.drop (ix a)).take k).length=k:=by unfold Yq at h1;simp[ix];omega
 exact ZX (by rw[hlen];unfold Yq at h2;unfold ix;omega)
def Xag {c:Um} (hc:XZ c=true) {i j o p:Int} (h:i<j) (h1:o<=c.PageWords) (h2:0<=p):Xi c i o<=Xi c j p:=by
 have hv:=Xj.1 hc
 have:(i+1)*c.PageWords<=j*c.PageWords:=UO (by omega) (by omega)
 have e:(i+1)*c.PageWords=i*c.PageWords+c.PageWords:=by rw[IU,Oj]
 unfold Xi
 omega
section
variable {N:Nat} {h0:Wv} {l:List Int}
structure OG (h0:Wv) (l:List Int) (w w':Uk) (O:Int->Prop) (s:Int->Int):Prop where
 ci:CI h0 l w'
 ob:∃ O' s',Ov h0 l w' O' s'/\∀ a,O a->O' a/\s' a=s a
 sc:w'.Scanned=w.Scanned
 ql:w.Queue.length<=w'.Queue.length
def SameK (ps qs:List WM):Prop:=qs.length=ps.length/\∀ i,0<=i->(pg qs i).Kind=(pg ps i).Kind/\(pg qs i).Used=(pg ps i).Used
def SameK.refl (ps:List WM):SameK ps ps:=⟨rfl,λ _ _=>⟨rfl,rfl⟩⟩
def SameK.set {ps qs:List WM} (h:SameK ps qs) {i:Int} (h0:0<=i) (h1:i<qs.length) (sp pins:Int):SameK ps (qs.set i.toNat ⟨(pg qs i).Kind,sp,(pg qs i).Used,pins⟩):=by
 refine ⟨by rw[Wx];exact h.1,λ j hj=>?_⟩
 rw[VQ _ h0 h1 hj]
 split
 ·rename_i e;subst e;exact h.2 j hj
 ·exact h.2 j hj
def Xk1 (w:Uk) (a:Int) {ps:List WM} (hl:ps.length<=100000):∀ (n:Nat) (i:Int) (qs:List WM),0<=i->i<=ps.length->(ps.length-i).toNat<n->SameK ps qs->Ok (Qdv N w a n i qs) λ r=>SameK ps r
 | 0,i,qs,_,_,hn,_=>by omega
 | n+1,i,qs,h0,hi,hn,hs=>by
  have hq:=hs.1
  rw[Qdv]
  refine WY (by omega) (Wo (λ hc=>?_) λ _=>Wh hs)
  have hc:i<qs.length:=Wq hc
  rw[Xd (n:=i+1) (by omega) (by omega)]
  refine Ok.get h0 hc λ p hp=>Wo (λ _=>Ok.get h0 hc λ p hp=>?_) λ _=>Wh hs
  have hg:=Yl hp
  subst hg
  exact Xk1 w a hl n (i+1) _ (by omega) (by omega) (by omega) (hs.set h0 hc _ _)
def CI.pages {w:Uk} (hc:CI h0 l w) {qs:List WM} (h:SameK w.Heap.Pages qs):CI h0 l { w with Heap:={ w.Heap with Pages:=qs } }:=by
 obtain ⟨O,s,ho⟩:=hc.obj
 refine ⟨hc.conf,hc.wlen,h.1.trans hc.plen,hc.spc,hc.old,λ j hj=>?_,hc.tnd,λ a ha=>?_,hc.qnd,?_⟩
 ·have:=hc.tk j hj
  have h2:=h.2 j this.1
  show 0<=j/\j<qs.length/\(pg qs j).Kind=1/\0<=(pg qs j).Used/\(pg qs j).Used<=h0.Conf.PageWords
  rw[h2.1,h2.2,h.1];exact this
 ·show (pg qs _).Kind=_
  have hk:=hc.knd a ha
  by_cases hp:0<=pgi h0.Conf a
  ·rw[(h.2 _ hp).1];exact hk
  ·have e1:∀ ps:List WM,pg ps (pgi h0.Conf a)=pg ps 0:=λ ps=>by
    unfold pg
    have:(pgi h0.Conf a).toNat=(0:Int).toNat:=by omega
    rw[this]
   rw[e1,(h.2 0 (by omega)).1,← e1,hk]
 ·refine ⟨O,s,ho.old,ho.queue,ho.fit,ho.apart,λ a ha j hj=>?_,λ a ha j h1 h2 h3=>?_⟩
  ·show a+s a<=Xi h0.Conf j (pg qs j).Used\/_
   rw[(h.2 j (hc.tk j hj).1).2];exact ho.taken a ha j hj
  ·have h2:j<qs.length:=h2
   have h3:(pg qs j).Kind=0:=h3
   rw[(h.2 j h1).1] at h3
   exact ho.free a ha j h1 (by rw[← h.1];exact h2) h3
def Ov.pages {w:Uk} {O:Int->Prop} {s:Int->Int} (hc:CI h0 l w) (ho:Ov h0 l w O s) {qs:List WM} (h:SameK w.Heap.Pages qs):Ov h0 l { w with Heap:={ w.Heap with Pages:=qs } } O s:=by
 refine ⟨ho.old,ho.queue,ho.fit,ho.apart,λ a ha j hj=>?_,λ a ha j h1 h2 h3=>?_⟩
 ·show a+s a<=Xi h0.Conf j (pg qs j).Used\/_
  rw[(h.2 j (hc.tk j hj).1).2];exact ho.taken a ha j hj
 ·have h2:j<qs.length:=h2
  have h3:(pg qs j).Kind=0:=h3
  rw[(h.2 j h1).1] at h3
  exact ho.free a ha j h1 (by rw[← h.1];exact h2) h3
def CI.push {w:Uk} {O:Int->Prop} {s:Int->Int} (hc:CI h0 l w) (ho:Ov h0 l w O s) {a:Int} (ha:O a) (hq:a∉w.Queue) (rp:UC):OG h0 l w { w with Queue:=w.Queue++[a],Report:=rp } O s:=by
 have ho2:Ov h0 l { w with Queue:=w.Queue++[a],Report:=rp } O s:=by
  refine ⟨ho.old,λ x hx=>?_,ho.fit,ho.apart,ho.taken,ho.free⟩
  rcases WK.1 hx with hx | hx
  ·exact ho.queue x hx
  ·rw[UT.1 hx];exact ha
 refine ⟨⟨hc.conf,hc.wlen,hc.plen,hc.spc,hc.old,hc.tk,hc.tnd,hc.knd,?_,⟨O,s,ho2⟩⟩,⟨O,s,ho2,λ a h=>⟨h,rfl⟩⟩,rfl,?_⟩
 ·show (w.Queue++[a]).Nodup
  rw[Iu]
  refine ⟨hc.qnd,by simp,λ x hx y hy=>?_⟩
  rw[UT.1 hy]
  rintro rfl
  exact hq hx
 ·show w.Queue.length<=(w.Queue++[a]).length
  rw[Wp];omega
end
section
variable {N:Nat} {h0:Wv} {l:List Int}
def XpP (hp:UR h0) (hk12:∀ a∈l,(pg h0.Pages (pgi h0.Conf a)).Kind=1\/(pg h0.Pages (pgi h0.Conf a)).Kind=2) (hpr:∀ a∈l,0<=pgi h0.Conf a) {w w':Uk} {O:Int->Prop} {s:Int->Int} (hc:CI h0 l w) (ho:Ov h0 l w O s) {a n at_ j u:Int} (hal:a∈l) (hn:n=szA w.Heap.Words a) (hn1:1<=n) (pq:OC h0 w n w' at_ j u) (v:Int) (hv:v % 4=2) (rp:UC) :
 Yq w.Heap.Words a n.toNat/\Yq w.Heap.Words at_ n.toNat/\4096<=at_/\at_<=200000/\OG h0 l w { w' with Heap:={ w'.Heap with Words:=(ovr w.Heap.Words ((w.Heap.Words.drop (ix a)).take n.toNat) (ix at_)).set (ix a) v },Queue:=w'.Queue++[at_],Report:=rp } O s:=by
 have hvc:=Xj.1 hp.conf
 obtain ⟨hOa,hsa⟩:=ho.old a hal
 obtain ⟨fa1,fa2,fa3,fa4⟩:=ho.fit a hOa
 rw[← hn] at fa4
 have hwl:=hc.wlen
 have hw0:=hp.words
 have hpl:=hc.plen
 have hpl0:=hp.pages
 obtain ⟨r1,r2⟩:=pq.rng
 have hm:=X5 hp.conf (i:=j) r1 (by omega)
 obtain ⟨u0,u1⟩:=pq.fit
 have hat:at_=Xi h0.Conf j u:=pq.addr
 have hat1:at_=4096+j*h0.Conf.PageWords+u:=hat
 have hend:at_+n=Xi h0.Conf j (u+n):=by rw[hat];unfold Xi;omega
 have hend2:at_+n<=Xi h0.Conf (j+1) 0:=by
  have e:(j+1)*h0.Conf.PageWords=j*h0.Conf.PageWords+h0.Conf.PageWords:=by rw[IU,Oj]
  unfold Xi;omega
 have i1:Yq w.Heap.Words a n.toNat:=by unfold Yq;omega
 have i2:Yq w.Heap.Words at_ n.toNat:=by unfold Yq;omega
 have away:∀ x,O x->x+s x<=at_\/Xi h0.Conf (j+1) 0<=x:=by
  intro x hx
  rcases pq.way with ⟨g1,g2,g3⟩ | ⟨g1,g2,g3⟩
  ·have:=ho.taken x hx j g1
   rw[← g3,← hat] at this
   exact this
  ·have:=ho.free x hx j r1 r2 g1
   rw[g3] at hat
   rw[hat]
   exact this
 have fresh:¬ O at_:=by
  intro hx
  have:=away at_ hx
  have:=(ho.fit at_ hx).2.1
  omega
 have hne:a≠at_:=λ e=>fresh (e▸hOa)
 have aw2:∀ x,O x->x+s x<=at_\/at_+n<=x:=λ x hx=>by
  have:=away x hx
  omega
 have hlen:(ovr w.Heap.Words ((w.Heap.Words.drop (ix a)).take n.toNat) (ix at_)).length=w.Heap.Words.length:=XhG i1 i2
 have hlen2:((ovr w.Heap.Words ((w.Heap.Words.drop (ix a)).take n.toNat) (ix at_)).set (ix a) v).length=w.Heap.Words.length:=by rw[Wx,hlen]
 have hwd:∀ x,4096<=x->wd ((ovr w.Heap.Words ((w.Heap.Words.drop (ix a)).take n.toNat) (ix at_)).set (ix a) v) x=if x=a then v else if at_<=x/\x<at_+n then wd w.Heap.Words (a+(x-at_)) else wd w.Heap.Words x:=by
  intro x hx
  rw[Xk0 (by unfold inW;rw[hlen];omega) hx,XnP i1 i2 hx]
  have:((n.toNat:Nat):Int)=n:=by omega
  rw[this]
 have hsz:∀ x,O x->szA ((ovr w.Heap.Words ((w.Heap.Words.drop (ix a)).take n.toNat) (ix at_)).set (ix a) v) x<=s x:=by
  intro x hx
  have hf:=ho.fit x hx
  by_cases hxa:x=a
  ·have:szA ((ovr w.Heap.Words ((w.Heap.Words.drop (ix a)).take n.toNat) (ix at_)).set (ix a) v) x=1:=by
    apply XnO
    rw[hwd x hf.1,Wn hxa];exact hv
   omega
  ·have:szA ((ovr w.Heap.Words ((w.Heap.Words.drop (ix a)).take n.toNat) (ix at_)).set (ix a) v) x=szA w.Heap.Words x:=by
    unfold szA hdA
    rw[hwd x hf.1,Wm hxa,Wm]
    have:=aw2 x hx
    omega
   omega
 have hszat:szA ((ovr w.Heap.Words ((w.Heap.Words.drop (ix a)).take n.toNat) (ix at_)).set (ix a) v) at_=n:=by
  refine Eq.trans ?_ hn.symm
  unfold szA hdA
  rw[hwd at_ (by omega),Wm (λ e=>hne e.symm),Wn (by omega)]
  rw[show a+(at_-at_)=a by omega]
 have hjk:=pq.this
 have hk0:∀ i,0<=i->(pg w'.Heap.Pages i).Kind=0->i≠j/\(pg w.Heap.Pages i).Kind=0:=by
  intro i hi hk
  have hij:i≠j:=by rintro rfl;rw[hjk.1] at hk;cases hk
  rw[pq.other i hi hij] at hk
  exact ⟨hij,hk⟩
 have htk:∀ i∈w'.Taken,i=j\/(i∈w.Taken/\i≠j):=by
  intro i hi
  by_cases hij:i=j
  ·exact .inl hij
  ·right
   refine ⟨?_,hij⟩
   rcases pq.way with ⟨_,g2,_⟩ | ⟨_,g2,_⟩
   ·rwa[g2] at hi
   ·rw[g2] at hi
    rcases WK.1 hi with hi | hi
    ·exact hi
    ·exact absurd (UT.1 hi) hij
 have hqe:w'.Queue=w.Queue:=pq.queue
 refine ⟨i1,i2,by omega,by omega,?_⟩
 have hO:Ov h0 l { w' with Heap:={ w'.Heap with Words:=(ovr w.Heap.Words ((w.Heap.Words.drop (ix a)).take n.toNat) (ix at_)).set (ix a) v },Queue:=w'.Queue++[at_],Report:=rp } (λ x=>O x\/x=at_) (λ x=>if x=at_ then n else s x):=by
  have ne:∀ x,O x->x≠at_:=λ x hx e=>fresh (e▸hx)
  refine ⟨λ x hx=>?_,λ x hx=>?_,λ x hx=>?_,λ x y hx hy hxy=>?_,λ x hx i hi=>?_,λ x hx i g1 g2 g3=>?_⟩
  ·obtain ⟨q1,q2⟩:=ho.old x hx
   exact ⟨.inl q1,by rw[Wm (ne x q1)];exact q2⟩
  ·have hx:x∈w'.Queue++[at_]:=hx
   rcases WK.1 hx with hx | hx
   ·rw[hqe] at hx;exact .inl (ho.queue x hx)
   ·exact .inr (UT.1 hx)
  ·show 4096<=x/\1<=(if x=at_ then n else s x)/\x+(if x=at_ then n else s x)<=4096+((ovr w.Heap.Words ((w.Heap.Words.drop (ix a)).take n.toNat) (ix at_)).set (ix a) v).length/\szA ((ovr w.Heap.Words ((w.Heap.Words.drop (ix a)).take n.toNat) (ix at_)).set (ix a) v) x<=(if x=at_ then n else s x)
   rw[hlen2]
   rcases hx with hx | rfl
   ·rw[Wm (ne x hx)]
    obtain ⟨f1,f2,f3,f4⟩:=ho.fit x hx
    exact ⟨f1,f2,f3,hsz x hx⟩
   ·rw[Wn rfl,hszat]
    omega
  ·show x+(if x=at_ then n else s x)<=y\/y+(if y=at_ then n else s y)<=x
   rcases hx with hx | rfl
   ·rcases hy with hy | rfl
    ·rw[Wm (ne x hx),Wm (ne y hy)];exact ho.apart x y hx hy hxy
    ·rw[Wm (ne x hx),Wn rfl];have:=aw2 x hx;omega
   ·rcases hy with hy | rfl
    ·rw[Wn rfl,Wm (ne y hy)];have:=aw2 y hy;omega
    ·exact absurd rfl hxy
  ·show x+(if x=at_ then n else s x)<=Xi h0.Conf i (pg w'.Heap.Pages i).Used\/Xi h0.Conf (i+1) 0<=x
   rcases htk i hi with rfl | ⟨hi1,hi2⟩
   ·rw[hjk.2]
    rcases hx with hx | rfl
    ·rw[Wm (ne x hx)];have:=away x hx;have:at_<=Xi h0.Conf i (u+n):=by omega
     omega
    ·rw[Wn rfl];left;omega
   ·obtain ⟨t1,t2,t3,t4,t5⟩:=hc.tk i hi1
    rw[pq.other i t1 hi2]
    rcases hx with hx | rfl
    ·rw[Wm (ne x hx)];exact ho.taken x hx i hi1
    ·rw[Wn rfl]
     by_cases hlt:i<j
     ·right
      have:=Xag hp.conf (o:=h0.Conf.PageWords) (p:=u) hlt (by omega) u0
      have e:Xi h0.Conf (i+1) 0=Xi h0.Conf i h0.Conf.PageWords:=by unfold Xi;rw[IU,Oj];omega
      omega
     ·left
      have:=Xag hp.conf (i:=j) (j:=i) (o:=u+n) (p:=(pg w.Heap.Pages i).Used) (by omega) (by omega) t4
      omega
  ·have g2:i<w'.Heap.Pages.length:=g2
   have g3:(pg w'.Heap.Pages i).Kind=0:=g3
   show x+(if x=at_ then n else s x)<=Xi h0.Conf i 0\/Xi h0.Conf (i+1) 0<=x
   obtain ⟨k1,k2⟩:=hk0 i g1 g3
   rcases hx with hx | rfl
   ·rw[Wm (ne x hx)];exact ho.free x hx i g1 (by rw[← pq.plen];exact g2) k2
   ·rw[Wn rfl]
    by_cases hlt:i<j
    ·right
     have:=Xag hp.conf (o:=h0.Conf.PageWords) (p:=u) hlt (by omega) u0
     have e:Xi h0.Conf (i+1) 0=Xi h0.Conf i h0.Conf.PageWords:=by unfold Xi;rw[IU,Oj];omega
     omega
    ·left
     have:=Xag hp.conf (i:=j) (j:=i) (o:=u+n) (p:=0) (by omega) (by omega) (by omega)
     omega
 refine ⟨⟨?_,?_,?_,?_,?_,λ i hi=>?_,?_,λ x hx=>?_,?_,⟨_,_,hO⟩⟩,⟨_,_,hO,λ x hx=>⟨.inl hx,?_⟩⟩,pq.scanned,?_⟩
 ·exact pq.conf.trans hc.conf
 ·exact hlen2.trans hc.wlen
 ·exact pq.plen.trans hc.plen
 ·exact pq.space.trans hc.spc
 ·exact pq.old.trans hc.old
 ·show 0<=i/\i<w'.Heap.Pages.length/\(pg w'.Heap.Pages i).Kind=1/\0<=(pg w'.Heap.Pages i).Used/\(pg w'.Heap.Pages i).Used<=h0.Conf.PageWords
  rw[pq.plen]
  rcases htk i hi with rfl | ⟨hi1,hi2⟩
  ·rw[hjk.1,hjk.2]
   omega
  ·have:=hc.tk i hi1
   rw[pq.other i this.1 hi2]
   exact this
 ·show w'.Taken.Nodup
  rcases pq.way with ⟨_,g2,_⟩ | ⟨g1,g2,_⟩
  ·rw[g2];exact hc.tnd
  ·rw[g2,Iu]
   refine ⟨hc.tnd,by simp,λ x hx y hy=>?_⟩
   rw[UT.1 hy]
   rintro rfl
   rw[(hc.tk x hx).2.2.1] at g1
   cases g1
 ·show (pg w'.Heap.Pages _).Kind=_
  have hkx:=hc.knd x hx
  have h12:=hk12 x hx
  by_cases hij:pgi h0.Conf x=j
  ·rw[hij] at hkx h12 ⊢
   rw[hjk.1]
   rcases pq.way with ⟨g1,_,_⟩ | ⟨g1,_,_⟩
   ·rw[(hc.tk j g1).2.2.1] at hkx;exact hkx
   ·rw[g1] at hkx;rw[← hkx] at h12;rcases h12 with h | h<;>cases h
  ·rw[pq.other _ (hpr x hx) hij];exact hkx
 ·show (w'.Queue++[at_]).Nodup
  rw[hqe,Iu]
  refine ⟨hc.qnd,by simp,λ x hx y hy=>?_⟩
  rw[UT.1 hy]
  rintro rfl
  exact fresh (ho.queue x hx)
 ·show (if x=at_ then n else s x)=s x
  exact Wm (λ e=>fresh (by rw[← e];exact hx))
 ·show w.Queue.length<=(w'.Queue++[at_]).length
  rw[hqe,Wp];omega
structure Start (N:Nat) (h0:Wv) (l:List Int):Prop where
 hb:HB h0
 good:l≠[]->Oy N h0
 prop:l≠[]->UR h0
 st:Oi N h0 l
def Xk2 (a:Int) (h0:0<=a) (h1:a<4294967296):wU (wU (4*a)+2) % 4=2:=by
 rw[XC (n:=4*a) (by omega) (by omega),XC (by omega) (by omega)]
 omega
def Xcc {l:List Int} {a:Int} (h:l.contains a=false):a∉l:=by
 intro hm
 have:l.contains a=true:=by simpa using hm
 rw[h] at this;cases this
def Zr {l:List Int} {a:Int} (h:l.contains a=true):a∈l:=by simpa using h
def CI.wl {w:Uk} (hb:HB h0) (hc:CI h0 l w):w.Heap.Words.length<=BIG:=by
 have:=hb.1
 have:=hc.wlen
 unfold BIG
 omega
def Xcd (hN:NB N) (hs:Start N h0 l) {w:Uk} {O:Int->Prop} {s:Int->Int} (hc:CI h0 l w) (ho:Ov h0 l w O s) (a:Int):Ok (Qdk N w a) λ r=>r.2.2=0->OG h0 l w r.1 O s:=by
 have hN':=hN
 unfold NB at hN'
 have hb:=hs.hb
 have hql:=hc.ql hb
 have hwl:=hc.wl hb
 have hww:=hc.wlen
 have hb1:=hb.1
 have hb2:=hb.2
 have hpl:=hc.plen
 have same:OG h0 l w w O s:=⟨hc,⟨O,s,ho,λ _ h=>⟨h,rfl⟩⟩,rfl,Ui _⟩
 rw[Qdk]
 refine Wo (λ _=>Wh λ _=>same) λ _=>?_
 rw[YZ a (by omega) (by omega),Xa]
 refine Wo (λ _=>Wh λ _=>same) λ hq=>?_
 have hq:=Xcc hq
 rw[YZ a (by rw[hc.old];have:=hs.st.len;omega) (by rw[hc.old];have:=hs.st.len;omega),Xa]
 refine Wo (λ _=>Wh λ e=>by cases e) λ hal=>?_
 have hal:a∈l:=by rw[← hc.old];exact Zr (by simpa using hal)
 have hne:l≠[]:=List.ne_nil_of_mem hal
 have hp:=hs.prop hne
 have hg:=hs.good hne
 have hat:=hs.st.obj.at_ a hal
 have hwd0:=hp.words
 have hpg0:=hp.pages
 have hvc:=Xj.1 hp.conf
 have hrng:=hat.rng
 obtain ⟨_,q0,q1,_⟩:=J5 hp.conf hrng
 have hin:inW w.Heap.Words a:=by unfold inW;omega
 rw[ZJ hwl,Xa,Wn hin,Xdd,Xa]
 have hof:Qdr N w.Heap.Conf a=some (pgi h0.Conf a,pgo h0.Conf a,0):=by
  rw[Xae,hc.conf,hp.conf,Wm (by simp),Wn hrng];rfl
 rw[hof,Xa]
 refine Wo (λ _=>Wh λ _=>same) λ _=>?_
 refine Wo (λ _=>Wh λ e=>by cases e) λ _=>?_
 refine Wo (λ _=>Wh λ e=>by cases e) λ _=>?_
 refine WN (Xbi hN (hc.tl hb) _) λ b _ _=>Wo (λ _=>?_) λ _=>?_
 ·rw[QeZ,Xf (by omega),Xf (by omega),Xa]
  exact Wh λ _=>hc.push ho (ho.old a hal).1 hq _
 refine Ok.get q0 (by show pgi h0.Conf a<_;omega) λ p hpp=>Wo (λ _=>?_) λ hk2=>?_
 ·refine WY (by omega) (Ok.get q0 (by show pgi h0.Conf a<_;omega) λ p hpp=>?_)
  have hgp:=Yl hpp
  subst hgp
  rw[Xd (n:=pgi h0.Conf a+1) (by omega) (by omega)]
  refine WN (Xk1 w a (ps:=w.Heap.Pages) (by omega) N (pgi h0.Conf a+1) _ (by omega) (by omega) (by omega) ((SameK.refl _).set q0 (by omega) _ _)) λ qs _ hqs=>?_
  rw[QeZ,Xf (by show w.Queue.length*8<=_;omega),Xf (by show (w.Queue.length+1)*8<=_;omega),Xa]
  refine Wh λ _=>?_
  have q:=λ rp=>(hc.pages hqs).push (ho.pages hc hqs) (ho.old a hal).1 hq rp
  exact ⟨(q _).ci,(q _).ob,(q w.Report).sc,(q w.Report).ql⟩
 ·have hgp:=Yl hpp
  have hk12:∀ x∈l,(pg h0.Pages (pgi h0.Conf x)).Kind=1\/(pg h0.Pages (pgi h0.Conf x)).Kind=2:=λ x hx=>(hs.st.obj.at_ x hx).kind
  have hpr:∀ x∈l,0<=pgi h0.Conf x:=λ x hx=>(J5 hp.conf (hs.st.obj.at_ x hx).rng).2.1
  have hk1:(pg h0.Pages (pgi h0.Conf a)).Kind=1:=by
   rcases hk12 a hal with h | h
   ·exact h
   ·exfalso
    rw[← hc.knd a hal,hgp] at h
    rw[h] at hk2;cases hk2
  have hsz:=hg.sz hs.st hal hk1
  have hso:=(ho.old a hal).2
  have hfit:=ho.fit a (ho.old a hal).1
  have hsw:=ZL w.Heap.Words a
  rw[Xad,Xa,YB,Xa]
  have e1:X1 (Z9 (w.Heap.Words.getD (ix a) 0))=szA w.Heap.Words a:=hsw.1
  show Ok (bnd (Qer N w (X1 (Z9 (w.Heap.Words.getD (ix a) 0)))) _) _
  rw[e1]
  refine WN (XkZ hN hb hp hc (n:=szA w.Heap.Words a) hsw.2.1 (by omega)) λ y _ hy=>Wo (λ _=>Wh λ e=>by cases e) λ hy2=>?_
  obtain ⟨j,u,pq⟩:=hy (by simpa using hy2)
  have q:=λ v hv rp=>XpP (n:=szA w.Heap.Words a) hp hk12 hpr hc ho hal rfl hsw.2.1 pq v hv rp
  obtain ⟨i1,i2,a1,a2,_⟩:=q 2 rfl y.1.Report
  rw[pq.words]
  have en:szA w.Heap.Words a=(((szA w.Heap.Words a).toNat:Nat):Int):=by omega
  have hmv:=XnJ (N:=N) hwl y.2.1 a (szA w.Heap.Words a).toNat (by omega) (by omega)
  rw[← en,Wn ⟨i1,i2⟩] at hmv
  rw[hmv,Xa,XgG,Xa,Wm (by omega)]
  have ol:=XhG i1 i2
  rw[Xab (by rw[ol];exact hwl) (by omega),Xa]
  have hin2:inW (ovr w.Heap.Words ((w.Heap.Words.drop (ix a)).take (szA w.Heap.Words a).toNat) (ix y.2.1)) a:=by unfold inW;rw[ol];exact hin
  rw[Wn hin2]
  have hqe:=pq.queue
  refine WY (by rw[hqe];omega) (WY (by rw[hqe];omega) (Wh λ _=>?_))
  exact (q _ (Xk2 y.2.1 (by omega) (by omega)) _).2.2.2.2
end
section
variable {N:Nat} {h0:Wv} {l:List Int}
def Xah (h:Wv) (y:List Int×Int) (hl:h.Pages.length<=100000):∀ (n:Nat) (i:Int) (qs:List WM),0<=i->i<=h.Pages.length->(h.Pages.length-i).toNat<n->SameK h.Pages qs->Ok (QcQ N h y n i qs) λ r=>SameK h.Pages r
 | 0,i,qs,_,_,hn,_=>by omega
 | n+1,i,qs,h0,hi,hn,hs=>by
  have hq:=hs.1
  rw[QcQ]
  refine WY (by omega) (Wo (λ hc=>?_) λ _=>Wh hs)
  have hc:i<qs.length:=Wq hc
  rw[Xd (n:=i+1) (by omega) (by omega)]
  have next:=Xah h y hl n (i+1) qs (by omega) (by omega) (by omega) hs
  refine Ok.get h0 hc λ p hp=>Wo (λ _=>Wo (λ _=>Ok.get h0 hc λ p hp=>?_) λ _=>next) λ _=>next
  have hg:=Yl hp
  subst hg
  exact Xah h y hl n (i+1) _ (by omega) (by omega) (by omega) (hs.set h0 hc _ _)
def XgI {h:Wv} (hp:UR h) {a:Int} (ha:Of h a) {j:Int} (h1:0<=j) (hk:(pg h.Pages j).Kind=0):a+szA h.Words a<=Xi h.Conf j 0\/Xi h.Conf (j+1) 0<=a:=by
 obtain ⟨k,k1,k2,k3,k4⟩:=Xec hp ha
 obtain ⟨q1,q2,q3,q4,q5⟩:=J5 hp.conf ha.rng
 have hvc:=Xj.1 hp.conf
 have hkk:=ha.kind
 by_cases hlt:j<pgi h.Conf a
 ·right
  have:=Xag hp.conf (o:=h.Conf.PageWords) (p:=pgo h.Conf a) hlt (by omega) q4
  have e:Xi h.Conf (j+1) 0=Xi h.Conf j h.Conf.PageWords:=by unfold Xi;rw[IU,Oj];omega
  omega
 ·by_cases he:j=pgi h.Conf a
  ·subst he;rw[hk] at hkk;rcases hkk with h | h<;>cases h
  ·by_cases hlt2:j<pgi h.Conf a+k
   ·have:=k4 (j-pgi h.Conf a) (by omega) (by omega)
    rw[show pgi h.Conf a+(j-pgi h.Conf a)=j by omega] at this
    rw[hk] at this;cases this
   ·left
    have:(pgi h.Conf a+k)*h.Conf.PageWords<=j*h.Conf.PageWords:=UO (by omega) (by omega)
    have e1:Xi h.Conf (pgi h.Conf a+k) 0=4096+(pgi h.Conf a+k)*h.Conf.PageWords+0:=rfl
    have e2:Xi h.Conf j 0=4096+j*h.Conf.PageWords+0:=rfl
    omega
def Xfw {h:Wv} (hb:HB h) (hp:UR h) {l:List Int} (hs:Oi N h l) {w:Uk} (e1:w.Heap.Conf=h.Conf) (e2:w.Heap.Words=h.Words) (e3:w.Heap.Space=h.Space) (hk:SameK h.Pages w.Heap.Pages) (e4:w.Old=l) (e5:w.Taken=[]) (e6:w.Queue=[]):CI h l w:=by
 have ho:Ov h l w (λ a=>a∈l) (szA h.Words):=by
  refine ⟨λ a ha=>⟨ha,rfl⟩,λ a ha=>(by rw[e6] at ha;cases ha),λ a ha=>?_,λ a b ha hb' hab=>?_,λ a ha j hj=>(by rw[e5] at hj;cases hj),λ a ha j h1 h2 h3=>?_⟩
  ·rw[e2]
   have h1:=hs.obj.at_ a ha
   exact ⟨h1.rng.1,(ZL h.Words a).2.1,Vq hp h1,Int.le_refl _⟩
  ·have hpw:=hs.obj.pw
   rw[Ie] at hpw
   obtain ⟨i,hi,ei⟩:=WU ha
   obtain ⟨j,hj,ej⟩:=WU hb'
   rcases Nat.lt_trichotomy i j with hij | hij | hij
   ·left;have:=hpw i j hi hj hij;rw[ei,ej] at this;exact this
   ·subst hij;exact absurd (ei.symm.trans ej) hab
   ·right;have:=hpw j i hj hi hij;rw[ei,ej] at this;exact this
  ·rw[(hk.2 j h1).1] at h3
   exact XgI hp (hs.obj.at_ a ha) h1 h3
 refine ⟨e1,by rw[e2],hk.1,e3,e4,λ j hj=>(by rw[e5] at hj;cases hj),by rw[e5];exact Oa,λ a ha=>?_,by rw[e6];exact Oa,⟨_,_,ho⟩⟩
 exact (hk.2 _ (J5 hp.conf (hs.obj.at_ a ha).rng).2.1).1
def zW:Uk:=⟨zH,[],[],[],0,⟨0,0,0,0,0,0⟩⟩
def Xk3 (N:Nat):Start N zH []:=⟨ZT,λ h=>absurd rfl h,λ h=>absurd rfl h,Oi.nil N zH⟩
def Xq4:CI zH [] zW:=by
 refine ⟨rfl,rfl,rfl,rfl,rfl,λ j hj=>(by cases hj),Oa,λ a ha=>(by cases ha),Oa,⟨λ _=>False,λ _=>0,?_⟩⟩
 exact ⟨λ a ha=>(by cases ha),λ a ha=>(by cases ha),λ a ha=>ha.elim,λ a b ha=>ha.elim,λ a ha=>ha.elim,λ a ha=>ha.elim⟩
structure OL (N:Nat) (h:Wv) (l:List Int) (w:Uk):Prop where
 st:Start N h l
 ci:CI h l w
 sc:w.Scanned=0
 pr:UR h\/h.Pages=[]
def Xk4 (hN:NB N) {h:Wv} (hb:HB h):Ok (QdI N h) λ r=>∃ h' l,OL N h' l r.1:=by
 have hN':=hN
 unfold NB at hN'
 have hb2:=hb.2
 have zero:∃ h' l,OL N h' l zW:=⟨zH,[],Xk3 N,Xq4,rfl,.inr rfl⟩
 rw[QdI]
 refine WN (Yr (N:=N) (by omega) hb.1 hb.2) λ b eb hp=>Wo (λ _=>Wh zero) λ hb1=>?_
 have hp:=hp (by simpa using hb1)
 refine WN (Km hN hb) λ b _ hg=>Wo (λ _=>Wh zero) λ hb2=>?_
 have hg:=hg (by simpa using hb2)
 refine WN (Zy hN hb) λ y _ hy=>WY (by omega) ?_
 refine WN (Xah h y (by omega) N 0 h.Pages (by omega) (by omega) (by omega) (SameK.refl _)) λ qs _ hqs=>Wh ?_
 exact ⟨h,y.1,⟨hb,λ _=>hg,λ _=>hp,hy.1⟩,Xfw hb hp hy.1 rfl rfl rfl hqs rfl rfl rfl,rfl,.inl hp⟩
def Xfx (hN:NB N) (hs:Start N h0 l) (rs:List Int) (hl:rs.length<=1000000):∀ (n:Nat) (i:Int) (w:Uk) (out:List Int),0<=i->i<=rs.length->(rs.length-i).toNat<n->CI h0 l w->(out.length:Int)=i ->
 Ok (QbS N rs n i w.Heap.Conf.PageWords w.Heap.Conf.Pages w.Heap.Words w.Heap.Pages w.Heap.Space w.Heap.Bump w.Old w.Taken w.Queue w.Scanned w.Report.Copied w.Report.Kept w.Report.Filled w.Report.Freed w.Report.Cleared w.Report.Steps out) λ e=>match e with
  | .ret r=>r.2.2≠0
  | .nxt t=>∃ (w':Uk) (out':List Int),CI h0 l w'/\w'.Scanned=w.Scanned/\out'.length=rs.length/\t=(w'.Heap.Conf.PageWords,w'.Heap.Conf.Pages,w'.Heap.Words,w'.Heap.Pages,w'.Heap.Space,w'.Heap.Bump,w'.Old,w'.Taken,w'.Queue,w'.Scanned,w'.Report.Copied,w'.Report.Kept,w'.Report.Filled,w'.Report.Freed,w'.Report.Cleared,w'.Report.Steps,out')
 | 0,i,w,out,_,_,hn,_,_=>by omega
 | n+1,i,w,out,g0,hi,hn,hc,ho=>by
  rw[QbS]
  refine Wo (λ h1=>?_) λ h1=>Wh ⟨w,out,hc,rfl,by have:=WG h1;omega,rfl⟩
  have h1:i<rs.length:=Wq h1
  rw[Xd (n:=i+1) (by omega) (by omega)]
  obtain ⟨O,s,hob⟩:=hc.obj
  refine Ok.get g0 h1 λ p hp=>WN (Xcd hN hs hc hob p) λ y _ hy=>Wo (λ he=>Wh (by simpa using he)) λ he=>?_
  have q:=hy (by simpa using he)
  refine WY (by omega) ((Xfx hN hs rs hl n (i+1) y.1 (out++[y.2.1]) (by omega) (by omega) (by omega) q.ci (by rw[Wp];simp;omega)).mono λ e he=>?_)
  cases e with
  | ret r=>exact he
  | nxt t=>obtain ⟨w',o',c1,c2,c3,c4⟩:=he;exact ⟨w',o',c1,c2.trans q.sc,c3,c4⟩
def Xfy (hN:NB N) (hs:Start N h0 l) {rs:List Int} (hl:rs.length<=1000000) {w:Uk} (hc:CI h0 l w):Ok (Qe8 N w rs) λ r=>r.2.2=0->CI h0 l r.1/\r.1.Scanned=w.Scanned/\r.2.1.length=rs.length:=by
 have hN':=hN
 unfold NB at hN'
 rw[Qe8]
 refine IW (Xfx hN hs rs hl N 0 w [] (by omega) (by omega) (by omega) hc rfl) (λ a q=>Wh λ e=>absurd e q) λ b q=>Wh λ _=>?_
 obtain ⟨w',o',c1,c2,c3,rfl⟩:=q
 exact ⟨c1,c2,c3⟩
end
def Xdj {d:WI} {x:Int} (h:x∈Y9 d):0<=x/\x<d.Length:=by
 unfold Y9 at h
 by_cases hv:XD d=true
 ·rw[Wn hv] at h
  have:=JB h
  have:=XH hv
  omega
 ·rw[Wm hv] at h;cases h
def Xdk (d:WI):(Y9 d).length<=255:=by
 unfold Y9
 by_cases hv:XD d=true
 ·rw[Wn hv]
  have:=JC (d:=d) (k:=d.Length.toNat) (i:=0)
  have:=XH hv
  omega
 ·rw[Wm hv];simp
section
variable {N:Nat} {h0:Wv} {l:List Int}
def XnQ {w:Uk} {O:Int->Prop} {s:Int->Int} (hc:CI h0 l w) (ho:Ov h0 l w O s) {p x:Int} (hp:O p) (h1:p<x) (h2:x<p+s p) (v:Int) :
 inW w.Heap.Words x/\CI h0 l { w with Heap:={ w.Heap with Words:=w.Heap.Words.set (ix x) v } }/\Ov h0 l { w with Heap:={ w.Heap with Words:=w.Heap.Words.set (ix x) v } } O s:=by
 have hf:=ho.fit p hp
 have hin:inW w.Heap.Words x:=by unfold inW;omega
 have ho2:Ov h0 l { w with Heap:={ w.Heap with Words:=w.Heap.Words.set (ix x) v } } O s:=by
  refine ⟨ho.old,ho.queue,λ a ha=>?_,ho.apart,ho.taken,ho.free⟩
  show 4096<=a/\1<=s a/\a+s a<=4096+(w.Heap.Words.set (ix x) v).length/\szA (w.Heap.Words.set (ix x) v) a<=s a
  obtain ⟨f1,f2,f3,f4⟩:=ho.fit a ha
  rw[Wx]
  refine ⟨f1,f2,f3,?_⟩
  have:a≠x:=by
   rintro rfl
   by_cases he:a=p
   ·omega
   ·have:=ho.apart a p ha hp he
    omega
  unfold szA hdA at *
  rw[Xk0 hin f1,Wm this]
  exact f4
 refine ⟨hin,⟨hc.conf,?_,hc.plen,hc.spc,hc.old,hc.tk,hc.tnd,hc.knd,hc.qnd,⟨O,s,ho2⟩⟩,ho2⟩
 show (w.Heap.Words.set (ix x) v).length=_
 rw[Wx];exact hc.wlen
def XhH (hN:NB N) (hs:Start N h0 l) {p:Int} {ks:List Int} (hkl:ks.length<=255):∀ (n:Nat) (i:Int) (w:Uk) (O:Int->Prop) (s:Int->Int),0<=i->i<=ks.length->(ks.length-i).toNat<n->CI h0 l w->Ov h0 l w O s->O p->(∀ k∈ks,0<=k/\k<255/\k+1<s p) ->
 Ok (Qce N p ks n i w.Heap.Conf.PageWords w.Heap.Conf.Pages w.Heap.Words w.Heap.Pages w.Heap.Space w.Heap.Bump w.Old w.Taken w.Queue w.Scanned w.Report.Copied w.Report.Kept w.Report.Filled w.Report.Freed w.Report.Cleared w.Report.Steps) λ e=>match e with
  | .ret r=>r.2.2≠0
  | .nxt t=>∃ (w':Uk),CI h0 l w'/\w'.Scanned=w.Scanned/\w.Queue.length<=w'.Queue.length/\t=(w'.Heap.Conf.PageWords,w'.Heap.Conf.Pages,w'.Heap.Words,w'.Heap.Pages,w'.Heap.Space,w'.Heap.Bump,w'.Old,w'.Taken,w'.Queue,w'.Scanned,w'.Report.Copied,w'.Report.Kept,w'.Report.Filled,w'.Report.Freed,w'.Report.Cleared,w'.Report.Steps)
 | 0,i,w,O,s,_,_,hn,_,_,_,_=>by omega
 | n+1,i,w,O,s,g0,hi,hn,hc,ho,hp,hk=>by
  have hN':=hN
  unfold NB at hN'
  have hb1:=hs.hb.1
  rw[Qce]
  refine Wo (λ h1=>?_) λ h1=>Wh ⟨w,hc,rfl,Ui _,rfl⟩
  have h1:i<ks.length:=Wq h1
  rw[Xd (n:=i+1) (by omega) (by omega)]
  refine Ok.get g0 h1 λ k hk2=>?_
  have hkm:=Yo hk2
  obtain ⟨k0,k1,k2⟩:=hk k hkm
  have hf:=ho.fit p hp
  have hwl:=hc.wlen
  rw[XC (n:=p+1) (by omega) (by omega),XC (n:=k) (by omega) (by omega),XC (n:=p+1+k) (by omega) (by omega)]
  rw[ZJ (hc.wl hs.hb),Xa]
  refine WN (Xcd hN hs hc ho _) λ y _ hy=>Wo (λ he=>Wh (by simpa using he)) λ he=>?_
  have q:=hy (by simpa using he)
  obtain ⟨O',s',ho',hx⟩:=q.ob
  obtain ⟨hp',hs'⟩:=hx p hp
  have st:=XnQ q.ci ho' hp' (x:=p+1+k) (by omega) (by omega) y.2.1
  rw[Xab (q.ci.wl hs.hb) (by omega),Xa,Wn st.1]
  refine (XhH hN hs hkl n (i+1) _ O' s' (by omega) (by omega) (by omega) st.2.1 st.2.2 hp' (λ k' hk'=>by rw[hs'];exact hk k' hk')).mono λ e he=>?_
  cases e with
  | ret r=>exact he
  | nxt t=>obtain ⟨w',c1,c2,c3,c4⟩:=he;exact ⟨w',c1,c2.trans q.sc,UB q.ql c3,c4⟩
def XnR (hN:NB N) (hs:Start N h0 l) {w:Uk} (hc:CI h0 l w) (h0s:0<=w.Scanned) (h1s:w.Scanned<=w.Queue.length):Ok (QfD N w) λ r=>r.2.2=0->CI h0 l r.1/\0<=r.1.Scanned/\r.1.Scanned<=r.1.Queue.length/\(r.2.1=true->r.1.Scanned=w.Scanned+1):=by
 have hN':=hN
 unfold NB at hN'
 have hb:=hs.hb
 have hql:=hc.ql hb
 rw[QfD]
 refine Wo (λ _=>Wh λ _=>⟨hc,h0s,h1s,λ e=>by cases e⟩) λ hlt=>?_
 have hlt:w.Scanned<w.Queue.length:=by have:=WG hlt;omega
 refine Ok.get h0s hlt λ p hp=>?_
 have hpm:=Yo hp
 obtain ⟨O,s,ho⟩:=hc.obj
 have hOp:=ho.queue p hpm
 have hf:=ho.fit p hOp
 have hin:inW w.Heap.Words p:=by unfold inW;omega
 rw[Qfx,ZJ (hc.wl hb),Xa,Wn hin,Xad,Xa,Xa,XkS (by omega),Xa]
 have hkl:=Xdk (hdA w.Heap.Words p)
 have hvl:=XH (ZY (wd w.Heap.Words p))
 refine IW (XhH hN hs (p:=p) (ks:=Y9 (hdA w.Heap.Words p)) hkl N 0 w O s (by omega) (by omega) (by omega) hc ho hOp λ k hk=>?_) (λ a q=>Wh λ e=>absurd e q) λ t q=>Wh λ _=>?_
 ·have h1:=Xdj hk
  have h2:szA w.Heap.Words p=(hdA w.Heap.Words p).Length+1:=rfl
  have h3:(hdA w.Heap.Words p).Length<=255:=hvl.2.2.2
  omega
 ·obtain ⟨w',c1,c2,c3,rfl⟩:=q
  have e:wI (w'.Scanned+1)=w.Scanned+1:=by rw[c2,Xd (by omega) (by omega)]
  refine ⟨⟨c1.conf,c1.wlen,c1.plen,c1.spc,c1.old,c1.tk,c1.tnd,c1.knd,c1.qnd,?_⟩,?_,?_,λ _=>e⟩
  ·obtain ⟨O,s,h⟩:=c1.obj
   exact ⟨O,s,⟨h.old,h.queue,h.fit,h.apart,h.taken,h.free⟩⟩
  ·show 0<=wI (w'.Scanned+1);omega
  ·show wI (w'.Scanned+1)<=w'.Queue.length;omega
def Xk5 (hN:NB N) (hs:Start N h0 l):∀ (n:Nat) (w:Uk),CI h0 l w->0<=w.Scanned->w.Scanned<=w.Queue.length->(100001-w.Scanned).toNat<n ->
 Ok (Qcw N n w.Heap.Conf.PageWords w.Heap.Conf.Pages w.Heap.Words w.Heap.Pages w.Heap.Space w.Heap.Bump w.Old w.Taken w.Queue w.Scanned w.Report.Copied w.Report.Kept w.Report.Filled w.Report.Freed w.Report.Cleared w.Report.Steps) λ r=>r.2=0->CI h0 l r.1
 | 0,w,_,_,_,hn=>by omega
 | n+1,w,hc,g0,g1,hn=>by
  rw[Qcw]
  have hql:=hc.ql hs.hb
  refine WN (XnR hN hs hc g0 g1) λ y _ hy=>Wo (λ he=>Wh λ e=>absurd e (by simpa using he)) λ he=>?_
  obtain ⟨q1,q2,q3,q4⟩:=hy (by simpa using he)
  refine Wo (λ _=>Wh λ _=>q1) λ hb=>?_
  have q4:y.1.Scanned=w.Scanned+1:=q4 (by simpa using hb)
  have:=q1.ql hs.hb
  exact Xk5 hN hs n y.1 q1 q2 q3 (by omega)
def Xk6 (hN:NB N) (hs:Start N h0 l) {w:Uk} (hc:CI h0 l w) (g0:0<=w.Scanned) (g1:w.Scanned<=w.Queue.length):Ok (Qgh N w) λ r=>r.2=0->CI h0 l r.1:=by
 have hN':=hN
 unfold NB at hN'
 rw[Qgh]
 exact WN (Xk5 hN hs N w hc g0 g1 (by omega)) λ y _ hy=>Wh hy
def Xk7 (hN:NB N) (hs:Start N h0 l) {w:Uk} (hq:w.Queue.length<=100000) (hw:w.Heap.Words.length<=BIG) (a:Int):Ok (Qe9 N w a) λ _=>True:=by
 have hN':=hN
 unfold NB at hN'
 rw[Qe9,YZ a (by omega) (by omega),Xa]
 refine Wo (λ _=>Wh trivial) λ _=>?_
 rw[ZJ hw,Xa,Xdd,Xa]
 exact Wh trivial
def Xef (hN:NB N) {w:Uk} (hb:HB h0) (hc:CI h0 l w) {s:Int->Int} (hll:l.length<=4096) (hpw:l.Pairwise λ a b=>a+s a<=b) (hfit:∀ a∈l,4096<=a/\1<=s a/\a+s a<=4096+h0.Words.length):∀ (n k:Nat) (v:List Int) (c:Int),k<=l.length->l.length-k<n->v.length=h0.Words.length->(∀ a∈l.drop k,szA v a<=s a) ->
 Ok (Qbh N w n (k:Int) v c) λ r=>r.1.length=h0.Words.length
 | 0,k,v,c,_,hn,_,_=>by omega
 | n+1,k,v,c,hk,hn,hv,hs=>by
  have hN':=hN
  unfold NB at hN'
  have hb1:=hb.1
  have hql:=hc.ql hb
  have htl:=hc.tl hb
  have hold:=hc.old
  rw[Qbh]
  refine Wo (λ h1=>?_) λ _=>Wh hv
  have h1:k<l.length:=by have:=Wq h1;rw[hold] at this;omega
  have hkl:(k:Int)<w.Old.length:=by rw[hold];omega
  have hdr:=Wt h1
  rw[Xd (n:=(k:Int)+1) (by omega) (by omega),show ((k:Int)+1)=((k+1:Nat):Int) by omega]
  have gp:∀ p,Xb w.Old (k:Int)=some p->p=l[k]:=by
   intro p hp
   rw[hold,Xc,Wb h1] at hp
   exact (Ug hp).symm
  have next:Ok (Qbh N w n ((k+1:Nat):Int) v c) λ r=>r.1.length=h0.Words.length :=
   Xef hN hb hc hll hpw hfit n (k+1) v c (by omega) (by omega) hv λ a ha=>hs a (by rw[hdr];exact W4 _ ha)
  refine Ok.get (by omega) hkl λ p hp=>?_
  rw[Xae,Xa]
  refine WN (Xbi hN (w:={ w with Heap:={ w.Heap with Words:=v },Report:=⟨_,_,_,_,_,_⟩ }) htl _) λ b _ _=>Wo (λ _=>next) λ _=>?_
  refine Ok.get (by omega) hkl λ p hp=>?_
  rw[YZ p (by omega) (by omega),Xa]
  refine Wo (λ _=>next) λ _=>Ok.get (by omega) hkl λ p hp=>?_
  have hpe:=gp p hp
  have hpm:p∈l:=by rw[hpe];exact WW h1
  obtain ⟨f1,f2,f3⟩:=hfit p hpm
  have hsp:=hs p (by rw[hdr,← hpe];exact IX)
  have hin:inW v p:=by unfold inW;omega
  have hsz:=ZL v p
  rw[Qfx,ZJ (by show v.length<=BIG;unfold BIG;omega),Xa,Wn hin,Xad,Xa,Xa,Xac,Xa]
  refine Ok.get (by omega) hkl λ p' hp'=>?_
  obtain rfl:p=p':=hpe.trans (gp p' hp').symm
  have e1:szA v p=(hdA v p).Length+1:=rfl
  have e2:(Z9 (v.getD (ix p) 0)).Length=(hdA v p).Length:=rfl
  refine WY (by rw[e2];omega) (WY (by rw[e2];omega) ?_)
  have hlen:∀ x:Int,([x]++List.replicate (Z9 (v.getD (ix p) 0)).Length.toNat (0:Int)).length=(szA v p).toNat:=by
   intro x;rw[Wp,WO,e2];simp only[Uc,UG];omega
  rw[Jj (by unfold BIG;omega) (by rw[hlen];unfold BIG;omega) (by rw[hlen];omega),Xa,hlen,Wn (by unfold Yq;omega)]
  have hlo:∀ x:Int,(ovr v ([x]++List.replicate (Z9 (v.getD (ix p) 0)).Length.toNat (0:Int)) (ix p)).length=v.length:=by
   intro x;apply ZX;rw[hlen];unfold ix;omega
  refine Xef hN hb hc hll hpw hfit n (k+1) _ _ (by omega) (by omega) ((hlo _).trans hv) λ a ha=>?_
  have ham:a∈l:=Uf ha
  have hsa:=hs a (by rw[hdr];exact W4 _ ha)
  have hfa:=hfit a ham
  have hle:p+s p<=a:=by
   have hp2:=hpw.drop (i:=k)
   rw[hdr,List.pairwise_cons] at hp2
   rw[hpe]
   exact hp2.1 a ha
  have:∀ x:Int,szA (ovr v ([x]++List.replicate (Z9 (v.getD (ix p) 0)).Length.toNat (0:Int)) (ix p)) a=szA v a:=by
   intro x
   unfold szA hdA wd
   rw[Xfk (by rw[hlen];unfold ix;omega),hlen,Wm]
   unfold ix
   have:p+szA v p<=a:=by omega
   omega
  rw[this];exact hsa
def XhI (hN:NB N) (hs:Start N h0 l) {w:Uk} (hc:CI h0 l w):Ok (QfE N w) λ r=>r.Heap.Conf=h0.Conf/\r.Heap.Words.length=h0.Words.length/\r.Heap.Pages=w.Heap.Pages/\r.Heap.Pages.length=h0.Pages.length/\r.Taken.length<=100000:=by
 have hN':=hN
 unfold NB at hN'
 have hb:=hs.hb
 rw[QfE]
 obtain ⟨O,s,ho⟩:=hc.obj
 have hpw:l.Pairwise λ a b=>a+s a<=b:=by
  refine List.Pairwise.imp_of_mem ?_ hs.st.obj.pw
  intro a b ha _ h
  rw[(ho.old a ha).2];exact h
 have hwl:=hc.wlen
 have:=Xef hN (w:=w) hb hc (s:=s) hs.st.len hpw (λ a ha=>by have:=ho.fit a (ho.old a ha).1;omega) N 0 w.Heap.Words w.Report.Filled (by omega) (by have:=hs.st.len;omega) hwl λ a ha=>(ho.fit a (ho.old a (Uf ha)).1).2.2.2
 have htl:w.Taken.length<=100000:=hc.tl hb
 refine WN this λ r _ hr=>Wh ⟨hc.conf,hr,rfl,hc.plen,htl⟩
def XhJ {w:Uk} (v4:List WM) (p5:WM) (i c:Int) (hp:UR h0) (hc:w.Heap.Conf=h0.Conf) (g0:0<=i) (g1:i<h0.Conf.Pages):∀ (n:Nat) (k:Int) (v:List Int),0<=k->(65-k).toNat<n->v.length=h0.Words.length->Ok (Qcf N w v4 p5 i c n k v) λ r=>r.length=h0.Words.length
 | 0,k,v,_,hn,_=>by omega
 | n+1,k,v,k0,hn,hv=>by
  have hvc:=Xj.1 hp.conf
  have hm:=X5 hp.conf g0 g1
  have hw:=hp.words
  rw[Qcf,hc]
  refine Wo (λ h1=>?_) λ _=>Wh hv
  have h1:k<h0.Conf.PageWords:=Wq h1
  rw[Xd (n:=k+1) (by omega) (by omega),Xd (n:=i*h0.Conf.PageWords) (by omega) (by omega),Xd (n:=i*h0.Conf.PageWords+k) (by omega) (by omega)]
  refine Ok.get (by omega) (by omega) λ p _=>XhJ v4 p5 i c hp hc g0 g1 n (k+1) _ (by omega) (by omega) (by rw[Wx];exact hv)
def Xbz (hN:NB N) {w:Uk} (hb:HB h0) (hp:UR h0\/h0.Pages=[]) (hc:w.Heap.Conf=h0.Conf):∀ (n:Nat) (i c:Int) (v:List Int) (ps:List WM),0<=i->i<=h0.Pages.length->(h0.Pages.length-i).toNat<n->v.length=h0.Words.length->ps.length=h0.Pages.length->Ok (Qby N w n i c v ps) λ r=>r.2.1.length=h0.Words.length/\r.2.2.length=h0.Pages.length
 | 0,i,c,v,ps,_,_,hn,_,_=>by omega
 | n+1,i,c,v,ps,g0,gi,hn,hv,hps=>by
  have hN':=hN
  unfold NB at hN'
  have hb2:=hb.2
  rw[Qby]
  refine WY (by omega) (Wo (λ h1=>?_) λ _=>Wh ⟨hv,hps⟩)
  have h1:i<ps.length:=Wq h1
  rw[Xd (n:=i+1) (by omega) (by omega)]
  have next:=Xbz hN (w:=w) hb hp hc n (i+1) c v ps (by omega) (by omega) (by omega) hv hps
  refine Ok.get g0 h1 λ p _=>Wo (λ _=>next) λ _=>Wo (λ _=>next) λ _=>Ok.get g0 h1 λ p6 _=>?_
  rcases hp with hp | hp
  ·have hpp:=hp.pages
   refine WN (XhJ ps p i c hp hc g0 (by omega) N 0 v (by omega) (by omega) hv) λ r _ hr=>?_
   exact Xbz hN hb (.inl hp) hc n (i+1) _ r _ (by omega) (by omega) (by omega) hr (by rw[Wx];exact hps)
  ·rw[hp] at hps;simp at hps;rw[hps] at h1;simp at h1;omega
def XnS (hN:NB N) {w:Uk} (hb:HB h0) (hp:UR h0\/h0.Pages=[]) (hc:w.Heap.Conf=h0.Conf) (hw:w.Heap.Words.length=h0.Words.length) (hpl:w.Heap.Pages.length=h0.Pages.length):Ok (Qei N w) λ r=>HB r.Heap/\r.Taken=w.Taken:=by
 have hN':=hN
 unfold NB at hN'
 have hb1:=hb.1
 have hb2:=hb.2
 rw[Qei]
 refine WY (by omega) (WY (by omega) (WN (Xbz hN hb hp hc N 0 _ _ _ (by omega) (by omega) (by omega) hw hpl) λ r _ hr=>Wh ⟨⟨?_,?_⟩,rfl⟩))
 ·show r.2.1.length<=_;omega
 ·show r.2.2.length<=_;omega
def Xeg (hN:NB N) (hs:Start N h0 l) (ws:List Int) (hl:ws.length<=1000000) (y5:Uk×List Int×Int) (y6:Uk×Int) (hc:CI h0 l y6.1):∀ (n:Nat) (i c:Int) (out:List Int),0<=i->i<=ws.length->(ws.length-i).toNat<n->(out.length:Int)=i->Ok (Qbo N ws y5 y6 n i c out) λ r=>r.2.length=ws.length
 | 0,i,c,out,_,_,hn,_=>by omega
 | n+1,i,c,out,g0,gi,hn,ho=>by
  rw[Qbo]
  refine Wo (λ h1=>?_) λ h1=>Wh (by have:=WG h1;show out.length=ws.length;omega)
  have h1:i<ws.length:=Wq h1
  rw[Xd (n:=i+1) (by omega) (by omega)]
  have next:=λ c' x=>Xeg hN hs ws hl y5 y6 hc n (i+1) c' (out++[x]) (by omega) (by omega) (by omega) (by rw[Wp];simp;omega)
  refine Ok.get g0 h1 λ p _=>IB (Wo (λ _=>Ok.get g0 h1 λ p _=>?_) λ _=>WY (by omega) (next _ _))
  refine WN (Xk7 hN hs (w:=⟨_,_,_,_,_,_⟩) (hc.ql hs.hb) (hc.wl hs.hb) p) λ y _ _=>IB (Wo (λ _=>WY (by omega) (next _ _)) λ _=>WY (by omega) (next _ _))
structure OH (rs ws:List Int) (r:Wv×List Int×List Int×UC×Int):Prop where
 hb:HB r.1
 len:r.2.2.2.2=0->r.2.1.length=rs.length/\r.2.2.1.length=ws.length
 no:r.2.2.2.2≠0->r.2.1=[]/\r.2.2.1=[]
def XgJ (hN:NB N) {h:Wv} (hb:HB h) {rs ws:List Int} (hr:rs.length<=1000000) (hw:ws.length<=1000000):Ok (QcE N h rs ws) (OH rs ws):=by
 have hN':=hN
 unfold NB at hN'
 have bad:∀ e:Int,e≠0->OH rs ws (zH,[],[],⟨0,0,0,0,0,0⟩,e):=λ e he=>⟨ZT,λ h=>absurd h he,λ _=>⟨rfl,rfl⟩⟩
 rw[QcE]
 refine WN (Yr (N:=N) (by omega) hb.1 hb.2) λ b _ _=>Wo (λ _=>Wh (bad 1 (by decide))) λ _=>IB ?_
 refine WN (Jk hN hb hr) λ b _ _=>Wo (λ _=>Wh (bad 19 (by decide))) λ _=>?_
 refine WN (Jk hN hb hw) λ b _ _=>Wo (λ _=>Wh (bad 19 (by decide))) λ _=>?_
 refine WN (Xk4 hN hb) λ y4 _ hy4=>?_
 obtain ⟨h',l,bq⟩:=hy4
 have hs:=bq.st
 refine WN (Xfy hN hs hr bq.ci) λ y5 _ hy5=>Wo (λ he=>Wh (bad _ (by simpa using he))) λ he=>?_
 obtain ⟨c1,c2,c3⟩:=hy5 (by simpa using he)
 have hsc:=bq.sc
 refine WN (Xk6 hN hs c1 (by omega) (by omega)) λ y6 _ hy6=>Wo (λ he=>Wh (bad _ (by simpa using he))) λ he=>?_
 have d1:=hy6 (by simpa using he)
 refine WN (Xeg hN hs ws hw y5 y6 d1 N 0 _ [] (by omega) (by omega) (by omega) rfl) λ y16 _ hy16=>?_
 have d2:CI h' l (Uk.mk y6.1.Heap y6.1.Old y6.1.Taken y6.1.Queue y6.1.Scanned (UC.mk y6.1.Report.Copied y6.1.Report.Kept y6.1.Report.Filled y6.1.Report.Freed y16.1 y6.1.Report.Steps)):=by
  obtain ⟨O,s,ho⟩:=d1.obj
  exact ⟨d1.conf,d1.wlen,d1.plen,d1.spc,d1.old,d1.tk,d1.tnd,d1.knd,d1.qnd,⟨O,s,⟨ho.old,ho.queue,ho.fit,ho.apart,ho.taken,ho.free⟩⟩⟩
 refine WN (XhI hN hs d2) λ y17 _ ⟨f1,f2,f3,f4,f5⟩=>?_
 refine WN (XnS hN (h0:=h') hs.hb bq.pr f1 f2 f4) λ y18 _ ⟨g1,g2⟩=>?_
 have fin:∀ x:Int,OH rs ws ((Wv.mk y18.Heap.Conf y18.Heap.Words y18.Heap.Pages (wI (1-y18.Heap.Space)) x),y5.2.1,y16.2,y18.Report,0):=λ x=>⟨g1,λ _=>⟨c3,hy16⟩,λ h=>absurd rfl h⟩
 refine IB (Wo (λ ht=>?_) λ _=>Wh (fin _))
 have ht:0<(y18.Taken.length:Int):=Wq ht
 rw[g2] at ht ⊢
 rw[Xd (by omega) (by omega)]
 exact Ok.get (by omega) (by omega) λ p _=>Wh (fin _)
end
def Zh {α σ:Type} (q:σ->Nat->α->Bool) (nxp:σ->α->σ):σ->Nat->List α->Bool
 | _,_,[]=>true
 | s,k,x::l=>q s k x&&Zh q nxp (nxp s x) (k+1) l
def YN {α:Type} (q:α->Bool):∀ (k:Nat) (l:List α),Zh (λ (_:Unit) _ x=>q x) (λ s _=>s) () k l=l.all q
 | _,[]=>rfl
 | k,x::l=>by rw[Zh,YN q (k+1) l,U2]
def Jl {α σ:Type} {l:List α} {F:Nat->σ->Int->Option (Ex Bool Unit)} {q:σ->Nat->α->Bool} {nxp:σ->α->σ} {I:σ->Prop}
 (hstep:∀ (n:Nat) (s:σ) (k:Nat) (p:α),I s->l[k]? = some p->F (n+1) s (k:Int)=bif q s k p then F n (nxp s p) ((k+1:Nat):Int) else some (.ret false))
 (hstop:∀ (n:Nat) (s:σ),F (n+1) s (l.length:Int)=some (.nxt ()))
 (hI:∀ s k p,I s->l[k]? = some p->q s k p=true->I (nxp s p)):∀ (n:Nat) (s:σ) (k:Nat),I s->k<=l.length->l.length-k<n->F n s (k:Int)=some (bif Zh q nxp s k (l.drop k) then .nxt () else .ret false)
 | 0,s,k,_,_,hn=>by omega
 | n+1,s,k,hs,hk,hn=>by
  by_cases h:k<l.length
  ·have e:=Wb h
   rw[hstep n s k _ hs e,Wt h,Zh]
   cases hq:q s k l[k] with
   | false=>rfl
   | true =>
    rw[WA,We]
    exact Jl hstep hstop hI n _ (k+1) (hI s k _ hs e hq) (by omega) (by omega)
  ·obtain rfl:k=l.length:=by omega
   rw[hstop,WL (Ui _)]
   rfl
def ZM {α:Type} {l:List α} {F:Nat->Int->Option (Ex Bool Unit)} {q:Nat->α->Bool}
 (hstep:∀ (n:Nat) (k:Nat) (p:α),l[k]? = some p->F (n+1) (k:Int)=bif q k p then F n ((k+1:Nat):Int) else some (.ret false))
 (hstop:∀ (n:Nat),F (n+1) (l.length:Int)=some (.nxt ())) {n:Nat} (hn:l.length<n):F n 0=some (bif Zh (λ (_:Unit)=>q) (λ s _=>s) () 0 l then .nxt () else .ret false):=by
 have h:=Jl (F:=λ n (_:Unit) i=>F n i) (q:=λ _=>q) (nxp:=λ s _=>s) (I:=λ _=>True) (l:=l) (λ n s k p _ e=>hstep n k p e) (λ n _=>hstop n) (λ _ _ _ _ _ _=>trivial) n () 0 trivial (by omega) (by omega)
 rw[WP] at h
 exact h
def Xv {k:Nat} {n:Nat} (h:k<n):decide ((k:Int)<((n:Nat):Int))=true:=Wj (by omega)
def Xp (n:Nat):decide (((n:Nat):Int)<((n:Nat):Int))=false:=Wk (by omega)
def Xq {α:Type} {l:List α} {k:Nat} {p:α} (h:l[k]? = some p):k<l.length:=(List.getElem?_eq_some_iff.1 h).1
def Xe {k:Nat} (h:k<=140737488355328):wI ((k:Int)+1)=((k+1:Nat):Int):=by rw[Xd (by omega) (by omega)];omega
def Xai (e:Uj):Bool:=!decide (e.Gen<1)&&(!decide (e.Gen>4294967295)&&(e.Live||!(e.Ref != 0)))
def Yx (l:List Uj):Bool:=l.all Xai&&decide (l.length<=64)
def XA (l:List Uj):List Int:=(l.filter (·.Live)).map (·.Ref)
def Zi {N:Nat} {t:WT} (hl:t.Entries.length<=1000000) (hN:1000000<N):Qcd N t=some (Yx t.Entries):=by
 have h:=ZM (l:=t.Entries) (F:=QcP N t) (q:=λ _=>Xai) (λ n k p e=>?_) (λ n=>?_) (n:=N) (by omega)
 ·rw[Qcd,h,Xa,YN,Yx]
  cases t.Entries.all Xai
  ·rw[Wa,Xl];rfl
  ·rw[We,Xk,WA]
   congr 1
   exact decide_eq_decide.2 (by omega)
 ·have hk:=Xq e
  rw[QcP,Xv hk,We,Xc,e,Xa,Xe (by omega)]
  unfold Xai
  cases decide (p.Gen<1)<;>cases decide (p.Gen>4294967295)<;>cases p.Live<;>cases (p.Ref != 0)<;>rfl
 ·rw[QcP,Xp,Wa]
def Xce {N:Nat} {t:WT} (hl:t.Entries.length<=1000000) (hN:1000000<N) (hv:Yx t.Entries=true):∀ (n k:Nat) (v:List Int),k<=t.Entries.length->t.Entries.length-k<n->v.length<=k ->
 Qbw N t n (k:Int) v=some (v++XA (t.Entries.drop k))
 | 0,k,v,_,hn,_=>by omega
 | n+1,k,v,hk,hn,hlv=>by
  rw[Qbw]
  by_cases h:k<t.Entries.length
  ·rw[Xv h,We,Zi hl hN,Xa,hv,We,Xc,Wb h,Xa,Xa,Xe (by omega),Wt h,XA]
   cases hL:t.Entries[k].Live
   ·rw[Wa,Xce hl hN hv n (k+1) v (by omega) (by omega) (by omega),UP (by rw[hL];simp)]
    rfl
   ·rw[We,Xf (by omega),Xce hl hN hv n (k+1) _ (by omega) (by omega) (by rw[Wp];simp;omega),UY (by rw[hL])]
    simp[XA]
  ·obtain rfl:k=t.Entries.length:=by omega
   rw[Xp,Wa,WL (Ui _)]
   simp[XA]
def X8 {N:Nat} {t:WT} (hl:t.Entries.length<=1000000) (hN:1000000<N):QaM N t=some (bif Yx t.Entries then XA t.Entries else []):=by
 rw[QaM]
 cases hv:Yx t.Entries
 ·obtain ⟨m,rfl⟩:∃ m,N=m+1:=⟨N-1,by omega⟩
  rw[Qbw,Zi hl hN,hv]
  by_cases h:0<t.Entries.length
  ·rw[show decide ((0:Int)<((t.Entries.length:Nat):Int))=true from Wj (by omega),We,Xa,Wa,Xa];rfl
  ·rw[show decide ((0:Int)<((t.Entries.length:Nat):Int))=false from Wk (by omega),Wa,Xa];rfl
 ·have h:=Xce hl hN hv N 0 [] (by omega) (by omega) (by simp)
  rw[show ((0:Nat):Int)=0 from rfl,WP,Ux] at h
  rw[h,Xa];rfl
def Ys (l:List Uj):(XA l).length<=l.length:=by unfold XA;rw[W0];exact List.length_filter_le _ _
def Ya {l:List Uj} (h:Yx l=true):l.length<=64:=by
 unfold Yx at h
 rw[Ww] at h
 exact Wq h.2
def Xk8 {l:List Uj} (h:Yx l=true) {e:Uj} (he:e∈l):1<=e.Gen/\e.Gen<=4294967295/\(e.Live=false->e.Ref=0):=by
 unfold Yx at h
 rw[Ww,W3] at h
 have:=h.1 e he
 unfold Xai at this
 simp only[Ww,Uv,Ub,Ip,bne_eq_false_iff_eq] at this
 refine ⟨by omega,by omega,λ hL=>?_⟩
 rcases this.2.2 with h | h
 ·rw[hL] at h;cases h
 ·exact h
def Zk (l:List Uj) (i g:Int):Int×Int :=
 if Yx l=false then (0,1) else if i<0\/(l.length:Int)<=i\/g<1 then (0,6) else
 match l[i.toNat]? with
 | none=>(0,6)
 | some e=>if g>e.Gen then (0,6) else if g<e.Gen then (0,8) else if e.Live then (e.Ref,0) else (0,8)
def Xaj {N:Nat} {t:WT} (hl:t.Entries.length<=1000000) (hN:1000000<N) (i g:Int):QdT N t i g=some (Zk t.Entries i g):=by
 rw[QdT,Zi hl hN,Xa,Zk]
 cases hv:Yx t.Entries
 ·rfl
 ·simp only[Ws,Wa,UI,Bool.true_eq_false,if_false]
  by_cases h0:i<0
  ·rw[Wn h0,Wn (.inl h0)]
  ·rw[Wm h0]
   by_cases h1:i>=((t.Entries.length:Nat):Int)
   ·rw[Wn h1,Wn (.inr (.inl h1))]
   ·rw[Wm h1]
    by_cases h2:g<1
    ·rw[Wn h2,Wn (.inr (.inr h2))]
    ·have hlt:i.toNat<t.Entries.length:=by omega
     rw[Wm h2,Wm (by omega),Yg (by omega) (by omega),Xa,Wb hlt]
     simp only[Xa]
     by_cases h3:g>t.Entries[i.toNat].Gen
     ·rw[Wn h3,Wn h3]
     ·rw[Wm h3,Wm h3]
      by_cases h4:g<t.Entries[i.toNat].Gen
      ·rw[Wn h4,Wn h4]
      ·rw[Wm h4,Wm h4]
       cases t.Entries[i.toNat].Live<;>rfl
def Ka {α σ:Type} {q:σ->Nat->α->Bool} {nxp:σ->α->σ}:∀ (l:List α) (s:σ) (k:Nat),Zh q nxp s k l=true↔∀ i p,l[i]? = some p->q ((l.take i).foldl nxp s) (k+i) p=true
 | [],s,k=>by simp[Zh]
 | x::l,s,k=>by
  rw[Zh,Ww,Ka l (nxp s x) (k+1)]
  constructor
  ·rintro ⟨h1,h2⟩ i p hp
   cases i with
   | zero=>simp at hp;subst hp;exact h1
   | succ i =>
    have:=h2 i p (by simpa using hp)
    rw[Iy,I4,show k+(i+1)=k+1+i by omega]
    exact this
  ·intro h
   refine ⟨h 0 x rfl,λ i p hp=>?_⟩
   have:=h (i+1) p (by simpa using hp)
   rw[Iy,I4,show k+(i+1)=k+1+i by omega] at this
   exact this
def XnT (l:List Int):Bool:=l.all λ p=>!decide (p<0)&&!decide (p>4095)
def stQ (iss:List Int) (s:Int) (i:Nat) (p:U1):Bool:=!decide (p.Stamp<=s)&&(!decide (p.Stamp>((iss.length:Nat):Int))&&(!((iss.getD (p.Stamp-1).toNat 0) != (i:Int))&&(p.Live==(p.Ref != 0))))
def stB (iss:List Int) (l:List U1):Bool:=Zh (stQ iss) (λ _ p=>p.Stamp) 0 0 l
def neQ (n:Nat) (s:Int) (i:Nat) (p:U6):Bool:=(!((i:Int)==0)||(!(p.From != 0)&&p.Base))&&(!decide (p.From<s)&&(!decide (p.From>((n:Nat):Int))&&(!decide (p.Cap<0)&&!decide (p.Cap>64))))
def neB (n:Nat) (l:List U6):Bool:=Zh (neQ n) (λ _ p=>p.From) 0 0 l
def KX (l:List U1) (f t:Nat):Nat:=((l.drop f).take (t-f)).countP (·.Live)
def toL (a:WD) (i:Nat):Int:=match a.Scopes[i+1]? with | some p=>p.From | none=>a.Slots.length
def Xk9 (a:WD) (_:Unit) (i:Nat) (p:U6):Bool:=!decide (((KX a.Slots p.From.toNat (toL a i).toNat:Nat):Int)>p.Cap)
def XgK (a:WD):Bool:=Zh (Xk9 a) (λ s _=>s) () 0 a.Scopes
def YL (a:WD):Bool:=!decide (((a.Issued.length:Nat):Int)>4096)&&(!decide (((a.Scopes.length:Nat):Int)>64)&&((!(((a.Scopes.length:Nat):Int)==0)||!decide (((a.Slots.length:Nat):Int)>0))&&(XnT a.Issued&&(stB a.Issued a.Slots&&(neB a.Slots.length a.Scopes&&XgK a)))))
def LBp (a:WD):Prop:=a.Slots.length<=1000000/\a.Scopes.length<=1000000/\a.Issued.length<=1000000
def J6 {n:Nat} {l:List U6} (h:neB n l=true) {i:Nat} {p:U6} (hp:l[i]? = some p):0<=p.From/\p.From<=n/\0<=p.Cap/\p.Cap<=64/\(i=0->p.From=0/\p.Base=true)/\∀ p',l[i+1]? = some p'->p.From<=p'.From:=by
 have hi:=(Ka l (0:Int) 0).1 h
 have inv:∀ (k:Nat) (p:U6),l[k]? = some p->0<=p.From:=by
  intro k
  induction k with
  | zero =>
   intro p hp
   have:=hi 0 p hp
   unfold neQ at this
   simp at this
   omega
  | succ k ih =>
   intro p hp
   have hk:k<l.length:=by have:=Xq hp;omega
   have e:=Wb hk
   have h1:=ih _ e
   have h2:=hi (k+1) p hp
   rw[List.take_add_one,e] at h2
   simp only[List.foldl_append,Option.toList,I4,List.foldl_nil] at h2
   unfold neQ at h2
   simp only[Ww,Uv,Ub] at h2
   have:=h2.2.1
   omega
 have h0:=hi i p hp
 unfold neQ at h0
 simp only[Ww,Uv,Ub,Ip,Ut,bne_eq_false_iff_eq] at h0
 refine ⟨inv i p hp,by omega,by omega,by omega,λ hz=>?_,λ p' hp'=>?_⟩
 ·subst hz
  rcases h0.1 with h | h
  ·cases h
  ·exact h
 ·have h2:=hi (i+1) p' hp'
  rw[List.take_add_one,hp] at h2
  simp only[List.foldl_append,Option.toList,I4,List.foldl_nil] at h2
  unfold neQ at h2
  simp only[Ww,Uv,Ub] at h2
  have:=h2.2.1
  omega
def Xi0 {iss:List Int} {l:List U1} (h:stB iss l=true) {i:Nat} {p:U1} (hp:l[i]? = some p):(i:Int)+1<=p.Stamp/\p.Stamp<=iss.length/\iss.getD (p.Stamp-1).toNat 0=i/\(p.Live=true↔p.Ref≠0):=by
 have hi:=(Ka l (0:Int) 0).1 h
 have inv:∀ (k:Nat) (p:U1),l[k]? = some p->(k:Int)+1<=p.Stamp:=by
  intro k
  induction k with
  | zero =>
   intro p hp
   have:=hi 0 p hp
   unfold stQ at this
   simp only[Ww,Uv,Ub,List.take_zero,List.foldl_nil] at this
   have:=WG this.1
   omega
  | succ k ih =>
   intro p hp
   have hk:k<l.length:=by have:=Xq hp;omega
   have e:=Wb hk
   have h1:=ih _ e
   have h2:=hi (k+1) p hp
   rw[List.take_add_one,e] at h2
   simp only[List.foldl_append,Option.toList,I4,List.foldl_nil] at h2
   unfold stQ at h2
   simp only[Ww,Uv,Ub] at h2
   have:=h2.1
   omega
 have h0:=hi i p hp
 unfold stQ at h0
 simp only[Ww,Uv,Ub,Ut,bne_eq_false_iff_eq,beq_iff_eq] at h0
 refine ⟨inv i p hp,by omega,h0.2.2.1,?_⟩
 rw[h0.2.2.2]
 simp
structure OI (a:WD):Prop where
 iss:a.Issued.length<=4096
 sc:a.Scopes.length<=64
 none:a.Scopes.length=0->a.Slots.length=0
 issr:∀ x∈a.Issued,0<=x/\x<=4095
 st:stB a.Issued a.Slots=true
 ne:neB a.Slots.length a.Scopes=true
 cap:XgK a=true
def Yb {a:WD}:YL a=true↔OI a:=by
 unfold YL XnT
 simp only[Ww,Uv,Ub,Ip,W3,Iz]
 constructor
 ·rintro ⟨h1,h2,h3,h4,h5,h6,h7⟩
  exact ⟨by omega,by omega,λ e=>by omega,λ x hx=>by have:=h4 x hx;omega,h5,h6,h7⟩
 ·intro h
  exact ⟨by have:=h.iss;omega,by have:=h.sc;omega,by have:=h.none;omega,λ x hx=>by have:=h.issr x hx;omega,h.st,h.ne,h.cap⟩
def OI.slots {a:WD} (h:OI a):a.Slots.length<=a.Issued.length:=by
 by_cases hz:a.Slots.length=0
 ·omega
 ·have e:=Wb (show a.Slots.length-1<a.Slots.length by omega)
  have:=Xi0 h.st e
  omega
def Xeh {N:Nat} {a:WD} (hl:a.Slots.length<=1000000) (t:Nat) (ht:t<=a.Slots.length):∀ (n f c:Nat),t-f<n->c<=f->f<=1000000->Qdi N a (t:Int) n (c:Int) (f:Int)=some (((c+KX a.Slots f t:Nat):Int))
 | 0,f,c,hn,_,_=>by omega
 | n+1,f,c,hn,hc,hf=>by
  rw[Qdi]
  by_cases h:f<t
  ·have hlt:f<a.Slots.length:=by omega
   rw[show decide ((f:Int)<(t:Int))=true from Wj (by omega),We,Xc,Wb hlt,Xa,Xe (by omega),Xe (by omega)]
   have e:KX a.Slots f t=(if a.Slots[f].Live then 1 else 0)+KX a.Slots (f+1) t:=by
    unfold KX
    rw[Wt hlt,show t-f=(t-(f+1))+1 by omega,Iy,List.countP_cons]
    omega
   cases hL:a.Slots[f].Live
   ·rw[Wa,Xeh hl t ht n (f+1) c (by omega) (by omega) (by omega),e,hL]
    simp
   ·rw[We,Xeh hl t ht n (f+1) (c+1) (by omega) (by omega) (by omega),e,hL]
    simp;omega
  ·rw[show decide ((f:Int)<(t:Int))=false from Wk (by omega),Wa]
   unfold KX
   rw[show t-f=0 by omega]
   simp
def XhK {N:Nat} {a:WD} (hl:a.Slots.length<=1000000) (hN:1000000<N) {f t:Int} (f0:0<=f) (f1:f<=1000000) (t0:0<=t) (t1:t<=a.Slots.length):Qgu N a f t=some ((KX a.Slots f.toNat t.toNat:Nat):Int):=by
 obtain ⟨f,rfl⟩:=Il f0
 obtain ⟨t,rfl⟩:=Il t0
 rw[Qgu]
 have:=Xeh (N:=N) hl t (by omega) N f 0 (by omega) (by omega) (by omega)
 rw[show ((0:Nat):Int)=0 from rfl] at this
 show bnd (Qdi N a (t:Int) N 0 (f:Int)) _=_
 rw[this,Xa]
 simp
def Xq5 {N:Nat} {a:WD} {i:Nat} (hi:i<=1000000):QhI N a (i:Int)=some (toL a i):=by
 rw[QhI,Xe (by omega),toL]
 by_cases h:i+1<a.Scopes.length
 ·rw[Xv h,We,Xc,Wb h,Xa]
 ·rw[show decide (((i+1:Nat):Int)<((a.Scopes.length:Nat):Int))=false from Wk (by omega),Wa,WZ (by omega)]
def Xq6 {a:WD} (h:neB a.Slots.length a.Scopes=true) (i:Nat):0<=toL a i/\toL a i<=a.Slots.length:=by
 unfold toL
 cases e:a.Scopes[i+1]? with
 | none=>simp
 | some p=>have:=J6 h e;simp only;omega
def ZN {N:Nat} {a:WD} (hl:LBp a) (hN:1000000<N):Qcc N a=some (YL a):=by
 obtain ⟨hl1,hl2,hl3⟩:=hl
 have h1:=ZM (l:=a.Issued) (F:=Qdt N a) (q:=λ _ p=>!decide (p<0)&&!decide (p>4095)) (λ n k p e=>by
  have hk:=Xq e
  rw[Qdt,Xv hk,We,Xc,e,Xa,Xa,Xe (by omega)]
  cases decide (p<0)<;>cases decide (p>4095)<;>rfl) (λ n=>by rw[Qdt,Xp,Wa]) (n:=N) (by omega)
 have h2:=Jl (l:=a.Slots) (F:=λ n s i=>Qal N a n s i) (q:=stQ a.Issued) (nxp:=λ _ p=>p.Stamp) (I:=λ s=>0<=s) (λ n s k p hs e=>by
  have hk:=Xq e
  show Qal N a (n+1) s (k:Int)=_
  rw[Qal,Xv hk,We,Xc,e,Xa,Xe (by omega)]
  unfold stQ
  cases g1:decide (p.Stamp<=s)
  ·cases g2:decide (p.Stamp>((a.Issued.length:Nat):Int))
   ·have g1:=WG g1
    have g2:=WG g2
    rw[Wa,Wa,Xd (by omega) (by omega),Yg (by omega) (by omega),Xa]
    have ge:a.Issued[(p.Stamp-1).toNat]'(by omega)=a.Issued.getD (p.Stamp-1).toNat 0:=by
     rw[Wr,Wb (by omega)];rfl
    rw[ge]
    cases (a.Issued.getD (p.Stamp-1).toNat 0 != (k:Int))<;>cases (p.Live==(p.Ref != 0))<;>rfl
   ·rfl
  ·rfl) (λ n s=>by show Qal N a (n+1) s _=_;rw[Qal,Xp,Wa]) (λ s k p hs e hq=>by
   unfold stQ at hq
   simp only[Ww,Uv,Ub] at hq
   have:=hq.1
   omega) N 0 0 (by omega) (by omega) (by omega)
 have h3:=Jl (l:=a.Scopes) (F:=λ n s i=>Qai N a n s i) (q:=neQ a.Slots.length) (nxp:=λ _ p=>p.From) (I:=λ _=>True) (λ n s k p hs e=>by
  have hk:=Xq e
  show Qai N a (n+1) s (k:Int)=_
  rw[Qai,Xv hk,We,Xc,e,Xa,Xe (by omega)]
  unfold neQ
  cases ((k:Int)==0)<;>cases (p.From != 0)<;>cases p.Base<;>cases decide (p.From<s)<;>cases decide (p.From>((a.Slots.length:Nat):Int))<;>cases decide (p.Cap<0)<;>cases decide (p.Cap>64)<;>rfl) (λ n s=>by show Qai N a (n+1) s _=_;rw[Qai,Xp,Wa]) (λ _ _ _ _ _ _=>trivial) N 0 0 trivial (by omega) (by omega)
 rw[WP] at h2 h3
 rw[YN] at h1
 rw[Qcc,XN,h1,Xa]
 have e2:Qal N a N 0 0=some (bif stB a.Issued a.Slots then .nxt () else .ret false):=h2
 have e3:Qai N a N 0 0=some (bif neB a.Slots.length a.Scopes then .nxt () else .ret false):=h3
 unfold YL XnT
 have main:(exK (bif (a.Issued.all λ p=>!decide (p<0)&&!decide (p>4095)) then Ex.nxt () else Ex.ret false) (λ r=>some r) λ y4 =>
  bnd (Qal N a N 0 0) λ e=>exK e (λ r=>some r) λ y9 =>
  bnd (Qai N a N 0 0) λ e=>exK e (λ r=>some r) λ y13 =>
  bnd (QcO N a N 0) λ e=>exK e (λ r=>some r) λ y19=>some true)=some ((a.Issued.all λ p=>!decide (p<0)&&!decide (p>4095))&&(stB a.Issued a.Slots&&(neB a.Slots.length a.Scopes&&XgK a))):=by
  cases (a.Issued.all λ p=>!decide (p<0)&&!decide (p>4095))
  ·rw[Wa,Xl];rfl
  rw[We,Xk,WA,e2,Xa]
  cases stB a.Issued a.Slots
  ·rw[Wa,Xl];rfl
  rw[We,Xk,WA,e3,Xa]
  cases hne:neB a.Slots.length a.Scopes
  ·rw[Wa,Xl];rfl
  rw[We,Xk,WA]
  have h4:=ZM (l:=a.Scopes) (F:=QcO N a) (q:=Xk9 a ()) (λ n k p e=>by
   have hk:=Xq e
   have hf:=J6 hne e
   have ht:=Xq6 hne k
   rw[QcO,Xv hk,We,Xc,e,Xa,Xq5 (by omega),Xa,XhK hl1 hN hf.1 (by omega) ht.1 ht.2,Xa,Xa,Xe (by omega)]
   unfold Xk9
   cases decide (((KX a.Slots p.From.toNat (toL a k).toNat:Nat):Int)>p.Cap)<;>rfl) (λ n=>by rw[QcO,Xp,Wa]) (n:=N) (by omega)
  rw[h4,Xa]
  show exK (bif XgK a then Ex.nxt () else Ex.ret false) _ _=_
  cases XgK a
  ·rw[Wa,Xl]
  ·rw[We,Xk]
 rw[main]
 cases decide (((a.Issued.length:Nat):Int)>4096)<;>cases decide (((a.Scopes.length:Nat):Int)>64)<;>cases (((a.Scopes.length:Nat):Int)==0)<;>cases decide (((a.Slots.length:Nat):Int)>0)<;>rfl
def zL:WD:=⟨[],[],[]⟩
def XX (l:List U1):List Int:=(l.filter (·.Live)).map (·.Ref)
def ZZ (l:List U1):(XX l).length<=l.length:=by unfold XX;rw[W0];exact List.length_filter_le _ _
section
variable {N:Nat} {a:WD}
def Xcf (hl:LBp a) (hN:1000000<N) (hv:YL a=true):∀ (n k:Nat) (v:List Int),k<=a.Slots.length->a.Slots.length-k<n->v.length<=k ->
 Qbx N a n (k:Int) v=some (v++XX (a.Slots.drop k))
 | 0,k,v,_,hn,_=>by omega
 | n+1,k,v,hk,hn,hlv=>by
  have hl1:=hl.1
  rw[Qbx]
  by_cases h:k<a.Slots.length
  ·rw[Xv h,We,ZN hl hN,Xa,hv,We,Xc,Wb h,Xa,Xa,Xe (by omega),Wt h,XX]
   cases hL:a.Slots[k].Live
   ·rw[Wa,Xcf hl hN hv n (k+1) v (by omega) (by omega) (by omega),UP (by rw[hL];simp)]
    rfl
   ·rw[We,Xf (by omega),Xcf hl hN hv n (k+1) _ (by omega) (by omega) (by rw[Wp];simp;omega),UY (by rw[hL])]
    simp[XX]
  ·obtain rfl:k=a.Slots.length:=by omega
   rw[Xp,Wa,WL (Ui _)]
   simp[XX]
def Zs (hl:LBp a) (hN:1000000<N):Qb0 N a=some (bif YL a then XX a.Slots else []):=by
 rw[Qb0]
 cases hv:YL a
 ·obtain ⟨m,rfl⟩:∃ m,N=m+1:=⟨N-1,by omega⟩
  rw[Qbx,ZN hl hN,hv]
  by_cases h:0<a.Slots.length
  ·rw[show decide ((0:Int)<((a.Slots.length:Nat):Int))=true from Wj (by omega),We,Xa,Wa,Xa];rfl
  ·rw[show decide ((0:Int)<((a.Slots.length:Nat):Int))=false from Wk (by omega),Wa,Xa];rfl
 ·have h:=Xcf hl hN hv N 0 [] (by omega) (by have:=hl.1;omega) (by simp)
  rw[show ((0:Nat):Int)=0 from rfl,WP,Ux] at h
  rw[h,Xa];rfl
def VT (a:WD):U6:=a.Scopes.getD (a.Scopes.length-1) ⟨0,0,false⟩
def Xcg (h:a.Scopes.length≠0) (hl:a.Scopes.length<=1000000):Xb a.Scopes (wI (((a.Scopes.length:Nat):Int)-1))=some (VT a):=by
 rw[Xd (by omega) (by omega),show ((a.Scopes.length:Nat):Int)-1=((a.Scopes.length-1:Nat):Int) by omega,Xc,VT,Wr,Wb (by omega)]
 rfl
def VU (a:WD) (id:Int):WD×Int×Int×Int :=
 if YL a=false then (zL,0,0,1) else if id=0 then (zL,0,0,1) else if a.Scopes.length=0 then (zL,0,0,9)
 else if (VT a).Cap<=((KX a.Slots (VT a).From.toNat a.Slots.length:Nat):Int) then (zL,0,0,10)
 else if a.Issued.length=4096 then (zL,0,0,18)
 else (⟨a.Slots++[⟨(a.Issued.length:Int)+1,id,true⟩],a.Scopes,a.Issued++[(a.Slots.length:Int)]⟩,(a.Slots.length:Int),(a.Issued.length:Int)+1,0)
def Xfz (hv:YL a=true) (h:a.Scopes.length≠0):0<=(VT a).From/\(VT a).From<=a.Slots.length:=by
 have hf:=Yb.1 hv
 have e:=Wb (show a.Scopes.length-1<a.Scopes.length by omega)
 have:=J6 hf.ne e
 have e2:VT a=a.Scopes[a.Scopes.length-1]:=by unfold VT;rw[Wr,e];rfl
 rw[e2];omega
def Xak (hl:LBp a) (hN:1000000<N) (id:Int):Qes N a id=some (VU a id):=by
 obtain ⟨hl1,hl2,hl3⟩:=hl
 rw[Qes,ZN ⟨hl1,hl2,hl3⟩ hN,Xa,VU]
 cases hv:YL a
 ·rfl
 rw[Ws,Wa,Wm (by simp)]
 by_cases h1:id=0
 ·subst h1;rfl
 rw[Wm h1,show (id==0)=false by simpa using h1,Wa]
 by_cases h2:a.Scopes.length=0
 ·rw[Wn h2,h2];rfl
 rw[Wm h2,show (((a.Scopes.length:Nat):Int)==0)=false by simpa using h2,Wa,Xcg h2 hl2,Xa]
 have ht:=Xfz hv h2
 rw[XhK hl1 hN ht.1 (by omega) (by omega) (by omega),Xa,Xa,U5]
 by_cases h3:(VT a).Cap<=((KX a.Slots (VT a).From.toNat a.Slots.length:Nat):Int)
 ·rw[Wn h3,Wj (show ((KX a.Slots (VT a).From.toNat a.Slots.length:Nat):Int)>=_ from h3),We];rfl
 rw[Wm h3,Wk (show ¬ ((KX a.Slots (VT a).From.toNat a.Slots.length:Nat):Int)>=_ from h3),Wa]
 by_cases h4:a.Issued.length=4096
 ·rw[Wn h4,h4];rfl
 rw[Wm h4,show (((a.Issued.length:Nat):Int)==4096)=false by simp;omega,Wa,Xf (by omega),Xf (by omega),Xf (by omega),Xf (by omega),Xd (by omega) (by omega)]
def Zt:LBp zL:=⟨by simp[zL],by simp[zL],by simp[zL]⟩
def XhL (hl:LBp a) (id:Int):LBp (VU a id).1:=by
 obtain ⟨hl1,hl2,hl3⟩:=hl
 unfold VU
 cases hv:YL a
 ·exact Zt
 have hf:=Yb.1 hv
 have hs:=hf.slots
 have hi:=hf.iss
 split
 ·exact Zt
 split
 ·exact Zt
 split
 ·exact Zt
 split
 ·exact Zt
 split
 ·exact Zt
 refine ⟨?_,hl2,?_⟩
 ·show (a.Slots++[_]).length<=_
  rw[Wp];simp;omega
 ·show (a.Issued++[_]).length<=_
  rw[Wp];simp;omega
def Zz (a:WD) (i g:Int):Int×Int :=
 if YL a=false then (0,1) else if g<1\/(a.Issued.length:Int)<g then (0,6) else
 if a.Issued.getD (g-1).toNat 0≠i then (0,6) else if (a.Slots.length:Int)<=i then (0,7) else
 match a.Slots[i.toNat]? with
 | none=>(0,7)
 | some p=>if p.Stamp≠g then (0,7) else if p.Live then (p.Ref,0) else (0,8)
def Xei (hl:LBp a) (hN:1000000<N) (i g:Int):Qe0 N a i g=some (Zz a i g):=by
 have hl':=hl
 obtain ⟨hl1,hl2,hl3⟩:=hl
 rw[Qe0,ZN hl' hN,Xa,Zz]
 cases hv:YL a
 ·rfl
 have hf:=Yb.1 hv
 rw[Ws,Wa,Wm (by simp)]
 by_cases h1:g<1
 ·rw[Wj h1,We,Wn (.inl h1)]
 rw[Wk h1,Wa]
 by_cases h2:g>((a.Issued.length:Nat):Int)
 ·rw[Wj h2,We,Wn (.inr h2)]
 have hlt:(g-1).toNat<a.Issued.length:=by omega
 rw[Wk h2,Wa,Wm (by omega),Xd (by omega) (by omega),Yg (by omega) (by omega),Xa]
 have ge:a.Issued[(g-1).toNat]=a.Issued.getD (g-1).toNat 0:=by rw[Wr,Wb hlt];rfl
 have hm:=hf.issr _ (WW hlt)
 rw[ge] at hm ⊢
 by_cases h3:a.Issued.getD (g-1).toNat 0=i
 ·rw[h3] at hm ⊢
  rw[show (i != i)=false by simp,Wa,Wm (by simp)]
  by_cases h4:i>=((a.Slots.length:Nat):Int)
  ·rw[Wj h4,We,Wn h4]
  ·have hlt2:i.toNat<a.Slots.length:=by omega
   rw[Wk h4,Wa,Wm (by omega),Yg (by omega) (by omega),Xa,Wb hlt2]
   simp only[Xa]
   by_cases h5:a.Slots[i.toNat].Stamp=g
   ·rw[h5,show (g != g)=false by simp,Wa,Wm (by simp)]
    cases a.Slots[i.toNat].Live<;>rfl
   ·rw[show (a.Slots[i.toNat].Stamp != g)=true by simpa using h5,We,Wn h5]
 ·rw[show (a.Issued.getD (g-1).toNat 0 != i)=true by simpa using h3,We,Wn h3]
def Xdl {i g:Int} (h:(Zz a i g).2=0):YL a=true/\0<=i/\∃ p,a.Slots[i.toNat]? = some p/\p.Stamp=g/\p.Live=true/\(Zz a i g).1=p.Ref:=by
 unfold Zz at h ⊢
 cases hv:YL a
 ·rw[hv] at h;cases h
 have hf:=Yb.1 hv
 rw[hv] at h
 rw[Wm (by simp)] at h ⊢
 by_cases h1:g<1\/(a.Issued.length:Int)<g
 ·rw[Wn h1] at h;cases h
 rw[Wm h1] at h ⊢
 have hlt:(g-1).toNat<a.Issued.length:=by omega
 have ge:a.Issued[(g-1).toNat]=a.Issued.getD (g-1).toNat 0:=by rw[Wr,Wb hlt];rfl
 have hm:=hf.issr _ (WW hlt)
 rw[ge] at hm
 by_cases h2:a.Issued.getD (g-1).toNat 0≠i
 ·rw[Wn h2] at h;cases h
 rw[Wm h2] at h ⊢
 by_cases h3:(a.Slots.length:Int)<=i
 ·rw[Wn h3] at h;cases h
 rw[Wm h3] at h ⊢
 have hi:0<=i:=by have:a.Issued.getD (g-1).toNat 0=i:=Classical.not_not.1 h2;omega
 have e:=Wb (show i.toNat<a.Slots.length by omega)
 rw[e] at h ⊢
 simp only at h ⊢
 by_cases h4:a.Slots[i.toNat].Stamp≠g
 ·rw[Wn h4] at h;cases h
 rw[Wm h4] at h ⊢
 cases hL:a.Slots[i.toNat].Live
 ·rw[hL] at h;cases h
 ·exact ⟨trivial,hi,_,rfl,Classical.not_not.1 h4,hL,rfl⟩
def XaU (a:WD) (i g:Int):WD×Int :=
 if (Zz a i g).2≠0 then (zL,(Zz a i g).2) else (⟨a.Slots.set i.toNat ⟨g,0,false⟩,a.Scopes,a.Issued⟩,0)
def Xej (hl:LBp a) (hN:1000000<N) (i g:Int):QdU N a i g=some (XaU a i g):=by
 rw[QdU,Xei hl hN,Xa,XaU]
 by_cases h:(Zz a i g).2=0
 ·obtain ⟨_,h0,p,hp,_⟩:=Xdl h
  have:=Xq hp
  have hl1:=hl.1
  rw[h,show ((0:Int) != 0)=false from rfl,Wa,Wm (by simp),Xf (by omega),Yg h0 (by omega),Xa]
 ·rw[show ((Zz a i g).2 != 0)=true by simpa using h,We,Wn h];rfl
def XhM (hl:LBp a) (i g:Int):LBp (XaU a i g).1:=by
 unfold XaU
 split
 ·exact Zt
 ·exact ⟨by show (a.Slots.set _ _).length<=_;rw[Wx];exact hl.1,hl.2⟩
def JD (a:WD) (c:Int):WD×Int :=
 if YL a=false\/c<0\/64<c then (zL,1) else if a.Scopes.length=0 then (zL,9) else if a.Scopes.length=64 then (zL,17) else (⟨a.Slots,a.Scopes++[⟨(a.Slots.length:Int),c,false⟩],a.Issued⟩,0)
def Xal (hl:LBp a) (hN:1000000<N) (c:Int):Qek N a c=some (JD a c):=by
 have hl2:=hl.2.1
 rw[Qek,Qgw,ZN hl hN,Xa,JD]
 cases hv:YL a
 ·rw[WS,We,Xa,Wn (.inl rfl)];rfl
 rw[Ws,Wa]
 by_cases h1:c<0
 ·rw[Wj h1,We,Xa,Wn (.inr (.inl h1))];rfl
 by_cases h2:c>64
 ·rw[Wk h1,Wa,Wj h2,We,Xa,Wn (.inr (.inr h2))];rfl
 rw[Wk h1,Wa,Wk h2,Wa,XN,WS,We,Wm (by rintro (h | h | h);cases h;exact h1 h;exact h2 h)]
 by_cases h3:a.Scopes.length=0
 ·rw[Wn h3,h3];rw[show (((0:Nat):Int)==0)=true from rfl,We,Xa];rfl
 rw[Wm h3,show (((a.Scopes.length:Nat):Int)==0)=false by simpa using h3,Wa]
 by_cases h4:a.Scopes.length=64
 ·rw[Wn h4,h4];rw[show (((64:Nat):Int)==64)=true from rfl,We,Xa];rfl
 rw[Wm h4,show (((a.Scopes.length:Nat):Int)==64)=false by simp;omega,Wa,Xf (by omega),Xf (by omega),Xa]
def XfA (hl:LBp a) (c:Int):LBp (JD a c).1:=by
 unfold JD
 cases hv:YL a
 ·exact Zt
 have:=(Yb.1 hv).sc
 split
 ·exact Zt
 split
 ·exact Zt
 split
 ·exact Zt
 ·exact ⟨hl.1,by show (a.Scopes++[_]).length<=_;rw[Wp];simp;omega,hl.2.2⟩
def ZO (a:WD):WD×Int :=
 if YL a=false then (zL,1) else if a.Scopes.length=0 then (zL,9) else if (VT a).Base then (zL,9) else (⟨a.Slots.take (VT a).From.toNat,a.Scopes.take (a.Scopes.length-1),a.Issued⟩,0)
def XbA (hl:LBp a) (hN:1000000<N):Qe1 N a=some (ZO a):=by
 obtain ⟨hl1,hl2,hl3⟩:=hl
 rw[Qe1,ZN ⟨hl1,hl2,hl3⟩ hN,Xa,ZO]
 cases hv:YL a
 ·rfl
 rw[Ws,Wa,Wm (by simp)]
 by_cases h2:a.Scopes.length=0
 ·rw[Wn h2,h2];rfl
 have ht:=Xfz hv h2
 rw[Wm h2,show (((a.Scopes.length:Nat):Int)==0)=false by simpa using h2,Wa,Xcg h2 hl2,Xa]
 cases hB:(VT a).Base
 ·rw[Wa,QgZ,Xcg h2 hl2,Xa,Xd (by omega) (by omega),Xf (by omega),Xf (by omega),Xf (by omega),Xf (by omega),Xa]
  rw[show (((a.Scopes.length:Nat):Int)-1).toNat=a.Scopes.length-1 by omega]
  rfl
 ·rw[We];rfl
def XbB (hl:LBp a):LBp (ZO a).1:=by
 unfold ZO
 split
 ·exact Zt
 split
 ·exact Zt
 split
 ·exact Zt
 ·obtain ⟨hl1,hl2,hl3⟩:=hl
  exact ⟨by show (a.Slots.take _).length<=_;rw[WC];omega,by show (a.Scopes.take _).length<=_;rw[WC];omega,hl3⟩
def Xch (rs:List Int) (hl:a.Slots.length<=1000000):∀ (n k:Nat) (c:Int) (v:List U1),k<=a.Slots.length->a.Slots.length-k<n->v.length=a.Slots.length->v.drop k=a.Slots.drop k->0<=c->c+(XX (a.Slots.drop k)).length=rs.length->rs.length<=1000000 ->
 Ok (Qbi N a rs n c (k:Int) v) λ e=>match e with | .ret r=>r=(zL,1) | .nxt v=>v.length=a.Slots.length
 | 0,k,c,v,_,hn,_,_,_,_,_=>by omega
 | n+1,k,c,v,hk,hn,hv,hd,hc,hr,hrl=>by
  rw[Qbi]
  refine WY (by omega) (Wo (λ h=>?_) λ h=>Wh hv)
  have h:k<a.Slots.length:=by have:=Wq h;omega
  have hkv:(k:Int)<v.length:=by omega
  rw[Xe (by omega)]
  have hdv:=Wt (show k<v.length by omega)
  have hda:=Wt h
  rw[hd,hda] at hdv
  have e1:a.Slots[k]=v[k]:=(I6 hdv).1
  have e2:a.Slots.drop (k+1)=v.drop (k+1):=(I6 hdv).2
  refine Ok.get (by omega) hkv λ p hp=>?_
  have hpe:p=a.Slots[k]:=by
   rw[Xc,Wb (by omega),← e1] at hp
   exact (Ug hp).symm
  rw[hda] at hr
  refine Wo (λ hL=>?_) λ hL=>?_
  ·have hL:a.Slots[k].Live=false:=by rw[← hpe];simpa using hL
   refine Xch rs hl n (k+1) c v (by omega) (by omega) hv e2.symm hc ?_ hrl
   rw[← hr];unfold XX;rw[UP (by rw[hL];simp)]
  ·have hL:a.Slots[k].Live=true:=by rw[← hpe];simpa using hL
   have hr2:c+1+(XX (a.Slots.drop (k+1))).length=rs.length:=by
    rw[← hr];unfold XX;rw[UY (by rw[hL]),WX,Uc];omega
   refine Ok.get hc (by omega) λ q _=>Wo (λ _=>Wh rfl) λ _=>Ok.get hc (by omega) λ q _=>Ok.get (by omega) hkv λ p' _=>?_
   rw[Xd (n:=c+1) (by omega) (by omega)]
   refine Xch rs hl n (k+1) (c+1) _ (by omega) (by omega) (by rw[Wx];exact hv) ?_ (by omega) hr2 hrl
   rw[List.drop_set_of_lt (by omega)]
   exact e2.symm
def Xla (hl:LBp a) (hN:1000000<N) {rs:List Int} (hr:rs.length<=1000000):Ok (Qej N a rs) λ r=>LBp r.1:=by
 have hl':=hl
 obtain ⟨hl1,hl2,hl3⟩:=hl
 rw[Qej,ZN hl' hN,Xa]
 refine Wo (λ _=>Wh Zt) λ hv=>?_
 have hv:YL a=true:=by simpa using hv
 rw[Zs hl' hN,Xa,hv,We]
 refine Wo (λ _=>Wh Zt) λ he=>WY (by omega) ?_
 have he:((rs.length:Nat):Int)=(((XX a.Slots).length:Nat):Int):=by simpa using he
 refine IW (Xch rs hl1 N 0 0 a.Slots (by omega) (by omega) rfl rfl (by omega) (by rw[WP];omega) hr) (λ r q=>Wh (by have q:r=(zL,1):=q;rw[q];exact Zt)) λ v q=>Wh ⟨?_,hl2,hl3⟩
 have q:v.length=a.Slots.length:=q
 show v.length<=_
 omega
end
def TB (t:WT):Prop:=t.Entries.length<=1000000
def zT:WT:=⟨[]⟩
def Xci:TB zT:=by simp[TB,zT]
section
variable {N:Nat} {t:WT}
def XhN (l:List Uj):Option Nat:=l.findIdx? λ e=>!e.Live&&decide (e.Gen<4294967295)
def J7 (t:WT) (id:Int):WT×Int×Int×Int :=
 if Yx t.Entries=false then (zT,0,0,1) else
 match XhN t.Entries with
 | some k=>(⟨t.Entries.set k ⟨(t.Entries.getD k ⟨0,0,false⟩).Gen+1,id,true⟩⟩,(k:Int),(t.Entries.getD k ⟨0,0,false⟩).Gen+1,0)
 | none=>if t.Entries.length=64 then (zT,0,0,18) else (⟨t.Entries++[⟨1,id,true⟩]⟩,(t.Entries.length:Int),1,0)
def XhO (hl:TB t) (hv:Yx t.Entries=true) (id:Int):∀ (n k:Nat),k<=t.Entries.length->t.Entries.length-k<n->QbP N t id n (k:Int)=some (match (t.Entries.drop k).findIdx? (λ e=>!e.Live&&decide (e.Gen<4294967295)) with
 | some j=>.ret (⟨t.Entries.set (k+j) ⟨(t.Entries.getD (k+j) ⟨0,0,false⟩).Gen+1,id,true⟩⟩,((k+j:Nat):Int),(t.Entries.getD (k+j) ⟨0,0,false⟩).Gen+1,0)
 | none=>.nxt ())
 | 0,k,_,hn=>by omega
 | n+1,k,hk,hn=>by
  unfold TB at hl
  rw[QbP,Xf (by omega)]
  by_cases h:k<t.Entries.length
  ·have e:=Wb h
   have gd:t.Entries.getD k ⟨0,0,false⟩=t.Entries[k]:=by rw[Wr,e];rfl
   have hg:=Xk8 hv (WW h)
   rw[Xv h,We,Xc,e]
   simp only[Xa]
   rw[Xe (by omega),Wt h,List.findIdx?_cons]
   have next:=XhO hl hv id n (k+1) (by omega) (by omega)
   have go:QbP N t id n ((k+1:Nat):Int)=some (match Option.map (λ i=>i+1) ((t.Entries.drop (k+1)).findIdx? (λ e=>!e.Live&&decide (e.Gen<4294967295))) with
    | some j=>.ret (⟨t.Entries.set (k+j) ⟨(t.Entries.getD (k+j) ⟨0,0,false⟩).Gen+1,id,true⟩⟩,((k+j:Nat):Int),(t.Entries.getD (k+j) ⟨0,0,false⟩).Gen+1,0)
    | none=>.nxt ()):=by
    rw[next]
    cases (t.Entries.drop (k+1)).findIdx? (λ e=>!e.Live&&decide (e.Gen<4294967295)) with
    | none=>rfl
    | some j=>simp only[Iv];rw[show k+1+j=k+(j+1) by omega]
   cases hL:t.Entries[k].Live
   ·cases hG:decide (t.Entries[k].Gen<4294967295)
    ·rw[WS,We,Wa,IF,Wm (by simp)]
     exact go
    ·have hG:=Wq hG
     rw[WS,We,We,I5,Wn rfl]
     have hk2:(k:Int).toNat=k:=by omega
     rw[Xd (by omega) (by omega),hk2,Xc,Is,Wn rfl,Wn h,Xa]
     simp only[Im]
     rw[gd]
   ·rw[Ws,Wa,W5,Wm (by simp)]
    exact go
  ·obtain rfl:k=t.Entries.length:=by omega
   rw[Xp,Wa,WL (Ui _)]
   rfl
def KY (hl:TB t) (hN:1000000<N) (id:Int):Qcs N t id=some (J7 t id):=by
 have hl':=hl
 unfold TB at hl
 rw[Qcs,Zi hl hN,Xa,J7]
 cases hv:Yx t.Entries
 ·rfl
 have h1:=XhO (N:=N) hl' hv id N 0 (by omega) (by omega)
 rw[show ((0:Nat):Int)=0 from rfl,WP] at h1
 rw[Ws,Wa,Xf (by omega),h1,Xa,Wm (by simp),XhN]
 cases t.Entries.findIdx? (λ e=>!e.Live&&decide (e.Gen<4294967295)) with
 | some j=>simp only[Xl,Ut]
 | none =>
  simp only[Xk]
  rw[Xf (by omega)]
  by_cases h:t.Entries.length=64
  ·rw[Wn h,h];rfl
  ·rw[Wm h,show (((t.Entries.length:Nat):Int)==64)=false by simp;omega,Wa,Xf (by omega),Xf (by omega)]
def XhP (hl:TB t) (id:Int):TB (J7 t id).1:=by
 unfold J7
 cases hv:Yx t.Entries
 ·exact Xci
 have:=Ya hv
 rw[Wm (by simp)]
 cases XhN t.Entries with
 | some k=>show (t.Entries.set _ _).length<=_;rw[Wx];exact hl
 | none =>
  simp only
  split
  ·exact Xci
  ·show (t.Entries++[_]).length<=_
   rw[Wp];simp;omega
def Xdm {i g:Int} (h:(Zk t.Entries i g).2=0):Yx t.Entries=true/\0<=i/\∃ p,t.Entries[i.toNat]? = some p/\p.Gen=g/\p.Live=true/\(Zk t.Entries i g).1=p.Ref:=by
 unfold Zk at h ⊢
 cases hv:Yx t.Entries
 ·rw[hv] at h;cases h
 rw[hv] at h
 rw[Wm (by simp)] at h ⊢
 by_cases h1:i<0\/(t.Entries.length:Int)<=i\/g<1
 ·rw[Wn h1] at h;cases h
 rw[Wm h1] at h ⊢
 have e:=Wb (show i.toNat<t.Entries.length by omega)
 rw[e] at h ⊢
 simp only at h ⊢
 by_cases h4:g>t.Entries[i.toNat].Gen
 ·rw[Wn h4] at h;cases h
 rw[Wm h4] at h ⊢
 by_cases h5:g<t.Entries[i.toNat].Gen
 ·rw[Wn h5] at h;cases h
 rw[Wm h5] at h ⊢
 cases hL:t.Entries[i.toNat].Live
 ·rw[hL] at h;cases h
 ·exact ⟨trivial,by omega,_,rfl,by omega,hL,rfl⟩
def J8 (t:WT) (i g:Int):WT×Int :=
 if (Zk t.Entries i g).2≠0 then (zT,(Zk t.Entries i g).2) else (⟨t.Entries.set i.toNat ⟨g,0,false⟩⟩,0)
def Vr (hl:TB t) (hN:1000000<N) (i g:Int):Qcx N t i g=some (J8 t i g):=by
 have hl':=hl
 unfold TB at hl
 rw[Qcx,Xaj hl hN,Xa,J8]
 by_cases h:(Zk t.Entries i g).2=0
 ·obtain ⟨_,h0,p,hp,_⟩:=Xdm h
  have:=Xq hp
  rw[h,show ((0:Int) != 0)=false from rfl,Wa,Wm (by simp),QgY,Xf (by omega),Yg h0 (by omega),Xa,Xa]
 ·rw[show ((Zk t.Entries i g).2 != 0)=true by simpa using h,We,Wn h];rfl
def XhQ (hl:TB t) (i g:Int):TB (J8 t i g).1:=by
 unfold J8
 split
 ·exact Xci
 ·show (t.Entries.set _ _).length<=_;rw[Wx];exact hl
def Xcj (rs:List Int) (hl:t.Entries.length<=1000000):∀ (n k:Nat) (c:Int) (v:List Uj),k<=t.Entries.length->t.Entries.length-k<n->v.length=t.Entries.length->v.drop k=t.Entries.drop k->0<=c->c+(XA (t.Entries.drop k)).length=rs.length->rs.length<=1000000 ->
 Ok (Qbj N rs n c (k:Int) v) λ v=>v.length=t.Entries.length
 | 0,k,c,v,_,hn,_,_,_,_,_=>by omega
 | n+1,k,c,v,hk,hn,hv,hd,hc,hr,hrl=>by
  rw[Qbj]
  refine WY (by omega) (Wo (λ h=>?_) λ h=>Wh hv)
  have h:k<t.Entries.length:=by have:=Wq h;omega
  have hkv:(k:Int)<v.length:=by omega
  rw[Xe (by omega)]
  have hdv:=Wt (show k<v.length by omega)
  have hda:=Wt h
  rw[hd,hda] at hdv
  have e1:t.Entries[k]=v[k]:=(I6 hdv).1
  have e2:t.Entries.drop (k+1)=v.drop (k+1):=(I6 hdv).2
  refine Ok.get (by omega) hkv λ p hp=>?_
  have hpe:p=t.Entries[k]:=by
   rw[Xc,Wb (by omega),← e1] at hp
   exact (Ug hp).symm
  rw[hda] at hr
  refine Wo (λ hL=>?_) λ hL=>?_
  ·have hL:t.Entries[k].Live=true:=by rw[← hpe];exact hL
   have hr2:c+1+(XA (t.Entries.drop (k+1))).length=rs.length:=by
    rw[← hr];unfold XA;rw[UY (by rw[hL]),WX,Uc];omega
   refine Ok.get hc (by omega) λ q _=>Ok.get (by omega) hkv λ p' _=>?_
   rw[Xd (n:=c+1) (by omega) (by omega)]
   refine Xcj rs hl n (k+1) (c+1) _ (by omega) (by omega) (by rw[Wx];exact hv) ?_ (by omega) hr2 hrl
   rw[List.drop_set_of_lt (by omega)]
   exact e2.symm
  ·have hL:t.Entries[k].Live=false:=by rw[← hpe];exact hL
   refine Xcj rs hl n (k+1) c v (by omega) (by omega) hv e2.symm hc ?_ hrl
   rw[← hr];unfold XA;rw[UP (by rw[hL];simp)]
def Xdn (hl:TB t) (hN:1000000<N) {rs:List Int} (hr:rs.length<=1000000):Ok (QcF N t rs) λ r=>r.1.Entries.length<=t.Entries.length:=by
 have hl':=hl
 unfold TB at hl
 rw[QcF,Zi hl hN,Xa]
 refine Wo (λ _=>Wh (by simp)) λ hv=>?_
 have hv:Yx t.Entries=true:=by simpa using hv
 have hll:=Ys t.Entries
 rw[X8 hl hN,Xa,hv,We]
 refine WY (by omega) (Wo (λ _=>Wh (by simp)) λ he=>WY (by omega) ?_)
 have he:((rs.length:Nat):Int)=(((XA t.Entries).length:Nat):Int):=by simpa using he
 refine WN (Xcj rs hl N 0 0 t.Entries (by omega) (by omega) rfl rfl (by omega) (by rw[WP];omega) hr) λ v _ q=>Wh ?_
 show v.length<=_
 omega
def XfB (hl:TB t) (hN:1000000<N) {rs:List Int} (hr:rs.length<=1000000):Ok (QcF N t rs) λ r=>TB r.1:=(Xdn hl hN hr).mono λ r h=>UB h hl
def Xck {k:Nat} (hl:t.Entries.length<=1000+k) (id:Int):(J7 t id).1.Entries.length<=1000+k:=by
 unfold J7
 cases hv:Yx t.Entries
 ·simp[zT]
 have:=Ya hv
 rw[Wm (by simp)]
 cases XhN t.Entries with
 | some k=>show (t.Entries.set _ _).length<=_;rw[Wx];exact hl
 | none =>
  simp only
  split
  ·simp[zT]
  ·show (t.Entries++[_]).length<=_
   rw[Wp];simp;omega
def XfC {k:Nat} (hl:t.Entries.length<=1000+k) (i g:Int):(J8 t i g).1.Entries.length<=1000+k:=by
 unfold J8
 split
 ·simp[zT]
 ·show (t.Entries.set _ _).length<=_;rw[Wx];exact hl
end
end Go.Sx
