import Derived.KernelRfl
import Derived.Test.YtgcneehkconghaaGreatDoorBC
set_option linter.all false
namespace Go.Sx
def Ok {α:Type} (o:Option α) (P:α->Prop):Prop:=∃ r,o=some r/\P r
section
variable {α β γ:Type} {P:β->Prop}
theorem Xa (x:α) (f:α->Option β):bnd (some x) f=f x:=by unfold bnd;rfl
theorem XcC (f:α->Option β):bnd none f=none:=by unfold bnd;rfl
theorem Xi {p:Prop} [Decidable p] (h:p) (x:Option α):grd p x=x:=by unfold grd;rw[Wm h]
theorem Yy {κ:Type} (k:κ) (f:κ->γ):jn k f=f k:=by unfold jn;rfl
theorem Xz (a:α) (f:α->γ) (k:β->γ):exK (.ret a) f k=f a:=by unfold exK;rfl
theorem Xq (b:β) (f:α->γ) (k:β->γ):exK (.nxt b) f k=k b:=by unfold exK;rfl
theorem Xd (l:List α) (k:Nat):Xb l (k:Int)=l[k]?:=by unfold Xb;simp
theorem X4 {l:List α} {i:Int} (h0:0<=i) (h1:i<l.length):Xb l i=some (l[i.toNat]'(by omega)):=by
 unfold Xb;rw[Wm h0];exact Wd _
theorem JL {l:List α} {i:Int} {p:α}:Xb l i=some p↔0<=i/\l[i.toNat]? = some p:=by
 unfold Xb
 by_cases h0:0<=i
 ·rw[Wm h0];exact ⟨λ h=>⟨h0,h⟩,λ h=>h.2⟩
 ·rw[Wk h0];exact ⟨λ h=>(by cases h),λ h=>absurd h.1 h0⟩
theorem Yh {l:List α} {i:Int} {p:α} (h:Xb l i=some p):p∈l:=Um (JL.1 h).2
theorem XgB {l:List α} {i:Int} (h:¬ (0<=i/\i<l.length)):Xb l i=none:=by
 unfold Xb;split
 ·exact WN (by omega)
 ·rfl
theorem We {x:β} (h:P x):Ok (some x) P:=⟨x,rfl,h⟩
theorem WJ {o:Option α} {f:α->Option β} {Q:α->Prop} (h:Ok o Q) (k:∀ y,o=.some y->Q y->Ok (f y) P):Ok (Sx.bnd o f) P:=by
 obtain ⟨y,rfl,hq⟩:=h;rw[Xa];exact k y rfl hq
theorem W4 {p:Prop} [Decidable p] {x:Option β} (h:p) (k:Ok x P):Ok (Sx.grd p x) P:=by rw[Xi h];exact k
theorem Ip {κ:Type} {k:κ} {f:κ->Option β} (h:Ok (f k) P):Ok (Sx.jn k f) P:=by rw[Yy];exact h
theorem Wn {b:Bool} {x y:Option β} (h1:b=true->Ok x P) (h2:b=false->Ok y P):Ok (bif b then x else y) P:=by
 cases b
 ·exact h2 rfl
 ·exact h1 rfl
theorem Ok.get {l:List α} {i:Int} {f:α->Option β} (h0:0<=i) (h1:i<l.length) (k:∀ p,Xb l i=.some p->Ok (f p) P):Ok (Sx.bnd (Xb l i) f) P:=by
 rw[X4 h0 h1,Xa];exact k _ (X4 h0 h1)
theorem Ok.mono {o:Option β} {Q:β->Prop} (h:Ok o Q) (k:∀ x,Q x->P x):Ok o P:=by
 obtain ⟨y,rfl,hq⟩:=h;exact ⟨y,rfl,k y hq⟩
theorem Ow {o:Option β} {x:β} (h:o=.some x) (hp:P x):Ok o P:=⟨x,h,hp⟩
theorem Ok.get_eq {o:Option β} {x:β} (h:Ok o P) (e:o=.some x):P x:=by
 obtain ⟨y,h1,h2⟩:=h;rw[e] at h1;exact WO h1▸h2
theorem Ok.isSome {o:Option β} (h:Ok o P):o≠none:=by obtain ⟨y,rfl,_⟩:=h;simp
theorem IG {α':Type} {o:Option (Ex α' α)} {f:α'->Option β} {k:α->Option β} {Q:Ex α' α->Prop} (h:Ok o Q) (h1:∀ a,Q (.ret a)->Ok (f a) P) (h2:∀ b,Q (.nxt b)->Ok (k b) P):Ok (Sx.bnd o λ e=>exK e f k) P:=by
 obtain ⟨y,rfl,hq⟩:=h
 rw[Xa]
 cases y with
 | ret a=>rw[Xz];exact h1 a hq
 | nxt b=>rw[Xq];exact h2 b hq
end
theorem Xc {n:Int} (h1 : -9223372036854775808<=n) (h2:n<=9223372036854775807):wI n=n:=by
 have e:wI n=if n % 18446744073709551616>=9223372036854775808 then n % 18446744073709551616-18446744073709551616 else n % 18446744073709551616:=by
  have e1:IntKind.bits .i64=64:=rfl
  have e2:IntKind.signed .i64=true:=rfl
  simp[wI,IntKind.wrap,e1,e2]
 rw[e]
 split<;>omega
theorem XbO (n:Int):wU n=n % 18446744073709551616:=by
 have e1:IntKind.bits .u64=64:=rfl
 have e2:IntKind.signed .u64=false:=rfl
 simp[wU,IntKind.wrap,e1,e2]
theorem XJ {n:Int} (h1:0<=n) (h2:n<=18446744073709551615):wU n=n:=by rw[XbO];omega
theorem Vi (n:Int):0<=wU n/\wU n<=18446744073709551615:=by rw[XbO];omega
theorem Xig (n:Int):wW n=n % 4294967296:=by
 have e1:IntKind.bits .u32=32:=rfl
 have e2:IntKind.signed .u32=false:=rfl
 simp[wW,IntKind.wrap,e1,e2]
theorem XlA {n:Int} (h1:0<=n) (h2:n<=4294967295):wW n=n:=by rw[Xig];omega
theorem Xih {n:Int} (h0:0<=n) (h1:n<=63):Kq .u64 1 n=2 ^ n.toNat:=by
 have e1:IntKind.bits .u64=64:=rfl
 have h:min n.toNat 64=n.toNat:=by omega
 have hp:(2:Int) ^ n.toNat<=2 ^ 63:=by
  have:2 ^ n.toNat<=2 ^ 63:=Nat.pow_le_pow_right (by omega) (by omega)
  exact_mod_cast this
 have hq:(0:Int)<=2 ^ n.toNat:=Int.pow_nonneg (by decide)
 show IntKind.wrap .u64 (1*2 ^ min n.toNat (IntKind.bits .u64))=_
 rw[e1,h,IV]
 exact XJ hq (by omega)
theorem Yz (a:Int) (k:Nat) (hk:k<=64) (h0:0<=a):X2 .u64 a k=a / 2 ^ k:=by
 have e1:IntKind.bits .u64=64:=rfl
 show a.fdiv (2 ^ min (k:Int).toNat (IntKind.bits .u64))=_
 rw[e1,Is,Nat.min_eq_left hk]
 exact Int.fdiv_eq_ediv_of_nonneg _ (Int.pow_nonneg (by decide))
theorem Yn (a:Int) (k:Nat) (hk:k<=63) (h0:0<=a) (h1:a<=18446744073709551615):Yp .u64 a (2 ^ k-1)=a % 2 ^ k:=by
 obtain ⟨n,rfl⟩:=U5 h0
 have hb:IntKind.u64.bits=64:=rfl
 show IntKind.u64.wrap ((BitVec.ofInt IntKind.u64.bits n &&& BitVec.ofInt IntKind.u64.bits (2 ^ k-1)).toNat:Int)=_
 rw[hb]
 have hk2:(2:Int) ^ k-1=((2 ^ k-1:Nat):Int):=by
  have h1:=Nat.one_le_two_pow (n:=k)
  have h2:(2:Int) ^ k=((2 ^ k:Nat):Int):=by simp
  rw[h2];omega
 have e1:BitVec.ofInt 64 (n:Int)=BitVec.ofNat 64 n:=by simp
 have e2:BitVec.ofInt 64 ((2 ^ k-1:Nat):Int)=BitVec.ofNat 64 (2 ^ k-1):=by simp
 rw[hk2,e1,e2,BitVec.toNat_and,BitVec.toNat_ofNat,BitVec.toNat_ofNat]
 have hn:n % 2 ^ 64=n:=Nat.mod_eq_of_lt (by omega)
 have hp:2 ^ k<=2 ^ 63:=Nat.pow_le_pow_right (by omega) hk
 have hm:(2 ^ k-1) % 2 ^ 64=2 ^ k-1:=Nat.mod_eq_of_lt (by omega)
 rw[hn,hm,Nat.and_two_pow_sub_one_eq_mod]
 have hlt:n % 2 ^ k<2 ^ k:=IY _ (Nat.two_pow_pos k)
 show wU _=_
 rw[XJ (by omega) (by omega)]
 simp
end Go.Sx
namespace Go.Sx
def PT {α:Type} (o:Option α) (P:α->Prop):Prop:=∀ r,o=some r->P r
def tU (n:Int):Prop:=0<=n/\n<=18446744073709551615
def tW (n:Int):Prop:=0<=n/\n<=4294967295
def tL {α:Type} (T:α->Prop) (l:List α):Prop:=∀ x∈l,T x
def tE {α β:Type} (A:α->Prop) (B:β->Prop):Ex α β->Prop
 | .ret a=>A a
 | .nxt b=>B b
section
variable {α β γ:Type} {P:β->Prop} {T:α->Prop}
theorem Wh {x:β} (h:P x):PT (some x) P:=λ r e=>WO e▸h
theorem IP:PT none P:=λ r e=>by cases e
theorem Wv {o:Option α} {f:α->Option β} {Q:α->Prop} (h:PT o Q) (k:∀ y,Q y->PT (f y) P):PT (Sx.bnd o f) P:=by
 cases o with
 | none=>rw[XcC];exact IP
 | some y=>rw[Xa];exact k y (h y rfl)
theorem WQ {o:Option α} {f:α->Option β} (k:∀ y,PT (f y) P):PT (Sx.bnd o f) P:=by
 cases o with
 | none=>rw[XcC];exact IP
 | some y=>rw[Xa];exact k y
theorem W3 {p:Prop} [Decidable p] {x:Option β} (k:PT x P):PT (Sx.grd p x) P:=by
 unfold Sx.grd
 split
 ·exact k
 ·exact IP
theorem UO {κ:Type} {k:κ} {f:κ->Option β} {Q:κ->Prop} (h:Q k) (g:∀ j,Q j->PT (f j) P):PT (Sx.jn k f) P:=by rw[Yy];exact g k h
theorem Wl {b:Bool} {x y:Option β} (h1:PT x P) (h2:PT y P):PT (bif b then x else y) P:=by cases b;exact h2;exact h1
theorem PT.get {l:List α} {i:Int} {f:α->Option β} (h:tL T l) (k:∀ p,T p->PT (f p) P):PT (Sx.bnd (Xb l i) f) P :=
 Wv (Q:=T) (λ r e=>h r (Yh e)) k
theorem Oa {α':Type} {o:Option (Ex α' α)} {f:α'->Option β} {k:α->Option β} {A:α'->Prop} (h:PT o (tE A T)) (h1:∀ a,A a->PT (f a) P) (h2:∀ b,T b->PT (k b) P):PT (Sx.bnd o λ e=>exK e f k) P:=by
 refine Wv h λ y hy=>?_
 cases y with
 | ret a=>rw[Xz];exact h1 a hy
 | nxt b=>rw[Xq];exact h2 b hy
theorem PT.of {o:Option β} {r:β} (h:PT o P) (e:o=.some r):P r:=h r e
end
@[simp] theorem Xog {α β:Type} (A:α->Prop) (B:β->Prop) (a:α):tE A B (.ret a)=A a:=rfl
@[simp] theorem Xoh {α β:Type} (A:α->Prop) (B:β->Prop) (b:β):tE A B (.nxt b)=B b:=rfl
@[simp] theorem Xoi (n:Nat):tU (no_index (OfNat.ofNat n):Int)=((OfNat.ofNat n:Nat)<=18446744073709551615):=by
 have:(no_index (OfNat.ofNat n):Int)=((n:Nat):Int):=rfl
 unfold tU
 rw[this]
 simp only[eq_iff_iff]
 show (0:Int)<=n/\(n:Int)<=18446744073709551615↔n<=18446744073709551615
 omega
@[simp] theorem Xoj (n:Nat):tW (no_index (OfNat.ofNat n):Int)=((OfNat.ofNat n:Nat)<=4294967295):=by
 have:(no_index (OfNat.ofNat n):Int)=((n:Nat):Int):=rfl
 unfold tW
 rw[this]
 simp only[eq_iff_iff]
 show (0:Int)<=n/\(n:Int)<=4294967295↔n<=4294967295
 omega
@[simp] theorem XoU (n:Int):tU (wU n):=Vi n
@[simp] theorem Xm6 (n:Int):tW (wW n):=by unfold tW;rw[Xig];omega
theorem Vj (n:Int):tU (IntKind.wrap .u64 n):=Vi n
theorem Xii (n:Int):tW (IntKind.wrap .u32 n):=Xm6 n
@[simp] theorem XnY (a b:Int):tU (Yp .u64 a b):=Vj _
@[simp] theorem Xok (a b:Int):tU (bOr .u64 a b):=Vj _
@[simp] theorem XnZ (a b:Int):tU (XlJ .u64 a b):=Vj _
@[simp] theorem Xn0 (a b:Int):tU (Kq .u64 a b):=Vj _
@[simp] theorem Xn1 (a b:Int):tW (Yp .u32 a b):=Xii _
theorem XlB {a b:Int} (h:0<=a) (k:IntKind):0<=X2 k a b/\X2 k a b<=a:=by
 show 0<=a.fdiv _/\a.fdiv _<=a
 have hp:(0:Int)<2 ^ min b.toNat (IntKind.bits k):=Int.pow_pos (by decide)
 rw[Int.fdiv_eq_ediv_of_nonneg _ (by omega)]
 exact ⟨Int.ediv_nonneg h (by omega),Int.ediv_le_self _ h⟩
@[simp] theorem Xn2 {a b:Int} (h:tU a):tU (X2 .u64 a b):=by
 have:=XlB (b:=b) h.1 .u64
 unfold tU at *;omega
@[simp] theorem Xn3 {a b:Int} (h:tW a):tW (X2 .u32 a b):=by
 have:=XlB (b:=b) h.1 .u32
 unfold tW at *;omega
@[simp] theorem Xn4 {a b:Int} (h:tU a):tU (a.tmod b):=by
 unfold tU at *
 rw[In h.1]
 by_cases hb:b=0
 ·subst hb;rw[Int.emod_zero];exact h
 ·have h1:=Int.emod_nonneg a hb
  have h2:a % b<=a:=by
   obtain ⟨n,rfl⟩:=U5 h.1
   rcases Int.natAbs_eq b with e | e
   ·rw[e,← Int.natCast_emod]
    have:=Nat.mod_le n b.natAbs
    omega
   ·rw[e,Int.emod_neg,← Int.natCast_emod]
    have:=Nat.mod_le n b.natAbs
    omega
  omega
section
variable {α:Type} {T:α->Prop}
@[simp] theorem Xol:tL T ([]:List α):=λ x h=>by cases h
@[simp] theorem Xn5 {x:α} {l:List α}:tL T (x::l)↔T x/\tL T l:=by unfold tL;simp
@[simp] theorem XmH {a b:List α}:tL T (a++b)↔tL T a/\tL T b:=by
 unfold tL;simp only[WG];exact ⟨λ h=>⟨λ x hx=>h x (.inl hx),λ x hx=>h x (.inr hx)⟩,λ h x hx=>hx.elim (h.1 x) (h.2 x)⟩
@[simp] theorem XaR {l:List α} {i:Nat} {x:α} (h:tL T l) (hx:T x):tL T (l.set i x):=λ y hy=>by
 rcases UB hy with h1 | h1
 ·exact h y h1
 ·rw[h1];exact hx
@[simp] theorem Xn6 {l:List α} {i:Nat} (h:tL T l):tL T (l.take i):=λ y hy=>h y (WY hy)
@[simp] theorem Xn7 {l:List α} {i:Nat} (h:tL T l):tL T (l.drop i):=λ y hy=>h y (WZ hy)
@[simp] theorem Xom {n:Nat} {x:α} (h:T x):tL T (List.replicate n x):=λ y hy=>by rw[List.eq_of_mem_replicate hy];exact h
end
@[simp] theorem Xon {p:Prop} [Decidable p] {a b:Int} (ha:tU a) (hb:tU b):tU (if p then a else b):=by split;exact ha;exact hb
end Go.Sx
namespace Go.Sx
set_option maxHeartbeats 1000000
def XG (s:Wo):Prop:=(tL tU) s.Words
def Ys (s:US):Prop:=tU s.Ref
def XD (s:Wq):Prop:=(tL Ys) s.Slots
def XA (s:W6):Prop:=tU s.Ref
def XT (s:Wy):Prop:=(tL XA) s.Entries
def YX (s:UE):Prop:=tU s.Ref
def X0 (s:Uh):Prop:=XG s.Heap/\XD s.Locals/\XT s.Globals/\XT s.Weaks/\(tL YX) s.Pins/\(tL tU) s.Roots
def YJ (s:Ww):Prop:=tW s.Map
def Y2 (s:Ie):Prop:=YJ s.Header/\(tL tU) s.Fields
def Zz (s:Iq):Prop:=tU s.Id/\tU s.Base
def XN (s:WI):Prop:=(tL Y2) s.Things/\XD s.Locals/\XT s.Globals/\XT s.Weaks/\(tL Zz) s.Marks/\(tL tU) s.Roots
def JT (s:Io):Prop:=X0 s.Env/\XN s.World/\(tL tU) s.Words
def XcD (s:I4):Prop:=tU s.A/\tU s.B/\tU s.C
def XeO (s:I6):Prop:=tU s.Base
def Xij (s:Og):Prop:=XG s.Heap/\(tL tU) s.Strong/\(tL tU) s.Weak
def Xik (s:Ii):Prop:=XD s.Locals
def Xkw (s:IU):Prop:=tU s.Value
def XO (s:WV):Prop:=XG s.Heap/\(tL tU) s.Old/\(tL tU) s.Queue
def XgC (s:Ud):Prop:=tU s.Addr
def Xkx (s:Uz):Prop:=tU s.addr/\YJ s.hd
@[simp] theorem Xky {l:List US} {i:Nat} {x:US} (h:tL Ys l) (hx:tU x.Ref):tL Ys (l.set i x):=XaR h hx
@[simp] theorem XjA {l:List W6} {i:Nat} {x:W6} (h:tL XA l) (hx:tU x.Ref):tL XA (l.set i x):=XaR h hx
@[simp] theorem XlC {l:List UE} {i:Nat} {x:UE} (h:tL YX l) (hx:tU x.Ref):tL YX (l.set i x):=XaR h hx
@[simp] theorem Xkz {l:List Iq} {i:Nat} {x:Iq} (h:tL Zz l) (hx:tU x.Id/\tU x.Base):tL Zz (l.set i x):=XaR h hx
@[simp] theorem XjB {l:List Ie} {i:Nat} {x:Ie} (h:tL Y2 l) (hx:tW x.Header.Map/\(tL tU) x.Fields):tL Y2 (l.set i x):=XaR h hx
attribute [local simp] XG Ys XD XA XT YX X0 YJ Y2 Zz XN JT XcD XeO Xij Xik Xkw XO XgC Xkx
theorem Qks {N a0}:PT (QfX N a0) (λ r=>XG r.1):=by
 rw[QfX]
 refine (WQ λ y1=>(Wl (Wh ?_) (W3 (W3 (Wh ?_)))))
 all_goals simp_all (maxDischargeDepth:=9)
theorem Qkt {N a0}:PT (Qff N a0) (λ r=>X0 r.1):=by
 rw[Qff]
 refine (Wv (Qks) λ y1 h1=>(Wh ?_))
 all_goals simp_all (maxDischargeDepth:=9)
theorem Qku {N a0}:PT (Qfg N a0) (λ r=>XN r.1):=by
 rw[Qfg]
 refine (WQ λ y1=>(Wl (Wh ?_) (Wh ?_)))
 all_goals simp_all (maxDischargeDepth:=9)
theorem QhT {N a0}:PT (QbS N a0) (λ r=>JT r.1):=by
 rw[QbS]
 refine (WQ λ y1=>(Wv (Qkt) λ y2 h1=>(Wv (Qku) λ y3 h2=>(WQ λ y4=>(Wh ?_)))))
 all_goals simp_all (maxDischargeDepth:=9)
theorem QdY {N a0 a1} (ka0:(tL tU) a0) (ka1:tU a1):PT (QaX N a0 a1) (λ r=>tU r.1):=by
 rw[QaX]
 refine (WQ λ y1=>(Wl (Wh ?_) (PT.get (T:=tU) ?_ λ p2 h1=>(Wh ?_))))
 all_goals simp_all (maxDischargeDepth:=9) []
theorem Qgl {N a0} (ka0:YJ a0):PT (Qco N a0) (λ r=>tU r.1):=by
 rw[Qco]
 refine (WQ λ y1=>(Wl (Wh ?_) (Wh ?_)))
 all_goals simp_all (maxDischargeDepth:=9)
theorem Qgm {N a0} (ka0:tU a0):PT (Qbu N a0) (λ r=>YJ r.1):=by
 rw[Qbu]
 refine (Wv (Qgl ?_) λ y1 h1=>(Wl (Wh ?_) (Wl (Wh ?_) (Wh ?_))))
 all_goals simp_all (maxDischargeDepth:=9)
theorem Qho {N a0 a1} (ka0:XG a0) (ka1:tU a1):PT (Qau N a0 a1) (λ r=>YJ r.1):=by
 rw[Qau]
 refine (WQ λ y1=>(Wl (Wh ?_) (WQ λ y2=>(Wl (Wh ?_) (WQ λ p3=>(Wv (QdY ?_ ?_) λ y4 h1=>(Wv (Qgm ?_) λ y5 h2=>(UO (Q:=λ k=>∀ _,PT (k ()) _) (λ _=>(WQ λ y6=>(Wl (Wl (Wh ?_) (Wl (Wl (Wh ?_) (Wl (Wh ?_) (Wh ?_))) (Wh ?_))) (Wl (Wl (Wh ?_) (Wl (Wh ?_) (Wh ?_))) (Wh ?_))))) λ j1 hj1=>(Wl (Wl (Wh ?_) (Wl (Wh ?_) (Wl (Wh ?_) (hj1 ())))) (Wl (Wh ?_) (Wl (Wh ?_) (hj1 ()))))))))))))
 all_goals simp_all (maxDischargeDepth:=9)
theorem Qin {N a0 a1 a2}:PT (QbD N a0 a1 a2) (λ r=>tU r.1):=by
 rw[QbD]
 refine (WQ λ y1=>(Wl (Wh ?_) (Wl (Wh ?_) (Wl (Wh ?_) (Wl (Wh ?_) (Wl (Wh ?_) (Wh ?_)))))))
 all_goals simp_all (maxDischargeDepth:=9) []
theorem QgU {N a0 a1 p2} (ka0:XG a0):∀ n v3 v4,(tL tU) v4->PT (QaU N a0 a1 p2 n v3 v4) (tE (λ r=>(tL tU) r.1) (tL tU))
 | 0,_,_,_=>by rw[QaU];exact IP
 | n+1,v3,v4,kv4=>by
  have ih:=QgU (N:=N) (a0:=a0) (a1:=a1) (p2:=p2) ka0 n
  rw[QaU]
  refine (Wl (Wv (Qin) λ y5 h1=>(Wv (Qho ?_ ?_) λ y6 h2=>(Wl (Wh ?_) (W3 (Wl (Wh ?_) (WQ λ y7=>(ih _ _ ?_))))))) (Wh ?_))
  all_goals (clear ih;simp_all (maxDischargeDepth:=9))
theorem Qio {N a0 a1 p2 n v3 v4} (ka0:XG a0) (kv4:(tL tU) v4):PT (QaU N a0 a1 p2 n v3 v4) (tE (λ r=>(tL tU) r.1) (tL tU)):=QgU ka0 n _ _ kv4
theorem Qkd {N a0 a1} (ka0:XG a0):PT (Qar N a0 a1) (λ r=>(tL tU) r.1):=by
 rw[Qar]
 refine (WQ λ y1=>(Wl (Wh ?_) (Wl (Wh ?_) (Wl (Wh ?_) (WQ λ p2=>(Wl (Wh ?_) (Wl (Wh ?_) (Oa (Qio ?_ ?_) (λ r h1=>(Wh ?_)) λ y8 h2=>(Wh ?_)))))))))
 all_goals simp_all (maxDischargeDepth:=9)
theorem QgE {N a0} (ka0:XG a0):∀ n v2 v3,(tL tU) v3->PT (QaP N a0 n v2 v3) (tE (λ r=>(tL tU) r.1) (tL tU))
 | 0,_,_,_=>by rw[QaP];exact IP
 | n+1,v2,v3,kv3=>by
  have ih:=QgE (N:=N) (a0:=a0) ka0 n
  rw[QaP]
  refine (Wl (Wv (Qkd ?_) λ y4 h1=>(Wl (Wh ?_) (W3 (ih _ _ ?_)))) (Wh ?_))
  all_goals (clear ih;simp_all (maxDischargeDepth:=9))
theorem QhU {N a0 n v2 v3} (ka0:XG a0) (kv3:(tL tU) v3):PT (QaP N a0 n v2 v3) (tE (λ r=>(tL tU) r.1) (tL tU)):=QgE ka0 n _ _ kv3
theorem Qi9 {N a0} (ka0:XG a0):PT (Qcp N a0) (λ r=>(tL tU) r.1):=by
 rw[Qcp]
 refine (WQ λ y1=>(Wl (Wh ?_) (Oa (QhU ?_ ?_) (λ r h1=>(Wh ?_)) λ y5 h2=>(Wh ?_))))
 all_goals simp_all (maxDischargeDepth:=9)
theorem Qgn {N a0 y1} (ka0:XG a0) (ky1:(λ r=>(tL tU) r.1) y1):∀ n v2 v3,(tL tU) v3->PT (Qaz N a0 y1 n v2 v3) (tL tU)
 | 0,_,_,_=>by rw[Qaz];exact IP
 | n+1,v2,v3,kv3=>by
  have ih:=Qgn (N:=N) (a0:=a0) (y1:=y1) ka0 ky1 n
  rw[Qaz]
  refine (Wl (PT.get (T:=tU) ?_ λ p4 h1=>(Wv (Qho ?_ ?_) λ y5 h2=>(Wl (PT.get (T:=tU) ?_ λ p6 h3=>(W3 (ih _ _ ?_))) (ih _ _ ?_)))) (Wh ?_))
  all_goals (clear ih;simp_all (maxDischargeDepth:=9))
theorem QhE {N a0 y1 n v2 v3} (ka0:XG a0) (ky1:(λ r=>(tL tU) r.1) y1) (kv3:(tL tU) v3):PT (Qaz N a0 y1 n v2 v3) (tL tU):=Qgn ka0 ky1 n _ _ kv3
theorem Qip {N a0} (ka0:XG a0):PT (Qas N a0) (λ r=>(tL tU) r.1):=by
 rw[Qas]
 refine (Wv (Qi9 ?_) λ y1 h1=>(Wv (QhE ?_ ?_ ?_) λ y7 h2=>(Wh ?_)))
 all_goals simp_all (maxDischargeDepth:=9)
theorem QgV {N a0 a1} (ka0:XG a0) (ka1:tU a1):PT (Qca N a0 a1) (λ r=>YJ r.1):=by
 rw[Qca]
 refine (WQ λ y1=>(Wl (Wh ?_) (Wl (Wh ?_) (Wv (Qho ?_ ?_) λ y2 h1=>(Wl (Wl (Wh ?_) (Wh ?_)) (Wh ?_))))))
 all_goals simp_all (maxDischargeDepth:=9)
theorem Qke {N a0 a1 a2} (ka0:(tL tU) a0) (ka1:tU a1):PT (Qcq N a0 a1 a2) (λ r=>(tL tU) r.1):=by
 rw[Qcq]
 refine (Wl (Wh ?_) (WQ λ y1=>(Wl (Wh ?_) (W3 (W3 (Wh ?_))))))
 all_goals simp_all (maxDischargeDepth:=9) []
theorem QgW {N a0} (ka0:XT a0):∀ n v1 v2,(tL tU) v2->PT (Qa7 N a0 n v1 v2) (tL tU)
 | 0,_,_,_=>by rw[Qa7];exact IP
 | n+1,v1,v2,kv2=>by
  have ih:=QgW (N:=N) (a0:=a0) ka0 n
  rw[Qa7]
  refine (Wl (WQ λ y3=>(Wl (PT.get (T:=XA) ?_ λ p4 h1=>(Wl (PT.get (T:=XA) ?_ λ p5 h2=>(W3 (ih _ _ ?_))) (ih _ _ ?_))) (Wh ?_))) (Wh ?_))
  all_goals (clear ih;simp_all (maxDischargeDepth:=9))
theorem Qiq {N a0 n v1 v2} (ka0:XT a0) (kv2:(tL tU) v2):PT (Qa7 N a0 n v1 v2) (tL tU):=QgW ka0 n _ _ kv2
theorem Qe3 {N a0} (ka0:XT a0):PT (Qa4 N a0) (tL tU):=by
 rw[Qa4]
 refine (Wv (Qiq ?_ ?_) λ y6 h1=>(Wh ?_))
 all_goals simp_all (maxDischargeDepth:=9)
theorem QgX {N a0} (ka0:XD a0):∀ n v1 v2,(tL tU) v2->PT (Qa8 N a0 n v1 v2) (tL tU)
 | 0,_,_,_=>by rw[Qa8];exact IP
 | n+1,v1,v2,kv2=>by
  have ih:=QgX (N:=N) (a0:=a0) ka0 n
  rw[Qa8]
  refine (Wl (WQ λ y3=>(Wl (PT.get (T:=Ys) ?_ λ p4 h1=>(Wl (PT.get (T:=Ys) ?_ λ p5 h2=>(W3 (ih _ _ ?_))) (ih _ _ ?_))) (Wh ?_))) (Wh ?_))
  all_goals (clear ih;simp_all (maxDischargeDepth:=9))
theorem Qir {N a0 n v1 v2} (ka0:XD a0) (kv2:(tL tU) v2):PT (Qa8 N a0 n v1 v2) (tL tU):=QgX ka0 n _ _ kv2
theorem QgI {N a0} (ka0:XD a0):PT (Qb5 N a0) (tL tU):=by
 rw[Qb5]
 refine (Wv (Qir ?_ ?_) λ y6 h1=>(Wh ?_))
 all_goals simp_all (maxDischargeDepth:=9)
theorem QjS {N a0} (ka0:XG a0):PT (Qec N a0) (λ r=>XO r.1):=by
 rw[Qec]
 refine (WQ λ y1=>(Wl (Wh ?_) (WQ λ y2=>(Wl (Wh ?_) (Wv (Qip ?_) λ y3 h1=>(W3 (WQ λ y8=>(Wh ?_))))))))
 all_goals simp_all (maxDischargeDepth:=9)
theorem Qhg {N a0} (ka0:tU a0):PT (Qc2 N a0) (λ r=>tU r.1):=by
 rw[Qc2]
 refine (Wl (Wh ?_) (Wl (Wh ?_) (Wh ?_)))
 all_goals simp_all (maxDischargeDepth:=9) []
theorem QgK {N a2 y1} (ka2:(tL tU) a2):∀ n v2 v3,(tL tU) v3->PT (Qbo N a2 y1 n v2 v3) (tL tU)
 | 0,_,_,_=>by rw[Qbo];exact IP
 | n+1,v2,v3,kv3=>by
  have ih:=QgK (N:=N) (a2:=a2) (y1:=y1) ka2 n
  rw[Qbo]
  refine (Wl (PT.get (T:=tU) ?_ λ p4 h1=>(PT.get (T:=tU) ?_ λ p5 h2=>(ih _ _ ?_))) (Wh ?_))
  all_goals (clear ih;simp_all (maxDischargeDepth:=9) [])
theorem Qh9 {N a2 y1 n v2 v3} (ka2:(tL tU) a2) (kv3:(tL tU) v3):PT (Qbo N a2 y1 n v2 v3) (tL tU):=QgK ka2 n _ _ kv3
theorem QfG {N a0 a1 a2} (ka0:(tL tU) a0) (ka1:tU a1) (ka2:(tL tU) a2):PT (Qci N a0 a1 a2) (λ r=>(tL tU) r.1):=by
 rw[Qci]
 refine (WQ λ y1=>(Wl (Wh ?_) (W3 (Wv (Qh9 ?_ ?_) λ y6 h1=>(Wh ?_)))))
 all_goals simp_all (maxDischargeDepth:=9) []
theorem Qgt {N a0 a1 a2} (ka0:(tL tU) a0) (ka1:tU a1) (ka2:tU a2):PT (Qc0 N a0 a1 a2) (λ r=>(tL tU) r.1):=by
 rw[Qc0]
 refine (Wv (QfG ?_ ?_ ?_) λ y1 h1=>(Wh ?_))
 all_goals simp_all (maxDischargeDepth:=9) []
theorem QhC {N a0 a1} (ka0:XO a0) (ka1:tU a1):PT (Qd3 N a0 a1) XO:=by
 rw[Qd3]
 refine (W3 (W3 (Wh ?_)))
 all_goals simp_all (maxDischargeDepth:=9)
theorem QjT {N a0 a1} (ka0:XO a0):PT (Qdt N a0 a1) (λ r=>XO r.1/\tU r.2.1):=by
 rw[Qdt]
 refine (W3 (UO (Q:=λ k=>∀ _,PT (k ()) _) (λ _=>(WQ λ y4=>(Wl (Wh ?_) (WQ λ y5=>(W3 (W3 (WQ λ p13=>(WQ λ p14=>(WQ λ p15=>(Wh ?_)))))))))) λ j1 hj1=>(Wl (WQ λ p1=>(WQ λ p2=>(Wl (WQ λ p3=>(WQ λ p10=>(WQ λ p11=>(WQ λ p12=>(Wh ?_))))) (hj1 ())))) (hj1 ()))))
 all_goals simp_all (maxDischargeDepth:=9)
theorem Qkf {N a0 a1 a2 a3} (ka0:(tL tU) a0) (ka1:tU a1) (ka2:tU a2):PT (QeF N a0 a1 a2 a3) (λ r=>(tL tU) r.1):=by
 rw[QeF]
 refine (Wv (Qke ?_ ?_) λ y1 h1=>(Wl (Wh ?_) (Wv (QfG ?_ ?_ ?_) λ y2 h2=>(Wh ?_))))
 all_goals simp_all (maxDischargeDepth:=9) []
theorem Qis {N a0} (ka0:tU a0):PT (Qc7 N a0) (λ r=>tU r.1):=by
 rw[Qc7]
 refine (Wl (Wh ?_) (Wh ?_))
 all_goals simp_all (maxDischargeDepth:=9) []
theorem QgY {N a0 a1} (ka0:XO a0) (ka1:tU a1):PT (QcD N a0 a1) (λ r=>XO r.1/\tU r.2.1):=by
 rw[QcD]
 refine (Wl (Wh ?_) (WQ λ y1=>(Wl (Wh ?_) (WQ λ y2=>(Wl (Wh ?_) (Wv (QdY ?_ ?_) λ y3 h1=>(Wv (Qhg ?_) λ y4 h2=>(Wl (Wh ?_) (WQ λ y5=>(Wl (Wh ?_) (Wl (Wh ?_) (WQ λ y6=>(Wl (Wv (QhC ?_ ?_) λ y7 h3=>(Wh ?_)) (WQ λ p8=>(Wl (W3 (WQ λ p9=>(WQ λ y14=>(Wv (QhC ?_ ?_) λ y15 h4=>(Wh ?_))))) (Wv (Qgm ?_) λ y16 h5=>(WQ λ y17=>(Wv (QjT ?_) λ y18 h6=>(Wl (Wh ?_) (Wv (Qkf ?_ ?_ ?_) λ y19 h7=>(Wv (Qis ?_) λ y20 h8=>(Wv (Qgt ?_ ?_ ?_) λ y21 h9=>(W3 (W3 (Wh ?_)))))))))))))))))))))))))
 all_goals simp_all (maxDischargeDepth:=9)
theorem QgL {N a1} (ka1:(tL tU) a1):∀ n v1 v2 v3 v4 v5 v6 v7 v8 v9 v10 v11 v12 v13 v14 v15 v16 v17 v18,(tL tU) v4->(tL tU) v8->(tL tU) v10->(tL tU) v18->PT (Qbp N a1 n v1 v2 v3 v4 v5 v6 v7 v8 v9 v10 v11 v12 v13 v14 v15 v16 v17 v18) (tE (λ r=>XO r.1/\(tL tU) r.2.1) (λ r=>(tL tU) r.2.2.1/\(tL tU) r.2.2.2.2.2.2.1/\(tL tU) r.2.2.2.2.2.2.2.2.1/\(tL tU) r.2.2.2.2.2.2.2.2.2.2.2.2.2.2.2.2))
 | 0,_,_,_,_,_,_,_,_,_,_,_,_,_,_,_,_,_,_,_,_,_,_=>by rw[Qbp];exact IP
 | n+1,v1,v2,v3,v4,v5,v6,v7,v8,v9,v10,v11,v12,v13,v14,v15,v16,v17,v18,kv4,kv8,kv10,kv18=>by
  have ih:=QgL (N:=N) (a1:=a1) ka1 n
  rw[Qbp]
  refine (Wl (PT.get (T:=tU) ?_ λ p19 h1=>(Wv (QgY ?_ ?_) λ y20 h2=>(Wl (Wh ?_) (W3 (ih _ _ _ _ _ _ _ _ _ _ _ _ _ _ _ _ _ _ ?_ ?_ ?_ ?_))))) (Wh ?_))
  all_goals (clear ih;simp_all (maxDischargeDepth:=9))
theorem Qia {N a1 n v1 v2 v3 v4 v5 v6 v7 v8 v9 v10 v11 v12 v13 v14 v15 v16 v17 v18} (ka1:(tL tU) a1) (kv4:(tL tU) v4) (kv8:(tL tU) v8) (kv10:(tL tU) v10) (kv18:(tL tU) v18):PT (Qbp N a1 n v1 v2 v3 v4 v5 v6 v7 v8 v9 v10 v11 v12 v13 v14 v15 v16 v17 v18) (tE (λ r=>XO r.1/\(tL tU) r.2.1) (λ r=>(tL tU) r.2.2.1/\(tL tU) r.2.2.2.2.2.2.1/\(tL tU) r.2.2.2.2.2.2.2.2.1/\(tL tU) r.2.2.2.2.2.2.2.2.2.2.2.2.2.2.2.2)):=QgL ka1 n _ _ _ _ _ _ _ _ _ _ _ _ _ _ _ _ _ _ kv4 kv8 kv10 kv18
theorem QjU {N a0 a1} (ka0:XO a0) (ka1:(tL tU) a1):PT (Qed N a0 a1) (λ r=>XO r.1/\(tL tU) r.2.1):=by
 rw[Qed]
 refine (Oa (Qia ?_ ?_ ?_ ?_ ?_) (λ r h1=>(Wh ?_)) λ y21 h2=>(Wh ?_))
 all_goals simp_all (maxDischargeDepth:=9)
theorem QhV {N a0 a1} (ka0:XO a0) (ka1:tU a1):PT (Qez N a0 a1) YJ:=by
 rw[Qez]
 refine (Wv (QdY ?_ ?_) λ y1 h1=>(Wv (Qgm ?_) λ y2 h2=>(Wh ?_)))
 all_goals simp_all (maxDischargeDepth:=9)
theorem QgZ {N p1 y3} (kp1:tU p1):∀ n v4 v5 v6 v7 v8 v9 v10 v11 v12 v13 v14 v15 v16 v17 v18 v19 v20,(tL tU) v7->(tL tU) v11->(tL tU) v13->PT (QbI N p1 y3 n v4 v5 v6 v7 v8 v9 v10 v11 v12 v13 v14 v15 v16 v17 v18 v19 v20) (tE (λ r=>XO r.1) (λ r=>(tL tU) r.2.2.1/\(tL tU) r.2.2.2.2.2.2.1/\(tL tU) r.2.2.2.2.2.2.2.2.1))
 | 0,_,_,_,_,_,_,_,_,_,_,_,_,_,_,_,_,_,_,_,_=>by rw[QbI];exact IP
 | n+1,v4,v5,v6,v7,v8,v9,v10,v11,v12,v13,v14,v15,v16,v17,v18,v19,v20,kv7,kv11,kv13=>by
  have ih:=QgZ (N:=N) (p1:=p1) (y3:=y3) kp1 n
  rw[QbI]
  refine (Wl (WQ λ p21=>(Wv (QdY ?_ ?_) λ y22 h1=>(Wv (QgY ?_ ?_) λ y23 h2=>(Wl (Wh ?_) (Wv (Qgt ?_ ?_ ?_) λ y24 h3=>(ih _ _ _ _ _ _ _ _ _ _ _ _ _ _ _ _ _ ?_ ?_ ?_)))))) (Wh ?_))
  all_goals (clear ih;simp_all (maxDischargeDepth:=9))
theorem Qit {N p1 y3 n v4 v5 v6 v7 v8 v9 v10 v11 v12 v13 v14 v15 v16 v17 v18 v19 v20} (kp1:tU p1) (kv7:(tL tU) v7) (kv11:(tL tU) v11) (kv13:(tL tU) v13):PT (QbI N p1 y3 n v4 v5 v6 v7 v8 v9 v10 v11 v12 v13 v14 v15 v16 v17 v18 v19 v20) (tE (λ r=>XO r.1) (λ r=>(tL tU) r.2.2.1/\(tL tU) r.2.2.2.2.2.2.1/\(tL tU) r.2.2.2.2.2.2.2.2.1)):=QgZ kp1 n _ _ _ _ _ _ _ _ _ _ _ _ _ _ _ _ _ kv7 kv11 kv13
theorem Qkg {N a0} (ka0:XO a0):PT (QeG N a0) (λ r=>XO r.1):=by
 rw[QeG]
 refine (Wl (Wh ?_) (PT.get (T:=tU) ?_ λ p1 h1=>(Wv (QhV ?_ ?_) λ y2 h2=>(WQ λ y3=>(Oa (Qit ?_ ?_ ?_ ?_) (λ r h3=>(Wh ?_)) λ y25 h4=>(Wh ?_))))))
 all_goals simp_all (maxDischargeDepth:=9)
theorem Qhh {N}:∀ n v1 v2 v3 v4 v5 v6 v7 v8 v9 v10 v11 v12 v13 v14 v15 v16,(tL tU) v3->(tL tU) v7->(tL tU) v9->PT (QbX N n v1 v2 v3 v4 v5 v6 v7 v8 v9 v10 v11 v12 v13 v14 v15 v16) (λ r=>XO r.1)
 | 0,_,_,_,_,_,_,_,_,_,_,_,_,_,_,_,_,_,_,_=>by rw[QbX];exact IP
 | n+1,v1,v2,v3,v4,v5,v6,v7,v8,v9,v10,v11,v12,v13,v14,v15,v16,kv3,kv7,kv9=>by
  have ih:=Qhh (N:=N) n
  rw[QbX]
  refine (Wv (Qkg ?_) λ y17 h1=>(Wl (Wh ?_) (Wl (Wh ?_) (ih _ _ _ _ _ _ _ _ _ _ _ _ _ _ _ _ ?_ ?_ ?_))))
  all_goals (clear ih;simp_all (maxDischargeDepth:=9))
theorem Qja {N n v1 v2 v3 v4 v5 v6 v7 v8 v9 v10 v11 v12 v13 v14 v15 v16} (kv3:(tL tU) v3) (kv7:(tL tU) v7) (kv9:(tL tU) v9):PT (QbX N n v1 v2 v3 v4 v5 v6 v7 v8 v9 v10 v11 v12 v13 v14 v15 v16) (λ r=>XO r.1):=Qhh n _ _ _ _ _ _ _ _ _ _ _ _ _ _ _ _ kv3 kv7 kv9
theorem Qkv {N a0} (ka0:XO a0):PT (Qfh N a0) (λ r=>XO r.1):=by
 rw[Qfh]
 refine (Wv (Qja ?_ ?_ ?_) λ r h1=>(Wh ?_))
 all_goals simp_all (maxDischargeDepth:=9)
theorem QjV {N a0 a1} (ka0:XO a0) (ka1:tU a1):PT (Qee N a0 a1) tU:=by
 rw[Qee]
 refine (WQ λ y1=>(Wl (Wh ?_) (Wv (QdY ?_ ?_) λ y2 h1=>(Wv (Qhg ?_) λ y3 h2=>(Wh ?_)))))
 all_goals simp_all (maxDischargeDepth:=9)
theorem Qg0 {N a0 v4 p5 v1 v2} (ka0:XO a0):∀ n v7 v8,(tL tU) v8->PT (QbJ N a0 v4 p5 v1 v2 n v7 v8) (tL tU)
 | 0,_,_,_=>by rw[QbJ];exact IP
 | n+1,v7,v8,kv8=>by
  have ih:=Qg0 (N:=N) (a0:=a0) (v4:=v4) (p5:=p5) (v1:=v1) (v2:=v2) ka0 n
  rw[QbJ]
  refine (Wl (PT.get (T:=tU) ?_ λ p9 h1=>(ih _ _ ?_)) (Wh ?_))
  all_goals (clear ih;simp_all (maxDischargeDepth:=9))
theorem Qiu {N a0 v4 p5 v1 v2 n v7 v8} (ka0:XO a0) (kv8:(tL tU) v8):PT (QbJ N a0 v4 p5 v1 v2 n v7 v8) (tL tU):=Qg0 ka0 n _ _ kv8
theorem Qg1 {N a0} (ka0:XO a0):∀ n v1 v2 v3 v4,(tL tU) v3->PT (Qa9 N a0 n v1 v2 v3 v4) (λ r=>(tL tU) r.2.1)
 | 0,_,_,_,_,_=>by rw[Qa9];exact IP
 | n+1,v1,v2,v3,v4,kv3=>by
  have ih:=Qg1 (N:=N) (a0:=a0) ka0 n
  rw[Qa9]
  refine (W3 (Wl (WQ λ p5=>(Wl (ih _ _ _ _ ?_) (Wl (ih _ _ _ _ ?_) (WQ λ p6=>(Wv (Qiu ?_ ?_) λ y10 h1=>(ih _ _ _ _ ?_)))))) (Wh ?_)))
  all_goals (clear ih;simp_all (maxDischargeDepth:=9))
theorem Qiv {N a0 n v1 v2 v3 v4} (ka0:XO a0) (kv3:(tL tU) v3):PT (Qa9 N a0 n v1 v2 v3 v4) (λ r=>(tL tU) r.2.1):=Qg1 ka0 n _ _ _ _ kv3
theorem Qkh {N a0} (ka0:XO a0):PT (QeH N a0) XO:=by
 rw[QeH]
 refine (W3 (W3 (Wv (Qiv ?_ ?_) λ y11 h1=>(Wh ?_))))
 all_goals simp_all (maxDischargeDepth:=9)
theorem Qg2 {N a0} (ka0:XO a0):∀ n v1 v2 v3,(tL tU) v2->PT (QaW N a0 n v1 v2 v3) (λ r=>(tL tU) r.1)
 | 0,_,_,_,_=>by rw[QaW];exact IP
 | n+1,v1,v2,v3,kv2=>by
  have ih:=Qg2 (N:=N) (a0:=a0) ka0 n
  rw[QaW]
  refine (Wl (PT.get (T:=tU) ?_ λ p4 h1=>(WQ λ y5=>(WQ λ y6=>(Wl (ih _ _ _ ?_) (PT.get (T:=tU) ?_ λ p7 h2=>(WQ λ y8=>(Wl (ih _ _ _ ?_) (PT.get (T:=tU) ?_ λ p9 h3=>(Wv (QhV ?_ ?_) λ y10 h4=>(Wv (Qgl ?_) λ y11 h5=>(PT.get (T:=tU) ?_ λ p12 h6=>(W3 (W3 (Wv (QfG ?_ ?_ ?_) λ y13 h7=>(ih _ _ _ ?_))))))))))))))) (Wh ?_))
  all_goals (clear ih;simp_all (maxDischargeDepth:=9))
theorem Qiw {N a0 n v1 v2 v3} (ka0:XO a0) (kv2:(tL tU) v2):PT (QaW N a0 n v1 v2 v3) (λ r=>(tL tU) r.1):=Qg2 ka0 n _ _ _ kv2
theorem Qki {N a0} (ka0:XO a0):PT (QeI N a0) XO:=by
 rw[QeI]
 refine (Wv (Qiw ?_ ?_) λ y14 h1=>(Wh ?_))
 all_goals simp_all (maxDischargeDepth:=9)
theorem Qgo {N a2 y5 y6} (ka2:(tL tU) a2) (ky5:(λ r=>XO r.1/\(tL tU) r.2.1) y5) (ky6:(λ r=>XO r.1) y6):∀ n v7 v8 v9,(tL tU) v9->PT (QaZ N a2 y5 y6 n v7 v8 v9) (λ r=>(tL tU) r.2)
 | 0,_,_,_,_=>by rw[QaZ];exact IP
 | n+1,v7,v8,v9,kv9=>by
  have ih:=Qgo (N:=N) (a2:=a2) (y5:=y5) (y6:=y6) ka2 ky5 ky6 n
  rw[QaZ]
  refine (Wl (PT.get (T:=tU) ?_ λ p10 h1=>(UO (Q:=λ k=>∀ x14 x15,tU x14->PT (k x14 x15) _) (λ x14 x15 h2=>(W3 (ih _ _ _ ?_))) λ j3 hj3=>(Wl (PT.get (T:=tU) ?_ λ p11 h3=>(Wv (QjV ?_ ?_) λ y12 h4=>(UO (Q:=λ k=>∀ x13,PT (k x13) _) (λ x13=>(hj3 _ _ ?_)) λ j2 hj2=>(Wl (hj2 _) (hj2 _))))) (hj3 _ _ ?_)))) (Wh ?_))
  all_goals (clear ih;simp_all (maxDischargeDepth:=9))
theorem QhF {N a2 y5 y6 n v7 v8 v9} (ka2:(tL tU) a2) (ky5:(λ r=>XO r.1/\(tL tU) r.2.1) y5) (ky6:(λ r=>XO r.1) y6) (kv9:(tL tU) v9):PT (QaZ N a2 y5 y6 n v7 v8 v9) (λ r=>(tL tU) r.2):=Qgo ka2 ky5 ky6 n _ _ _ kv9
theorem Qix {N a0 a1 a2} (ka0:XG a0) (ka1:(tL tU) a1) (ka2:(tL tU) a2):PT (Qc8 N a0 a1 a2) (λ r=>XG r.1/\(tL tU) r.2.1/\(tL tU) r.2.2.1):=by
 rw[Qc8]
 refine (WQ λ y1=>(Wl (Wh ?_) (UO (Q:=λ k=>∀ _,PT (k ()) _) (λ _=>(Wh ?_)) λ j1 hj1=>(WQ λ y2=>(Wl (hj1 ()) (WQ λ y3=>(Wl (hj1 ()) (Wv (QjS ?_) λ y4 h1=>(Wv (QjU ?_ ?_) λ y5 h2=>(Wl (Wh ?_) (Wv (Qkv ?_) λ y6 h3=>(Wl (Wh ?_) (Wv (QhF ?_ ?_ ?_ ?_) λ y16 h4=>(Wv (Qki ?_) λ y17 h5=>(Wv (Qkh ?_) λ y18 h6=>(UO (Q:=λ k=>∀ x20,PT (k x20) _) (λ x20=>(Wh ?_)) λ j4 hj4=>(Wl (WQ λ p19=>(hj4 _)) (hj4 _))))))))))))))))))
 all_goals simp_all (maxDischargeDepth:=9)
theorem QgF {N a0} (ka0:X0 a0):∀ n v3 v4,(tL tU) v4->PT (QaQ N a0 n v3 v4) (tL tU)
 | 0,_,_,_=>by rw[QaQ];exact IP
 | n+1,v3,v4,kv4=>by
  have ih:=QgF (N:=N) (a0:=a0) ka0 n
  rw[QaQ]
  refine (Wl (PT.get (T:=YX) ?_ λ p5 h1=>(W3 (ih _ _ ?_))) (Wh ?_))
  all_goals (clear ih;simp_all (maxDischargeDepth:=9))
theorem QhW {N a0 n v3 v4} (ka0:X0 a0) (kv4:(tL tU) v4):PT (QaQ N a0 n v3 v4) (tL tU):=QgF ka0 n _ _ kv4
theorem Qjb {N a0} (ka0:X0 a0):PT (QdJ N a0) (tL tU):=by
 rw[QdJ]
 refine (W3 (Wv (QgI ?_) λ y1 h1=>(W3 (Wv (Qe3 ?_) λ y2 h2=>(W3 (Wv (QhW ?_ ?_) λ y6 h3=>(Wh ?_)))))))
 all_goals simp_all (maxDischargeDepth:=9)
theorem Qg3 {N a0 a1} (ka0:XD a0) (ka1:(tL tU) a1):∀ n v3 v4 v5,(tL Ys) v5->PT (Qbi N a0 a1 n v3 v4 v5) (tE (λ r=>XD r.1) (tL Ys))
 | 0,_,_,_,_=>by rw[Qbi];exact IP
 | n+1,v3,v4,v5,kv5=>by
  have ih:=Qg3 (N:=N) (a0:=a0) (a1:=a1) ka0 ka1 n
  rw[Qbi]
  refine (W3 (Wl (PT.get (T:=Ys) ?_ λ p6 h1=>(Wl (ih _ _ _ ?_) (PT.get (T:=tU) ?_ λ p7 h2=>(Wl (Wh ?_) (PT.get (T:=tU) ?_ λ p8 h3=>(PT.get (T:=Ys) ?_ λ p9 h4=>(ih _ _ _ ?_))))))) (Wh ?_)))
  all_goals (clear ih;simp_all (maxDischargeDepth:=9))
theorem Qiy {N a0 a1 n v3 v4 v5} (ka0:XD a0) (ka1:(tL tU) a1) (kv5:(tL Ys) v5):PT (Qbi N a0 a1 n v3 v4 v5) (tE (λ r=>XD r.1) (tL Ys)):=Qg3 ka0 ka1 n _ _ _ kv5
theorem Qkj {N a0 a1} (ka0:XD a0) (ka1:(tL tU) a1):PT (QeJ N a0 a1) (λ r=>XD r.1):=by
 rw[QeJ]
 refine (WQ λ y1=>(Wl (Wh ?_) (Wv (QgI ?_) λ y2 h1=>(Wl (Wh ?_) (W3 (Oa (Qiy ?_ ?_ ?_) (λ r h2=>(Wh ?_)) λ y10 h3=>(Wh ?_)))))))
 all_goals simp_all (maxDischargeDepth:=9)
theorem Qg4 {N a1} (ka1:(tL tU) a1):∀ n v3 v4 v5,(tL XA) v5->PT (Qbj N a1 n v3 v4 v5) (tL XA)
 | 0,_,_,_,_=>by rw[Qbj];exact IP
 | n+1,v3,v4,v5,kv5=>by
  have ih:=Qg4 (N:=N) (a1:=a1) ka1 n
  rw[Qbj]
  refine (W3 (Wl (PT.get (T:=XA) ?_ λ p6 h1=>(Wl (PT.get (T:=tU) ?_ λ p7 h2=>(PT.get (T:=XA) ?_ λ p8 h3=>(ih _ _ _ ?_))) (ih _ _ _ ?_))) (Wh ?_)))
  all_goals (clear ih;simp_all (maxDischargeDepth:=9))
theorem Qiz {N a1 n v3 v4 v5} (ka1:(tL tU) a1) (kv5:(tL XA) v5):PT (Qbj N a1 n v3 v4 v5) (tL XA):=Qg4 ka1 n _ _ _ kv5
theorem QgJ {N a0 a1} (ka0:XT a0) (ka1:(tL tU) a1):PT (Qc1 N a0 a1) (λ r=>XT r.1):=by
 rw[Qc1]
 refine (WQ λ y1=>(Wl (Wh ?_) (Wv (Qe3 ?_) λ y2 h1=>(W3 (Wl (Wh ?_) (W3 (Wv (Qiz ?_ ?_) λ y9 h2=>(Wh ?_))))))))
 all_goals simp_all (maxDischargeDepth:=9)
theorem Qgp {N a0 y4 y5 y6 y7 y8 y9} (ka0:X0 a0) (ky4:(λ r=>XG r.1/\(tL tU) r.2.1/\(tL tU) r.2.2.1) y4) (ky5:(tL tU) y5) (ky6:(tL tU) y6) (ky7:(λ r=>XD r.1) y7) (ky8:(λ r=>XT r.1) y8) (ky9:(λ r=>XT r.1) y9):∀ n v10 v11,(tL YX) v11->PT (Qa0 N a0 y4 y5 y6 y7 y8 y9 n v10 v11) (tL YX)
 | 0,_,_,_=>by rw[Qa0];exact IP
 | n+1,v10,v11,kv11=>by
  have ih:=Qgp (N:=N) (a0:=a0) (y4:=y4) (y5:=y5) (y6:=y6) (y7:=y7) (y8:=y8) (y9:=y9) ka0 ky4 ky5 ky6 ky7 ky8 ky9 n
  rw[Qa0]
  refine (Wl (PT.get (T:=tU) ?_ λ p12 h1=>(PT.get (T:=YX) ?_ λ p13 h2=>(W3 (ih _ _ ?_)))) (Wh ?_))
  all_goals (clear ih;simp_all (maxDischargeDepth:=9))
theorem QhG {N a0 y4 y5 y6 y7 y8 y9 n v10 v11} (ka0:X0 a0) (ky4:(λ r=>XG r.1/\(tL tU) r.2.1/\(tL tU) r.2.2.1) y4) (ky5:(tL tU) y5) (ky6:(tL tU) y6) (ky7:(λ r=>XD r.1) y7) (ky8:(λ r=>XT r.1) y8) (ky9:(λ r=>XT r.1) y9) (kv11:(tL YX) v11):PT (Qa0 N a0 y4 y5 y6 y7 y8 y9 n v10 v11) (tL YX):=Qgp ka0 ky4 ky5 ky6 ky7 ky8 ky9 n _ _ kv11
theorem Qg5 {N a0} (ka0:X0 a0):PT (QcE N a0) (λ r=>X0 r.1):=by
 rw[QcE]
 refine (WQ λ y1=>(Wl (Wh ?_) (Wv (Qjb ?_) λ y2 h1=>(Wv (Qe3 ?_) λ y3 h2=>(Wv (Qix ?_ ?_ ?_) λ y4 h3=>(Wl (Wh ?_) (Wv (QgI ?_) λ y5 h4=>(Wv (Qe3 ?_) λ y6 h5=>(W3 (W3 (W3 (W3 (Wv (Qkj ?_ ?_) λ y7 h6=>(W3 (Wv (QgJ ?_ ?_) λ y8 h7=>(Wv (QgJ ?_ ?_) λ y9 h8=>(Wv (QhG ?_ ?_ ?_ ?_ ?_ ?_ ?_ ?_) λ y14 h9=>(Wh ?_))))))))))))))))))
 all_goals simp_all (maxDischargeDepth:=9)
theorem Qgq {N a0 y2} (ka0:XN a0):∀ n v4 v5,(tL tU) v5->PT (QaJ N a0 y2 n v4 v5) (tL tU)
 | 0,_,_,_=>by rw[QaJ];exact IP
 | n+1,v4,v5,kv5=>by
  have ih:=Qgq (N:=N) (a0:=a0) (y2:=y2) ka0 n
  rw[QaJ]
  refine (W3 (Wl (PT.get (T:=tU) ?_ λ p6 h1=>(Wl (PT.get (T:=tU) ?_ λ p7 h2=>(WQ λ p8=>(Wl (PT.get (T:=tU) ?_ λ p9 h3=>(ih _ _ ?_)) (ih _ _ ?_)))) (ih _ _ ?_))) (Wh ?_)))
  all_goals (clear ih;simp_all (maxDischargeDepth:=9))
theorem QhH {N a0 y2 n v4 v5} (ka0:XN a0) (kv5:(tL tU) v5):PT (QaJ N a0 y2 n v4 v5) (tL tU):=Qgq ka0 n _ _ kv5
theorem Qg6 {N a0} (ka0:XN a0):PT (QcF N a0) (λ r=>XN r.1):=by
 rw[QcF]
 refine (WQ λ y1=>(Wl (Wh ?_) (WQ λ y2=>(Wv (Qe3 ?_) λ y3 h1=>(Wv (QhH ?_ ?_) λ y10 h2=>(Wv (QgJ ?_ ?_) λ y11 h3=>(Wh ?_)))))))
 all_goals simp_all (maxDischargeDepth:=9)
theorem Qab {N a0}:PT (Qaa N a0) (λ r=>X0 r.1/\tU r.2.1):=by
 rw[Qaa]
 refine (Wh ?_)
 all_goals simp_all (maxDischargeDepth:=9)
theorem Qhr {N a0 a1 a2} (ka1:tU a1) (ka2:tU a2):PT (QbK N a0 a1 a2) (λ r=>YJ r.1):=by
 rw[QbK]
 refine (Wl (Wl (Wh ?_) (Wh ?_)) (Wh ?_))
 all_goals simp_all (maxDischargeDepth:=9)
theorem Qg7 {N a0 a1} (ka0:XD a0) (ka1:tU a1):PT (Qdv N a0 a1) (λ r=>XD r.1):=by
 rw[Qdv]
 refine (WQ λ y1=>(Wl (Wh ?_) (Wl (Wh ?_) (Wl (Wh ?_) (WQ λ p2=>(WQ λ y3=>(WQ λ p4=>(Wl (Wh ?_) (Wl (Wh ?_) (W3 (W3 (W3 (W3 (Wh ?_))))))))))))))
 all_goals simp_all (maxDischargeDepth:=9)
theorem QjW {N a0 a1} (ka0:XG a0):PT (Qef N a0 a1) (λ r=>XG r.1/\tU r.2.1):=by
 rw[Qef]
 refine (W3 (WQ λ y1=>(WQ λ y2=>(UO (Q:=λ k=>∀ _,PT (k ()) _) (λ _=>(WQ λ y5=>(Wl (Wh ?_) (Wl (Wh ?_) (WQ λ y6=>(WQ λ p11=>(WQ λ p12=>(WQ λ p13=>(Wh ?_))))))))) λ j1 hj1=>(Wl (hj1 ()) (WQ λ p3=>(Wl (hj1 ()) (WQ λ p4=>(Wl (hj1 ()) (Wl (hj1 ()) (WQ λ p14=>(WQ λ p15=>(WQ λ p16=>(Wh ?_))))))))))))))
 all_goals simp_all (maxDischargeDepth:=9)
theorem QjX {N a0 a1 a2} (ka0:XG a0):PT (Qeg N a0 a1 a2) (λ r=>XG r.1/\tU r.2.1):=by
 rw[Qeg]
 refine (WQ λ y1=>(Wl (Wh ?_) (WQ λ y2=>(WQ λ y3=>(Wl (Wh ?_) (WQ λ y4=>(Wh ?_)))))))
 all_goals simp_all (maxDischargeDepth:=9)
theorem Qkk {N a0 a1 a2} (ka0:XG a0) (ka1:tU a1) (ka2:YJ a2):PT (QeL N a0 a1 a2) (λ r=>XG r.1):=by
 rw[QeL]
 refine (Wv (Qgl ?_) λ y1 h1=>(WQ λ y2=>(Wl (Wh ?_) (Wl (Wh ?_) (W3 (W3 (Wv (QfG ?_ ?_ ?_) λ y3 h2=>(Wl (Wh ?_) (Wh ?_)))))))))
 all_goals simp_all (maxDischargeDepth:=9)
theorem QhX {N a0 a1} (ka0:XG a0) (ka1:YJ a1):PT (QeA N a0 a1) (λ r=>XG r.1/\tU r.2.1):=by
 rw[QeA]
 refine (WQ λ y1=>(Wl (Wh ?_) (WQ λ y2=>(Wl (Wh ?_) (WQ λ y3=>(WQ λ y4=>(Wv (QjW ?_) λ y5 h1=>(UO (Q:=λ k=>∀ x7 x8 x9 x10 x11 x12 x13 x14,tU x7->(tL tU) x11->PT (k x7 x8 x9 x10 x11 x12 x13 x14) _) (λ x7 x8 x9 x10 x11 x12 x13 x14 h2 h3=>(Wl (Wh ?_) (Wv (Qkk ?_ ?_ ?_) λ y15 h4=>(Wh ?_)))) λ j1 hj1=>(Wl (Wv (QjX ?_) λ y6 h5=>(hj1 _ _ _ _ _ _ _ _ ?_ ?_)) (hj1 _ _ _ _ _ _ _ _ ?_ ?_))))))))))
 all_goals simp_all (maxDischargeDepth:=9)
theorem QjY {N a0 a1} (ka0:X0 a0) (ka1:YJ a1):PT (Qeh N a0 a1) (λ r=>X0 r.1/\tU r.2.1):=by
 rw[Qeh]
 refine (WQ λ y1=>(Wl (Wh ?_) (Wv (QhX ?_ ?_) λ y2 h1=>(UO (Q:=λ k=>∀ x5 x6 x7 x8 x9 x10 x11 x12 x13 x14 x15 x16 x17 x18 x19 x20 x21 x22 x23 x24 x25,tU x5->(tL tU) x9->(tL Ys) x13->(tL XA) x16->(tL XA) x17->(tL YX) x18->(tL tU) x19->(tL tU) x22->PT (k x5 x6 x7 x8 x9 x10 x11 x12 x13 x14 x15 x16 x17 x18 x19 x20 x21 x22 x23 x24 x25) _) (λ x5 x6 x7 x8 x9 x10 x11 x12 x13 x14 x15 x16 x17 x18 x19 x20 x21 x22 x23 x24 x25 h2 h3 h4 h5 h6 h7 h8 h9=>(Wl (Wh ?_) (Wh ?_))) λ j1 hj1=>(Wl (Wv (Qg5 ?_) λ y3 h10=>(Wl (Wh ?_) (Wv (QhX ?_ ?_) λ y4 h11=>(hj1 _ _ _ _ _ _ _ _ _ _ _ _ _ _ _ _ _ _ _ _ _ ?_ ?_ ?_ ?_ ?_ ?_ ?_ ?_)))) (hj1 _ _ _ _ _ _ _ _ _ _ _ _ _ _ _ _ _ _ _ _ _ ?_ ?_ ?_ ?_ ?_ ?_ ?_ ?_))))))
 all_goals simp_all (maxDischargeDepth:=9)
theorem Qfd {N a0}:PT (Qbk N a0) (λ r=>tU r.1):=by
 rw[Qbk]
 refine (WQ λ y1=>(Wl (Wh ?_) (Wh ?_)))
 all_goals simp_all (maxDischargeDepth:=9) []
theorem QfH {N a0 a1} (ka0:X0 a0) (ka1:tU a1):PT (Qcj N a0 a1) (λ r=>X0 r.1/\tU r.2.1):=by
 rw[Qcj]
 refine (Wl (Wh ?_) (Wv (Qg7 ?_ ?_) λ y1 h1=>(Wl (Wv (Qab) λ y2 h2=>(Wh ?_)) (Wv (Qfd) λ y3 h3=>(Wh ?_)))))
 all_goals simp_all (maxDischargeDepth:=9)
theorem Qjc {N a0 a1 a2 a3} (ka0:X0 a0) (ka2:tU a2) (ka3:tU a3):PT (QdK N a0 a1 a2 a3) (λ r=>X0 r.1/\tU r.2.1):=by
 rw[QdK]
 refine (Wl (Wv (Qab) λ y1 h1=>(Wh ?_)) (Wv (Qhr ?_ ?_) λ y2 h2=>(UO (Q:=λ k=>∀ _,PT (k ()) _) (λ _=>(Wv (Qab) λ y4 h3=>(Wh ?_))) λ j1 hj1=>(Wl (hj1 ()) (WQ λ y3=>(Wl (hj1 ()) (Wv (Qg7 ?_ ?_) λ y5 h4=>(Wl (Wv (Qab) λ y6 h5=>(Wh ?_)) (Wv (QjY ?_ ?_) λ y7 h6=>(Wl (Wv (Qab) λ y8 h7=>(Wh ?_)) (Wv (QfH ?_ ?_) λ y9 h8=>(Wh ?_))))))))))))
 all_goals simp_all (maxDischargeDepth:=9)
theorem Qg8 {N a0 a1 a2} (ka0:XD a0):PT (Qdw N a0 a1 a2) (λ r=>tU r.1):=by
 rw[Qdw]
 refine (WQ λ y1=>(Wl (Wh ?_) (Wl (Wh ?_) (Wl (Wh ?_) (WQ λ p2=>(Wl (Wh ?_) (Wl (Wh ?_) (PT.get (T:=Ys) ?_ λ p3 h1=>(Wl (Wh ?_) (PT.get (T:=Ys) ?_ λ p4 h2=>(Wl (Wh ?_) (PT.get (T:=Ys) ?_ λ p5 h3=>(Wh ?_)))))))))))))
 all_goals simp_all (maxDischargeDepth:=9)
theorem Qfs {N a0 a1 a2} (ka0:XT a0):PT (Qc3 N a0 a1 a2) (λ r=>tU r.1):=by
 rw[Qc3]
 refine (WQ λ y1=>(Wl (Wh ?_) (Wl (Wh ?_) (Wl (Wh ?_) (Wl (Wh ?_) (PT.get (T:=XA) ?_ λ p2 h1=>(Wl (Wh ?_) (PT.get (T:=XA) ?_ λ p3 h2=>(Wl (Wh ?_) (PT.get (T:=XA) ?_ λ p4 h3=>(Wl (Wh ?_) (PT.get (T:=XA) ?_ λ p5 h4=>(Wh ?_)))))))))))))
 all_goals simp_all (maxDischargeDepth:=9)
theorem QbC {N a0 a1} (ka0:X0 a0) (ka1:tU a1):PT (QaK N a0 a1) (λ r=>tU r.1):=by
 rw[QaK]
 refine (WQ λ y1=>(Wl (Wh ?_) (Wl (Wh ?_) (WQ λ y2=>(Wl (Wh ?_) (Wl (Wv (Qg8 ?_) λ y3 h1=>(Wh ?_)) (Wl (Wv (Qfs ?_) λ y4 h2=>(Wh ?_)) (Wv (Qfs ?_) λ y5 h3=>(Wh ?_)))))))))
 all_goals simp_all (maxDischargeDepth:=9)
theorem QfI {N a0 a1} (ka0:X0 a0) (ka1:tU a1):PT (Qck N a0 a1) (λ r=>tU r.1):=by
 rw[Qck]
 refine (Wv (QbC ?_ ?_) λ y1 h1=>(Wl (Wl (Wh ?_) (Wh ?_)) (Wh ?_)))
 all_goals simp_all (maxDischargeDepth:=9)
theorem Qhs {N a0 a1 a2 a3} (ka0:X0 a0) (ka1:tU a1) (ka2:tU a2):PT (Qdx N a0 a1 a2 a3) (λ r=>tU r.1):=by
 rw[Qdx]
 refine (Wv (QfI ?_ ?_) λ y1 h1=>(Wl (Wh ?_) (Wv (QgV ?_ ?_) λ y2 h2=>(Wl (Wh ?_) (WQ λ y3=>(Wl (Wh ?_) (Wh ?_)))))))
 all_goals simp_all (maxDischargeDepth:=9)
theorem Qht {N a0 a1 a2} (ka0:XG a0) (ka1:tU a1):PT (Qdy N a0 a1 a2) (λ r=>tU r.1):=by
 rw[Qdy]
 refine (Wv (QgV ?_ ?_) λ y1 h1=>(Wl (Wh ?_) (Wl (Wh ?_) (Wl (Wh ?_) (Wv (QdY ?_ ?_) λ y2 h2=>(Wh ?_))))))
 all_goals simp_all (maxDischargeDepth:=9)
theorem Qib {N a0 a1 a2 a3} (ka0:XG a0) (ka1:tU a1) (ka3:tU a3):PT (Qce N a0 a1 a2 a3) (λ r=>XG r.1):=by
 rw[Qce]
 refine (Wv (Qht ?_ ?_) λ y1 h1=>(Wl (Wh ?_) (Wv (Qgt ?_ ?_ ?_) λ y2 h2=>(Wh ?_))))
 all_goals simp_all (maxDischargeDepth:=9)
theorem QjZ {N a0 a1 a2 a3 a4} (ka0:X0 a0) (ka2:tU a2) (ka3:tU a3) (ka4:tU a4):PT (Qei N a0 a1 a2 a3 a4) (λ r=>X0 r.1/\tU r.2.1):=by
 rw[Qei]
 refine (UO (Q:=λ k=>∀ x3 x4 x5,tU x3->PT (k x3 x4 x5) _) (λ x3 x4 x5 h1=>(Wl (Wv (Qab) λ y6 h2=>(Wh ?_)) (Wv (Qht ?_ ?_) λ y7 h3=>(Wl (Wh ?_) (Wl (Wv (QfH ?_ ?_) λ y8 h4=>(Wh ?_)) (UO (Q:=λ k=>∀ x11,tU x11->PT (k x11) _) (λ x11 h5=>(Wv (Qib ?_ ?_ ?_) λ y12 h6=>(Wh ?_))) λ j2 hj2=>(Wl (Wv (QbC ?_ ?_) λ y9 h7=>(Wl (Wv (Qab) λ y10 h8=>(Wh ?_)) (hj2 _ ?_))) (hj2 _ ?_)))))))) λ j1 hj1=>(Wl (Wv (Qhs ?_ ?_ ?_) λ y1 h9=>(hj1 _ _ _ ?_)) (Wv (Qhs ?_ ?_ ?_) λ y2 h10=>(hj1 _ _ _ ?_))))
 all_goals simp_all (maxDischargeDepth:=9)
theorem Qj0 {N a0 a1 a2 a3} (ka0:X0 a0) (ka2:tU a2) (ka3:tU a3):PT (Qej N a0 a1 a2 a3) (λ r=>X0 r.1/\tU r.2.1):=by
 rw[Qej]
 refine (UO (Q:=λ k=>∀ x1,PT (k x1) _) (λ x1=>(Wl (Wv (QfI ?_ ?_) λ y2 h1=>(Wl (Wv (Qab) λ y3 h2=>(Wh ?_)) (Wv (QgV ?_ ?_) λ y4 h3=>(Wl (Wh ?_) (Wh ?_))))) (Wl (Wv (QbC ?_ ?_) λ y5 h4=>(Wl (Wv (Qab) λ y6 h5=>(Wh ?_)) (Wv (QbC ?_ ?_) λ y7 h6=>(Wl (Wv (Qab) λ y8 h7=>(Wh ?_)) (Wl (Wh ?_) (Wh ?_)))))) (Wv (QbC ?_ ?_) λ y9 h8=>(Wl (Wv (Qab) λ y10 h9=>(Wh ?_)) (Wv (QfH ?_ ?_) λ y11 h10=>(Wh ?_))))))) λ j1 hj1=>(Wl (hj1 _) (hj1 _)))
 all_goals simp_all (maxDischargeDepth:=9)
theorem Qhi {N a0 a1} (ka0:XT a0) (ka1:tU a1):∀ n v2,PT (Qbl N a0 a1 n v2) (tE (λ r=>XT r.1) (λ _=>True))
 | 0,_=>by rw[Qbl];exact IP
 | n+1,v2=>by
  have ih:=Qhi (N:=N) (a0:=a0) (a1:=a1) ka0 ka1 n
  rw[Qbl]
  refine (W3 (Wl (PT.get (T:=XA) ?_ λ p3 h1=>(Wl (PT.get (T:=XA) ?_ λ p4 h2=>(Wl (PT.get (T:=XA) ?_ λ p5 h3=>(PT.get (T:=XA) ?_ λ p6 h4=>(PT.get (T:=XA) ?_ λ p7 h5=>(Wh ?_)))) (ih _))) (ih _))) (Wh ?_)))
  all_goals (clear ih;simp_all (maxDischargeDepth:=9))
theorem Qjd {N a0 a1 n v2} (ka0:XT a0) (ka1:tU a1):PT (Qbl N a0 a1 n v2) (tE (λ r=>XT r.1) (λ _=>True)):=Qhi ka0 ka1 n _
theorem Qg9 {N a0 a1} (ka0:XT a0) (ka1:tU a1):PT (QbT N a0 a1) (λ r=>XT r.1):=by
 rw[QbT]
 refine (WQ λ y1=>(Wl (Wh ?_) (W3 (Oa (Qjd ?_ ?_) (λ r h1=>(Wh ?_)) λ y8 h2=>(W3 (Wl (Wh ?_) (W3 (W3 (Wh ?_)))))))))
 all_goals simp_all (maxDischargeDepth:=9)
theorem QiA {N a0 a1 a2} (ka0:X0 a0) (ka2:tU a2):PT (Qda N a0 a1 a2) (λ r=>X0 r.1/\tU r.2.1):=by
 rw[Qda]
 refine (Wv (QfI ?_ ?_) λ y1 h1=>(Wl (Wv (Qab) λ y2 h2=>(Wh ?_)) (UO (Q:=λ k=>∀ x3 x4,(tL XA) x4->PT (k x3 x4) _) (λ x3 x4 h3=>(Wv (Qg9 ?_ ?_) λ y5 h4=>(Wl (Wv (Qab) λ y6 h5=>(Wh ?_)) (UO (Q:=λ k=>∀ x7 x8,(tL XA) x7->(tL XA) x8->PT (k x7 x8) _) (λ x7 x8 h6 h7=>(Wv (Qfd) λ y9 h8=>(Wh ?_))) λ j2 hj2=>(Wl (hj2 _ _ ?_ ?_) (hj2 _ _ ?_ ?_)))))) λ j1 hj1=>(Wl (hj1 _ _ ?_) (hj1 _ _ ?_)))))
 all_goals simp_all (maxDischargeDepth:=9)
theorem Qhj {N a0 a1 a2} (ka0:XD a0):PT (Qc4 N a0 a1 a2) (λ r=>XD r.1):=by
 rw[Qc4]
 refine (Wv (Qg8 ?_) λ y1 h1=>(Wl (Wh ?_) (W3 (PT.get (T:=Ys) ?_ λ p2 h2=>(Wh ?_)))))
 all_goals simp_all (maxDischargeDepth:=9)
theorem Qkw {N a0 a1 a2} (ka0:XT a0) (ka2:XA a2):PT (QfY N a0 a1 a2) XT:=by
 rw[QfY]
 refine (W3 (PT.get (T:=XA) ?_ λ p1 h1=>(Wh ?_)))
 all_goals simp_all (maxDischargeDepth:=9)
theorem Qfe {N a0 a1 a2} (ka0:XT a0):PT (QbY N a0 a1 a2) (λ r=>XT r.1):=by
 rw[QbY]
 refine (Wv (Qfs ?_) λ y1 h1=>(Wl (Wh ?_) (Wv (Qkw ?_ ?_) λ y2 h2=>(Wh ?_))))
 all_goals simp_all (maxDischargeDepth:=9)
theorem Qje {N a0 a1 a2} (ka0:X0 a0) (ka2:tU a2):PT (QdL N a0 a1 a2) (λ r=>X0 r.1/\tU r.2.1):=by
 rw[QdL]
 refine (Wl (Wv (Qab) λ y1 h1=>(Wh ?_)) (Wv (QbC ?_ ?_) λ y2 h2=>(Wl (Wv (Qab) λ y3 h3=>(Wh ?_)) (WQ λ y4=>(UO (Q:=λ k=>∀ _,PT (k ()) _) (λ _=>(Wl (Wv (Qhj ?_) λ y6 h4=>(Wh ?_)) (Wl (Wv (Qfe ?_) λ y7 h5=>(Wh ?_)) (Wv (Qfe ?_) λ y8 h6=>(Wh ?_))))) λ j2 hj2=>(UO (Q:=λ k=>∀ _,PT (k ()) _) (λ _=>(Wv (Qab) λ y5 h7=>(Wh ?_))) λ j1 hj1=>(Wl (Wl (hj1 ()) (Wl (Wl (hj1 ()) (Wl (Wl (hj1 ()) (hj2 ())) (hj2 ()))) (Wl (Wl (hj1 ()) (hj2 ())) (hj2 ())))) (Wl (Wl (hj1 ()) (Wl (Wl (hj1 ()) (hj2 ())) (hj2 ()))) (Wl (Wl (hj1 ()) (hj2 ())) (hj2 ()))))))))))
 all_goals simp_all (maxDischargeDepth:=9)
theorem Qkl {N a0 a1 a2} (ka0:XD a0):PT (Qfz N a0 a1 a2) (λ r=>XD r.1):=by
 rw[Qfz]
 refine (WQ λ y1=>(Wl (Wh ?_) (Wl (Wh ?_) (Wl (Wh ?_) (UO (Q:=λ k=>∀ _,PT (k ()) _) (λ _=>(Wl (Wh ?_) (W3 (W3 (Wh ?_))))) λ j1 hj1=>(Wl (Wl (Wh ?_) (hj1 ())) (hj1 ())))))))
 all_goals simp_all (maxDischargeDepth:=9)
theorem QhD {N a0 a1} (ka0:XD a0):PT (Qdo N a0 a1) (λ r=>XD r.1):=by
 rw[Qdo]
 refine (Wv (Qkl ?_) λ y1 h1=>(Wh ?_))
 all_goals simp_all (maxDischargeDepth:=9)
theorem Qkx {N a0 a1} (ka0:XD a0):PT (QfZ N a0 a1) XD:=by
 rw[QfZ]
 refine (WQ λ p1=>(W3 (W3 (W3 (W3 (Wh ?_))))))
 all_goals simp_all (maxDischargeDepth:=9)
theorem QhY {N a0} (ka0:XD a0):PT (Qd4 N a0) (λ r=>XD r.1):=by
 rw[Qd4]
 refine (WQ λ y1=>(Wl (Wh ?_) (Wl (Wh ?_) (WQ λ p2=>(Wl (Wh ?_) (Wv (Qkx ?_) λ y3 h1=>(Wh ?_)))))))
 all_goals simp_all (maxDischargeDepth:=9)
theorem Qjf {N a0 a1 a2} (ka0:X0 a0) (ka2:tU a2):PT (QdM N a0 a1 a2) (λ r=>X0 r.1/\tU r.2.1):=by
 rw[QdM]
 refine (Wl (Wl (Wv (Qab) λ y1 h1=>(Wh ?_)) (Wv (QhD ?_) λ y2 h2=>(Wl (Wv (Qab) λ y3 h3=>(Wh ?_)) (Wh ?_)))) (Wv (QbC ?_ ?_) λ y4 h4=>(Wl (Wv (Qab) λ y5 h5=>(Wh ?_)) (Wv (QhY ?_) λ y6 h6=>(Wl (Wv (Qab) λ y7 h7=>(Wh ?_)) (Wv (QfH ?_ ?_) λ y8 h8=>(Wh ?_)))))))
 all_goals simp_all (maxDischargeDepth:=9)
theorem Qgu {N a0 a1 a2} (ka0:XG a0) (ka1:tU a1):PT (Qcl N a0 a1 a2) XG:=by
 rw[Qcl]
 refine (W3 (WQ λ y1=>(WQ λ p2=>(WQ λ p3=>(Wh ?_)))))
 all_goals simp_all (maxDischargeDepth:=9)
theorem QiB {N a0 a1 a2} (ka0:XG a0) (ka1:(tL YX) a1) (ka2:tU a2):PT (Qdb N a0 a1 a2) (λ r=>XG r.1/\(tL YX) r.2.1):=by
 rw[Qdb]
 refine (WQ λ y1=>(Wl (Wh ?_) (Wl (Wh ?_) (WQ λ y2=>(Wl (Wh ?_) (W3 (PT.get (T:=YX) ?_ λ p3 h1=>(PT.get (T:=YX) ?_ λ p4 h2=>(PT.get (T:=YX) ?_ λ p5 h3=>(Wl (W3 (W3 (W3 (Wv (Qgu ?_ ?_) λ y7 h4=>(Wh ?_))))) (Wv (Qgu ?_ ?_) λ y8 h5=>(Wh ?_))))))))))))
 all_goals simp_all (maxDischargeDepth:=9)
theorem Qky {N a0 a1 a2} (ka0:XG a0) (ka1:(tL YX) a1) (ka2:tU a2):PT (Qfj N a0 a1 a2) (λ r=>XG r.1/\(tL YX) r.2.1/\tU r.2.2.1):=by
 rw[Qfj]
 refine (WQ λ y1=>(Wl (Wh ?_) (Wl (Wh ?_) (WQ λ y2=>(Wl (Wh ?_) (WQ λ y3=>(UO (Q:=λ k=>∀ _,PT (k ()) _) (λ _=>(W3 (UO (Q:=λ k=>∀ x11,(tL YX) x11->PT (k x11) _) (λ x11 h1=>(Wv (Qgu ?_ ?_) λ y12 h2=>(Wh ?_))) λ j2 hj2=>(Wl (PT.get (T:=YX) ?_ λ p9 h3=>(PT.get (T:=YX) ?_ λ p10 h4=>(hj2 _ ?_))) (W3 (hj2 _ ?_)))))) λ j1 hj1=>(Wl (PT.get (T:=YX) ?_ λ p4 h5=>(Wl (Wh ?_) (Wl (Wl (Wh ?_) (WQ λ y5=>(Wl (Wh ?_) (hj1 ())))) (WQ λ y6=>(Wl (Wh ?_) (hj1 ())))))) (Wl (Wl (Wh ?_) (WQ λ y7=>(Wl (Wh ?_) (hj1 ())))) (WQ λ y8=>(Wl (Wh ?_) (hj1 ()))))))))))))
 all_goals simp_all (maxDischargeDepth:=9)
theorem Qkm {N a0 a1 a2} (ka0:X0 a0) (ka2:tU a2):PT (QeM N a0 a1 a2) (λ r=>X0 r.1/\tU r.2.1):=by
 rw[QeM]
 refine (Wv (QfI ?_ ?_) λ y1 h1=>(Wl (Wv (Qab) λ y2 h2=>(Wh ?_)) (Wl (Wv (QiB ?_ ?_ ?_) λ y3 h3=>(Wl (Wv (Qab) λ y4 h4=>(Wh ?_)) (Wh ?_))) (Wv (Qky ?_ ?_ ?_) λ y5 h5=>(Wl (Wv (Qab) λ y6 h6=>(Wh ?_)) (Wh ?_))))))
 all_goals simp_all (maxDischargeDepth:=9)
theorem Qkn {N a0 a1 a2 a3 a4} (ka0:X0 a0) (ka2:tU a2) (ka3:tU a3) (ka4:tU a4):PT (QeN N a0 a1 a2 a3 a4) (λ r=>X0 r.1/\tU r.2.1):=by
 rw[QeN]
 refine (WQ λ y1=>(Wl (Wv (Qab) λ y2 h1=>(Wh ?_)) (UO (Q:=λ k=>∀ x4,PT (k x4) _) (λ x4=>(Wl (Wv (Qjc ?_ ?_ ?_) λ y5 h2=>(Wh ?_)) (UO (Q:=λ k=>∀ x8,PT (k x8) _) (λ x8=>(Wl (Wv (QjZ ?_ ?_ ?_ ?_) λ y9 h3=>(Wh ?_)) (UO (Q:=λ k=>∀ x12,PT (k x12) _) (λ x12=>(Wl (Wv (Qj0 ?_ ?_ ?_) λ y13 h4=>(Wh ?_)) (UO (Q:=λ k=>∀ x14,PT (k x14) _) (λ x14=>(Wl (Wv (QiA ?_ ?_) λ y15 h5=>(Wh ?_)) (UO (Q:=λ k=>∀ x17,PT (k x17) _) (λ x17=>(Wl (Wv (Qje ?_ ?_) λ y18 h6=>(Wh ?_)) (UO (Q:=λ k=>∀ x19,PT (k x19) _) (λ x19=>(Wl (Wv (Qjf ?_ ?_) λ y20 h7=>(Wh ?_)) (UO (Q:=λ k=>∀ x21,PT (k x21) _) (λ x21=>(Wl (Wv (Qkm ?_ ?_) λ y22 h8=>(Wh ?_)) (Wv (Qab) λ y23 h9=>(Wh ?_)))) λ j13 hj13=>(Wl (hj13 _) (hj13 _))))) λ j12 hj12=>(Wl (hj12 _) (hj12 _))))) λ j11 hj11=>(Wl (hj11 _) (UO (Q:=λ k=>∀ x16,PT (k x16) _) (λ x16=>(hj11 _)) λ j10 hj10=>(Wl (hj10 _) (hj10 _))))))) λ j9 hj9=>(Wl (hj9 _) (hj9 _))))) λ j8 hj8=>(Wl (hj8 _) (UO (Q:=λ k=>∀ x11,PT (k x11) _) (λ x11=>(hj8 _)) λ j7 hj7=>(Wl (hj7 _) (UO (Q:=λ k=>∀ x10,PT (k x10) _) (λ x10=>(hj7 _)) λ j6 hj6=>(Wl (hj6 _) (hj6 _))))))))) λ j5 hj5=>(Wl (hj5 _) (UO (Q:=λ k=>∀ x7,PT (k x7) _) (λ x7=>(hj5 _)) λ j4 hj4=>(Wl (hj4 _) (UO (Q:=λ k=>∀ x6,PT (k x6) _) (λ x6=>(hj4 _)) λ j3 hj3=>(Wl (hj3 _) (hj3 _))))))))) λ j2 hj2=>(Wl (hj2 _) (UO (Q:=λ k=>∀ x3,PT (k x3) _) (λ x3=>(hj2 _)) λ j1 hj1=>(Wl (hj1 _) (hj1 _)))))))
 all_goals simp_all (maxDischargeDepth:=9)
theorem QiC {N a0 a1 a2 a3 a4} (ka0:X0 a0) (ka1:X0 a1) (ka3:tU a3):PT (Qdc N a0 a1 a2 a3 a4) XeO:=by
 rw[Qdc]
 refine (UO (Q:=λ k=>∀ x1,PT (k x1) _) (λ x1=>(UO (Q:=λ k=>∀ x2,PT (k x2) _) (λ x2=>(Wl (Wl (Wh ?_) (Wh ?_)) (Wh ?_))) λ j2 hj2=>(Wl (hj2 _) (hj2 _)))) λ j1 hj1=>(Wl (hj1 _) (Wl (hj1 _) (hj1 _))))
 all_goals simp_all (maxDischargeDepth:=9)
theorem QeR {N a0 a1} (ka0:XN a0) (ka1:tU a1):PT (QaC N a0 a1) (λ r=>tU r.1):=by
 rw[QaC]
 refine (WQ λ y1=>(Wl (Wh ?_) (Wl (Wh ?_) (WQ λ y2=>(Wl (Wh ?_) (Wl (Wv (Qg8 ?_) λ y3 h1=>(Wh ?_)) (Wl (Wv (Qfs ?_) λ y4 h2=>(Wh ?_)) (Wv (Qfs ?_) λ y5 h3=>(Wh ?_)))))))))
 all_goals simp_all (maxDischargeDepth:=9)
theorem QfJ {N a0 a1} (ka0:XN a0) (ka1:tU a1):PT (QbZ N a0 a1) (λ r=>XN r.1/\tU r.2):=by
 rw[QbZ]
 refine (Wl (Wh ?_) (Wv (Qg7 ?_ ?_) λ y1 h1=>(Wv (Qfd) λ y2 h2=>(Wh ?_))))
 all_goals simp_all (maxDischargeDepth:=9)
theorem QhZ {N a0 a1 a2 a3} (ka0:XN a0) (ka1:tU a1) (ka3:tU a3):PT (QeB N a0 a1 a2 a3) XN:=by
 rw[QeB]
 refine (W3 (PT.get (T:=Y2) ?_ λ p1 h1=>(W3 (PT.get (T:=tU) ?_ λ p2 h2=>(PT.get (T:=Y2) ?_ λ p3 h3=>(Wh ?_))))))
 all_goals simp_all (maxDischargeDepth:=9)
theorem QiD {N a0 a1 a2} (ka0:XN a0) (ka2:tU a2):PT (Qdd N a0 a1 a2) (λ r=>XN r.1/\tU r.2):=by
 rw[Qdd]
 refine (UO (Q:=λ k=>∀ x3 x4 x5 x6 x7,(tL XA) x3->(tL XA) x4->PT (k x3 x4 x5 x6 x7) _) (λ x3 x4 x5 x6 x7 h1 h2=>(Wv (Qfd) λ y8 h3=>(Wh ?_))) λ j1 hj1=>(Wl (Wv (Qg9 ?_ ?_) λ y1 h4=>(hj1 _ _ _ _ _ ?_ ?_)) (Wv (Qg9 ?_ ?_) λ y2 h5=>(hj1 _ _ _ _ _ ?_ ?_))))
 all_goals simp_all (maxDischargeDepth:=9)
theorem Qjg {N a0 a1} (ka0:XN a0) (ka1:tU a1):PT (QdN N a0 a1) XN:=by
 rw[QdN]
 refine (WQ λ y1=>(Wl (Wv (Qhj ?_) λ y2 h1=>(Wh ?_)) (Wl (Wv (Qfe ?_) λ y3 h2=>(Wh ?_)) (Wv (Qfe ?_) λ y4 h3=>(Wh ?_)))))
 all_goals simp_all (maxDischargeDepth:=9)
theorem Qko {N a0 a1 a2 a3} (ka0:XN a0) (ka2:tU a2) (ka3:tU a3):PT (QeO N a0 a1 a2 a3) (λ r=>XN r.1/\tU r.2):=by
 rw[QeO]
 refine (WQ λ y1=>(W3 (Wl (PT.get (T:=Zz) ?_ λ p2 h1=>(PT.get (T:=Zz) ?_ λ p3 h2=>(PT.get (T:=Zz) ?_ λ p4 h3=>(Wl (W3 (W3 (W3 (Wh ?_)))) (Wh ?_))))) (Wl (PT.get (T:=Zz) ?_ λ p7 h4=>(PT.get (T:=Zz) ?_ λ p8 h5=>(PT.get (T:=Zz) ?_ λ p9 h6=>(Wh ?_)))) (W3 (Wh ?_))))))
 all_goals simp_all (maxDischargeDepth:=9)
theorem Qkp {N a0 a1 a2 a3 a4 a5} (ka0:XN a0) (ka2:tU a2) (ka3:tU a3) (ka4:tU a4) (ka5:XeO a5):PT (QeP N a0 a1 a2 a3 a4 a5) (λ r=>XN r.1/\tU r.2.1):=by
 rw[QeP]
 refine (WQ λ y1=>(Wl (Wh ?_) (UO (Q:=λ k=>∀ x3,tU x3->PT (k x3) _) (λ x3 h1=>(UO (Q:=λ k=>∀ x5,PT (k x5) _) (λ x5=>(Wl (UO (Q:=λ k=>∀ x7 x8 x9 x10 x11 x12 x13 x14 x15 x16,(tL Y2) x9->(tL Ys) x10->(tL XA) x13->(tL XA) x14->(tL Zz) x15->(tL tU) x16->PT (k x7 x8 x9 x10 x11 x12 x13 x14 x15 x16) _) (λ x7 x8 x9 x10 x11 x12 x13 x14 x15 x16 h2 h3 h4 h5 h6 h7=>(Wv (Qhr ?_ ?_) λ y17 h8=>(W3 (W3 (W3 (W3 (Wv (QfJ ?_ ?_) λ y18 h9=>(Wh ?_)))))))) λ j4 hj4=>(Wl (Wv (Qg6 ?_) λ y6 h10=>(hj4 _ _ _ _ _ _ _ _ _ _ ?_ ?_ ?_ ?_ ?_ ?_)) (hj4 _ _ _ _ _ _ _ _ _ _ ?_ ?_ ?_ ?_ ?_ ?_))) (Wl (PT.get (T:=Y2) ?_ λ p19 h11=>(Wh ?_)) (Wl (PT.get (T:=Y2) ?_ λ p20 h12=>(Wh ?_)) (Wl (PT.get (T:=Y2) ?_ λ p21 h13=>(PT.get (T:=tU) ?_ λ p22 h14=>(Wh ?_))) (Wl (Wv (QhZ ?_ ?_ ?_) λ y23 h15=>(Wh ?_)) (Wl (PT.get (T:=Y2) ?_ λ p24 h16=>(PT.get (T:=tU) ?_ λ p25 h17=>(Wv (QfJ ?_ ?_) λ y26 h18=>(Wh ?_)))) (Wl (Wv (QeR ?_ ?_) λ y27 h19=>(Wv (QhZ ?_ ?_ ?_) λ y28 h20=>(Wh ?_))) (Wl (Wv (QeR ?_ ?_) λ y29 h21=>(Wl (Wh ?_) (Wh ?_))) (Wl (Wv (QfJ ?_ ?_) λ y30 h22=>(Wh ?_)) (UO (Q:=λ k=>∀ x31,PT (k x31) _) (λ x31=>(Wl (Wv (QiD ?_ ?_) λ y32 h23=>(Wh ?_)) (UO (Q:=λ k=>∀ x34,PT (k x34) _) (λ x34=>(Wl (Wv (Qjg ?_ ?_) λ y35 h24=>(Wh ?_)) (Wl (Wv (QhD ?_) λ y36 h25=>(Wh ?_)) (Wl (Wv (QhY ?_) λ y37 h26=>(Wv (QfJ ?_ ?_) λ y38 h27=>(Wh ?_))) (Wv (Qko ?_ ?_ ?_) λ y39 h28=>(Wh ?_)))))) λ j7 hj7=>(Wl (hj7 _) (UO (Q:=λ k=>∀ x33,PT (k x33) _) (λ x33=>(hj7 _)) λ j6 hj6=>(Wl (hj6 _) (hj6 _))))))) λ j5 hj5=>(Wl (hj5 _) (hj5 _))))))))))))) λ j3 hj3=>(Wl (hj3 _) (UO (Q:=λ k=>∀ x4,PT (k x4) _) (λ x4=>(hj3 _)) λ j2 hj2=>(Wl (hj2 _) (hj2 _)))))) λ j1 hj1=>(Wl (Wl (Wv (QeR ?_ ?_) λ y2 h29=>(hj1 _ ?_)) (hj1 _ ?_)) (hj1 _ ?_)))))
 all_goals simp_all (maxDischargeDepth:=9)
theorem Qjh {N a0 a1} (ka0:JT a0) (ka1:XcD a1):PT (Qct N a0 a1) (λ r=>JT r.1/\tU r.2.1):=by
 rw[Qct]
 refine (Wl (Wv (Qg5 ?_) λ y1 h1=>(UO (Q:=λ k=>∀ x3 x4 x5 x6 x7 x8 x9 x10 x11 x12 x13 x14 x15 x16 x17 x18 x19 x20 x21 x22 x23 x24 x25,(tL tU) x5->(tL Ys) x9->(tL XA) x12->(tL XA) x13->(tL YX) x14->(tL tU) x15->(tL Y2) x18->(tL Ys) x19->(tL XA) x22->(tL XA) x23->(tL Zz) x24->(tL tU) x25->PT (k x3 x4 x5 x6 x7 x8 x9 x10 x11 x12 x13 x14 x15 x16 x17 x18 x19 x20 x21 x22 x23 x24 x25) _) (λ x3 x4 x5 x6 x7 x8 x9 x10 x11 x12 x13 x14 x15 x16 x17 x18 x19 x20 x21 x22 x23 x24 x25 h2 h3 h4 h5 h6 h7 h8 h9 h10 h11 h12 h13=>(Wh ?_)) λ j1 hj1=>(Wl (Wv (Qg6 ?_) λ y2 h14=>(hj1 _ _ _ _ _ _ _ _ _ _ _ _ _ _ _ _ _ _ _ _ _ _ _ ?_ ?_ ?_ ?_ ?_ ?_ ?_ ?_ ?_ ?_ ?_ ?_)) (hj1 _ _ _ _ _ _ _ _ _ _ _ _ _ _ _ _ _ _ _ _ _ _ _ ?_ ?_ ?_ ?_ ?_ ?_ ?_ ?_ ?_ ?_ ?_ ?_)))) (Wv (Qkn ?_ ?_ ?_ ?_) λ y26 h15=>(Wv (QiC ?_ ?_ ?_) λ y27 h16=>(Wv (Qkp ?_ ?_ ?_ ?_ ?_) λ y28 h17=>(UO (Q:=λ k=>∀ x29 x30 x31 x32 x33 x34 x35 x36 x37 x38,(tL Y2) x31->(tL Ys) x32->(tL XA) x35->(tL XA) x36->(tL Zz) x37->(tL tU) x38->PT (k x29 x30 x31 x32 x33 x34 x35 x36 x37 x38) _) (λ x29 x30 x31 x32 x33 x34 x35 x36 x37 x38 h18 h19 h20 h21 h22 h23=>(Wl (Wl (W3 (W3 (Wh ?_))) (Wh ?_)) (Wh ?_))) λ j2 hj2=>(Wl (hj2 _ _ _ _ _ _ _ _ _ _ ?_ ?_ ?_ ?_ ?_ ?_) (hj2 _ _ _ _ _ _ _ _ _ _ ?_ ?_ ?_ ?_ ?_ ?_)))))))
 all_goals simp_all (maxDischargeDepth:=9)
theorem Qep {N a0 a1} (ka0:JT a0):PT (Qbc N a0 a1) (λ r=>tU r.1):=by
 rw[Qbc]
 refine (WQ λ y1=>(Wl (WQ λ y2=>(PT.get (T:=tU) ?_ λ p3 h1=>(Wh ?_))) (Wl (WQ λ y4=>(PT.get (T:=tU) ?_ λ p5 h2=>(WQ λ y6=>(Wh ?_)))) (UO (Q:=λ k=>∀ x8,PT (k x8) _) (λ x8=>(Wl (WQ λ y9=>(PT.get (T:=tU) ?_ λ p10 h3=>(Wh ?_))) (WQ λ y11=>(PT.get (T:=tU) ?_ λ p12 h4=>(Wh ?_))))) λ j2 hj2=>(Wl (hj2 _) (UO (Q:=λ k=>∀ x7,PT (k x7) _) (λ x7=>(hj2 _)) λ j1 hj1=>(Wl (hj1 _) (hj1 _))))))))
 all_goals simp_all (maxDischargeDepth:=9)
theorem Qic {N a0 a1} (ka0:JT a0):PT (Qcf N a0 a1) (λ r=>XcD r.1):=by
 rw[Qcf]
 refine (WQ λ y1=>(WQ λ p2=>(Wl (WQ λ y3=>(W3 (WQ λ y4=>(Wh ?_)))) (UO (Q:=λ k=>∀ x5,PT (k x5) _) (λ x5=>(Wl (WQ λ y6=>(WQ λ y7=>(Wl (WQ λ y8=>(Wh ?_)) (Wh ?_)))) (Wl (WQ λ y9=>(Wh ?_)) (Wv (Qep ?_) λ y10 h1=>(WQ λ y11=>(WQ λ y12=>(UO (Q:=λ k=>∀ x16 x17 x18,tU x18->PT (k x16 x17 x18) _) (λ x16 x17 x18 h2=>(Wl (Wv (Qep ?_) λ y19 h3=>(Wh ?_)) (Wh ?_))) λ j2 hj2=>(Wl (Wv (Qep ?_) λ y14 h4=>(hj2 _ _ _ ?_)) (WQ λ y13=>(Wl (Wv (Qep ?_) λ y15 h5=>(hj2 _ _ _ ?_)) (hj2 _ _ _ ?_))))))))))) λ j1 hj1=>(Wl (hj1 _) (hj1 _))))))
 all_goals simp_all (maxDischargeDepth:=9)
end Go.Sx
namespace Go.Sx
def BIG:Nat:=1099511627776
theorem XcE {ws:List Int} (hl:ws.length<=BIG) (N:Nat) (a k:Int) (hk : -1<=k/\k<=1000000000000000000):QcZ N ws a k =
 some (if 4096<=a/\a<=4096+ws.length then (a-4096,decide (a+k<=4096+ws.length)) else (0,false)):=by
 unfold BIG at hl
 simp only[QcZ,Ut]
 rw[XJ (n:=(ws.length:Int)) (by omega) (by omega),XJ (n:=4096+(ws.length:Int)) (by omega) (by omega)]
 by_cases h1:a<4096
 ·rw[Wm h1,Wk (by omega)]
 ·rw[Wk h1]
  by_cases h2:a>4096+ws.length
  ·rw[Wm h2,Wk (by omega)]
  ·rw[Wk h2,Wm (by omega),XJ (n:=a-4096) (by omega) (by omega),Xc (n:=a-4096) (by omega) (by omega),Xc (by omega) (by omega)]
   congr 2
   exact decide_eq_decide.2 (by omega)
def inW (ws:List Int) (a:Int):Prop:=4096<=a/\a<4096+ws.length
instance (ws:List Int) (a:Int):Decidable (inW ws a):=by unfold inW;infer_instance
def ix (a:Int):Nat:=(a-4096).toNat
theorem Zn {ws:List Int} (hl:ws.length<=BIG) (N:Nat) (a:Int):QaX N ws a=some (if inW ws a then (ws.getD (ix a) 0,0) else (0,2)):=by
 simp only[QaX,Qe4,XcE hl N a 1 (by omega),Xa]
 by_cases h:4096<=a/\a<=4096+ws.length
 ·simp only[Wm h]
  by_cases h2:inW ws a
  ·have h3:a+1<=4096+ws.length:=by unfold inW at h2;omega
   simp only[Wm h2,h3,decide_true,Wt,Wa,Xa]
   have h4:(a-4096).toNat<ws.length:=by unfold inW at h2;omega
   rw[show ((0:Int) != 0)=false from rfl,Wa,X4 (by omega) (by unfold inW at h2;omega),Xa]
   simp[ix,List.getD,h4]
  ·have h3:¬ a+1<=4096+ws.length:=by unfold inW at h2;omega
   simp only[Wk h2,h3,decide_false,WR,Wc,Xa]
   rfl
 ·have h2:¬ inW ws a:=by unfold inW;omega
  simp only[Wk h,Wk h2,WR,Wc,Xa]
  rfl
def ovr (ws l:List Int) (i:Nat):List Int:=ws.take i++l++ws.drop (i+l.length)
theorem Z7 {ws l:List Int} {i:Nat} (h:i+l.length<=ws.length):(ovr ws l i).length=ws.length:=by
 simp[ovr];omega
theorem XcF {ws l:List Int} {i:Nat} (h:i+l.length<=ws.length) (j:Nat):(ovr ws l i)[j]? = if i<=j/\j<i+l.length then l[j-i]? else ws[j]?:=by
 unfold ovr
 have hm:(ws.take i).length=i:=by simp only[Wz];omega
 by_cases h1:j<i
 ·rw[Wk (by omega),Ux,UA (by omega),Uk,Wm h1]
 ·by_cases h2:j<i+l.length
  ·rw[Wm (by omega),UA (by rw[Wr];omega),Im (by omega),hm]
  ·rw[Wk (by omega),Im (by rw[Wr];omega),UU,Wr,hm]
   congr 1
   omega
theorem XdD {ws l:List Int} {i:Nat} (h:i+l.length<=ws.length) (j:Nat):(ovr ws l i).getD j 0=if i<=j/\j<i+l.length then l.getD (j-i) 0 else ws.getD j 0:=by
 simp only[Wp,XcF h]
 split<;>rfl
theorem XdE {l:List Int} (y:Int×Bool) (i:Nat) (N:Nat) (ws:List Int) (hi:y.1=i) (h:i+l.length<=ws.length) (hl:ws.length<=BIG):∀ (n k:Nat) (v:List Int),k<=l.length->l.length-k<n->v=ovr ws (l.take k) i ->
 Qbo N l y n (k:Int) v=some (ovr ws l i)
 | 0,k,v,_,hn,_=>by omega
 | n+1,k,v,hk,hn,hv=>by
  unfold BIG at hl
  rw[Qbo]
  have hlt:(l.take k).length=k:=by simp;omega
  have hvl:v.length=ws.length:=by rw[hv];exact Z7 (by rw[hlt];omega)
  by_cases h1:k<l.length
  ·have e1:decide ((k:Int)<((l.length:Nat):Int))=true:=by simp;omega
   have e2:wI (y.1+(k:Int))=((i+k:Nat):Int):=by rw[hi,Xc (by omega) (by omega)];simp
   have e3:wI ((k:Int)+1)=((k+1:Nat):Int):=by rw[Xc (by omega) (by omega)];simp
   rw[e1,Wc,X4 (by omega) (by omega),Xa,e2,X4 (by omega) (by omega),Xa,e3]
   refine XdE y i N ws hi h (by unfold BIG;omega) n (k+1) _ (by omega) (by omega) ?_
   rw[hv]
   simp only[Is]
   apply List.ext_getElem?
   intro j
   have hlt2:(l.take (k+1)).length=k+1:=by simp only[Wz];omega
   rw[Ic,Z7 (by omega),XcF (by omega),XcF (by omega),hlt,hlt2]
   by_cases hj:i+k=j
   ·subst hj
    rw[Wm rfl,Wm (by omega),Wm (by omega),Uk,Wm (by omega),Iz,Wd h1]
   ·rw[Wk hj]
    by_cases hj2:i<=j/\j<i+k
    ·rw[Wm hj2,Wm (by omega),Uk,Uk,Wm (by omega),Wm (by omega)]
    ·rw[Wk hj2,Wk (by omega)]
  ·have e1:decide ((k:Int)<((l.length:Nat):Int))=false:=by simp;omega
   rw[e1,Wa,hv,UX (by omega)]
def Yu (ws:List Int) (a:Int) (k:Nat):Prop:=4096<=a/\a+k<=4096+ws.length
instance (ws:List Int) (a:Int) (k:Nat):Decidable (Yu ws a k):=by unfold Yu;infer_instance
theorem Vk {ws l:List Int} (hl:ws.length<=BIG) (h2:l.length<=BIG) {N:Nat} (hN:l.length<N) (a:Int):Qci N ws a l=some (if Yu ws a l.length then (ovr ws l (ix a),0) else ([],2)):=by
 simp only[Qci]
 rw[XcE hl N a _ (by unfold BIG at h2;omega),Xa]
 by_cases h:Yu ws a l.length
 ·have h3:4096<=a/\a<=4096+ws.length:=by unfold Yu at h;omega
  have h4:a+(l.length:Int)<=4096+ws.length:=by unfold Yu at h;omega
  simp only[Wm h,Wm h3,h4,decide_true,Wt,Wa]
  rw[Xi (by unfold BIG at hl;omega)]
  have:=XdE (l:=l) (a-4096,true) (ix a) N ws (by unfold ix;simp;omega) (by unfold ix;omega) hl N 0 ws (by omega) (by omega) (by simp[ovr])
  rw[show ((0:Nat):Int)=0 from rfl] at this
  rw[this,Xa]
 ·by_cases h3:4096<=a/\a<=4096+ws.length
  ·have h4:¬ a+(l.length:Int)<=4096+ws.length:=by unfold Yu at h;omega
   simp only[Wk h,Wm h3,h4,decide_false,WR,Wc]
  ·simp only[Wk h,Wk h3,WR,Wc]
theorem XaS {ws:List Int} (hl:ws.length<=BIG) {N:Nat} (hN:1<N) (a v:Int):Qc0 N ws a v=some (if inW ws a then (ws.set (ix a) v,0) else ([],2)):=by
 simp only[Qc0]
 rw[Vk (l:=[v]) hl (by unfold BIG;simp) (by simpa using hN),Xa]
 by_cases h:inW ws a
 ·have h1:Yu ws a [v].length:=by unfold inW at h;unfold Yu;simp only[W7,UC];omega
  simp only[Wm h,Wm h1]
  congr 2
  unfold ovr
  have hlt:ix a<ws.length:=by unfold inW at h;unfold ix;omega
  simp[List.set_eq_take_append_cons_drop,hlt]
 ·have h1:¬ Yu ws a [v].length:=by unfold inW at h;unfold Yu;simp only[W7,UC];omega
  simp only[Wk h,Wk h1]
theorem Xaj {ws:List Int} (hl:ws.length<=BIG) (N:Nat) (a:Int) (k:Nat) (hk:k<=1000000000):Qcq N ws a (k:Int)=some (if Yu ws a k then ((ws.drop (ix a)).take k,0) else ([],2)):=by
 simp only[Qcq]
 have e1:decide ((k:Int)<0)=false:=Wj (by omega)
 rw[e1,Wa,XcE hl N a _ (by omega),Xa]
 unfold BIG at hl
 by_cases h:Yu ws a k
 ·have h3:4096<=a/\a<=4096+ws.length:=by unfold Yu at h;omega
  have h4:a+(k:Int)<=4096+ws.length:=by unfold Yu at h;omega
  simp only[Wm h,Wm h3,h4,decide_true,Wt,Wa]
  rw[Xc (n:=a-4096+(k:Int)) (by omega) (by omega),Xi (by omega),Xi (by omega)]
  have e2:(a-4096+(k:Int)).toNat-(a-4096).toNat=k:=by omega
  rw[e2];rfl
 ·by_cases h3:4096<=a/\a<=4096+ws.length
  ·have h4:¬ a+(k:Int)<=4096+ws.length:=by unfold Yu at h;omega
   simp only[Wk h,Wm h3,h4,decide_false,WR,Wc]
  ·simp only[Wk h,Wk h3,WR,Wc]
theorem XkA {ws:List Int} (hl:ws.length<=BIG) {N:Nat} (to a:Int) (k:Nat) (hk:k<=1000000000) (hN:k<N):QeF N ws to a (k:Int) =
 some (if Yu ws a k/\Yu ws to k then (ovr ws ((ws.drop (ix a)).take k) (ix to),0) else ([],2)):=by
 simp only[QeF]
 rw[Xaj hl N a k hk,Xa]
 by_cases h:Yu ws a k
 ·have hlen:((ws.drop (ix a)).take k).length=k:=by unfold Yu at h;simp[ix];omega
  simp only[Wm h]
  rw[show ((0:Int) != 0)=false from rfl,Wa,Vk hl (by rw[hlen];unfold BIG;omega) (by rw[hlen];exact hN),Xa,hlen]
  by_cases h2:Yu ws to k
  ·rw[Wm h2,Wm ⟨h,h2⟩]
  ·rw[Wk h2,Wk (λ h3=>h2 h3.2)]
 ·simp only[Wk h]
  rw[show ((2:Int) != 0)=true from rfl,Wc,Wk (λ h3=>h h3.1)]
end Go.Sx
namespace Go.Sx
def XL (d:Ww):Bool:=decide (0<=d.Kind/\d.Kind<=3/\0<=d.Length/\d.Length<=255)&&(if d.Kind=1 then decide (d.Length<=32)&&decide (d.Map % 18446744073709551616<2 ^ d.Length.toNat) else decide (d.Map=0))
theorem Zh (N:Nat) (d:Ww):Qcg N d=some (XL d):=by
 simp only[Qcg,Ut,XL]
 by_cases h1:d.Kind<0
 ·rw[Wm h1,Wj (by omega),Ui]
 rw[Wk h1]
 by_cases h2:d.Kind>3
 ·rw[Wm h2,Wj (by omega),Ui]
 rw[Wk h2]
 by_cases h3:d.Length<0
 ·rw[Wm h3,Wj (by omega),Ui]
 rw[Wk h3]
 by_cases h4:d.Length>255
 ·rw[Wm h4,Wj (by omega),Ui]
 rw[Wk h4,Wi (p:=0<=d.Kind/\d.Kind<=3/\0<=d.Length/\d.Length<=255) (by omega),WP]
 by_cases h5:d.Kind=1
 ·rw[Wm h5,h5,show ((1:Int) != 1)=false from rfl,Wa]
  by_cases h6:d.Length<=32
  ·rw[Wm h6,XJ (n:=d.Length) (by omega) (by omega),Xi (by omega),Xih (by omega) (by omega),XbO,Wi h6,WP]
  ·rw[Wk h6,Wj h6,Ui]
 ·have:(d.Kind != 1)=true:=by simpa using h5
  rw[Wk h5,this,Wc]
  congr 1
theorem XS {d:Ww} (h:XL d=true):0<=d.Kind/\d.Kind<=3/\0<=d.Length/\d.Length<=255:=by
 unfold XL at h
 simp only[WC,decide_eq_true_eq] at h
 exact h.1
def YY (d:Ww):Int:=if XL d then d.Length+1 else 0
theorem YK (N:Nat) (d:Ww):Qb2 N d=some (YY d):=by
 simp only[Qb2,Zh,Xa,YY]
 cases h:XL d with
 | false=>rfl
 | true=>have:=XS h;simp[Xc (n:=d.Length+1) (by omega) (by omega)]
theorem Xil (d:Ww):0<=YY d/\YY d<=256:=by
 unfold YY
 split
 ·rename_i h;have:=XS h;omega
 ·omega
def Xbz (d:Ww):Int:=wU (wU (wU (1+wU (4*wU d.Kind))+wU (16*wU d.Length))+Kq .u64 (wU d.Map) 16)
theorem XcG (N:Nat) (d:Ww):Qco N d=some (if XL d then (Xbz d,0) else (0,1)):=by
 simp only[Qco,Zh,Xa]
 cases h:XL d<;>rfl
def JU (w:Int):Ww:=⟨wI (Yp .u64 (X2 .u64 w 2) 3),wI (Yp .u64 (X2 .u64 w 4) 4095),wW (X2 .u64 w 16)⟩
def okH (w:Int):Bool:=XL (JU w)&&(Xbz (JU w)==w)
def ZF (w:Int):Ww:=if okH w then JU w else ⟨0,0,0⟩
theorem Vl (N:Nat) (w:Int):Qbu N w=some (ZF w,okH w):=by
 show Qbu N w=_
 simp only[Qbu]
 rw[XcG N (Ww.mk _ _ _),Xa]
 show _=some (ZF w,okH w)
 unfold ZF okH JU
 cases h:XL (JU w) with
 | false=>unfold JU at h;simp only[h];rfl
 | true =>
  unfold JU at h
  simp only[h,if_true,WP]
  rw[show ((0:Int) != 0)=false from rfl,Wa]
  by_cases h2:Xbz ⟨wI (Yp .u64 (X2 .u64 w 2) 3),wI (Yp .u64 (X2 .u64 w 4) 4095),wW (X2 .u64 w 16)⟩=w
  ·simp[h2]
  ·rw[show (Xbz ⟨wI (Yp .u64 (X2 .u64 w 2) 3),wI (Yp .u64 (X2 .u64 w 4) 4095),wW (X2 .u64 w 16)⟩ != w)=true by simpa using h2,show (Xbz ⟨wI (Yp .u64 (X2 .u64 w 2) 3),wI (Yp .u64 (X2 .u64 w 4) 4095),wW (X2 .u64 w 16)⟩==w)=false by simpa using h2]
   rfl
theorem JV (w:Int):XL (ZF w)=true:=by
 unfold ZF
 split
 ·rename_i h;unfold okH at h;simp only[WC] at h;exact h.1
 ·rfl
theorem XbP (w:Int):YY (ZF w)=(ZF w).Length+1/\1<=YY (ZF w)/\YY (ZF w)<=256:=by
 have h:=JV w
 have:=XS h
 unfold YY
 rw[Wm h]
 omega
def Kh (d:Ww) (i:Int):Bool:=XL d&&(decide (0<=i/\i<d.Length)&&(decide (d.Kind=2)||(decide (d.Kind=1)&&(Yp .u32 (X2 .u32 d.Map (wU i)) 1==1))))
theorem Jv (N:Nat) (d:Ww) (i:Int):QbF N d i=some (Kh d i):=by
 simp only[QbF,Zh,Xa,Kh,Ut]
 cases h:XL d with
 | false=>rfl
 | true =>
  simp only[Wt,Wa,WP]
  by_cases h1:i<0
  ·rw[Wm h1,Wj (by omega),Ui]
  rw[Wk h1]
  by_cases h2:i>=d.Length
  ·rw[Wm h2,Wj (by omega),Ui]
  rw[Wk h2,Wi (p:=0<=i/\i<d.Length) (by omega),WP,Xi (Vi i).1]
  by_cases h3:d.Kind=2
  ·simp[h3]
  ·by_cases h4:d.Kind=1
   ·simp[h4]
   ·have e1:(d.Kind==2)=false:=by simpa using h3
    have e2:(d.Kind==1)=false:=by simpa using h4
    simp[e1,e2,h3,h4]
def X8 (d:Ww):Nat->Int->List Int
 | 0,_=>[]
 | k+1,i=>(if Kh d i then [i] else [])++X8 d k (i+1)
def Zo (d:Ww):List Int:=if XL d then X8 d d.Length.toNat 0 else []
theorem KS {d:Ww}:∀ {k:Nat} {i x:Int},x∈X8 d k i->i<=x/\x<i+k/\Kh d x=true
 | 0,i,x,h=>by simp[X8] at h
 | k+1,i,x,h=>by
  simp only[X8,WG] at h
  rcases h with h | h
  ·split at h
   ·rename_i hp;simp at h;subst h;exact ⟨by omega,by omega,hp⟩
   ·simp at h
  ·have:=KS h;exact ⟨by omega,by omega,this.2.2⟩
theorem KT {d:Ww}:∀ {k:Nat} {i:Int},(X8 d k i).length<=k
 | 0,i=>by simp[X8]
 | k+1,i=>by
  have:=KT (d:=d) (k:=k) (i:=i+1)
  simp only[X8,Wr]
  split<;>simp<;>omega
theorem Jf (N:Nat) (d:Ww) (hv:XL d=true):∀ (n:Nat) (i:Int) (v:List Int),0<=i->i<=d.Length->(d.Length-i).toNat<n->v.length<=1000-(d.Length-i).toNat->v.length+(d.Length-i).toNat<=1000 ->
 Qbr N d n i v=some (v++X8 d (d.Length-i).toNat i)
 | 0,i,v,_,_,h,_,_=>by omega
 | n+1,i,v,h0,h1,h2,h3,h4=>by
  have hb:=XS hv
  rw[Qbr]
  by_cases h:i<d.Length
  ·obtain ⟨k,hk⟩:∃ k,(d.Length-i).toNat=k+1:=⟨(d.Length-i).toNat-1,by omega⟩
   have hk2:(d.Length-(i+1)).toNat=k:=by omega
   rw[Wi h,Wc,Zh,Xa,hv,Wc,Jv,Xa,hk,Xc (n:=i+1) (by omega) (by omega)]
   simp only[X8]
   cases hp:Kh d i with
   | true =>
    rw[Wc,Xi (by omega),Jf N d hv n (i+1) _ (by omega) (by omega) (by omega) (by rw[Wr];simp only[W7,UC];omega) (by rw[Wr];simp only[W7,UC];omega),hk2]
    simp
   | false =>
    rw[Wa,Jf N d hv n (i+1) _ (by omega) (by omega) (by omega) (by omega) (by omega),hk2]
    simp
  ·rw[Wj h,Wa,show (d.Length-i).toNat=0 by omega]
   simp[X8]
theorem Xim {N:Nat} (hN:300<N) (d:Ww):Qes N d=some (Zo d):=by
 simp only[Qes,Zo]
 cases hv:XL d with
 | true =>
  have hb:=XS hv
  rw[Jf N d hv N 0 [] (by omega) (by omega) (by omega) (by simp only[UC];omega) (by simp only[UC];omega),Xa]
  simp
 | false =>
  obtain ⟨n,rfl⟩:∃ n,N=n+1:=⟨N-1,by omega⟩
  rw[Qbr,Zh,Xa,hv,Wa]
  cases h:decide ((0:Int)<d.Length)<;>simp[Xa]
def XlD (w:Int):Bool:=decide (w.tmod 4=2)&&decide (X2 .u64 w 2<4294967296)
theorem XbQ (N:Nat) (w:Int):Qc2 N w=some (if XlD w then (X2 .u64 w 2,true) else (0,false)):=by
 simp only[Qc2,XlD,Ut]
 by_cases h1:w.tmod 4=2
 ·by_cases h2:X2 .u64 w 2>=4294967296
  ·have h3:¬ X2 .u64 w 2<4294967296:=by omega
   simp[h1,h2,h3]
  ·have h3:X2 .u64 w 2<4294967296:=by omega
   simp[h1,h2,h3]
 ·have:(w.tmod 4 != 2)=true:=by simpa using h1
  simp[this,h1]
theorem XeP (N:Nat) (a:Int):Qc7 N a=some (if a>=4294967296 then (0,1) else (wU (wU (4*a)+2),0)):=by
 simp only[Qc7,Ut]
 split<;>rfl
end Go.Sx
namespace Go.Sx
def X1 (c:WX):Bool:=decide (16<=c.PageWords/\c.PageWords<=64/\c.PageWords % 4=0/\8<=c.Pages/\c.Pages<=64)
theorem Xk {c:WX}:X1 c=true↔16<=c.PageWords/\c.PageWords<=64/\c.PageWords % 4=0/\8<=c.Pages/\c.Pages<=64:=by simp[X1]
theorem YL (N:Nat) (c:WX):Qat N c=some (X1 c):=by
 simp only[Qat,Ut,X1]
 by_cases h1:c.PageWords>=16
 ·rw[Wm h1]
  by_cases h2:c.PageWords<=64
  ·rw[Wm h2]
   have e:c.PageWords.tmod 4=c.PageWords % 4:=In (by omega)
   rw[e]
   by_cases h3:c.PageWords % 4=0
   ·rw[h3,show ((0:Int)==0)=true from rfl,Wc]
    by_cases h4:c.Pages>=8
    ·rw[Wm h4]
     congr 1
     exact decide_eq_decide.2 (by omega)
    ·rw[Wk h4,Wj (by omega)]
   ·rw[show (c.PageWords % 4==0)=false by simpa using h3,Wa,Wj (by omega)]
  ·rw[Wk h2,Wj (by omega)]
 ·rw[Wk h1,Wj (by omega)]
def Xmi (c:WX):Int:=if X1 c then c.Pages / 4 else 0
theorem Xin (N:Nat) (c:WX):Qe5 N c=some (Xmi c):=by
 simp only[Qe5,YL,Xa,Xmi]
 cases h:X1 c with
 | false=>rfl
 | true =>
  have:=Xk.1 h
  simp only[Wt,Wa,if_true]
  rw[U6 (by omega),Xc (by omega) (by omega)]
def smC (c:WX):Int:=if X1 c then c.PageWords / 4 else 0
theorem Xfu (N:Nat) (c:WX):Qbt N c=some (smC c):=by
 simp only[Qbt,YL,Xa,smC]
 cases h:X1 c with
 | false=>rfl
 | true =>
  have:=Xk.1 h
  simp only[Wt,Wa,if_true]
  rw[U6 (by omega),Xc (by omega) (by omega)]
def XX (c:WX) (w:Int):Int :=
 if X1 c=true/\1<=w then (if w<=c.PageWords / 4 then 0 else if c.PageWords>=w then 1 else if 2*c.PageWords>=w then 2 else if 3*c.PageWords>=w then 3 else if 4*c.PageWords>=w then 4 else -1) else -1
theorem Xak (N:Nat) (c:WX) (w:Int) (hc:X1 c=true) (k:Int) (hk:1<=k/\k<=4) (n:Nat):Qb1 N c w (n+1) k=if k*c.PageWords>=w then some (.ret k) else Qb1 N c w n (k+1):=by
 have h:=Xk.1 hc
 have hm:0<=k*c.PageWords/\k*c.PageWords<=256:=by
  constructor
  ·exact Int.mul_nonneg (by omega) (by omega)
  ·have:=Int.mul_le_mul (a:=k) (b:=c.PageWords) (c:=4) (d:=64) (by omega) (by omega) (by omega) (by omega)
   omega
 rw[Qb1,Wi (by omega),Wc,Ut,Xc (n:=k*c.PageWords) (by omega) (by omega),Xc (n:=k+1) (by omega) (by omega)]
theorem Jw {N:Nat} (hN:10<=N) (c:WX) (w:Int):QdZ N c w=some (XX c w):=by
 simp only[QdZ,YL,Xfu,Xa,XX,smC]
 cases hc:X1 c with
 | false=>simp
 | true =>
  have h:=Xk.1 hc
  simp only[Wt,Wa,if_true,Ut]
  by_cases h1:w<1
  ·rw[Wm h1,Wk (show ¬ (True/\1<=w) from λ h=>by omega)]
  rw[Wk h1,Wm (show True/\1<=w from ⟨trivial,by omega⟩)]
  by_cases h2:w<=c.PageWords / 4
  ·rw[Wm h2,Wm h2]
  rw[Wk h2,Wk h2]
  obtain ⟨n,rfl⟩:∃ n,N=n+5:=⟨N-5,by omega⟩
  rw[Xak _ c w hc 1 (by omega),Xak _ c w hc (1+1) (by omega),Xak _ c w hc (1+1+1) (by omega),Xak _ c w hc (1+1+1+1) (by omega)]
  rw[show Qb1 (n+5) c w (n+1) (1+1+1+1+1)=some (.nxt ()) by rw[Qb1,Wj (by omega),Wa]]
  simp only[IV,show (1:Int)+1=2 from rfl,show (2:Int)+1=3 from rfl,show (3:Int)+1=4 from rfl]
  by_cases h3:c.PageWords>=w
  ·simp only[Wm h3,Xa,Xz]
  simp only[Wk h3]
  by_cases h4:2*c.PageWords>=w
  ·simp only[Wm h4,Xa,Xz]
  simp only[Wk h4]
  by_cases h5:3*c.PageWords>=w
  ·simp only[Wm h5,Xa,Xz]
  simp only[Wk h5]
  by_cases h6:4*c.PageWords>=w
  ·simp only[Wm h6,Xa,Xz]
  ·simp only[Wk h6,Xa,Xq]
theorem Jx (c:WX) (w:Int) : -1<=XX c w/\XX c w<=4:=by
 unfold XX;repeat' split
 all_goals omega
theorem Yt {c:WX} (hc:X1 c=true) {i:Int} (h0:0<=i) (h1:i<c.Pages):0<=i*c.PageWords/\i*c.PageWords+c.PageWords<=c.Pages*c.PageWords/\c.Pages*c.PageWords<=4096:=by
 have h:=Xk.1 hc
 refine ⟨Int.mul_nonneg h0 (by omega),?_,?_⟩
 ·have:=UH (a:=i+1) (b:=c.Pages) (c:=c.PageWords) (by omega) (by omega)
  rw[IK] at this
  omega
 ·have:=Int.mul_le_mul (a:=c.Pages) (b:=c.PageWords) (c:=64) (d:=64) (by omega) (by omega) (by omega) (by omega)
  omega
def Xj (c:WX) (p o:Int):Int:=4096+p*c.PageWords+o
theorem Jy (N:Nat) (c:WX) (p o:Int):QbD N c p o=some (if X1 c=false then (0,1) else if 0<=p/\p<c.Pages/\0<=o/\o<c.PageWords then (Xj c p o,0) else (0,2)):=by
 simp only[QbD,YL,Xa,Ut]
 cases hc:X1 c with
 | false=>simp
 | true =>
  have h:=Xk.1 hc
  simp only[Wt,Wa]
  rw[Wk (show ¬ (true=false) by simp)]
  by_cases h1:p<0
  ·rw[Wm h1,Wk (by omega)]
  rw[Wk h1]
  by_cases h2:p>=c.Pages
  ·rw[Wm h2,Wk (by omega)]
  rw[Wk h2]
  by_cases h3:o<0
  ·rw[Wm h3,Wk (by omega)]
  rw[Wk h3]
  by_cases h4:o>=c.PageWords
  ·rw[Wm h4,Wk (by omega)]
  rw[Wk h4,Wm (by omega)]
  have hm:=Yt hc (i:=p) (by omega) (by omega)
  rw[Xc (n:=p*c.PageWords) (by omega) (by omega),Xc (n:=4096+p*c.PageWords) (by omega) (by omega),Xc (n:=4096+p*c.PageWords+o) (by omega) (by omega),XJ (by omega) (by omega)]
  rfl
theorem Vm (N:Nat) (c:WX) (a:Int):QcM N c a=some (if X1 c=false then (0,0,1) else if 4096<=a/\a<4096+c.Pages*c.PageWords then ((a-4096) / c.PageWords,(a-4096) % c.PageWords,0) else (0,0,2)):=by
 simp only[QcM,YL,Xa,Ut]
 cases hc:X1 c with
 | false=>simp
 | true =>
  have h:=Xk.1 hc
  have hm:=Yt hc (i:=0) (by omega) (by omega)
  simp only[Wt,Wa]
  rw[Wk (show ¬ (true=false) by simp)]
  rw[Xc (n:=c.Pages*c.PageWords) (by omega) (by omega),Xc (n:=4096+c.Pages*c.PageWords) (by omega) (by omega),XJ (n:=4096+c.Pages*c.PageWords) (by omega) (by omega)]
  by_cases h1:a<4096
  ·rw[Wm h1,Wk (by omega)]
  rw[Wk h1]
  by_cases h2:a>=4096+c.Pages*c.PageWords
  ·rw[Wm h2,Wk (by omega)]
  rw[Wk h2,Wm (by omega),Xi (by omega),Xi (by omega)]
  rw[XJ (n:=a-4096) (by omega) (by omega),Xc (n:=a-4096) (by omega) (by omega),U6 (by omega),In (by omega)]
  have hd:0<=(a-4096) / c.PageWords:=Int.ediv_nonneg (by omega) (by omega)
  have hd2:(a-4096) / c.PageWords<=a-4096:=Int.ediv_le_self _ (by omega)
  rw[Xc (by omega) (by omega)]
theorem XcH {c:WX} (hc:X1 c=true) {a:Int} (h1:4096<=a) (h2:a<4096+c.Pages*c.PageWords) :
 0<=(a-4096) / c.PageWords/\(a-4096) / c.PageWords<c.Pages/\0<=(a-4096) % c.PageWords/\(a-4096) % c.PageWords<c.PageWords/\a=Xj c ((a-4096) / c.PageWords) ((a-4096) % c.PageWords):=by
 have h:=Xk.1 hc
 refine ⟨Int.ediv_nonneg (by omega) (by omega),Int.ediv_lt_of_lt_mul (by omega) (by omega),Int.emod_nonneg _ (by omega),Int.emod_lt_of_pos _ (by omega),?_⟩
 have:=Int.mul_ediv_add_emod (a-4096) c.PageWords
 unfold Xj
 rw[Int.mul_comm] at this
 omega
theorem XkB {c:WX} (hc:X1 c=true) {p o:Int} (h0:0<=o) (h1:o<c.PageWords):(Xj c p o-4096) / c.PageWords=p/\(Xj c p o-4096) % c.PageWords=o:=by
 have h:=Xk.1 hc
 have e:Xj c p o-4096=o+c.PageWords*p:=by unfold Xj;rw[Int.mul_comm p];omega
 rw[e,Int.add_mul_ediv_left _ _ (by omega),Int.add_mul_emod_self_left,Int.ediv_eq_zero_of_lt h0 h1,Int.emod_eq_of_lt h0 h1]
 exact ⟨by omega,rfl⟩
def Xio:Wx:=⟨0,0,0,0⟩
def pg (ps:List Wx) (i:Int):Wx:=ps.getD i.toNat Xio
theorem X5 {ps:List Wx} {i:Int} {p:Wx} (h:Xb ps i=some p):pg ps i=p:=by
 have:=(JL.1 h).2
 simp[pg,this]
theorem Z8 {ps:List Wx} {i:Int} (h0:0<=i) (h1:i<ps.length):Xb ps i=some (pg ps i):=by
 rw[X4 h0 h1]
 have:i.toNat<ps.length:=by omega
 simp[pg,List.getD,this]
theorem XdF (N:Nat) (ps:List Wx) (sp:Int) (hl:ps.length<=BIG):∀ (n:Nat) (c i:Int),0<=i->0<=c->c<=BIG*2->i<=BIG*2->(ps.length:Int)+c-i<=BIG*2->(ps.length-i).toNat<n ->
 Ok (Qb9 N ps sp n c i) λ r=>c<=r/\∀ m,0<=m->m<r-c->i+m<ps.length/\(pg ps (i+m)).Kind=3
 | 0,c,i,_,_,_,_,_,h=>by omega
 | n+1,c,i,h0,hc,hc2,hi,hs,hn=>by
  unfold BIG at *
  rw[Qb9]
  refine Wn (λ h=>?_) λ h=>We ⟨Int.le_refl _,λ m h1 h2=>by omega⟩
  have h1:i<ps.length:=by simpa using h
  refine Ok.get h0 h1 λ p hp=>Wn (λ hk=>?_) λ hk=>We ⟨Int.le_refl _,λ m h1 h2=>by omega⟩
  refine Ok.get h0 h1 λ p' hp'=>Wn (λ hk2=>?_) λ hk=>We ⟨Int.le_refl _,λ m h1 h2=>by omega⟩
  rw[Xc (n:=c+1) (by omega) (by omega),Xc (n:=i+1) (by omega) (by omega)]
  refine (XdF N ps sp (by unfold BIG;omega) n (c+1) (i+1) (by omega) (by omega) (by unfold BIG;omega) (by unfold BIG;omega) (by unfold BIG;omega) (by omega)).mono λ r hr=>⟨by omega,λ m h2 h3=>?_⟩
  by_cases hm:m=0
  ·subst hm;rw[Int.add_zero];exact ⟨h1,by rw[X5 hp];simpa using hk⟩
  ·have:=hr.2 (m-1) (by omega) (by omega)
   rw[show i+1+(m-1)=i+m by omega] at this
   exact this
theorem Xip {N:Nat} {ps:List Wx} (sp i:Int) (hl:ps.length<N) (hl2:ps.length<=100000000) (h0:0<=i) (hi:i<=100000000):Ok (Qeb N ps i sp) λ r=>0<=r/\∀ m,1<=m->m<=r->i+m<ps.length/\(pg ps (i+m)).Kind=3:=by
 rw[Qeb,Xc (n:=i+1) (by omega) (by omega)]
 refine WJ (XdF N ps sp (by unfold BIG;omega) N 0 (i+1) (by omega) (by omega) (by unfold BIG;omega) (by unfold BIG;omega) (by unfold BIG;omega) (by omega)) λ r _ h=>We ⟨h.1,λ m h1 h2=>?_⟩
 have:=h.2 (m-1) (by omega) (by omega)
 rwa[show i+1+(m-1)=i+m by omega] at this
theorem Xal (N:Nat) (n:Int):Qf3 N n=some (decide (0<=n/\n<=2147483647)):=by
 simp only[Qf3,Ut]
 split
 ·congr 1;exact decide_eq_decide.2 (by omega)
 ·rw[Wj (by omega)]
end Go.Sx
namespace Go.Sx
structure Oo (h:Wo) (i:Int):Prop where
 kind:0<=(pg h.Pages i).Kind/\(pg h.Pages i).Kind<=3
 space:0<=(pg h.Pages i).Space/\(pg h.Pages i).Space<=1
 pins:0<=(pg h.Pages i).Pins/\(pg h.Pages i).Pins<=2147483647
 free:(pg h.Pages i).Kind=0->pg h.Pages i=Xio
 small:(pg h.Pages i).Kind=1->0<=(pg h.Pages i).Used/\(pg h.Pages i).Used<=h.Conf.PageWords
 large:(pg h.Pages i).Kind=2->1<=XX h.Conf (pg h.Pages i).Used/\∀ m,1<=m->m<XX h.Conf (pg h.Pages i).Used->i+m<h.Pages.length/\(pg h.Pages (i+m)).Kind=3
structure UK (h:Wo):Prop where
 conf:X1 h.Conf=true
 words:(h.Words.length:Int)=h.Conf.Pages*h.Conf.PageWords
 pages:(h.Pages.length:Int)=h.Conf.Pages
 space:0<=h.Space/\h.Space<=1
 bump:h.Bump = -1\/(0<=h.Bump/\h.Bump<h.Pages.length/\(pg h.Pages h.Bump).Kind=1)
 pgs:∀ i:Int,0<=i->i<h.Pages.length->Oo h i
 first:(pg h.Pages 0).Kind≠3
def PL (h:Wo) (i:Int):Ex Bool Unit->Prop
 | .ret a=>a=false
 | .nxt _=>(∀ j,i<=j->j<h.Pages.length->Oo h j)/\(i=0->(0:Int)<h.Pages.length->(pg h.Pages 0).Kind≠3)
theorem XbR {N:Nat} {h:Wo} (hc:X1 h.Conf=true) (hN:100000<N) (hl:(h.Pages.length:Int)=h.Conf.Pages):∀ (n:Nat) (due i:Int),0<=i->0<=due->due<=4->(h.Pages.length-i).toNat<n->(i=0->due=0) ->
 Ok (Qao N h n due i) (PL h i)
 | 0,due,i,_,_,_,hn,_=>by omega
 | n+1,due,i,h0,hd,hd4,hn,hi0=>by
  have hv:=Xk.1 hc
  rw[Qao]
  refine Wn (λ h1=>?_) λ h1=>We ⟨λ j hj hj2=>?_,λ hi hpos=>?_⟩
  rotate_left
  ·have:¬ i<h.Pages.length:=by simpa using h1
   omega
  ·have:¬ i<h.Pages.length:=by simpa using h1
   omega
  have hlt:i<h.Pages.length:=by simpa using h1
  refine Ok.get h0 hlt λ p hp=>?_
  have hpg:=X5 hp
  refine Wn (λ _=>We rfl) λ g1=>?_
  refine Wn (λ _=>We rfl) λ g2=>?_
  refine Wn (λ _=>We rfl) λ g3=>?_
  rw[Xal,Xa]
  refine Wn (λ _=>We rfl) λ g4=>?_
  simp only[Bool.not_eq_false',beq_iff_eq,W5,decide_eq_true_eq,Int.not_lt,Int.not_le] at g1 g2 g3 g4
  have hk3:p.Kind=3↔0<due:=by
   have e:(p.Kind==3)=decide (due>0):=g1
   by_cases hx:p.Kind=3
   ·have:(p.Kind==3)=true:=by simpa using hx
    rw[this] at e
    have:=Wu e.symm
    exact ⟨λ _=>this,λ _=>hx⟩
   ·have:(p.Kind==3)=false:=by simpa using hx
    rw[this] at e
    have:=WD e.symm
    exact ⟨λ h=>absurd h hx,λ h=>absurd h this⟩
  have next:∀ (due':Int),0<=due'->due'<=4->Oo h i->Ok (Qao N h n (if 0<wI (due'-1) then wI (due'-1) else 0) (wI (i+1))) (PL h i):=by
   intro due' hd1 hd2 hok
   rw[Xc (n:=i+1) (by omega) (by omega),Xc (n:=due'-1) (by omega) (by omega)]
   refine (XbR hc hN hl n _ (i+1) (by omega) (by split<;>omega) (by split<;>omega) (by omega) (by omega)).mono λ e he=>?_
   cases e with
   | ret a=>exact he
   | nxt b =>
   obtain ⟨k1,k2⟩:=he
   refine ⟨λ j hj hj2=>?_,λ hi hpos hk=>?_⟩
   ·by_cases hji:j=i
    ·subst hji;exact hok
    ·exact k1 j (by omega) hj2
   ·subst hi
    rw[hpg] at hk
    have:=hk3.1 hk
    have:=hi0 rfl
    omega
  refine Ip ?_
  refine Wn (λ q0=>Wn (λ _=>We rfl) λ q1=>?_) λ q0=>Ip (Wn (λ q1=>Wn (λ _=>We rfl) λ q2=>Wn (λ _=>We rfl) λ q3=>?_) λ q1=>Ip (Wn (λ q2=>?_) λ q2=>Wn (λ q3=>Wn (λ _=>We rfl) λ q4=>Wn (λ _=>We rfl) λ q5=>?_) λ q3=>We rfl))
  ·refine next due hd hd4 ?_
   have hk:p.Kind=0:=by simpa using q0
   simp only[Bool.not_eq_false',WC,beq_iff_eq] at q1
   have hz:pg h.Pages i=Xio:=by
    rw[hpg];cases p;simp only at q1;obtain ⟨rfl,rfl,rfl,rfl⟩:=q1;rfl
   refine ⟨by rw[hz];decide,by rw[hz];decide,by rw[hz];decide,λ _=>hz,λ e=>?_,λ e=>?_⟩
   ·rw[hz] at e;cases e
   ·rw[hz] at e;cases e
  ·refine next due hd hd4 ?_
   have hk:p.Kind=1:=by simpa using q1
   simp only[W5,Int.not_lt] at q2 q3
   exact ⟨by rw[hpg];omega,by rw[hpg];omega,by rw[hpg];omega,λ e=>by rw[hpg] at e;omega,λ _=>by rw[hpg];omega,λ e=>by rw[hpg] at e;omega⟩
  ·have hk:p.Kind=2:=by simpa using q2
   rw[Jw (by omega),Xa]
   refine Wn (λ _=>We rfl) λ q3=>?_
   refine WJ (Xip (N:=N) (ps:=h.Pages) p.Space i (by omega) (by omega) h0 (by omega)) λ t _ ht=>?_
   refine Wn (λ _=>We rfl) λ q4=>?_
   have hr:=Jx h.Conf p.Used
   have hn1:1<=XX h.Conf p.Used:=by have:=WD q3;omega
   have hn2:XX h.Conf p.Used-1<=t:=by
    have:=WD q4
    rw[Xc (by omega) (by omega)] at this
    omega
   refine next _ (by omega) (by omega) ?_
   exact ⟨by rw[hpg];omega,by rw[hpg];omega,by rw[hpg];omega,λ e=>by rw[hpg] at e;omega,λ e=>by rw[hpg] at e;omega,λ _=>by rw[hpg];exact ⟨hn1,λ m h1 h2=>ht.2 m h1 (by omega)⟩⟩
  ·refine next due hd hd4 ?_
   have hk:p.Kind=3:=by simpa using q3
   exact ⟨by rw[hpg];omega,by rw[hpg];omega,by rw[hpg];omega,λ e=>by rw[hpg] at e;omega,λ e=>by rw[hpg] at e;omega,λ e=>by rw[hpg] at e;omega⟩
theorem Yo {N:Nat} (hN:100000<N) {h:Wo} (hw:h.Words.length<=100000) (hp:h.Pages.length<=100000):Ok (Qad N h) λ b=>b=true->UK h:=by
 rw[Qad,YL,Xa]
 refine Wn (λ _=>We λ e=>by cases e) λ g1=>?_
 have hc:X1 h.Conf=true:=by simpa using g1
 have hv:=Xk.1 hc
 have hm:=Yt hc (i:=0) (by omega) (by omega)
 refine Wn (λ _=>We λ e=>by cases e) λ g2=>?_
 refine Wn (λ _=>We λ e=>by cases e) λ g3=>?_
 refine Wn (λ _=>We λ e=>by cases e) λ g4=>?_
 refine Wn (λ _=>We λ e=>by cases e) λ g5=>?_
 have e2:(h.Words.length:Int)=h.Conf.Pages*h.Conf.PageWords:=by
  have:(h.Words.length:Int)=wI (h.Conf.Pages*h.Conf.PageWords):=by simpa using g2
  rwa[Xc (by omega) (by omega)] at this
 have e3:(h.Pages.length:Int)=h.Conf.Pages:=by simpa using g3
 have e4:0<=h.Space/\h.Space<=1:=⟨by simpa using g4,by simpa using g5⟩
 have main:(h.Bump = -1\/(0<=h.Bump/\h.Bump<h.Pages.length/\(pg h.Pages h.Bump).Kind=1))->Ok (bnd (Qao N h N 0 0) λ e=>exK e (λ r=>some r) λ y12=>some true) λ b=>b=true->UK h:=by
  intro hb
  refine IG (XbR (N:=N) (h:=h) hc hN e3 N 0 0 (by omega) (by omega) (by omega) (by omega) (by omega)) (λ a hq=>?_) λ b hq=>We λ _=>?_
  ·have ha:a=false:=hq
   subst ha
   exact We λ e=>by cases e
  ·obtain ⟨k1,k2⟩:=hq
   exact ⟨hc,e2,e3,e4,hb,k1,k2 rfl (by omega)⟩
 refine Ip (Wn (λ b1=>Wn (λ _=>We λ e=>by cases e) λ b2=>Wn (λ _=>We λ e=>by cases e) λ b3=>?_) λ b1=>main (.inl (by simpa using b1)))
 have h2:0<=h.Bump:=by simpa using b2
 have h3:h.Bump<h.Pages.length:=by simpa using b3
 refine Ok.get h2 h3 λ p hp=>Wn (λ _=>We λ e=>by cases e) λ b4=>main (.inr ⟨h2,h3,?_⟩)
 rw[X5 hp];simpa using b4
end Go.Sx
namespace Go.Sx
theorem dlt {a b:Int} (h:decide (a<b)=true):a<b:=Wu h
theorem JW {ps:List Wx} {i j:Int} (p:Wx) (hi:0<=i) (hi2:i<ps.length) (hj:0<=j):pg (ps.set i.toNat p) j=if j=i then p else pg ps j:=by
 unfold pg
 simp only[Wp,Ic]
 by_cases h:j=i
 ·subst h;rw[Wm rfl,Wm rfl,Wm (by omega)];rfl
 ·rw[Wk (by omega),Wk h]
theorem XaT (N:Nat) (ps:List Wx) (hl:ps.length<=100000000):∀ (n:Nat) (c i:Int),0<=i->0<=c->c<=i->i<=ps.length->(ps.length-i).toNat<n->Ok (QcU N ps n c i) λ r=>0<=r/\r<=ps.length
 | 0,c,i,_,_,_,_,h=>by omega
 | n+1,c,i,h0,hc,hci,hi,hn=>by
  rw[QcU]
  refine Wn (λ h=>?_) λ h=>We ⟨hc,by omega⟩
  have h1:i<ps.length:=dlt h
  refine Ok.get h0 h1 λ p hp=>?_
  rw[Xc (n:=c+1) (by omega) (by omega),Xc (n:=i+1) (by omega) (by omega)]
  refine Wn (λ _=>?_) λ _=>?_
  ·exact XaT N ps hl n (c+1) (i+1) (by omega) (by omega) (by omega) (by omega) (by omega)
  ·exact XaT N ps hl n c (i+1) (by omega) (by omega) (by omega) (by omega) (by omega)
theorem XdG {N:Nat} {ps:List Wx} (hl:ps.length<=100000000) (hN:ps.length<N):Ok (QfL N ps) λ r=>0<=r/\r<=ps.length :=
 WJ (XaT N ps hl N 0 0 (by omega) (by omega) (by omega) (by omega) (by omega)) λ r _ h=>We h
def RunOK (ps:List Wx) (i k:Int):Prop:=0<=i/\1<=k/\i+k<=ps.length/\∀ m,0<=m->m<k->(pg ps (i+m)).Kind=0
theorem Xam (N:Nat) (ps:List Wx) (hl:ps.length<=100000000):∀ (n:Nat) (i:Int) (rs:List IZ),0<=i->i<=ps.length->(ps.length-i).toNat<n->rs.length<=i->(∀ r∈rs,RunOK ps r.From r.Len) ->
 Ok (Qb6 N ps n i rs) λ out=>out.length<=ps.length/\∀ r∈out,RunOK ps r.From r.Len
 | 0,i,rs,_,_,h,_,_=>by omega
 | n+1,i,rs,h0,hi,hn,hlen,hrs=>by
  rw[Qb6]
  refine Wn (λ h=>?_) λ h=>We ⟨by omega,hrs⟩
  have h1:i<ps.length:=dlt h
  refine Ok.get h0 h1 λ p hp=>?_
  have hpg:=X5 hp
  rw[Xc (n:=i+1) (by omega) (by omega)]
  refine Wn (λ _=>Xam N ps hl n (i+1) rs (by omega) (by omega) (by omega) (by omega) hrs) λ hk=>?_
  have hk:p.Kind=0:=by simpa using hk
  have new:Ok (grd ((rs.length+1)*16<=140737488355328) (Qb6 N ps n (i+1) (rs++[IZ.mk i 1]))) λ out=>out.length<=ps.length/\∀ r∈out,RunOK ps r.From r.Len:=by
   refine W4 (by omega) (Xam N ps hl n (i+1) _ (by omega) (by omega) (by omega) (by rw[Wr];simp only[W7,UC];omega) λ r hr=>?_)
   rcases WG.1 hr with hr | hr
   ·exact hrs r hr
   ·have:r=IZ.mk i 1:=by simpa using hr
    subst this
    refine ⟨h0,by show (1:Int)<=1;omega,by show i+1<=_;omega,λ m h1 h2=>?_⟩
    have h2:m<1:=h2
    have:m=0:=by omega
    subst this
    show (pg ps (i+0)).Kind=0
    rw[Int.add_zero,hpg];exact hk
  refine W4 (by omega) (Ip (Wn (λ hp1=>?_) λ _=>new))
  have hp1:0<(rs.length:Int):=Wu hp1
  rw[Xc (n:=((rs.length:Nat):Int)-1) (by omega) (by omega)]
  refine Ok.get (by omega) (by omega) λ q hq=>Ok.get (by omega) (by omega) λ q' hq'=>?_
  obtain rfl:q=q':=WO (hq.symm.trans hq')
  have hqm:=hrs q (Yh hq)
  have hb:=hqm.2.2.1
  rw[Xc (n:=q.From+q.Len) (by have:=hqm.1;have:=hqm.2.1;omega) (by omega)]
  refine Wn (λ he=>?_) λ _=>new
  have he:q.From+q.Len=i:=by simpa using he
  refine Ok.get (by omega) (by omega) λ q2 hq2=>Ok.get (by omega) (by omega) λ q3 hq3=>?_
  obtain rfl:q=q2:=WO (hq.symm.trans hq2)
  obtain rfl:q=q3:=WO (hq.symm.trans hq3)
  have:=hqm.1
  have:=hqm.2.1
  rw[Xc (n:=q.Len+1) (by omega) (by omega)]
  refine Xam N ps hl n (i+1) _ (by omega) (by omega) (by omega) (by rw[WE];omega) λ r hr=>?_
  rcases UB hr with hr | hr
  ·exact hrs r hr
  ·subst hr
   refine ⟨hqm.1,by show 1<=q.Len+1;omega,by show q.From+(q.Len+1)<=_;omega,λ m h1 h2=>?_⟩
   show (pg ps (q.From+m)).Kind=0
   have h2:m<q.Len+1:=h2
   by_cases hm:m<q.Len
   ·exact hqm.2.2.2 m h1 hm
   ·have:q.From+m=i:=by omega
    rw[this,hpg];exact hk
theorem XkC {N:Nat} {ps:List Wx} (hl:ps.length<=100000000) (hN:ps.length<N):Ok (QgM N ps) λ out=>out.length<=ps.length/\∀ r∈out,RunOK ps r.From r.Len :=
 WJ (Xam N ps hl N 0 [] (by omega) (by omega) (by omega) (by simp) (by simp)) λ r _ h=>We h
theorem RunOK.less {ps:List Wx} {i k j:Int} (h:RunOK ps i k) (h1:1<=j) (h2:j<=k):RunOK ps i j:=⟨h.1,h1,by have:=h.2.2.1;omega,λ m a b=>h.2.2.2 m a (by omega)⟩
theorem XdH (N:Nat) (ps:List Wx) (k:Int) (rs:List IZ) (hl:rs.length<=100000000) (hrs:∀ r∈rs,RunOK ps r.From r.Len):∀ (n:Nat) (i:Int),0<=i->i<=rs.length->(rs.length-i).toNat<n ->
 Ok (QcP N k rs n i) λ e=>∀ a,e=.ret a->RunOK ps a k
 | 0,i,_,_,h=>by omega
 | n+1,i,h0,hi,hn=>by
  rw[QcP]
  refine Wn (λ h=>?_) λ h=>We λ a e=>by cases e
  have h1:i<rs.length:=dlt h
  rw[Xc (n:=i+1) (by omega) (by omega)]
  have next:=XdH N ps k rs hl hrs n (i+1) (by omega) (by omega) (by omega)
  refine Wn (λ hk=>?_) λ _=>next
  refine Ok.get h0 h1 λ p hp=>Wn (λ hk2=>?_) λ _=>next
  refine Ok.get h0 h1 λ p' hp'=>We λ a e=>?_
  obtain rfl:p=p':=WO (hp.symm.trans hp')
  cases e
  have hk:1<=k:=Wu hk
  have hk2:k<=p.Len:=Wu hk2
  exact (hrs p (Yh hp)).less hk hk2
theorem XaU {N:Nat} {ps:List Wx} (k:Int) (hl:ps.length<=100000000) (hN:ps.length<N):Ok (Qdr N ps k) λ i=>i = -1\/RunOK ps i k:=by
 refine WJ (XkC hl hN) λ rs _ h=>?_
 refine IG (XdH N ps k rs (by omega) h.2 N 0 (by omega) (by omega) (by omega)) (λ a q=>We (.inr (q a rfl))) λ _ _=>We (.inl rfl)
def Taken (ps out:List Wx) (i k:Int) (first rest:Wx):Prop:=out.length=ps.length/\∀ j,0<=j->pg out j=if j=i then first else if i<=j/\j<i+k then rest else pg ps j
theorem Xfv (N:Nat) (ps:List Wx) (i k:Int) (f r:Wx) (hl:ps.length<=100000000) (hi:0<=i) (hk:i+k<=ps.length):∀ (n:Nat) (m:Int) (v:List Wx),0<=m->(m<=k\/m=0)->(k-m).toNat<n->v.length=ps.length->(∀ j,0<=j->pg v j=if i<=j/\j<i+m then r else pg ps j) ->
 Ok (QdU N i k f r n m v) λ e=>(∀ o,e=.nxt o->o.length=ps.length/\∀ j,0<=j->pg o j=if i<=j/\j<i+k then r else pg ps j)/\(∀ o,e=.ret o->o.2=20/\o.1=[])/\((∀ j,m<=j->j<k->(pg ps (i+j)).Kind=0)->∀ o,e≠.ret o)
 | 0,m,v,_,_,h,_,_=>by omega
 | n+1,m,v,h0,hm,hn,hv,hpg=>by
  rw[QdU]
  refine Wn (λ h=>?_) λ h=>We ⟨λ o e=>?_,λ o e=>(by cases e),λ _ o e=>(by cases e)⟩
  rotate_left
  ·cases e
   have:¬ m<k:=WD h
   refine ⟨hv,λ j hj=>?_⟩
   rw[hpg j hj]
   by_cases hc:i<=j/\j<i+m
   ·rw[Wm hc,Wm (by omega)]
   ·rw[Wk hc,Wk (by omega)]
  have h1:m<k:=dlt h
  rw[Xc (n:=i+m) (by omega) (by omega),Xc (n:=m+1) (by omega) (by omega)]
  refine Ok.get (by omega) (by omega) λ p hp=>?_
  have hpk:p=pg ps (i+m):=by rw[← X5 hp,hpg _ (by omega),Wk (by omega)]
  refine Wn (λ hk2=>We ⟨λ o e=>(by cases e),λ o e=>(by cases e;exact ⟨rfl,rfl⟩),λ hall=>?_⟩) λ hk2=>?_
  ·have:=hall m (by omega) h1
   rw[← hpk] at this
   simp[this] at hk2
  refine Ok.get (by omega) (by omega) λ p' hp'=>?_
  refine (Xfv N ps i k f r hl hi hk n (m+1) _ (by omega) (by omega) (by omega) (by rw[WE];exact hv) λ j hj=>?_).mono λ e he=>⟨he.1,he.2.1,λ hall=>he.2.2 λ j a b=>hall j (by omega) b⟩
  rw[JW r (by omega) (by omega) hj,hpg j hj]
  by_cases hc:j=i+m
  ·rw[Wm hc,Wm (by omega)]
  ·rw[Wk hc]
   by_cases hd:i<=j/\j<i+m
   ·rw[Wm hd,Wm (by omega)]
   ·rw[Wk hd,Wk (by omega)]
theorem Xfw {N:Nat} {ps:List Wx} (i k:Int) (f r:Wx) (hl:ps.length<=1000000) (hN:1000000<N) (hk1:1<=k) (hk2:k<=1000000):Ok (Qfx N ps i k f r) λ o=>(o.2=0->0<=i/\i+k<=ps.length/\Taken ps o.1 i k f r)/\(o.2≠0->o.1=[])/\(RunOK ps i k->o.2=0):=by
 rw[Qfx]
 refine Wn (λ h=>We ⟨λ e=>(by cases e),λ _=>rfl,λ hr=>?_⟩) λ h1=>?_
 ·have:=Wu h;have:=hr.1;omega
 have h1:¬ i<0:=WD h1
 refine Wn (λ h=>We ⟨λ e=>(by cases e),λ _=>rfl,λ hr=>?_⟩) λ h2=>?_
 ·have:=Wu h;have:=hr.2.2.1;omega
 have h2:¬ i>=(ps.length:Int):=WD h2
 rw[Xc (n:=((ps.length:Nat):Int)-i) (by omega) (by omega)]
 refine Wn (λ h=>We ⟨λ e=>(by cases e),λ _=>rfl,λ hr=>?_⟩) λ h3=>?_
 ·have:=Wu h;have:=hr.2.2.1;omega
 have h3:¬ k>(ps.length:Int)-i:=WD h3
 refine W4 (by omega) (IG (Xfv N ps i k f r (by omega) (by omega) (by omega) N 0 ps (by omega) (by omega) (by omega) rfl λ j hj=>(by rw[Wk (by omega)])) (λ a q=>?_) λ o q=>?_)
 ·obtain ⟨e1,e2⟩:=q.2.1 a rfl
  refine We ⟨λ e=>(by rw[e1] at e;cases e),λ _=>e2,λ hr=>?_⟩
  exact absurd rfl (q.2.2 (λ j a b=>hr.2.2.2 j a b) a)
 ·obtain ⟨e1,e2⟩:=q.1 o rfl
  refine Ok.get (by omega) (by omega) λ p hp=>We ⟨λ _=>⟨by omega,by omega,⟨by rw[WE];exact e1,λ j hj=>?_⟩⟩,λ e=>absurd rfl e,λ _=>rfl⟩
  rw[JW f (by omega) (by omega) hj,e2 j hj]
theorem XdI {N:Nat} {ps:List Wx} (i sp:Int) (hl:ps.length<=1000000) (hN:1000000<N):Ok (Qds N ps i sp) λ o=>(o.2=0->0<=i/\i+1<=ps.length/\Taken ps o.1 i 1 ⟨1,sp,0,0⟩ ⟨0,0,0,0⟩)/\(o.2≠0->o.1=[])/\(RunOK ps i 1->0<=sp->sp<=1->o.2=0):=by
 rw[Qds]
 refine Wn (λ h=>We ⟨λ e=>(by cases e),λ _=>rfl,λ _ h1 h2=>?_⟩) λ h1=>?_
 ·have:=Wu h;omega
 refine Wn (λ h=>We ⟨λ e=>(by cases e),λ _=>rfl,λ _ h1 h2=>?_⟩) λ h2=>?_
 ·have:=Wu h;omega
 refine WJ (Xfw i 1 ⟨1,sp,0,0⟩ ⟨0,0,0,0⟩ hl hN (by omega) (by omega)) λ y _ hy=>We ⟨hy.1,hy.2.1,λ hr _ _=>hy.2.2 hr⟩
theorem Xiq {N:Nat} {ps:List Wx} (c:WX) (i sp w:Int) (hl:ps.length<=1000000) (hN:1000000<N):Ok (QfM N c ps i sp w) λ o=>(o.2=0->0<=i/\i+XX c w<=ps.length/\1<=XX c w/\Taken ps o.1 i (XX c w) ⟨2,sp,w,0⟩ ⟨3,sp,0,0⟩)/\(o.2≠0->o.1=[]):=by
 rw[QfM,Jw (by omega),Xa]
 refine Wn (λ h=>We ⟨λ e=>(by cases e),λ _=>rfl⟩) λ h0=>?_
 have h0:¬ XX c w<1:=WD h0
 refine Wn (λ h=>We ⟨λ e=>(by cases e),λ _=>rfl⟩) λ h1=>?_
 refine Wn (λ h=>We ⟨λ e=>(by cases e),λ _=>rfl⟩) λ h2=>?_
 have hr:=Jx c w
 refine WJ (Xfw i (XX c w) ⟨2,sp,w,0⟩ ⟨3,sp,0,0⟩ hl hN (by omega) (by omega)) λ y _ hy=>We ⟨λ e=>?_,hy.2.1⟩
 obtain ⟨a,b,c'⟩:=hy.1 e
 exact ⟨a,b,by omega,c'⟩
end Go.Sx
namespace Go.Sx
def HB (h:Wo):Prop:=h.Words.length<=100000/\h.Pages.length<=100000
def NB (N:Nat):Prop:=10000000<N
def zH:Wo:=⟨⟨0,0⟩,[],[],0,0⟩
theorem Zv:HB zH:=⟨by decide,by decide⟩
def wd (ws:List Int) (a:Int):Int:=ws.getD (ix a) 0
def hdA (ws:List Int) (a:Int):Ww:=ZF (wd ws a)
def szA (ws:List Int) (a:Int):Int:=(hdA ws a).Length+1
theorem ZA (ws:List Int) (a:Int):YY (hdA ws a)=szA ws a/\1<=szA ws a/\szA ws a<=256:=by
 have:=XbP (wd ws a)
 unfold szA hdA
 omega
def pgi (c:WX) (a:Int):Int:=(a-4096) / c.PageWords
def pgo (c:WX) (a:Int):Int:=(a-4096) % c.PageWords
structure IQ (h:Wo) (a:Int):Prop where
 rng:4096<=a/\a<4096+h.Conf.Pages*h.Conf.PageWords
 kind:(pg h.Pages (pgi h.Conf a)).Kind=1\/(pg h.Pages (pgi h.Conf a)).Kind=2
 ok:okH (wd h.Words a)=true
 used:pgo h.Conf a<(pg h.Pages (pgi h.Conf a)).Used
 small:(pg h.Pages (pgi h.Conf a)).Kind=1->pgo h.Conf a+szA h.Words a<=(pg h.Pages (pgi h.Conf a)).Used
 large:(pg h.Pages (pgi h.Conf a)).Kind=2->pgo h.Conf a=0/\szA h.Words a=(pg h.Pages (pgi h.Conf a)).Used
theorem XbS {N:Nat} (hN:NB N) {h:Wo} (hb:HB h) (a:Int):Ok (Qau N h a) λ r=>r.2=0->UK h/\Qad N h=some true/\IQ h a/\r.1=hdA h.Words a:=by
 unfold NB at hN
 rw[Qau]
 refine WJ (Yo (N:=N) (by omega) hb.1 hb.2) λ b eb hp=>?_
 refine Wn (λ _=>We λ e=>by cases e) λ hb1=>?_
 have hbt:b=true:=by simpa using hb1
 subst hbt
 have hp:=hp rfl
 rw[Vm,Xa,hp.conf,Wk (by simp)]
 have hv:=Xk.1 hp.conf
 by_cases hr:4096<=a/\a<4096+h.Conf.Pages*h.Conf.PageWords
 rotate_left
 ·rw[Wk hr];exact Wn (λ _=>We λ e=>by cases e) λ e=>by cases e
 rw[Wm hr,show (a-4096) / h.Conf.PageWords=pgi h.Conf a from rfl,show (a-4096) % h.Conf.PageWords=pgo h.Conf a from rfl]
 have hof:=XcH hp.conf hr.1 hr.2
 refine Wn (λ e=>by cases e) λ _=>?_
 show Ok (bnd (Xb h.Pages (pgi h.Conf a)) _) _
 have hl:=hp.pages
 have h0:0<=pgi h.Conf a:=hof.1
 have h1:pgi h.Conf a<h.Pages.length:=by have:pgi h.Conf a<h.Conf.Pages:=hof.2.1;omega
 refine Ok.get h0 h1 λ p hpp=>?_
 have hpg:=X5 hpp
 have hin:inW h.Words a:=by unfold inW;have:=hp.words;omega
 rw[Zn (by unfold BIG;have:=hb.1;omega),Xa,Wm hin]
 show Ok (bnd (Qbu N (wd h.Words a)) _) _
 rw[Vl,Xa]
 show Ok (jn _ _) _
 have hsz:=ZA h.Words a
 have hpo:pgo h.Conf a<h.Conf.PageWords:=hof.2.2.2.1
 have hpo0:0<=pgo h.Conf a:=hof.2.2.1
 have rest:okH (wd h.Words a)=true->(p.Kind=1\/p.Kind=2)->pgo h.Conf a<p.Used->Ok (α:=Ww×Int) (bnd (Qb2 N (ZF (wd h.Words a))) λ y6 =>
  bif (p.Kind==1) then (bif (decide ((wI (pgo h.Conf a+y6))>p.Used)) then some ((Ww.mk 0 0 0),19)
   else bif (p.Kind==2) then (bif (pgo h.Conf a != 0) then some ((Ww.mk 0 0 0),19)
    else bif (y6 != p.Used) then some ((Ww.mk 0 0 0),19)
    else some (ZF (wd h.Words a),0))
   else some (ZF (wd h.Words a),0))
  else bif (p.Kind==2) then (bif (pgo h.Conf a != 0) then some ((Ww.mk 0 0 0),19)
   else bif (y6 != p.Used) then some ((Ww.mk 0 0 0),19)
   else some (ZF (wd h.Words a),0))
  else some (ZF (wd h.Words a),0)) λ r=>r.2=0->UK h/\Qad N h=some true/\IQ h a/\r.1=hdA h.Words a:=by
  intro ho hk hu
  rw[YK,Xa]
  have e1:YY (ZF (wd h.Words a))=szA h.Words a:=hsz.1
  rw[e1,Xc (by omega) (by omega)]
  refine Wn (λ k1=>?_) λ k1=>?_
  ·have k1:p.Kind=1:=by simpa using k1
   refine Wn (λ _=>We λ e=>by cases e) λ k2=>?_
   have k2:¬ pgo h.Conf a+szA h.Words a>p.Used:=WD k2
   refine Wn (λ k3=>by rw[k1] at k3;cases k3) λ _=>We λ _=>⟨hp,eb,⟨hr,by rw[hpg];exact hk,ho,by rw[hpg];exact hu,λ _=>by rw[hpg];omega,λ e=>by rw[hpg,k1] at e;cases e⟩,rfl⟩
  ·have k1:¬ p.Kind=1:=by simpa using k1
   have k2:p.Kind=2:=by omega
   refine Wn (λ _=>?_) λ k3=>by rw[k2] at k3;cases k3
   refine Wn (λ _=>We λ e=>by cases e) λ k3=>?_
   refine Wn (λ _=>We λ e=>by cases e) λ k4=>We λ _=>⟨hp,eb,⟨hr,by rw[hpg];exact hk,ho,by rw[hpg];exact hu,λ e=>by rw[hpg] at e;omega,λ _=>⟨by simpa using k3,by rw[hpg];simpa using k4⟩⟩,rfl⟩
 refine Ip (Wn (λ k1=>Wn (λ _=>We λ e=>by cases e) λ k2=>Wn (λ _=>We λ e=>by cases e) λ k3=>Wn (λ _=>We λ e=>by cases e) λ k4=>?_) λ k1=>Wn (λ _=>We λ e=>by cases e) λ k3=>Wn (λ _=>We λ e=>by cases e) λ k4=>?_)
 ·exact rest (by simpa using k4) (.inr (by simpa using k2)) (by have k5:¬ (pgo h.Conf a>=p.Used):=WD k3;omega)
 ·exact rest (by simpa using k4) (.inl (by simpa using k1)) (by have k5:¬ (pgo h.Conf a>=p.Used):=WD k3;omega)
theorem XaV {N:Nat} (hN:NB N) {h:Wo} (hb:HB h) (a:Int):Ok (Qca N h a) λ r=>r.2=0->UK h/\Qad N h=some true/\IQ h a/\r.1=hdA h.Words a/\r.1.Kind≠0:=by
 have hN':=hN
 unfold NB at hN
 rw[Qca]
 refine WJ (Yo (N:=N) (by omega) hb.1 hb.2) λ b eb hp=>?_
 refine Wn (λ _=>We λ e=>by cases e) λ hb1=>?_
 refine Wn (λ _=>We λ e=>by cases e) λ _=>?_
 refine WJ (XbS hN' hb a) λ y ey hy=>?_
 refine Wn (λ k1=>Wn (λ _=>We λ e=>by cases e) λ k2=>We λ e=>?_) λ k1=>We λ e=>?_
 ·obtain ⟨q1,q2,q3,q4⟩:=hy e
  exact ⟨q1,q2,q3,q4,by simpa using k2⟩
 ·exact absurd e (by simpa using k1)
theorem XdJ {N:Nat} (hN:NB N) {h:Wo} (hb:HB h) (a i:Int):Ok (Qdy N h a i) λ r=>r.2=0->UK h/\IQ h a/\0<=i/\i<(hdA h.Words a).Length:=by
 rw[Qdy]
 refine WJ (XaV hN hb a) λ y ey hy=>?_
 refine Wn (λ k=>We λ e=>absurd e (by simpa using k)) λ k1=>?_
 refine Wn (λ _=>We λ e=>by cases e) λ k2=>?_
 refine Wn (λ _=>We λ e=>by cases e) λ k3=>?_
 obtain ⟨q1,q2,q3,q4,q5⟩:=hy (by simpa using k1)
 rw[Zn (by unfold BIG;have:=hb.1;omega),Xa]
 refine We λ _=>⟨q1,q3,?_,?_⟩
 ·have:=WD k2;omega
 ·have:=WD k3;rw[q4] at this;omega
theorem XdK {N:Nat} (hN:NB N) {h:Wo} (hb:HB h) (a i v:Int):Ok (Qce N h a i v) λ r=>HB r.1:=by
 rw[Qce]
 refine WJ (XdJ hN hb a i) λ y ey hy=>?_
 refine Wn (λ _=>We Zv) λ k1=>?_
 have hN':=hN
 unfold NB at hN'
 rw[XaS (by unfold BIG;have:=hb.1;omega) (by omega),Xa]
 refine We ?_
 split
 ·exact ⟨by rw[WE];exact hb.1,hb.2⟩
 ·exact ⟨by simp,hb.2⟩
theorem XgD {N:Nat} (hN:NB N) {h:Wo} (hb:HB h) (a:Int):Ok (QdI N h a) λ r=>r.1.length<=256:=by
 rw[QdI]
 refine WJ (XaV hN hb a) λ y ey hy=>?_
 refine Wn (λ _=>We (by simp)) λ k1=>?_
 obtain ⟨q1,q2,q3,q4,q5⟩:=hy (by simpa using k1)
 have hsz:=ZA h.Words a
 have hlen:y.1.Length=szA h.Words a-1:=by rw[q4];unfold szA;omega
 obtain ⟨k,hk⟩:=U5 (a:=y.1.Length) (by omega)
 rw[hk,Xaj (by unfold BIG;have:=hb.1;omega) N _ k (by omega),Xa]
 refine We ?_
 split
 ·simp only[Wz];omega
 ·simp
theorem Xfx {N:Nat} (hN:NB N) {h:Wo} (hb:HB h) (a:Int) (hd:Ww):Ok (QeL N h a hd) λ r=>HB r.1:=by
 have hN':=hN
 unfold NB at hN'
 rw[QeL,XcG,Xa]
 refine WJ (Yo (N:=N) (by omega) hb.1 hb.2) λ b eb hp=>?_
 refine Wn (λ _=>We Zv) λ _=>?_
 refine Wn (λ _=>We Zv) λ k1=>?_
 have hv:XL hd=true:=by
  cases hv:XL hd with
  | true=>rfl
  | false=>rw[hv] at k1;cases k1
 have hb2:=XS hv
 refine W4 (by omega) (W4 (by omega) ?_)
 rw[Wm hv,Vk (by unfold BIG;have:=hb.1;omega) (by unfold BIG;simp;omega) (by simp;omega),Xa]
 split
 ·rename_i hin
  refine Wn (λ e=>by cases e) λ _=>We ⟨?_,hb.2⟩
  have hb1:=hb.1
  rw[Z7]
  ·exact hb1
  ·unfold Yu at hin;unfold ix;omega
 ·exact Wn (λ _=>We Zv) λ e=>by cases e
end Go.Sx
namespace Go.Sx
theorem Xir (N:Nat) (l:List Int) (v:Int) (hl:l.length<=1000000000):∀ (n k:Nat),k<=l.length->l.length-k<n->Qer N l v n (k:Int)=some (if (l.drop k).contains v then .ret true else .nxt ())
 | 0,k,_,h=>by omega
 | n+1,k,hk,hn=>by
  rw[Qer]
  by_cases h:k<l.length
  ·have e1:decide ((k:Int)<((l.length:Nat):Int))=true:=Wi (by omega)
   rw[e1,Wc,Xd,Wd h,Xa,Xc (by omega) (by omega)]
   rw[show ((k:Int)+1)=((k+1:Nat):Int) by omega,Xir N l v hl n (k+1) (by omega) (by omega)]
   rw[Ws h,List.contains_cons]
   by_cases h2:l[k]=v
   ·subst h2;simp
   ·rw[show (l[k]==v)=false by simpa using h2,Wa,show (v==l[k])=false by simpa using λ e=>h2 e.symm,Il]
  ·have e1:decide ((k:Int)<((l.length:Nat):Int))=false:=Wj (by omega)
   rw[e1,Wa,WK (by omega)]
   simp
theorem Y8 {N:Nat} {l:List Int} (v:Int) (hl:l.length<=1000000000) (hN:l.length<N):Qb8 N l v=some (l.contains v):=by
 have h:=Xir N l v hl N 0 (by omega) (by omega)
 rw[show ((0:Nat):Int)=0 from rfl,WU] at h
 rw[Qb8,h,Xa]
 cases l.contains v
 ·simp[Xq]
 ·simp[Xz]
structure Od (N:Nat) (h:Wo) (l:List Int):Prop where
 at_:∀ a∈l,IQ h a
 ev:∀ a∈l,Qau N h a=some (hdA h.Words a,0)
 pw:l.Pairwise λ a b=>a+szA h.Words a<=b
def XeQ (h:Wo) (i:Int) (l:List Int):Prop:=∀ a∈l,Xj h.Conf i 0<=a/\pgi h.Conf a=i
theorem XbT {c:WX} {i o p:Int} (h:o<=p):Xj c i o<=Xj c i p:=by unfold Xj;omega
theorem XdL {c:WX} (hc:X1 c=true) {p o:Int} (h0:0<=o) (h1:o<c.PageWords):pgi c (Xj c p o)=p/\pgo c (Xj c p o)=o:=XkB hc h0 h1
theorem Jg {c:WX} (hc:X1 c=true) {a:Int} (h:4096<=a/\a<4096+c.Pages*c.PageWords):a=Xj c (pgi c a) (pgo c a)/\0<=pgi c a/\pgi c a<c.Pages/\0<=pgo c a/\pgo c a<c.PageWords:=by
 have:=XcH hc h.1 h.2
 exact ⟨this.2.2.2.2,this.1,this.2.1,this.2.2.1,this.2.2.2.1⟩
def Xoo (N:Nat) (h:Wo) (i o:Int) (l:List Int):Prop:=Od N h l/\XeQ h i l/\(∀ a∈l,a+szA h.Words a<=Xj h.Conf i o)/\(l.length:Int)<=o
theorem Od.snoc {N:Nat} {h:Wo} {l:List Int} {a:Int} (hl:Od N h l) (ha:IQ h a) (hev:Qau N h a=some (hdA h.Words a,0)) (hle:∀ b∈l,b+szA h.Words b<=a):Od N h (l++[a]):=by
 refine ⟨λ x hx=>?_,λ x hx=>?_,?_⟩
 ·rcases WG.1 hx with hx | hx
  ·exact hl.at_ x hx
  ·have:x=a:=by simpa using hx
   subst this;exact ha
 ·rcases WG.1 hx with hx | hx
  ·exact hl.ev x hx
  ·have:x=a:=by simpa using hx
   subst this;exact hev
 ·rw[II]
  refine ⟨hl.pw,by simp,λ b hb c hc=>?_⟩
  have:c=a:=by simpa using hc
  subst this;exact hle b hb
def PageL (N:Nat) (h:Wo) (i:Int) (l:List Int):Prop:=Od N h l/\XeQ h i l/\(l.length:Int)<=64
def Xm7 (N:Nat) (h:Wo) (i:Int):Ex (List Int×Int) (List Int)->Prop
 | .ret r=>r=([],19)
 | .nxt l=>PageL N h i l
theorem QkC {N:Nat} (hN:NB N) {h:Wo} (hb:HB h) (hp:UK h) {i:Int} (h0:0<=i) (h1:i<h.Pages.length) (hk:(pg h.Pages i).Kind=1\/(pg h.Pages i).Kind=2):∀ (n:Nat) (o:Int) (l:List Int),0<=o->(65-o).toNat<n->Xoo N h i o l->((pg h.Pages i).Kind=1->o<=(pg h.Pages i).Used)->((pg h.Pages i).Kind=2->o=0) ->
 Ok (QaU N h i (pg h.Pages i) n o l) (Xm7 N h i)
 | 0,o,l,_,hn,hu,k1,k2=>by
  have hv:=Xk.1 hp.conf
  have ho:=(hp.pgs i h0 h1).small
  rcases hk with hk | hk
  ·have:=k1 hk;have:=ho hk;omega
  ·have:=k2 hk;omega
 | n+1,o,l,ho0,hn,hu,k1,k2=>by
  have hv:=Xk.1 hp.conf
  have hsm:=(hp.pgs i h0 h1).small
  have hpl:=hp.pages
  have hle64:(l.length:Int)<=64:=by
   have:=hu.2.2.2
   rcases hk with hk | hk
   ·have:=k1 hk;have:=hsm hk;omega
   ·have:=k2 hk;omega
  rw[QaU]
  refine Wn (λ hlt=>?_) λ _=>We ⟨hu.1,hu.2.1,hle64⟩
  have hlt:o<(pg h.Pages i).Used:=Wu hlt
  have hopw:o<h.Conf.PageWords:=by
   rcases hk with hk | hk
   ·have:=hsm hk;omega
   ·have:=k2 hk;omega
  rw[Jy,hp.conf,Xa,Wk (by simp),Wm (by omega)]
  dsimp only
  refine WJ (XbS hN hb (Xj h.Conf i o)) λ y ey hy=>?_
  refine Wn (λ _=>We rfl) λ hy0=>?_
  obtain ⟨_,_,hat,hhd⟩:=hy (by simpa using hy0)
  have hpi:=XdL hp.conf (p:=i) ho0 hopw
  have hsz:=ZA h.Words (Xj h.Conf i o)
  have hev:Qau N h (Xj h.Conf i o)=some (hdA h.Words (Xj h.Conf i o),0):=by
   rw[ey];congr 1;exact Prod.ext hhd (by simpa using hy0)
  have hobj:Od N h (l++[Xj h.Conf i o]):=hu.1.snoc hat hev hu.2.2.1
  have hon:XeQ h i (l++[Xj h.Conf i o]):=by
   intro x hx
   rcases WG.1 hx with hx | hx
   ·exact hu.2.1 x hx
   ·have:x=Xj h.Conf i o:=by simpa using hx
    subst this;exact ⟨XbT ho0,hpi.1⟩
  have hlen1:((l++[Xj h.Conf i o]).length:Int)=l.length+1:=by simp
  have hlo:=hu.2.2.2
  refine W4 (by omega) (Wn (λ kk=>We ⟨hobj,hon,by have:=k2 (by simpa using kk);omega⟩) λ kk=>?_)
  have kk:(pg h.Pages i).Kind=1:=by
   rcases hk with hk | hk
   ·exact hk
   ·rw[hk] at kk;cases kk
  rw[hhd,YK,Xa]
  rw[hsz.1]
  have hs:=hat.small (by rw[hpi.1];exact kk)
  rw[hpi.1,hpi.2] at hs
  have:=hsm kk
  rw[Xc (by omega) (by omega)]
  refine QkC hN hb hp h0 h1 hk n _ _ (by omega) (by omega) ⟨hobj,hon,λ x hx=>?_,by omega⟩ (λ _=>by omega) (λ e=>by rw[kk] at e;cases e)
  rcases WG.1 hx with hx | hx
  ·have:=hu.2.2.1 x hx
   have:=XbT (c:=h.Conf) (i:=i) (o:=o) (p:=o+szA h.Words (Xj h.Conf i o)) (by omega)
   omega
  ·have:x=Xj h.Conf i o:=by simpa using hx
   subst this
   unfold Xj;omega
theorem PageL.nil (N:Nat) (h:Wo) (i:Int):PageL N h i []:=⟨⟨by simp,by simp,by simp⟩,λ a ha=>by simp at ha,by simp⟩
theorem QkD {N:Nat} (hN:NB N) {h:Wo} (hb:HB h) (i:Int):Ok (Qar N h i) λ r=>(r.2≠0->r.1=[])/\r.1.length<=64/\(UK h->PageL N h i r.1):=by
 have hN':=hN
 unfold NB at hN'
 rw[Qar]
 refine WJ (Yo (N:=N) (by omega) hb.1 hb.2) λ b eb hp=>?_
 refine Wn (λ _=>We ⟨λ _=>rfl,by simp,λ _=>PageL.nil N h i⟩) λ hb1=>?_
 have hp:=hp (by simpa using hb1)
 refine Wn (λ _=>We ⟨λ _=>rfl,by simp,λ _=>PageL.nil N h i⟩) λ h0=>?_
 refine Wn (λ _=>We ⟨λ _=>rfl,by simp,λ _=>PageL.nil N h i⟩) λ h1=>?_
 have h0:0<=i:=by have:=WD h0;omega
 have h1:i<h.Pages.length:=by have:=WD h1;omega
 refine Ok.get h0 h1 λ p hpp=>?_
 have hpg:=X5 hpp
 subst hpg
 refine Wn (λ _=>We ⟨λ _=>rfl,by simp,λ _=>PageL.nil N h i⟩) λ k0=>?_
 refine Wn (λ _=>We ⟨λ _=>rfl,by simp,λ _=>PageL.nil N h i⟩) λ k3=>?_
 have hkk:=(hp.pgs i h0 h1).kind
 have k0:¬ (pg h.Pages i).Kind=0:=by simpa using k0
 have k3:¬ (pg h.Pages i).Kind=3:=by simpa using k3
 refine IG (QkC hN hb hp h0 h1 (by omega) N 0 [] (by omega) (by omega) ⟨⟨by simp,by simp,by simp⟩,λ a ha=>by simp at ha,by simp,by simp⟩ (λ k=>((hp.pgs i h0 h1).small k).1) (λ _=>rfl)) (λ a q=>?_) λ l q=>?_
 ·have:a=([],19):=q
  subst this
  exact We ⟨λ _=>rfl,by simp,λ _=>PageL.nil N h i⟩
 ·have q:PageL N h i l:=q
  exact We ⟨λ e=>absurd rfl e,by have:=q.2.2;dsimp only;omega,λ _=>q⟩
theorem XkD {c:WX} (hc:X1 c=true) {w:Int} (h:1<=XX c w):w<=XX c w*c.PageWords:=by
 unfold XX at h ⊢
 by_cases h0:X1 c=true/\1<=w
 ·rw[Wm h0] at h ⊢
  by_cases h1:w<=c.PageWords / 4
  ·rw[Wm h1] at h;omega
  rw[Wk h1] at h ⊢
  by_cases h2:c.PageWords>=w
  ·rw[Wm h2];omega
  rw[Wk h2] at h ⊢
  by_cases h3:2*c.PageWords>=w
  ·rw[Wm h3];omega
  rw[Wk h3] at h ⊢
  by_cases h4:3*c.PageWords>=w
  ·rw[Wm h4];omega
  rw[Wk h4] at h ⊢
  by_cases h5:4*c.PageWords>=w
  ·rw[Wm h5];omega
  rw[Wk h5] at h;omega
 ·rw[Wk h0] at h;omega
theorem XcI {h:Wo} (hp:UK h) {a:Int} (ha:IQ h a):∃ k,1<=k/\pgi h.Conf a+k<=h.Conf.Pages/\a+szA h.Words a<=Xj h.Conf (pgi h.Conf a+k) 0/\∀ m,1<=m->m<k->(pg h.Pages (pgi h.Conf a+m)).Kind=3:=by
 have hv:=Xk.1 hp.conf
 obtain ⟨e,q0,q1,q2,q3⟩:=Jg hp.conf ha.rng
 have hpl:=hp.pages
 rcases ha.kind with hk | hk
 ·have hs:=ha.small hk
  have:=(hp.pgs _ q0 (by omega)).small hk
  refine ⟨1,by omega,by omega,?_,λ m h1 h2=>by omega⟩
  have e2:Xj h.Conf (pgi h.Conf a+1) 0=4096+pgi h.Conf a*h.Conf.PageWords+h.Conf.PageWords:=by unfold Xj;rw[IK];omega
  rw[e2]
  have e3:a=4096+pgi h.Conf a*h.Conf.PageWords+pgo h.Conf a:=e
  omega
 ·obtain ⟨z1,z2⟩:=ha.large hk
  obtain ⟨l1,l2⟩:=(hp.pgs _ q0 (by omega)).large hk
  have hle:=XkD hp.conf l1
  refine ⟨_,l1,?_,?_,λ m h1 h2=>(l2 m h1 h2).2⟩
  ·by_cases h1:XX h.Conf (pg h.Pages (pgi h.Conf a)).Used=1
   ·omega
   ·have:=(l2 (XX h.Conf (pg h.Pages (pgi h.Conf a)).Used-1) (by omega) (by omega)).1
    omega
  ·have e3:a=4096+pgi h.Conf a*h.Conf.PageWords+pgo h.Conf a:=e
   unfold Xj
   rw[IK]
   omega
theorem XcJ {h:Wo} (hp:UK h) {a:Int} (ha:IQ h a):a+szA h.Words a<=4096+h.Words.length:=by
 obtain ⟨k,h1,h2,h3,_⟩:=XcI hp ha
 have hv:=Xk.1 hp.conf
 have:=hp.words
 have hm:(pgi h.Conf a+k)*h.Conf.PageWords<=h.Conf.Pages*h.Conf.PageWords:=UH h2 (by omega)
 unfold Xj at h3
 omega
theorem XgE {h:Wo} (hp:UK h) {a b:Int} (ha:IQ h a) (hb:IQ h b) (hlt:pgi h.Conf a<pgi h.Conf b):a+szA h.Words a<=b:=by
 obtain ⟨k,h1,h2,h3,h4⟩:=XcI hp ha
 have hv:=Xk.1 hp.conf
 obtain ⟨e,q0,q1,q2,q3⟩:=Jg hp.conf hb.rng
 have hge:pgi h.Conf a+k<=pgi h.Conf b:=by
  rcases (by omega:pgi h.Conf b<pgi h.Conf a+k\/pgi h.Conf a+k<=pgi h.Conf b) with hc | hc
  ·have:=h4 (pgi h.Conf b-pgi h.Conf a) (by omega) (by omega)
   rw[show pgi h.Conf a+(pgi h.Conf b-pgi h.Conf a)=pgi h.Conf b by omega] at this
   rcases hb.kind with hk | hk<;>omega
  ·exact hc
 have hm:(pgi h.Conf a+k)*h.Conf.PageWords<=pgi h.Conf b*h.Conf.PageWords:=UH hge (by omega)
 unfold Xj at h3 e
 omega
end Go.Sx
namespace Go.Sx
theorem Qha {N:Nat} (hN:NB N) {h:Wo} (hb:HB h) (hp:UK h) (i:Int) (h0:0<=i) (h1:i<h.Pages.length):Ok (Qar N h i) λ r=>PageL N h i r.1/\r.1.length<=64:=(QkD hN hb i).mono λ r hr=>⟨hr.2.2 hp,hr.2.1⟩
structure IT (N:Nat) (h:Wo) (l:List Int):Prop where
 obj:Od N h l
 page:∀ a∈l,∃ r,Qar N h (pgi h.Conf a)=some r/\a∈r.1
 len:l.length<=4096
theorem IT.nil (N:Nat) (h:Wo):IT N h []:=⟨⟨by simp,by simp,by simp⟩,by simp,by simp⟩
theorem XbU {N:Nat} (hN:NB N) {h:Wo} (hb:HB h) (hp:UK h):∀ (n:Nat) (i:Int) (l:List Int),0<=i->i<=h.Pages.length->(h.Pages.length-i).toNat<n->Od N h l->(∀ a∈l,∃ r,Qar N h (pgi h.Conf a)=some r/\a∈r.1)->(∀ a∈l,pgi h.Conf a<i)->(l.length:Int)<=64*i ->
 Ok (QaP N h n i l) λ e=>match e with | .ret r=>r.1=[]/\r.2≠0 | .nxt l=>IT N h l
 | 0,i,l,_,_,hn,_,_,_,_=>by omega
 | n+1,i,l,h0,hi,hn,hl,hpp,hlt,hlen=>by
  have hv:=Xk.1 hp.conf
  have hpl:=hp.pages
  rw[QaP]
  refine Wn (λ hc=>?_) λ _=>We ⟨hl,hpp,by omega⟩
  have hc:i<h.Pages.length:=Wu hc
  refine WJ (Qha hN hb hp i h0 hc) λ y ey hy=>?_
  refine Wn (λ hk=>We ⟨rfl,by simpa using hk⟩) λ hk=>?_
  have hy2:=hy.2
  refine W4 (by omega) ?_
  rw[Xc (by omega) (by omega)]
  have hon:∀ a∈y.1,pgi h.Conf a=i:=λ a ha=>(hy.1.2.1 a ha).2
  refine XbU hN hb hp n (i+1) _ (by omega) (by omega) (by omega) ⟨λ a ha=>?_,λ a ha=>?_,?_⟩ (λ a ha=>?_) (λ a ha=>?_) (by rw[Wr];omega)
  ·rcases WG.1 ha with ha | ha
   ·exact hl.at_ a ha
   ·exact hy.1.1.at_ a ha
  ·rcases WG.1 ha with ha | ha
   ·exact hl.ev a ha
   ·exact hy.1.1.ev a ha
  ·rw[II]
   refine ⟨hl.pw,hy.1.1.pw,λ a ha b hb'=>?_⟩
   exact XgE hp (hl.at_ a ha) (hy.1.1.at_ b hb') (by rw[hon b hb'];exact hlt a ha)
  ·rcases WG.1 ha with ha | ha
   ·exact hpp a ha
   ·exact ⟨y,by rw[hon a ha];exact ey,ha⟩
  ·rcases WG.1 ha with ha | ha
   ·have:=hlt a ha;omega
   ·have:=hon a ha;omega
theorem VM {N:Nat} (hN:NB N) {h:Wo} (hb:HB h):Ok (Qcp N h) λ r=>IT N h r.1/\(r.2=0->UK h)/\(r.2≠0->r.1=[]):=by
 have hN':=hN
 unfold NB at hN'
 rw[Qcp]
 refine WJ (Yo (N:=N) (by omega) hb.1 hb.2) λ b eb hp=>?_
 refine Wn (λ _=>We ⟨IT.nil N h,λ e=>(by cases e),λ _=>rfl⟩) λ hb1=>?_
 have hp:=hp (by simpa using hb1)
 have hbb:=hb.2
 refine IG (XbU hN hb hp N 0 [] (by omega) (by omega) (by omega) ⟨by simp,by simp,by simp⟩ (by simp) (by simp) (by simp)) (λ a q=>?_) λ l q=>We ⟨q,λ _=>hp,λ e=>absurd rfl e⟩
 refine We ⟨?_,λ e=>absurd e q.2,λ _=>q.1⟩
 rw[q.1];exact IT.nil N h
theorem IT.sub {N:Nat} {h:Wo} {l l':List Int} (hs:IT N h l) (h':l'.Sublist l):IT N h l' :=
 ⟨⟨λ a ha=>hs.obj.at_ a (h'.subset ha),λ a ha=>hs.obj.ev a (h'.subset ha),hs.obj.pw.sublist h'⟩,λ a ha=>hs.page a (h'.subset ha),UP h'.length_le hs.len⟩
theorem JX {N:Nat} (hN:NB N) {h:Wo} (hb:HB h) (y:List Int×Int) (hy:y.1.length<=4096):∀ (n k:Nat) (l:List Int),k<=y.1.length->y.1.length-k<n->l.Sublist (y.1.take k)->Ok (Qaz N h y n (k:Int) l) λ o=>o.Sublist y.1
 | 0,k,l,_,hn,_=>by omega
 | n+1,k,l,hk,hn,hs=>by
  rw[Qaz]
  have hlen:l.length<=4096:=UP hs.length_le (by rw[Wz];omega)
  refine Wn (λ hc=>?_) λ _=>We (hs.trans (List.take_sublist _ _))
  have hc:(k:Int)<y.1.length:=Wu hc
  have hkl:k<y.1.length:=by omega
  refine Ok.get (by omega) hc λ p hp=>?_
  refine WJ (XbS hN hb p) λ z ez hz=>?_
  have e1:wI ((k:Int)+1)=((k+1:Nat):Int):=by rw[Xc (by omega) (by omega)];omega
  rw[e1]
  refine Wn (λ _=>?_) λ _=>JX hN hb y hy n (k+1) l (by omega) (by omega) (hs.trans (List.take_sublist_take_left (by omega)))
  refine Ok.get (by omega) hc λ p' hp'=>W4 (by omega) (JX hN hb y hy n (k+1) _ (by omega) (by omega) ?_)
  have hpe:p'=y.1[k]:=by
   rw[Xd,Wd hkl] at hp'
   exact (WO hp').symm
  rw[List.take_succ_eq_append_getElem hkl,hpe]
  exact hs.append (List.Sublist.refl _)
theorem ZB {N:Nat} (hN:NB N) {h:Wo} (hb:HB h):Ok (Qas N h) λ r=>IT N h r.1/\(r.2=0->UK h)/\(r.1≠[]->UK h):=by
 rw[Qas]
 refine WJ (VM hN hb) λ y ey hy=>?_
 have hN':=hN
 unfold NB at hN'
 have hl:=hy.1.len
 have:=JX hN hb y hl N 0 [] (by omega) (by omega) (by simp)
 rw[show ((0:Nat):Int)=0 from rfl] at this
 refine WJ this λ o eo ho=>We ⟨hy.1.sub ho,hy.2.1,λ hne=>?_⟩
 by_cases h2:y.2=0
 ·exact hy.2.1 h2
 ·rw[hy.2.2 h2] at ho
  exact absurd (List.sublist_nil.1 ho) hne
theorem V7 {N:Nat} (hN:NB N) {h:Wo} (hb:HB h) (a:Int):Ok (QdF N h a) λ b=>b=true->UK h/\IQ h a:=by
 rw[QdF]
 have hN':=hN
 unfold NB at hN'
 refine WJ (ZB hN hb) λ y ey hy=>?_
 have hl:=hy.1.len
 rw[Y8 a (by omega) (by omega),Xa]
 refine We λ e=>?_
 have hm:a∈y.1:=by simpa using e
 exact ⟨hy.2.2 (List.ne_nil_of_mem hm),hy.1.obj.at_ a hm⟩
theorem XkE {N:Nat} {h:Wo} (hb:HB h) (i o:Int):Ok (QeC N h i o) λ _=>True:=by
 rw[QeC,Qf4,Jy,Xa,Zn (by unfold BIG;have:=hb.1;omega),Xa,Xa]
 exact We trivial
end Go.Sx
namespace Go.Sx
def XaW (h:Wo) (i:Int) (l:List Int):Prop:=(pg h.Pages i).Kind=1->∀ a∈l,szA h.Words a<=smC h.Conf
theorem XdM {N:Nat} (hN:NB N) {h:Wo} (hb:HB h) {i:Int} (h0:0<=i) (h1:i<h.Pages.length) (l:List Int) (hl:l.length<=4096) (hev:∀ a∈l,Qau N h a=some (hdA h.Words a,0)/\a≠0):∀ (n k:Nat),k<=l.length->l.length-k<n ->
 Ok (QaV N h i l n (k:Int)) λ e=>match e with | .ret r=>r≠0 | .nxt _=>(pg h.Pages i).Kind=1->∀ a∈l.drop k,szA h.Words a<=smC h.Conf
 | 0,k,_,hn=>by omega
 | n+1,k,hk,hn=>by
  rw[QaV]
  refine Wn (λ hc=>?_) λ hc=>We ?_
  rotate_left
  ·have hc:=WD hc
   rw[WK (by omega)]
   simp
  have hc:(k:Int)<l.length:=Wu hc
  have hkl:k<l.length:=by omega
  refine Ok.get (by omega) hc λ p hp=>?_
  have hpe:p=l[k]:=by
   rw[Xd,Wd hkl] at hp
   exact (WO hp).symm
  have hpm:p∈l:=Yh hp
  rw[(hev p hpm).1,Xa]
  dsimp only
  rw[YK,Xa,Xfu,Xa,(ZA h.Words p).1]
  have e1:wI ((k:Int)+1)=((k+1:Nat):Int):=by rw[Xc (by omega) (by omega)];omega
  rw[e1]
  have ret:∀ p',Xb l (k:Int)=some p'->p'≠0:=λ p' hp'=>(hev p' (Yh hp')).2
  have next:((pg h.Pages i).Kind=1->szA h.Words p<=smC h.Conf)->Ok (QaV N h i l n ((k+1:Nat):Int)) λ e=>match e with | .ret r=>r≠0 | .nxt _=>(pg h.Pages i).Kind=1->∀ a∈l.drop k,szA h.Words a<=smC h.Conf:=by
   intro hs
   refine (XdM hN hb h0 h1 l hl hev n (k+1) (by omega) (by omega)).mono λ e he=>?_
   cases e with
   | ret r=>exact he
   | nxt _ =>
    intro hk1 a ha
    rw[Ws hkl] at ha
    rcases UN.1 ha with rfl | ha
    ·rw[← hpe];exact hs hk1
    ·exact he hk1 a ha
  refine Ok.get h0 h1 λ q hq=>?_
  have hqg:=X5 hq
  refine Wn (λ k1=>?_) λ k1=>?_
  ·refine Wn (λ _=>Ok.get (by omega) hc λ p' hp'=>We (ret p' hp')) λ k2=>?_
   have hs:szA h.Words p<=smC h.Conf:=by simpa using k2
   refine Ok.get h0 h1 λ q2 hq2=>Wn (λ _=>Wn (λ _=>Ok.get (by omega) hc λ p' hp'=>We (ret p' hp')) λ _=>next λ _=>hs) λ _=>next λ _=>hs
  ·have hs:(pg h.Pages i).Kind=1->szA h.Words p<=smC h.Conf:=by
    intro e;rw[hqg] at e;rw[e] at k1;cases k1
   refine Ok.get h0 h1 λ q2 hq2=>Wn (λ _=>Wn (λ _=>Ok.get (by omega) hc λ p' hp'=>We (ret p' hp')) λ _=>next hs) λ _=>next hs
theorem Xis {N:Nat} (hN:NB N) {h:Wo} (hb:HB h) {i:Int} (h0:0<=i) (h1:i<h.Pages.length) {l:List Int} (hl:l.length<=64) (hev:∀ a∈l,Qau N h a=some (hdA h.Words a,0)/\a≠0) :
 Ok (Qdp N h i l) λ r=>r=0->XaW h i l:=by
 rw[Qdp]
 have hN':=hN
 unfold NB at hN'
 have:=XdM hN hb h0 h1 l (by omega) hev N 0 (by omega) (by omega)
 rw[show ((0:Nat):Int)=0 from rfl] at this
 refine IG this (λ a q=>We λ e=>absurd e q) λ _ q=>We λ _=>?_
 rw[WU] at q
 exact q
theorem XcK {N:Nat} {h:Wo} (i:Int) (l:List Int) (k:Int) (hk0:0<=k) (hk:k<l.length) (x:Int) (hx:x<=256):∀ (n:Nat) (w:Int) (u:List Bool),0<=w->(x-w).toNat<n->u.length<=1000->Ok (Qa6 N h i l k x n w u) λ r=>r.length=u.length
 | 0,w,u,_,hn,_=>by omega
 | n+1,w,u,h0,hn,hu=>by
  rw[Qa6]
  refine Wn (λ hc=>?_) λ _=>We rfl
  have hc:w<x:=Wu hc
  refine Ok.get hk0 hk λ p hp=>?_
  rw[Xc (n:=w+1) (by omega) (by omega)]
  have next:=XcK (N:=N) (h:=h) i l k hk0 hk x hx n (w+1) u (by omega) (by omega) hu
  refine Wn (λ h1=>?_) λ _=>next
  refine W4 (by omega) (Wn (λ h2=>?_) λ _=>next)
  refine Ok.get (Wu h1) (Wu h2) λ q hq=>?_
  refine (XcK i l k hk0 hk x hx n (w+1) _ (by omega) (by omega) (by rw[WE];exact hu)).mono λ r hr=>?_
  rw[hr,WE]
theorem Xfy {N:Nat} (hN:NB N) {h:Wo} (hb:HB h) (i:Int) (l:List Int) (hl:l.length<=100000):∀ (n:Nat) (k:Int) (u:List Bool),0<=k->k<=l.length->(l.length-k).toNat<n->u.length<=1000->Ok (Qb3 N h i l n k u) λ r=>r.length=u.length
 | 0,k,u,_,_,hn,_=>by omega
 | n+1,k,u,h0,hk,hn,hu=>by
  rw[Qb3]
  refine Wn (λ hc=>?_) λ _=>We rfl
  have hc:k<l.length:=Wu hc
  have hN':=hN
  unfold NB at hN'
  refine Ok.get h0 hc λ p hp=>WJ (XbS hN hb p) λ y ey hy=>?_
  rw[YK,Xa]
  have hs:=Xil y.1
  have next:∀ x:Int,x<=256->Ok (bnd (Qa6 N h i l k x N 0 u) λ y11=>Qb3 N h i l n (wI (k+1)) y11) λ r=>r.length=u.length:=by
   intro x hx
   refine WJ (XcK i l k h0 hc x hx N 0 u (by omega) (by omega) hu) λ r er hr=>?_
   rw[Xc (n:=k+1) (by omega) (by omega)]
   exact (Xfy hN hb i l hl n (k+1) r (by omega) (by omega) (by omega) (by omega)).mono λ o ho=>by omega
  exact Ip (Wn (λ _=>next 1 (by omega)) λ _=>next _ (by omega))
theorem XcL (N:Nat) {h:Wo} (hf:(pg h.Pages 0).Kind≠3):∀ (n:Nat) (i:Int),0<=i->i<h.Pages.length->h.Pages.length<=100000->i.toNat<n->Ok (QcB N h n i) λ r=>0<=r/\r<h.Pages.length
 | 0,i,_,_,_,hn=>by omega
 | n+1,i,h0,h1,hl,hn=>by
  rw[QcB]
  refine Ok.get h0 h1 λ p hp=>Wn (λ hk=>?_) λ _=>We ⟨h0,h1⟩
  have hk:p.Kind=3:=by simpa using hk
  have:i≠0:=by rintro rfl;exact hf (by rw[X5 hp];exact hk)
  rw[Xc (by omega) (by omega)]
  exact XcL N hf n (i-1) (by omega) (by omega) hl (by omega)
theorem Xfz {N:Nat} {h:Wo} (hb:HB h) (i:Int) (u:List Bool) (hu:u.length<=1000):∀ (n:Nat) (k:Int),0<=k->k<=u.length->(u.length-k).toNat<n->Ok (QbE N h i u n k) λ _=>True
 | 0,k,_,_,hn=>by omega
 | n+1,k,h0,hk,hn=>by
  rw[QbE]
  refine Wn (λ hc=>?_) λ _=>We trivial
  have hc:k<u.length:=Wu hc
  rw[Xc (n:=k+1) (by omega) (by omega)]
  have next:=Xfz (N:=N) hb i u hu n (k+1) (by omega) (by omega) (by omega)
  refine Ok.get h0 hc λ p hp=>Wn (λ _=>WJ (XkE hb i k) λ y _ _=>Wn (λ _=>?_) λ _=>next) λ _=>next
  rw[QeS,Xa]
  exact We trivial
theorem XkF {N:Nat} (hN:NB N) {h:Wo} (hb:HB h) (hp:UK h) {i:Int} (h0:0<=i) (h1:i<h.Pages.length):Ok (Qd1 N h i) λ _=>True:=by
 have hN':=hN
 unfold NB at hN'
 have hbb:=hb.2
 have hv:=Xk.1 hp.conf
 rw[Qd1,Qd0]
 refine WJ (WJ (XcL N hp.first N i h0 h1 hbb (by omega)) λ r _ hr=>We hr) λ r _ hr=>?_
 refine WJ (Qha hN hb hp r hr.1 hr.2) λ y _ hy=>?_
 rw[Qfv]
 refine WJ (Q:=λ r=>r.length<=1000) (W4 (by omega) (WJ (Xfy hN hb i y.1 (by have:=hy.2;omega) N 0 _ (by omega) (by omega) (by have:=hy.2;omega) (by rw[WL];omega)) λ u _ hu=>We ?_)) λ u _ hu=>?_
 ·rw[hu,WL];omega
 ·exact IG (Xfz hb i u hu N 0 (by omega) (by omega) (by omega)) (λ _ _=>We trivial) λ _ _=>We trivial
theorem Xit {N:Nat} (hN:NB N) {h:Wo} (hb:HB h) (hp:UK h) {i:Int} (h0:0<=i) (h1:i<h.Pages.length):Ok (Qd2 N h i) λ f=>f.Fault=0->∀ r,Qar N h i=some r->XaW h i r.1:=by
 rw[Qd2]
 have main:Ok (bnd (Qar N h i) λ y3 =>
  bif (y3.2 != 0) then some (Ud.mk 3 i 0)
  else bnd (Qdp N h i y3.1) λ y4 =>
  bif (y4 != 0) then some (Ud.mk 5 i y4)
  else bnd (Qd1 N h i) λ y5 =>
  bif (y5 != 0) then some (Ud.mk 4 i y5)
  else some (Ud.mk 0 0 0)) λ f=>f.Fault=0->∀ r,Qar N h i=some r->XaW h i r.1:=by
  refine WJ (Qha hN hb hp i h0 h1) λ y ey hy=>?_
  refine Wn (λ _=>We λ e=>by cases e) λ _=>?_
  refine WJ (Xis hN hb h0 h1 hy.2 λ a ha=>⟨hy.1.1.ev a ha,by have:=(hy.1.1.at_ a ha).rng;omega⟩) λ c _ hc=>?_
  refine Wn (λ _=>We λ e=>by cases e) λ hc0=>?_
  refine WJ (XkF hN hb hp h0 h1) λ d _ _=>?_
  refine Wn (λ _=>We λ e=>by cases e) λ _=>We λ _ r hr=>?_
  rw[ey] at hr
  exact WO hr▸hc (by simpa using hc0)
 refine Ip (Ok.get h0 h1 λ p hp=>Wn (λ _=>Ok.get h0 h1 λ p hp=>Wn (λ _=>We λ e=>by cases e) λ _=>main) λ _=>main)
theorem V8 {N:Nat} {h:Wo} (y1 y6:List Int×Int) (h1:y1.1.length<=4096) (h6:y6.1.length<=256) (hN:1000000<N) (v:Int) (hv0:0<=v) (hv:v<y1.1.length) (y4:Ww×Int):∀ (n:Nat) (k:Int),0<=k->k<=y6.1.length->(y6.1.length-k).toNat<n->Ok (Qak N h y1 y6 v y4 n k) λ e=>∀ f,e=.ret f->f.Fault=6
 | 0,k,_,_,hn=>by omega
 | n+1,k,h0,hk,hn=>by
  rw[Qak]
  refine Wn (λ hc=>?_) λ _=>We λ f e=>by cases e
  have hc:k<y6.1.length:=Wu hc
  rw[Xc (n:=k+1) (by omega) (by omega)]
  have next:=V8 (N:=N) (h:=h) y1 y6 h1 h6 hN v hv0 hv y4 n (k+1) (by omega) (by omega) (by omega)
  rw[Jv,Xa]
  refine Wn (λ _=>Ok.get h0 hc λ p hp=>Wn (λ _=>Ok.get h0 hc λ p hp=>?_) λ _=>next) λ _=>next
  rw[Y8 p (by omega) (by omega),Xa]
  refine Wn (λ _=>Ok.get hv0 hv λ q hq=>?_) λ _=>next
  rw[Vm,Xa]
  exact We λ f e=>by cases e;rfl
theorem V9 {N:Nat} (hN:NB N) {h:Wo} (hb:HB h) (y1:List Int×Int) (h1:y1.1.length<=4096):∀ (n:Nat) (k:Int),0<=k->k<=y1.1.length->(y1.1.length-k).toNat<n->Ok (Qa3 N h y1 n k) λ e=>∀ f,e=.ret f->f.Fault=6
 | 0,k,_,_,hn=>by omega
 | n+1,k,h0,hk,hn=>by
  have hN':=hN
  unfold NB at hN'
  rw[Qa3]
  refine Wn (λ hc=>?_) λ _=>We λ f e=>by cases e
  have hc:k<y1.1.length:=Wu hc
  rw[Xc (n:=k+1) (by omega) (by omega)]
  refine Ok.get h0 hc λ p hp=>WJ (XaV hN hb p) λ y4 _ _=>Ok.get h0 hc λ p hp=>WJ (XgD hN hb p) λ y6 _ h6=>?_
  refine IG (V8 y1 y6 h1 h6 (by omega) k h0 hc y4 N 0 (by omega) (by omega) (by omega)) (λ a q=>We λ f e=>?_) λ _ _=>V9 hN hb y1 h1 n (k+1) (by omega) (by omega) (by omega)
  cases e;exact q a rfl
theorem XdN {N:Nat} (hN:NB N) {h:Wo} (hb:HB h):Ok (QcN N h) λ _=>True:=by
 have hN':=hN
 unfold NB at hN'
 rw[QcN]
 refine WJ (ZB hN hb) λ y _ hy=>?_
 have:=hy.1.len
 exact IG (V9 hN hb y hy.1.len N 0 (by omega) (by omega) (by omega)) (λ _ _=>We trivial) λ _ _=>We trivial
theorem XdO {N:Nat} (hN:NB N) {h:Wo} (hb:HB h) (hp:UK h):∀ (n:Nat) (i:Int),0<=i->i<=h.Pages.length->(h.Pages.length-i).toNat<n->Ok (Qba N h n i) λ e=>match e with | .ret f=>f.Fault≠0 | .nxt _=>∀ j,i<=j->j<h.Pages.length->∀ r,Qar N h j=some r->XaW h j r.1
 | 0,i,_,_,hn=>by omega
 | n+1,i,h0,hi,hn=>by
  have hbb:=hb.2
  rw[Qba]
  refine Wn (λ hc=>?_) λ hc=>We λ j h1 h2=>?_
  rotate_left
  ·have:=WD hc;omega
  have hc:i<h.Pages.length:=Wu hc
  refine WJ (Xit hN hb hp h0 hc) λ f _ hf=>Wn (λ hk=>We (by simpa using hk)) λ hk=>?_
  rw[Xc (by omega) (by omega)]
  refine (XdO hN hb hp n (i+1) (by omega) (by omega) (by omega)).mono λ e he=>?_
  cases e with
  | ret f=>exact he
  | nxt _ =>
   intro j h1 h2
   by_cases hj:j=i
   ·subst hj;exact hf (by simpa using hk)
   ·exact he j (by omega) h2
theorem XdP {N:Nat} {h:Wo} (hl:h.Pages.length<=100000):∀ (n:Nat) (c i:Int),0<=i->i<=h.Pages.length->(h.Pages.length-i).toNat<n->Ok (Qbb N h n c i) λ _=>True
 | 0,c,i,_,_,hn=>by omega
 | n+1,c,i,h0,hi,hn=>by
  rw[Qbb]
  refine Wn (λ hc=>?_) λ _=>We trivial
  have hc:i<h.Pages.length:=Wu hc
  rw[Xc (n:=i+1) (by omega) (by omega)]
  have next:=λ c'=>XdP (N:=N) hl n c' (i+1) (by omega) (by omega) (by omega)
  exact Ok.get h0 hc λ p hp=>Wn (λ _=>Ok.get h0 hc λ p hp=>Wn (λ _=>next _) λ _=>next _) λ _=>next _
structure Oc (N:Nat) (h:Wo):Prop where
 prop:UK h
 small:∀ j:Int,0<=j->j<h.Pages.length->∀ r,Qar N h j=some r->XaW h j r.1
theorem KU {N:Nat} (hN:NB N) {h:Wo} (hb:HB h):Ok (Qb4 N h) λ b=>b=true->Oc N h:=by
 have hN':=hN
 unfold NB at hN'
 have hbb:=hb.2
 rw[Qb4,QfK]
 refine WJ (Q:=λ f=>f.Fault=0->Oc N h) (WJ (Yo (N:=N) (by omega) hb.1 hb.2) λ b eb hp=>Wn (λ _=>We λ e=>by cases e) λ hb1=>?_) λ f _ hf=>We λ e=>?_
 ·have hp:=hp (by simpa using hb1)
  refine IG (XdO hN hb hp N 0 (by omega) (by omega) (by omega)) (λ a q=>We λ e=>absurd e q) λ _ q=>?_
  have hg:Oc N h:=⟨hp,q⟩
  refine WJ (XdN hN hb) λ f _ _=>Wn (λ _=>We λ _=>hg) λ _=>?_
  exact WJ (XdP hbb N 0 0 (by omega) (by omega) (by omega)) λ c _ _=>Wn (λ _=>We λ _=>hg) λ _=>We λ _=>hg
 ·simp only[WC,beq_iff_eq] at e
  exact hf e.1
theorem Oc.sz {N:Nat} {h:Wo} (hg:Oc N h) {l:List Int} (hl:IT N h l) {a:Int} (ha:a∈l) (hk:(pg h.Pages (pgi h.Conf a)).Kind=1):szA h.Words a<=h.Conf.PageWords / 4:=by
 obtain ⟨r,hr,hm⟩:=hl.page a ha
 have hat:=hl.obj.at_ a ha
 obtain ⟨_,q0,q1,_⟩:=Jg hg.prop.conf hat.rng
 have:=hg.small _ q0 (by have:=hg.prop.pages;omega) r hr hk a hm
 unfold smC at this
 rwa[Wm hg.prop.conf] at this
theorem XbV {N:Nat} (l:List Int) (hl:l.length<=100000000) (y:List Int×Int) (hy:y.1.length<=4096) (hN:1000000<N):∀ (n:Nat) (k:Int),0<=k->k<=l.length->(l.length-k).toNat<n->Ok (Qap N l y n k) λ _=>True
 | 0,k,_,_,hn=>by omega
 | n+1,k,h0,hk,hn=>by
  rw[Qap]
  refine Wn (λ hc=>?_) λ _=>We trivial
  have hc:k<l.length:=Wu hc
  rw[Xc (n:=k+1) (by omega) (by omega)]
  have next:=XbV (N:=N) l hl y hy hN n (k+1) (by omega) (by omega) (by omega)
  refine Ok.get h0 hc λ p hp=>Wn (λ _=>Ok.get h0 hc λ p hp=>?_) λ _=>next
  rw[Y8 p (by omega) (by omega),Xa]
  exact Wn (λ _=>We trivial) λ _=>next
theorem VN {N:Nat} (hN:NB N) {h:Wo} (hb:HB h) {l:List Int} (hl:l.length<=1000000):Ok (Qbv N h l) λ b=>b=true->Oc N h:=by
 have hN':=hN
 unfold NB at hN'
 rw[Qbv]
 refine WJ (KU hN hb) λ b _ hb1=>Wn (λ _=>We λ e=>by cases e) λ hb2=>?_
 have hg:=hb1 (by simpa using hb2)
 refine WJ (ZB hN hb) λ y _ hy=>?_
 exact IG (XbV l (by omega) y hy.1.len (by omega) N 0 (by omega) (by omega) (by omega)) (λ _ _=>We λ _=>hg) λ _ _=>We λ _=>hg
end Go.Sx
namespace Go.Sx
theorem Xiu (d:Ww):Xbz d % 4=1:=by
 have e:Kq .u64 (wU d.Map) 16=wU (wU d.Map*65536):=rfl
 unfold Xbz
 rw[e]
 simp only[XbO]
 omega
theorem XkG (ws:List Int) (a:Int) (h:wd ws a % 4=2):szA ws a=1:=by
 have:okH (wd ws a)=false:=by
  unfold okH
  have h1:=Xiu (JU (wd ws a))
  have:(Xbz (JU (wd ws a))==wd ws a)=false:=by
   rw[Ix]
   intro e
   rw[e] at h1
   omega
  rw[this,IW]
 unfold szA hdA ZF
 rw[this]
 rfl
structure I9 (h0:Wo) (l:List Int) (w:WV) (O:Int->Prop) (s:Int->Int):Prop where
 old:∀ a∈l,O a/\s a=szA h0.Words a
 queue:∀ a∈w.Queue,O a
 fit:∀ a,O a->4096<=a/\1<=s a/\a+s a<=4096+w.Heap.Words.length/\szA w.Heap.Words a<=s a
 apart:∀ a b,O a->O b->a≠b->a+s a<=b\/b+s b<=a
 taken:∀ a,O a->∀ j∈w.Taken,a+s a<=Xj h0.Conf j (pg w.Heap.Pages j).Used\/Xj h0.Conf (j+1) 0<=a
 free:∀ a,O a->∀ j:Int,0<=j->j<w.Heap.Pages.length->(pg w.Heap.Pages j).Kind=0->a+s a<=Xj h0.Conf j 0\/Xj h0.Conf (j+1) 0<=a
structure CI (h0:Wo) (l:List Int) (w:WV):Prop where
 conf:w.Heap.Conf=h0.Conf
 wlen:w.Heap.Words.length=h0.Words.length
 plen:w.Heap.Pages.length=h0.Pages.length
 spc:w.Heap.Space=h0.Space
 old:w.Old=l
 tk:∀ j∈w.Taken,0<=j/\j<w.Heap.Pages.length/\(pg w.Heap.Pages j).Kind=1/\0<=(pg w.Heap.Pages j).Used/\(pg w.Heap.Pages j).Used<=h0.Conf.PageWords
 tnd:w.Taken.Nodup
 knd:∀ a∈l,(pg w.Heap.Pages (pgi h0.Conf a)).Kind=(pg h0.Pages (pgi h0.Conf a)).Kind
 qnd:w.Queue.Nodup
 obj:∃ O s,I9 h0 l w O s
theorem Vn:∀ (n:Nat) (a:Int) (l:List Int),l.Nodup->(∀ x∈l,a<=x/\x<a+n)->l.length<=n
 | 0,a,l,_,h=>by
  cases l with
  | nil=>simp
  | cons x l=>have:=h x (by simp);omega
 | n+1,a,l,hn,h=>by
  by_cases hm:a+(n:Int)∈l
  ·have h1:=Vn n a (l.erase (a+(n:Int))) (hn.erase _) λ x hx=>by
    have h2:=(List.Nodup.mem_erase_iff hn).1 hx
    have h3:=h x h2.2
    have:=h2.1
    omega
   have h2:=List.length_erase_of_mem hm
   omega
  ·have h1:=Vn n a l hn λ x hx=>by
    have h3:=h x hx
    have:x≠a+(n:Int):=λ e=>hm (e▸hx)
    omega
   omega
section
variable {N:Nat} {h0:Wo} {l:List Int}
theorem CI.ql {w:WV} (hb:HB h0) (hc:CI h0 l w):w.Queue.length<=100000:=by
 obtain ⟨O,s,ho⟩:=hc.obj
 have:=Vn w.Heap.Words.length 4096 w.Queue hc.qnd λ x hx=>by
  have:=ho.fit x (ho.queue x hx)
  omega
 have:=hb.1
 have:=hc.wlen
 omega
theorem CI.tl {w:WV} (hb:HB h0) (hc:CI h0 l w):w.Taken.length<=100000:=by
 have:=Vn w.Heap.Pages.length 0 w.Taken hc.tnd λ x hx=>by
  have:=hc.tk x hx
  omega
 have:=hb.2
 have:=hc.plen
 omega
theorem XbW {w:WV} (hl:w.Taken.length<=100000) (i:Int):∀ (n:Nat) (k:Int),0<=k->k<=w.Taken.length->(w.Taken.length-k).toNat<n->Ok (QdD N w i n k) λ _=>True
 | 0,k,_,_,hn=>by omega
 | n+1,k,h0,hk,hn=>by
  rw[QdD]
  refine Wn (λ hc=>?_) λ _=>We trivial
  have hc:k<w.Taken.length:=Wu hc
  rw[Xc (n:=k+1) (by omega) (by omega)]
  exact Ok.get h0 hc λ p hp=>Wn (λ _=>We trivial) λ _=>XbW hl i n (k+1) (by omega) (by omega) (by omega)
theorem Xaa (hN:NB N) {w:WV} (hl:w.Taken.length<=100000) (i:Int):Ok (QdE N w i) λ b=>b=true->0<=i/\i<w.Heap.Pages.length:=by
 unfold NB at hN
 rw[QdE]
 refine Wn (λ _=>We λ e=>by cases e) λ h1=>Wn (λ _=>We λ e=>by cases e) λ h2=>?_
 have h1:0<=i:=by have:=WD h1;omega
 have h2:i<w.Heap.Pages.length:=by have:=WD h2;omega
 refine Ok.get h1 h2 λ p hp=>Wn (λ _=>Wn (λ _=>WJ (Q:=λ _=>True) ?_ λ y _ _=>We λ _=>⟨h1,h2⟩) λ _=>We λ e=>by cases e) λ _=>We λ e=>by cases e
 rw[Qgv]
 exact IG (XbW hl i N 0 (by omega) (by omega) (by omega)) (λ _ _=>We trivial) λ _ _=>We trivial
structure Of (h0:Wo) (w:WV) (n:Int) (w':WV) (at_:Int) (j u:Int):Prop where
 rng:0<=j/\j<w.Heap.Pages.length
 fit:0<=u/\u+n<=h0.Conf.PageWords
 addr:at_=Xj h0.Conf j u
 conf:w'.Heap.Conf=w.Heap.Conf
 words:w'.Heap.Words=w.Heap.Words
 space:w'.Heap.Space=w.Heap.Space
 old:w'.Old=w.Old
 queue:w'.Queue=w.Queue
 scanned:w'.Scanned=w.Scanned
 plen:w'.Heap.Pages.length=w.Heap.Pages.length
 other:∀ i,0<=i->i≠j->pg w'.Heap.Pages i=pg w.Heap.Pages i
 this:(pg w'.Heap.Pages j).Kind=1/\(pg w'.Heap.Pages j).Used=u+n
 way:(j∈w.Taken/\w'.Taken=w.Taken/\u=(pg w.Heap.Pages j).Used)\/((pg w.Heap.Pages j).Kind=0/\w'.Taken=w.Taken++[j]/\u=0)
theorem Xiv (hN:NB N) (hb:HB h0) (hp:UK h0) {w:WV} (hc:CI h0 l w) {n:Int} (hn:1<=n) (hn2:n<=h0.Conf.PageWords):Ok (Qdt N w n) λ r=>r.2.2=true->∃ j u,Of h0 w n r.1 r.2.1 j u:=by
 have hN':=hN
 unfold NB at hN'
 have hbb:=hb.2
 have hpl:=hc.plen
 have hv:=Xk.1 hp.conf
 have htl:=hc.tl hb
 have hpp:=hp.pages
 rw[Qdt]
 have new:Ok (bnd (Qdr N w.Heap.Pages 1) λ y4 =>
  bif (decide (y4<0)) then some ((WV.mk (Wo.mk (WX.mk 0 0) [] [] 0 0) [] [] [] 0 (Us.mk 0 0 0 0 0 0)),0,false)
  else bnd (Qds N w.Heap.Pages y4 (wI (1-w.Heap.Space))) λ y5 =>
  grd (w.Taken.length*8<=140737488355328) <|
  grd ((w.Taken.length+1)*8<=140737488355328) <|
  bnd (Xb y5.1 y4) λ p13 =>
  bnd (Xb y5.1 y4) λ p14 =>
  bnd (Xb y5.1 y4) λ p15 =>
  some ((WV.mk (Wo.mk w.Heap.Conf w.Heap.Words (y5.1.set y4.toNat (Wx.mk p15.Kind p15.Space (wI (p14.Used+n)) p15.Pins)) w.Heap.Space w.Heap.Bump) w.Old (w.Taken++[y4]) w.Queue w.Scanned w.Report),(wU (wI ((wI (4096+(wI (y4*w.Heap.Conf.PageWords))))+p13.Used))),true)) λ r=>r.2.2=true->∃ j u,Of h0 w n r.1 r.2.1 j u:=by
  refine WJ (XaU 1 (by omega) (by omega)) λ j _ hj=>Wn (λ _=>We λ e=>by cases e) λ hj0=>?_
  have hr:RunOK w.Heap.Pages j 1:=by
   rcases hj with rfl | hj
   ·cases hj0
   ·exact hj
  have hsp:=hp.space
  have hws:=hc.spc
  rw[Xc (n:=1-w.Heap.Space) (by omega) (by omega)]
  refine WJ (XdI j (1-w.Heap.Space) (by omega) (by omega)) λ y _ hy=>?_
  have hy0:=hy.2.2 hr (by omega) (by omega)
  obtain ⟨q0,q1,q2,q3⟩:=hy.1 hy0
  have hk:=hr.2.2.2 0 (by omega) (by omega)
  rw[Int.add_zero] at hk
  have hjl:j<y.1.length:=by omega
  refine W4 (by omega) (W4 (by omega) (Ok.get q0 hjl λ p1 hp1=>Ok.get q0 hjl λ p2 hp2=>Ok.get q0 hjl λ p3 hp3=>We λ _=>?_))
  have g1:=X5 hp1
  have g2:=X5 hp2
  have g3:=X5 hp3
  rw[q3 j q0,Wm rfl] at g1 g2 g3
  subst g1;subst g2;subst g3
  have hm:=Yt hp.conf (i:=j) q0 (by omega)
  refine ⟨j,0,⟨⟨q0,by omega⟩,⟨by omega,by omega⟩,?_,rfl,rfl,rfl,rfl,rfl,rfl,?_,λ i hi hij=>?_,?_,.inr ⟨hk,rfl,rfl⟩⟩⟩
  ·show wU (wI (wI (4096+wI (j*w.Heap.Conf.PageWords))+0))=_
   rw[hc.conf,Xc (n:=j*h0.Conf.PageWords) (by omega) (by omega),Xc (n:=4096+j*h0.Conf.PageWords) (by omega) (by omega),Xc (by omega) (by omega),XJ (by omega) (by omega)]
   rfl
  ·show (y.1.set _ _).length=_
   rw[WE];exact q2
  ·show pg (y.1.set _ _) i=_
   rw[JW _ q0 hjl hi,Wk hij,q3 i hi,Wk hij,Wk (by omega)]
  ·show (pg (y.1.set _ _) j).Kind=1/\(pg (y.1.set _ _) j).Used=_
   rw[JW _ q0 hjl q0,Wm rfl]
   refine ⟨rfl,?_⟩
   show wI (0+n)=0+n
   rw[Xc (by omega) (by omega)]
 refine W4 (by omega) (Ip (Wn (λ ht=>?_) λ _=>new))
 have ht:0<(w.Taken.length:Int):=Wu ht
 rw[Xc (n:=((w.Taken.length:Nat):Int)-1) (by omega) (by omega)]
 refine Ok.get (by omega) (by omega) λ j hj=>?_
 have hjm:=Yh hj
 obtain ⟨t0,t1,t2,t3,t4⟩:=hc.tk j hjm
 refine Ok.get t0 t1 λ p hp2=>?_
 have g:=X5 hp2
 subst g
 rw[Xc (n:=(pg w.Heap.Pages j).Used+n) (by omega) (by omega)]
 refine Wn (λ hle=>?_) λ _=>new
 have hle:(pg w.Heap.Pages j).Used+n<=w.Heap.Conf.PageWords:=Wu hle
 rw[hc.conf] at hle
 refine Ok.get (by omega) (by omega) λ j' hj'=>?_
 obtain rfl:j=j':=WO (hj.symm.trans hj')
 refine Ok.get t0 t1 λ p1 hp1=>Ok.get t0 t1 λ p2 hp2=>Ok.get t0 t1 λ p3 hp3=>We λ _=>?_
 have g1:=X5 hp1
 have g2:=X5 hp2
 have g3:=X5 hp3
 subst g1;subst g2;subst g3
 have hm:=Yt hp.conf (i:=j) t0 (by omega)
 refine ⟨j,(pg w.Heap.Pages j).Used,⟨⟨t0,t1⟩,⟨t3,hle⟩,?_,rfl,rfl,rfl,rfl,rfl,rfl,?_,λ i hi hij=>?_,?_,.inl ⟨hjm,rfl,rfl⟩⟩⟩
 ·show wU (wI (wI (4096+wI (j*w.Heap.Conf.PageWords))+_))=_
  rw[hc.conf,Xc (n:=j*h0.Conf.PageWords) (by omega) (by omega),Xc (n:=4096+j*h0.Conf.PageWords) (by omega) (by omega),Xc (by omega) (by omega),XJ (by omega) (by omega)]
  rfl
 ·show (w.Heap.Pages.set _ _).length=_
  rw[WE]
 ·show pg (w.Heap.Pages.set _ _) i=_
  rw[JW _ t0 t1 hi,Wk hij]
 ·show (pg (w.Heap.Pages.set _ _) j).Kind=1/\(pg (w.Heap.Pages.set _ _) j).Used=_
  rw[JW _ t0 t1 t0,Wm rfl]
  refine ⟨t2,?_⟩
  show wI ((pg w.Heap.Pages j).Used+n)=_
  rw[Xc (by omega) (by omega)]
end
end Go.Sx
namespace Go.Sx
theorem Xmj {a b:Int} (ha:4096<=a) (hb:4096<=b) (h:ix a=ix b):a=b:=by unfold ix at h;omega
theorem Xiw {ws:List Int} {x a v:Int} (hx:inW ws x) (ha:4096<=a):wd (ws.set (ix x) v) a=if a=x then v else wd ws a:=by
 unfold wd
 have hlt:ix x<ws.length:=by unfold inW at hx;unfold ix;omega
 rw[Wp,Wp,Ic]
 by_cases h:a=x
 ·subst h;rw[Wm rfl,Wm hlt,Wm rfl];rfl
 ·rw[Wk h,Wk]
  intro e
  exact h (Xmj ha hx.1 e.symm)
theorem XkH {ws:List Int} {to a x:Int} {k:Nat} (h1:Yu ws a k) (h2:Yu ws to k) (hx:4096<=x):wd (ovr ws ((ws.drop (ix a)).take k) (ix to)) x=if to<=x/\x<to+k then wd ws (a+(x-to)) else wd ws x:=by
 have hlen:((ws.drop (ix a)).take k).length=k:=by unfold Yu at h1;simp[ix];omega
 unfold wd
 rw[XdD (by rw[hlen];unfold Yu at h2;unfold ix;omega),hlen]
 unfold Yu at h1 h2
 by_cases h:to<=x/\x<to+k
 ·rw[Wm h,Wm (by unfold ix;omega),Wp,Uk,Wm (by unfold ix;omega),UU,← Wp]
  congr 1
  unfold ix;omega
 ·rw[Wk h,Wk (by unfold ix;omega)]
theorem XfA {ws:List Int} {to a:Int} {k:Nat} (h1:Yu ws a k) (h2:Yu ws to k):(ovr ws ((ws.drop (ix a)).take k) (ix to)).length=ws.length:=by
 have hlen:((ws.drop (ix a)).take k).length=k:=by unfold Yu at h1;simp[ix];omega
 exact Z7 (by rw[hlen];unfold Yu at h2;unfold ix;omega)
theorem Vo {c:WX} (hc:X1 c=true) {i j o p:Int} (h:i<j) (h1:o<=c.PageWords) (h2:0<=p):Xj c i o<=Xj c j p:=by
 have hv:=Xk.1 hc
 have:(i+1)*c.PageWords<=j*c.PageWords:=UH (by omega) (by omega)
 have e:(i+1)*c.PageWords=i*c.PageWords+c.PageWords:=by rw[IK,IV]
 unfold Xj
 omega
section
variable {N:Nat} {h0:Wo} {l:List Int}
structure Om (h0:Wo) (l:List Int) (w w':WV) (O:Int->Prop) (s:Int->Int):Prop where
 ci:CI h0 l w'
 ob:∃ O' s',I9 h0 l w' O' s'/\∀ a,O a->O' a/\s' a=s a
 sc:w'.Scanned=w.Scanned
 ql:w.Queue.length<=w'.Queue.length
def SameK (ps qs:List Wx):Prop:=qs.length=ps.length/\∀ i,0<=i->(pg qs i).Kind=(pg ps i).Kind/\(pg qs i).Used=(pg ps i).Used
theorem SameK.refl (ps:List Wx):SameK ps ps:=⟨rfl,λ _ _=>⟨rfl,rfl⟩⟩
theorem SameK.set {ps qs:List Wx} (h:SameK ps qs) {i:Int} (h0:0<=i) (h1:i<qs.length) (sp pins:Int):SameK ps (qs.set i.toNat ⟨(pg qs i).Kind,sp,(pg qs i).Used,pins⟩):=by
 refine ⟨by rw[WE];exact h.1,λ j hj=>?_⟩
 rw[JW _ h0 h1 hj]
 split
 ·rename_i e;subst e;exact h.2 j hj
 ·exact h.2 j hj
theorem Xix (w:WV) (a:Int) {ps:List Wx} (hl:ps.length<=100000):∀ (n:Nat) (i:Int) (qs:List Wx),0<=i->i<=ps.length->(ps.length-i).toNat<n->SameK ps qs->Ok (QcQ N w a n i qs) λ r=>SameK ps r
 | 0,i,qs,_,_,hn,_=>by omega
 | n+1,i,qs,h0,hi,hn,hs=>by
  have hq:=hs.1
  rw[QcQ]
  refine W4 (by omega) (Wn (λ hc=>?_) λ _=>We hs)
  have hc:i<qs.length:=Wu hc
  rw[Xc (n:=i+1) (by omega) (by omega)]
  refine Ok.get h0 hc λ p hp=>Wn (λ _=>Ok.get h0 hc λ p hp=>?_) λ _=>We hs
  have hg:=X5 hp
  subst hg
  exact Xix w a hl n (i+1) _ (by omega) (by omega) (by omega) (hs.set h0 hc _ _)
theorem CI.pages {w:WV} (hc:CI h0 l w) {qs:List Wx} (h:SameK w.Heap.Pages qs):CI h0 l { w with Heap:={ w.Heap with Pages:=qs } }:=by
 obtain ⟨O,s,ho⟩:=hc.obj
 refine ⟨hc.conf,hc.wlen,h.1.trans hc.plen,hc.spc,hc.old,λ j hj=>?_,hc.tnd,λ a ha=>?_,hc.qnd,?_⟩
 ·have:=hc.tk j hj
  have h2:=h.2 j this.1
  show 0<=j/\j<qs.length/\(pg qs j).Kind=1/\0<=(pg qs j).Used/\(pg qs j).Used<=h0.Conf.PageWords
  rw[h2.1,h2.2,h.1];exact this
 ·show (pg qs _).Kind=_
  have hk:=hc.knd a ha
  by_cases hp:0<=pgi h0.Conf a
  ·rw[(h.2 _ hp).1];exact hk
  ·have e1:∀ ps:List Wx,pg ps (pgi h0.Conf a)=pg ps 0:=λ ps=>by
    unfold pg
    have:(pgi h0.Conf a).toNat=(0:Int).toNat:=by omega
    rw[this]
   rw[e1,(h.2 0 (by omega)).1,← e1,hk]
 ·refine ⟨O,s,ho.old,ho.queue,ho.fit,ho.apart,λ a ha j hj=>?_,λ a ha j h1 h2 h3=>?_⟩
  ·show a+s a<=Xj h0.Conf j (pg qs j).Used\/_
   rw[(h.2 j (hc.tk j hj).1).2];exact ho.taken a ha j hj
  ·have h2:j<qs.length:=h2
   have h3:(pg qs j).Kind=0:=h3
   rw[(h.2 j h1).1] at h3
   exact ho.free a ha j h1 (by rw[← h.1];exact h2) h3
theorem I9.pages {w:WV} {O:Int->Prop} {s:Int->Int} (hc:CI h0 l w) (ho:I9 h0 l w O s) {qs:List Wx} (h:SameK w.Heap.Pages qs):I9 h0 l { w with Heap:={ w.Heap with Pages:=qs } } O s:=by
 refine ⟨ho.old,ho.queue,ho.fit,ho.apart,λ a ha j hj=>?_,λ a ha j h1 h2 h3=>?_⟩
 ·show a+s a<=Xj h0.Conf j (pg qs j).Used\/_
  rw[(h.2 j (hc.tk j hj).1).2];exact ho.taken a ha j hj
 ·have h2:j<qs.length:=h2
  have h3:(pg qs j).Kind=0:=h3
  rw[(h.2 j h1).1] at h3
  exact ho.free a ha j h1 (by rw[← h.1];exact h2) h3
theorem CI.push {w:WV} {O:Int->Prop} {s:Int->Int} (hc:CI h0 l w) (ho:I9 h0 l w O s) {a:Int} (ha:O a) (hq:a∉w.Queue) (rp:Us):Om h0 l w { w with Queue:=w.Queue++[a],Report:=rp } O s:=by
 have ho2:I9 h0 l { w with Queue:=w.Queue++[a],Report:=rp } O s:=by
  refine ⟨ho.old,λ x hx=>?_,ho.fit,ho.apart,ho.taken,ho.free⟩
  rcases WG.1 hx with hx | hx
  ·exact ho.queue x hx
  ·rw[UF.1 hx];exact ha
 refine ⟨⟨hc.conf,hc.wlen,hc.plen,hc.spc,hc.old,hc.tk,hc.tnd,hc.knd,?_,⟨O,s,ho2⟩⟩,⟨O,s,ho2,λ a h=>⟨h,rfl⟩⟩,rfl,?_⟩
 ·show (w.Queue++[a]).Nodup
  rw[Ir]
  refine ⟨hc.qnd,by simp,λ x hx y hy=>?_⟩
  rw[UF.1 hy]
  rintro rfl
  exact hq hx
 ·show w.Queue.length<=(w.Queue++[a]).length
  rw[Wr];omega
end
end Go.Sx
namespace Go.Sx
section
variable {N:Nat} {h0:Wo} {l:List Int}
theorem Xmk (hp:UK h0) (hk12:∀ a∈l,(pg h0.Pages (pgi h0.Conf a)).Kind=1\/(pg h0.Pages (pgi h0.Conf a)).Kind=2) (hpr:∀ a∈l,0<=pgi h0.Conf a) {w w':WV} {O:Int->Prop} {s:Int->Int} (hc:CI h0 l w) (ho:I9 h0 l w O s) {a n at_ j u:Int} (hal:a∈l) (hn:n=szA w.Heap.Words a) (hn1:1<=n) (pq:Of h0 w n w' at_ j u) (v:Int) (hv:v % 4=2) (rp:Us) :
 Yu w.Heap.Words a n.toNat/\Yu w.Heap.Words at_ n.toNat/\4096<=at_/\at_<=200000/\Om h0 l w { w' with Heap:={ w'.Heap with Words:=(ovr w.Heap.Words ((w.Heap.Words.drop (ix a)).take n.toNat) (ix at_)).set (ix a) v },Queue:=w'.Queue++[at_],Report:=rp } O s:=by
 have hvc:=Xk.1 hp.conf
 obtain ⟨hOa,hsa⟩:=ho.old a hal
 obtain ⟨fa1,fa2,fa3,fa4⟩:=ho.fit a hOa
 rw[← hn] at fa4
 have hwl:=hc.wlen
 have hw0:=hp.words
 have hpl:=hc.plen
 have hpl0:=hp.pages
 obtain ⟨r1,r2⟩:=pq.rng
 have hm:=Yt hp.conf (i:=j) r1 (by omega)
 obtain ⟨u0,u1⟩:=pq.fit
 have hat:at_=Xj h0.Conf j u:=pq.addr
 have hat1:at_=4096+j*h0.Conf.PageWords+u:=hat
 have hend:at_+n=Xj h0.Conf j (u+n):=by rw[hat];unfold Xj;omega
 have hend2:at_+n<=Xj h0.Conf (j+1) 0:=by
  have e:(j+1)*h0.Conf.PageWords=j*h0.Conf.PageWords+h0.Conf.PageWords:=by rw[IK,IV]
  unfold Xj;omega
 have i1:Yu w.Heap.Words a n.toNat:=by unfold Yu;omega
 have i2:Yu w.Heap.Words at_ n.toNat:=by unfold Yu;omega
 have away:∀ x,O x->x+s x<=at_\/Xj h0.Conf (j+1) 0<=x:=by
  intro x hx
  rcases pq.way with ⟨g1,g2,g3⟩ | ⟨g1,g2,g3⟩
  ·have:=ho.taken x hx j g1
   rw[← g3,← hat] at this
   exact this
  ·have:=ho.free x hx j r1 r2 g1
   rw[g3] at hat
   rw[hat]
   exact this
 have fresh:¬ O at_:=by
  intro hx
  have:=away at_ hx
  have:=(ho.fit at_ hx).2.1
  omega
 have hne:a≠at_:=λ e=>fresh (e▸hOa)
 have aw2:∀ x,O x->x+s x<=at_\/at_+n<=x:=λ x hx=>by
  have:=away x hx
  omega
 have hlen:(ovr w.Heap.Words ((w.Heap.Words.drop (ix a)).take n.toNat) (ix at_)).length=w.Heap.Words.length:=XfA i1 i2
 have hlen2:((ovr w.Heap.Words ((w.Heap.Words.drop (ix a)).take n.toNat) (ix at_)).set (ix a) v).length=w.Heap.Words.length:=by rw[WE,hlen]
 have hwd:∀ x,4096<=x->wd ((ovr w.Heap.Words ((w.Heap.Words.drop (ix a)).take n.toNat) (ix at_)).set (ix a) v) x=if x=a then v else if at_<=x/\x<at_+n then wd w.Heap.Words (a+(x-at_)) else wd w.Heap.Words x:=by
  intro x hx
  rw[Xiw (by unfold inW;rw[hlen];omega) hx,XkH i1 i2 hx]
  have:((n.toNat:Nat):Int)=n:=by omega
  rw[this]
 have hsz:∀ x,O x->szA ((ovr w.Heap.Words ((w.Heap.Words.drop (ix a)).take n.toNat) (ix at_)).set (ix a) v) x<=s x:=by
  intro x hx
  have hf:=ho.fit x hx
  by_cases hxa:x=a
  ·have:szA ((ovr w.Heap.Words ((w.Heap.Words.drop (ix a)).take n.toNat) (ix at_)).set (ix a) v) x=1:=by
    apply XkG
    rw[hwd x hf.1,Wm hxa];exact hv
   omega
  ·have:szA ((ovr w.Heap.Words ((w.Heap.Words.drop (ix a)).take n.toNat) (ix at_)).set (ix a) v) x=szA w.Heap.Words x:=by
    unfold szA hdA
    rw[hwd x hf.1,Wk hxa,Wk]
    have:=aw2 x hx
    omega
   omega
 have hszat:szA ((ovr w.Heap.Words ((w.Heap.Words.drop (ix a)).take n.toNat) (ix at_)).set (ix a) v) at_=n:=by
  refine Eq.trans ?_ hn.symm
  unfold szA hdA
  rw[hwd at_ (by omega),Wk (λ e=>hne e.symm),Wm (by omega)]
  rw[show a+(at_-at_)=a by omega]
 have hjk:=pq.this
 have hk0:∀ i,0<=i->(pg w'.Heap.Pages i).Kind=0->i≠j/\(pg w.Heap.Pages i).Kind=0:=by
  intro i hi hk
  have hij:i≠j:=by rintro rfl;rw[hjk.1] at hk;cases hk
  rw[pq.other i hi hij] at hk
  exact ⟨hij,hk⟩
 have htk:∀ i∈w'.Taken,i=j\/(i∈w.Taken/\i≠j):=by
  intro i hi
  by_cases hij:i=j
  ·exact .inl hij
  ·right
   refine ⟨?_,hij⟩
   rcases pq.way with ⟨_,g2,_⟩ | ⟨_,g2,_⟩
   ·rwa[g2] at hi
   ·rw[g2] at hi
    rcases WG.1 hi with hi | hi
    ·exact hi
    ·exact absurd (UF.1 hi) hij
 have hqe:w'.Queue=w.Queue:=pq.queue
 refine ⟨i1,i2,by omega,by omega,?_⟩
 have hO:I9 h0 l { w' with Heap:={ w'.Heap with Words:=(ovr w.Heap.Words ((w.Heap.Words.drop (ix a)).take n.toNat) (ix at_)).set (ix a) v },Queue:=w'.Queue++[at_],Report:=rp } (λ x=>O x\/x=at_) (λ x=>if x=at_ then n else s x):=by
  have ne:∀ x,O x->x≠at_:=λ x hx e=>fresh (e▸hx)
  refine ⟨λ x hx=>?_,λ x hx=>?_,λ x hx=>?_,λ x y hx hy hxy=>?_,λ x hx i hi=>?_,λ x hx i g1 g2 g3=>?_⟩
  ·obtain ⟨q1,q2⟩:=ho.old x hx
   exact ⟨.inl q1,by rw[Wk (ne x q1)];exact q2⟩
  ·have hx:x∈w'.Queue++[at_]:=hx
   rcases WG.1 hx with hx | hx
   ·rw[hqe] at hx;exact .inl (ho.queue x hx)
   ·exact .inr (UF.1 hx)
  ·show 4096<=x/\1<=(if x=at_ then n else s x)/\x+(if x=at_ then n else s x)<=4096+((ovr w.Heap.Words ((w.Heap.Words.drop (ix a)).take n.toNat) (ix at_)).set (ix a) v).length/\szA ((ovr w.Heap.Words ((w.Heap.Words.drop (ix a)).take n.toNat) (ix at_)).set (ix a) v) x<=(if x=at_ then n else s x)
   rw[hlen2]
   rcases hx with hx | rfl
   ·rw[Wk (ne x hx)]
    obtain ⟨f1,f2,f3,f4⟩:=ho.fit x hx
    exact ⟨f1,f2,f3,hsz x hx⟩
   ·rw[Wm rfl,hszat]
    omega
  ·show x+(if x=at_ then n else s x)<=y\/y+(if y=at_ then n else s y)<=x
   rcases hx with hx | rfl
   ·rcases hy with hy | rfl
    ·rw[Wk (ne x hx),Wk (ne y hy)];exact ho.apart x y hx hy hxy
    ·rw[Wk (ne x hx),Wm rfl];have:=aw2 x hx;omega
   ·rcases hy with hy | rfl
    ·rw[Wm rfl,Wk (ne y hy)];have:=aw2 y hy;omega
    ·exact absurd rfl hxy
  ·show x+(if x=at_ then n else s x)<=Xj h0.Conf i (pg w'.Heap.Pages i).Used\/Xj h0.Conf (i+1) 0<=x
   rcases htk i hi with rfl | ⟨hi1,hi2⟩
   ·rw[hjk.2]
    rcases hx with hx | rfl
    ·rw[Wk (ne x hx)];have:=away x hx;have:at_<=Xj h0.Conf i (u+n):=by omega
     omega
    ·rw[Wm rfl];left;omega
   ·obtain ⟨t1,t2,t3,t4,t5⟩:=hc.tk i hi1
    rw[pq.other i t1 hi2]
    rcases hx with hx | rfl
    ·rw[Wk (ne x hx)];exact ho.taken x hx i hi1
    ·rw[Wm rfl]
     by_cases hlt:i<j
     ·right
      have:=Vo hp.conf (o:=h0.Conf.PageWords) (p:=u) hlt (by omega) u0
      have e:Xj h0.Conf (i+1) 0=Xj h0.Conf i h0.Conf.PageWords:=by unfold Xj;rw[IK,IV];omega
      omega
     ·left
      have:=Vo hp.conf (i:=j) (j:=i) (o:=u+n) (p:=(pg w.Heap.Pages i).Used) (by omega) (by omega) t4
      omega
  ·have g2:i<w'.Heap.Pages.length:=g2
   have g3:(pg w'.Heap.Pages i).Kind=0:=g3
   show x+(if x=at_ then n else s x)<=Xj h0.Conf i 0\/Xj h0.Conf (i+1) 0<=x
   obtain ⟨k1,k2⟩:=hk0 i g1 g3
   rcases hx with hx | rfl
   ·rw[Wk (ne x hx)];exact ho.free x hx i g1 (by rw[← pq.plen];exact g2) k2
   ·rw[Wm rfl]
    by_cases hlt:i<j
    ·right
     have:=Vo hp.conf (o:=h0.Conf.PageWords) (p:=u) hlt (by omega) u0
     have e:Xj h0.Conf (i+1) 0=Xj h0.Conf i h0.Conf.PageWords:=by unfold Xj;rw[IK,IV];omega
     omega
    ·left
     have:=Vo hp.conf (i:=j) (j:=i) (o:=u+n) (p:=0) (by omega) (by omega) (by omega)
     omega
 refine ⟨⟨?_,?_,?_,?_,?_,λ i hi=>?_,?_,λ x hx=>?_,?_,⟨_,_,hO⟩⟩,⟨_,_,hO,λ x hx=>⟨.inl hx,?_⟩⟩,pq.scanned,?_⟩
 ·exact pq.conf.trans hc.conf
 ·exact hlen2.trans hc.wlen
 ·exact pq.plen.trans hc.plen
 ·exact pq.space.trans hc.spc
 ·exact pq.old.trans hc.old
 ·show 0<=i/\i<w'.Heap.Pages.length/\(pg w'.Heap.Pages i).Kind=1/\0<=(pg w'.Heap.Pages i).Used/\(pg w'.Heap.Pages i).Used<=h0.Conf.PageWords
  rw[pq.plen]
  rcases htk i hi with rfl | ⟨hi1,hi2⟩
  ·rw[hjk.1,hjk.2]
   omega
  ·have:=hc.tk i hi1
   rw[pq.other i this.1 hi2]
   exact this
 ·show w'.Taken.Nodup
  rcases pq.way with ⟨_,g2,_⟩ | ⟨g1,g2,_⟩
  ·rw[g2];exact hc.tnd
  ·rw[g2,Ir]
   refine ⟨hc.tnd,by simp,λ x hx y hy=>?_⟩
   rw[UF.1 hy]
   rintro rfl
   rw[(hc.tk x hx).2.2.1] at g1
   cases g1
 ·show (pg w'.Heap.Pages _).Kind=_
  have hkx:=hc.knd x hx
  have h12:=hk12 x hx
  by_cases hij:pgi h0.Conf x=j
  ·rw[hij] at hkx h12 ⊢
   rw[hjk.1]
   rcases pq.way with ⟨g1,_,_⟩ | ⟨g1,_,_⟩
   ·rw[(hc.tk j g1).2.2.1] at hkx;exact hkx
   ·rw[g1] at hkx;rw[← hkx] at h12;rcases h12 with h | h<;>cases h
  ·rw[pq.other _ (hpr x hx) hij];exact hkx
 ·show (w'.Queue++[at_]).Nodup
  rw[hqe,Ir]
  refine ⟨hc.qnd,by simp,λ x hx y hy=>?_⟩
  rw[UF.1 hy]
  rintro rfl
  exact fresh (ho.queue x hx)
 ·show (if x=at_ then n else s x)=s x
  exact Wk (λ e=>fresh (by rw[← e];exact hx))
 ·show w.Queue.length<=(w'.Queue++[at_]).length
  rw[hqe,Wr];omega
structure Start (N:Nat) (h0:Wo) (l:List Int):Prop where
 hb:HB h0
 good:l≠[]->Oc N h0
 prop:l≠[]->UK h0
 st:IT N h0 l
theorem Xiy (a:Int) (h0:0<=a) (h1:a<4294967296):wU (wU (4*a)+2) % 4=2:=by
 rw[XJ (n:=4*a) (by omega) (by omega),XJ (by omega) (by omega)]
 omega
theorem XaX {l:List Int} {a:Int} (h:l.contains a=false):a∉l:=by
 intro hm
 have:l.contains a=true:=by simpa using hm
 rw[h] at this;cases this
theorem JM {l:List Int} {a:Int} (h:l.contains a=true):a∈l:=by simpa using h
theorem CI.wl {w:WV} (hb:HB h0) (hc:CI h0 l w):w.Heap.Words.length<=BIG:=by
 have:=hb.1
 have:=hc.wlen
 unfold BIG
 omega
theorem XaY (hN:NB N) (hs:Start N h0 l) {w:WV} {O:Int->Prop} {s:Int->Int} (hc:CI h0 l w) (ho:I9 h0 l w O s) (a:Int):Ok (QcD N w a) λ r=>r.2.2=0->Om h0 l w r.1 O s:=by
 have hN':=hN
 unfold NB at hN'
 have hb:=hs.hb
 have hql:=hc.ql hb
 have hwl:=hc.wl hb
 have hww:=hc.wlen
 have hb1:=hb.1
 have hb2:=hb.2
 have hpl:=hc.plen
 have same:Om h0 l w w O s:=⟨hc,⟨O,s,ho,λ _ h=>⟨h,rfl⟩⟩,rfl,Ue _⟩
 rw[QcD]
 refine Wn (λ _=>We λ _=>same) λ _=>?_
 rw[Y8 a (by omega) (by omega),Xa]
 refine Wn (λ _=>We λ _=>same) λ hq=>?_
 have hq:=XaX hq
 rw[Y8 a (by rw[hc.old];have:=hs.st.len;omega) (by rw[hc.old];have:=hs.st.len;omega),Xa]
 refine Wn (λ _=>We λ e=>by cases e) λ hal=>?_
 have hal:a∈l:=by rw[← hc.old];exact JM (by simpa using hal)
 have hne:l≠[]:=List.ne_nil_of_mem hal
 have hp:=hs.prop hne
 have hg:=hs.good hne
 have hat:=hs.st.obj.at_ a hal
 have hwd0:=hp.words
 have hpg0:=hp.pages
 have hvc:=Xk.1 hp.conf
 have hrng:=hat.rng
 obtain ⟨_,q0,q1,_⟩:=Jg hp.conf hrng
 have hin:inW w.Heap.Words a:=by unfold inW;omega
 rw[Zn hwl,Xa,Wm hin,XbQ,Xa]
 have hof:QcM N w.Heap.Conf a=some (pgi h0.Conf a,pgo h0.Conf a,0):=by
  rw[Vm,hc.conf,hp.conf,Wk (by simp),Wm hrng];rfl
 rw[hof,Xa]
 refine Wn (λ _=>We λ _=>same) λ _=>?_
 refine Wn (λ _=>We λ e=>by cases e) λ _=>?_
 refine Wn (λ _=>We λ e=>by cases e) λ _=>?_
 refine WJ (Xaa hN (hc.tl hb) _) λ b _ _=>Wn (λ _=>?_) λ _=>?_
 ·rw[Qd3,Xi (by omega),Xi (by omega),Xa]
  exact We λ _=>hc.push ho (ho.old a hal).1 hq _
 refine Ok.get q0 (by show pgi h0.Conf a<_;omega) λ p hpp=>Wn (λ _=>?_) λ hk2=>?_
 ·refine W4 (by omega) (Ok.get q0 (by show pgi h0.Conf a<_;omega) λ p hpp=>?_)
  have hgp:=X5 hpp
  subst hgp
  rw[Xc (n:=pgi h0.Conf a+1) (by omega) (by omega)]
  refine WJ (Xix w a (ps:=w.Heap.Pages) (by omega) N (pgi h0.Conf a+1) _ (by omega) (by omega) (by omega) ((SameK.refl _).set q0 (by omega) _ _)) λ qs _ hqs=>?_
  rw[Qd3,Xi (by show w.Queue.length*8<=_;omega),Xi (by show (w.Queue.length+1)*8<=_;omega),Xa]
  refine We λ _=>?_
  have q:=λ rp=>(hc.pages hqs).push (ho.pages hc hqs) (ho.old a hal).1 hq rp
  exact ⟨(q _).ci,(q _).ob,(q w.Report).sc,(q w.Report).ql⟩
 ·have hgp:=X5 hpp
  have hk12:∀ x∈l,(pg h0.Pages (pgi h0.Conf x)).Kind=1\/(pg h0.Pages (pgi h0.Conf x)).Kind=2:=λ x hx=>(hs.st.obj.at_ x hx).kind
  have hpr:∀ x∈l,0<=pgi h0.Conf x:=λ x hx=>(Jg hp.conf (hs.st.obj.at_ x hx).rng).2.1
  have hk1:(pg h0.Pages (pgi h0.Conf a)).Kind=1:=by
   rcases hk12 a hal with h | h
   ·exact h
   ·exfalso
    rw[← hc.knd a hal,hgp] at h
    rw[h] at hk2;cases hk2
  have hsz:=hg.sz hs.st hal hk1
  have hso:=(ho.old a hal).2
  have hfit:=ho.fit a (ho.old a hal).1
  have hsw:=ZA w.Heap.Words a
  rw[Vl,Xa,YK,Xa]
  have e1:YY (ZF (w.Heap.Words.getD (ix a) 0))=szA w.Heap.Words a:=hsw.1
  show Ok (bnd (Qdt N w (YY (ZF (w.Heap.Words.getD (ix a) 0)))) _) _
  rw[e1]
  refine WJ (Xiv hN hb hp hc (n:=szA w.Heap.Words a) hsw.2.1 (by omega)) λ y _ hy=>Wn (λ _=>We λ e=>by cases e) λ hy2=>?_
  obtain ⟨j,u,pq⟩:=hy (by simpa using hy2)
  have q:=λ v hv rp=>Xmk (n:=szA w.Heap.Words a) hp hk12 hpr hc ho hal rfl hsw.2.1 pq v hv rp
  obtain ⟨i1,i2,a1,a2,_⟩:=q 2 rfl y.1.Report
  rw[pq.words]
  have en:szA w.Heap.Words a=(((szA w.Heap.Words a).toNat:Nat):Int):=by omega
  have hmv:=XkA (N:=N) hwl y.2.1 a (szA w.Heap.Words a).toNat (by omega) (by omega)
  rw[← en,Wm ⟨i1,i2⟩] at hmv
  rw[hmv,Xa,XeP,Xa,Wk (by omega)]
  have ol:=XfA i1 i2
  rw[XaS (by rw[ol];exact hwl) (by omega),Xa]
  have hin2:inW (ovr w.Heap.Words ((w.Heap.Words.drop (ix a)).take (szA w.Heap.Words a).toNat) (ix y.2.1)) a:=by unfold inW;rw[ol];exact hin
  rw[Wm hin2]
  have hqe:=pq.queue
  refine W4 (by rw[hqe];omega) (W4 (by rw[hqe];omega) (We λ _=>?_))
  exact (q _ (Xiy y.2.1 (by omega) (by omega)) _).2.2.2.2
end
end Go.Sx
namespace Go.Sx
section
variable {N:Nat} {h0:Wo} {l:List Int}
theorem XaZ (h:Wo) (y:List Int×Int) (hl:h.Pages.length<=100000):∀ (n:Nat) (i:Int) (qs:List Wx),0<=i->i<=h.Pages.length->(h.Pages.length-i).toNat<n->SameK h.Pages qs->Ok (Qcd N h y n i qs) λ r=>SameK h.Pages r
 | 0,i,qs,_,_,hn,_=>by omega
 | n+1,i,qs,h0,hi,hn,hs=>by
  have hq:=hs.1
  rw[Qcd]
  refine W4 (by omega) (Wn (λ hc=>?_) λ _=>We hs)
  have hc:i<qs.length:=Wu hc
  rw[Xc (n:=i+1) (by omega) (by omega)]
  have next:=XaZ h y hl n (i+1) qs (by omega) (by omega) (by omega) hs
  refine Ok.get h0 hc λ p hp=>Wn (λ _=>Wn (λ _=>Ok.get h0 hc λ p hp=>?_) λ _=>next) λ _=>next
  have hg:=X5 hp
  subst hg
  exact XaZ h y hl n (i+1) _ (by omega) (by omega) (by omega) (hs.set h0 hc _ _)
theorem XeR {h:Wo} (hp:UK h) {a:Int} (ha:IQ h a) {j:Int} (h1:0<=j) (hk:(pg h.Pages j).Kind=0):a+szA h.Words a<=Xj h.Conf j 0\/Xj h.Conf (j+1) 0<=a:=by
 obtain ⟨k,k1,k2,k3,k4⟩:=XcI hp ha
 obtain ⟨q1,q2,q3,q4,q5⟩:=Jg hp.conf ha.rng
 have hvc:=Xk.1 hp.conf
 have hkk:=ha.kind
 by_cases hlt:j<pgi h.Conf a
 ·right
  have:=Vo hp.conf (o:=h.Conf.PageWords) (p:=pgo h.Conf a) hlt (by omega) q4
  have e:Xj h.Conf (j+1) 0=Xj h.Conf j h.Conf.PageWords:=by unfold Xj;rw[IK,IV];omega
  omega
 ·by_cases he:j=pgi h.Conf a
  ·subst he;rw[hk] at hkk;rcases hkk with h | h<;>cases h
  ·by_cases hlt2:j<pgi h.Conf a+k
   ·have:=k4 (j-pgi h.Conf a) (by omega) (by omega)
    rw[show pgi h.Conf a+(j-pgi h.Conf a)=j by omega] at this
    rw[hk] at this;cases this
   ·left
    have:(pgi h.Conf a+k)*h.Conf.PageWords<=j*h.Conf.PageWords:=UH (by omega) (by omega)
    have e1:Xj h.Conf (pgi h.Conf a+k) 0=4096+(pgi h.Conf a+k)*h.Conf.PageWords+0:=rfl
    have e2:Xj h.Conf j 0=4096+j*h.Conf.PageWords+0:=rfl
    omega
theorem Xiz {h:Wo} (hb:HB h) (hp:UK h) {l:List Int} (hs:IT N h l) {w:WV} (e1:w.Heap.Conf=h.Conf) (e2:w.Heap.Words=h.Words) (e3:w.Heap.Space=h.Space) (hk:SameK h.Pages w.Heap.Pages) (e4:w.Old=l) (e5:w.Taken=[]) (e6:w.Queue=[]):CI h l w:=by
 have ho:I9 h l w (λ a=>a∈l) (szA h.Words):=by
  refine ⟨λ a ha=>⟨ha,rfl⟩,λ a ha=>(by rw[e6] at ha;cases ha),λ a ha=>?_,λ a b ha hb' hab=>?_,λ a ha j hj=>(by rw[e5] at hj;cases hj),λ a ha j h1 h2 h3=>?_⟩
  ·rw[e2]
   have h1:=hs.obj.at_ a ha
   exact ⟨h1.rng.1,(ZA h.Words a).2.1,XcJ hp h1,Int.le_refl _⟩
  ·have hpw:=hs.obj.pw
   rw[UY] at hpw
   obtain ⟨i,hi,ei⟩:=W0 ha
   obtain ⟨j,hj,ej⟩:=W0 hb'
   rcases Nat.lt_trichotomy i j with hij | hij | hij
   ·left;have:=hpw i j hi hj hij;rw[ei,ej] at this;exact this
   ·subst hij;exact absurd (ei.symm.trans ej) hab
   ·right;have:=hpw j i hj hi hij;rw[ei,ej] at this;exact this
  ·rw[(hk.2 j h1).1] at h3
   exact XeR hp (hs.obj.at_ a ha) h1 h3
 refine ⟨e1,by rw[e2],hk.1,e3,e4,λ j hj=>(by rw[e5] at hj;cases hj),by rw[e5];exact IJ,λ a ha=>?_,by rw[e6];exact IJ,⟨_,_,ho⟩⟩
 exact (hk.2 _ (Jg hp.conf (hs.obj.at_ a ha).rng).2.1).1
def zW:WV:=⟨zH,[],[],[],0,⟨0,0,0,0,0,0⟩⟩
theorem XiA (N:Nat):Start N zH []:=⟨Zv,λ h=>absurd rfl h,λ h=>absurd rfl h,IT.nil N zH⟩
theorem Xm8:CI zH [] zW:=by
 refine ⟨rfl,rfl,rfl,rfl,rfl,λ j hj=>(by cases hj),IJ,λ a ha=>(by cases ha),IJ,⟨λ _=>False,λ _=>0,?_⟩⟩
 exact ⟨λ a ha=>(by cases ha),λ a ha=>(by cases ha),λ a ha=>ha.elim,λ a b ha=>ha.elim,λ a ha=>ha.elim,λ a ha=>ha.elim⟩
structure Ov (N:Nat) (h:Wo) (l:List Int) (w:WV):Prop where
 st:Start N h l
 ci:CI h l w
 sc:w.Scanned=0
 pr:UK h\/h.Pages=[]
theorem XiB (hN:NB N) {h:Wo} (hb:HB h):Ok (Qec N h) λ r=>∃ h' l,Ov N h' l r.1:=by
 have hN':=hN
 unfold NB at hN'
 have hb2:=hb.2
 have zero:∃ h' l,Ov N h' l zW:=⟨zH,[],XiA N,Xm8,rfl,.inr rfl⟩
 rw[Qec]
 refine WJ (Yo (N:=N) (by omega) hb.1 hb.2) λ b eb hp=>Wn (λ _=>We zero) λ hb1=>?_
 have hp:=hp (by simpa using hb1)
 refine WJ (KU hN hb) λ b _ hg=>Wn (λ _=>We zero) λ hb2=>?_
 have hg:=hg (by simpa using hb2)
 refine WJ (ZB hN hb) λ y _ hy=>W4 (by omega) ?_
 refine WJ (XaZ h y (by omega) N 0 h.Pages (by omega) (by omega) (by omega) (SameK.refl _)) λ qs _ hqs=>We ?_
 exact ⟨h,y.1,⟨hb,λ _=>hg,λ _=>hp,hy.1⟩,Xiz hb hp hy.1 rfl rfl rfl hqs rfl rfl rfl,rfl,.inl hp⟩
theorem XdQ (hN:NB N) (hs:Start N h0 l) (rs:List Int) (hl:rs.length<=1000000):∀ (n:Nat) (i:Int) (w:WV) (out:List Int),0<=i->i<=rs.length->(rs.length-i).toNat<n->CI h0 l w->(out.length:Int)=i ->
 Ok (Qbp N rs n i w.Heap.Conf.PageWords w.Heap.Conf.Pages w.Heap.Words w.Heap.Pages w.Heap.Space w.Heap.Bump w.Old w.Taken w.Queue w.Scanned w.Report.Copied w.Report.Kept w.Report.Filled w.Report.Freed w.Report.Cleared w.Report.Steps out) λ e=>match e with
  | .ret r=>r.2.2≠0
  | .nxt t=>∃ (w':WV) (out':List Int),CI h0 l w'/\w'.Scanned=w.Scanned/\out'.length=rs.length/\t=(w'.Heap.Conf.PageWords,w'.Heap.Conf.Pages,w'.Heap.Words,w'.Heap.Pages,w'.Heap.Space,w'.Heap.Bump,w'.Old,w'.Taken,w'.Queue,w'.Scanned,w'.Report.Copied,w'.Report.Kept,w'.Report.Filled,w'.Report.Freed,w'.Report.Cleared,w'.Report.Steps,out')
 | 0,i,w,out,_,_,hn,_,_=>by omega
 | n+1,i,w,out,g0,hi,hn,hc,ho=>by
  rw[Qbp]
  refine Wn (λ h1=>?_) λ h1=>We ⟨w,out,hc,rfl,by have:=WD h1;omega,rfl⟩
  have h1:i<rs.length:=Wu h1
  rw[Xc (n:=i+1) (by omega) (by omega)]
  obtain ⟨O,s,hob⟩:=hc.obj
  refine Ok.get g0 h1 λ p hp=>WJ (XaY hN hs hc hob p) λ y _ hy=>Wn (λ he=>We (by simpa using he)) λ he=>?_
  have q:=hy (by simpa using he)
  refine W4 (by omega) ((XdQ hN hs rs hl n (i+1) y.1 (out++[y.2.1]) (by omega) (by omega) (by omega) q.ci (by rw[Wr];simp;omega)).mono λ e he=>?_)
  cases e with
  | ret r=>exact he
  | nxt t=>obtain ⟨w',o',c1,c2,c3,c4⟩:=he;exact ⟨w',o',c1,c2.trans q.sc,c3,c4⟩
theorem XiC (hN:NB N) (hs:Start N h0 l) {rs:List Int} (hl:rs.length<=1000000) {w:WV} (hc:CI h0 l w):Ok (Qed N w rs) λ r=>r.2.2=0->CI h0 l r.1/\r.1.Scanned=w.Scanned/\r.2.1.length=rs.length:=by
 have hN':=hN
 unfold NB at hN'
 rw[Qed]
 refine IG (XdQ hN hs rs hl N 0 w [] (by omega) (by omega) (by omega) hc rfl) (λ a q=>We λ e=>absurd e q) λ b q=>We λ _=>?_
 obtain ⟨w',o',c1,c2,c3,rfl⟩:=q
 exact ⟨c1,c2,c3⟩
end
end Go.Sx
namespace Go.Sx
theorem XgF {d:Ww} {x:Int} (h:x∈Zo d):0<=x/\x<d.Length:=by
 unfold Zo at h
 by_cases hv:XL d=true
 ·rw[Wm hv] at h
  have:=KS h
  have:=XS hv
  omega
 ·rw[Wk hv] at h;cases h
theorem XgG (d:Ww):(Zo d).length<=255:=by
 unfold Zo
 by_cases hv:XL d=true
 ·rw[Wm hv]
  have:=KT (d:=d) (k:=d.Length.toNat) (i:=0)
  have:=XS hv
  omega
 ·rw[Wk hv];simp
section
variable {N:Nat} {h0:Wo} {l:List Int}
theorem XkI {w:WV} {O:Int->Prop} {s:Int->Int} (hc:CI h0 l w) (ho:I9 h0 l w O s) {p x:Int} (hp:O p) (h1:p<x) (h2:x<p+s p) (v:Int) :
 inW w.Heap.Words x/\CI h0 l { w with Heap:={ w.Heap with Words:=w.Heap.Words.set (ix x) v } }/\I9 h0 l { w with Heap:={ w.Heap with Words:=w.Heap.Words.set (ix x) v } } O s:=by
 have hf:=ho.fit p hp
 have hin:inW w.Heap.Words x:=by unfold inW;omega
 have ho2:I9 h0 l { w with Heap:={ w.Heap with Words:=w.Heap.Words.set (ix x) v } } O s:=by
  refine ⟨ho.old,ho.queue,λ a ha=>?_,ho.apart,ho.taken,ho.free⟩
  show 4096<=a/\1<=s a/\a+s a<=4096+(w.Heap.Words.set (ix x) v).length/\szA (w.Heap.Words.set (ix x) v) a<=s a
  obtain ⟨f1,f2,f3,f4⟩:=ho.fit a ha
  rw[WE]
  refine ⟨f1,f2,f3,?_⟩
  have:a≠x:=by
   rintro rfl
   by_cases he:a=p
   ·omega
   ·have:=ho.apart a p ha hp he
    omega
  unfold szA hdA at *
  rw[Xiw hin f1,Wk this]
  exact f4
 refine ⟨hin,⟨hc.conf,?_,hc.plen,hc.spc,hc.old,hc.tk,hc.tnd,hc.knd,hc.qnd,⟨O,s,ho2⟩⟩,ho2⟩
 show (w.Heap.Words.set (ix x) v).length=_
 rw[WE];exact hc.wlen
theorem XfB (hN:NB N) (hs:Start N h0 l) {p:Int} {ks:List Int} (hkl:ks.length<=255):∀ (n:Nat) (i:Int) (w:WV) (O:Int->Prop) (s:Int->Int),0<=i->i<=ks.length->(ks.length-i).toNat<n->CI h0 l w->I9 h0 l w O s->O p->(∀ k∈ks,0<=k/\k<255/\k+1<s p) ->
 Ok (QbI N p ks n i w.Heap.Conf.PageWords w.Heap.Conf.Pages w.Heap.Words w.Heap.Pages w.Heap.Space w.Heap.Bump w.Old w.Taken w.Queue w.Scanned w.Report.Copied w.Report.Kept w.Report.Filled w.Report.Freed w.Report.Cleared w.Report.Steps) λ e=>match e with
  | .ret r=>r.2.2≠0
  | .nxt t=>∃ (w':WV),CI h0 l w'/\w'.Scanned=w.Scanned/\w.Queue.length<=w'.Queue.length/\t=(w'.Heap.Conf.PageWords,w'.Heap.Conf.Pages,w'.Heap.Words,w'.Heap.Pages,w'.Heap.Space,w'.Heap.Bump,w'.Old,w'.Taken,w'.Queue,w'.Scanned,w'.Report.Copied,w'.Report.Kept,w'.Report.Filled,w'.Report.Freed,w'.Report.Cleared,w'.Report.Steps)
 | 0,i,w,O,s,_,_,hn,_,_,_,_=>by omega
 | n+1,i,w,O,s,g0,hi,hn,hc,ho,hp,hk=>by
  have hN':=hN
  unfold NB at hN'
  have hb1:=hs.hb.1
  rw[QbI]
  refine Wn (λ h1=>?_) λ h1=>We ⟨w,hc,rfl,Ue _,rfl⟩
  have h1:i<ks.length:=Wu h1
  rw[Xc (n:=i+1) (by omega) (by omega)]
  refine Ok.get g0 h1 λ k hk2=>?_
  have hkm:=Yh hk2
  obtain ⟨k0,k1,k2⟩:=hk k hkm
  have hf:=ho.fit p hp
  have hwl:=hc.wlen
  rw[XJ (n:=p+1) (by omega) (by omega),XJ (n:=k) (by omega) (by omega),XJ (n:=p+1+k) (by omega) (by omega)]
  rw[Zn (hc.wl hs.hb),Xa]
  refine WJ (XaY hN hs hc ho _) λ y _ hy=>Wn (λ he=>We (by simpa using he)) λ he=>?_
  have q:=hy (by simpa using he)
  obtain ⟨O',s',ho',hx⟩:=q.ob
  obtain ⟨hp',hs'⟩:=hx p hp
  have st:=XkI q.ci ho' hp' (x:=p+1+k) (by omega) (by omega) y.2.1
  rw[XaS (q.ci.wl hs.hb) (by omega),Xa,Wm st.1]
  refine (XfB hN hs hkl n (i+1) _ O' s' (by omega) (by omega) (by omega) st.2.1 st.2.2 hp' (λ k' hk'=>by rw[hs'];exact hk k' hk')).mono λ e he=>?_
  cases e with
  | ret r=>exact he
  | nxt t=>obtain ⟨w',c1,c2,c3,c4⟩:=he;exact ⟨w',c1,c2.trans q.sc,UP q.ql c3,c4⟩
theorem XkJ (hN:NB N) (hs:Start N h0 l) {w:WV} (hc:CI h0 l w) (h0s:0<=w.Scanned) (h1s:w.Scanned<=w.Queue.length):Ok (QeG N w) λ r=>r.2.2=0->CI h0 l r.1/\0<=r.1.Scanned/\r.1.Scanned<=r.1.Queue.length/\(r.2.1=true->r.1.Scanned=w.Scanned+1):=by
 have hN':=hN
 unfold NB at hN'
 have hb:=hs.hb
 have hql:=hc.ql hb
 rw[QeG]
 refine Wn (λ _=>We λ _=>⟨hc,h0s,h1s,λ e=>by cases e⟩) λ hlt=>?_
 have hlt:w.Scanned<w.Queue.length:=by have:=WD hlt;omega
 refine Ok.get h0s hlt λ p hp=>?_
 have hpm:=Yh hp
 obtain ⟨O,s,ho⟩:=hc.obj
 have hOp:=ho.queue p hpm
 have hf:=ho.fit p hOp
 have hin:inW w.Heap.Words p:=by unfold inW;omega
 rw[Qez,Zn (hc.wl hb),Xa,Wm hin,Vl,Xa,Xa,Xim (by omega),Xa]
 have hkl:=XgG (hdA w.Heap.Words p)
 have hvl:=XS (JV (wd w.Heap.Words p))
 refine IG (XfB hN hs (p:=p) (ks:=Zo (hdA w.Heap.Words p)) hkl N 0 w O s (by omega) (by omega) (by omega) hc ho hOp λ k hk=>?_) (λ a q=>We λ e=>absurd e q) λ t q=>We λ _=>?_
 ·have h1:=XgF hk
  have h2:szA w.Heap.Words p=(hdA w.Heap.Words p).Length+1:=rfl
  have h3:(hdA w.Heap.Words p).Length<=255:=hvl.2.2.2
  omega
 ·obtain ⟨w',c1,c2,c3,rfl⟩:=q
  have e:wI (w'.Scanned+1)=w.Scanned+1:=by rw[c2,Xc (by omega) (by omega)]
  refine ⟨⟨c1.conf,c1.wlen,c1.plen,c1.spc,c1.old,c1.tk,c1.tnd,c1.knd,c1.qnd,?_⟩,?_,?_,λ _=>e⟩
  ·obtain ⟨O,s,h⟩:=c1.obj
   exact ⟨O,s,⟨h.old,h.queue,h.fit,h.apart,h.taken,h.free⟩⟩
  ·show 0<=wI (w'.Scanned+1);omega
  ·show wI (w'.Scanned+1)<=w'.Queue.length;omega
theorem XiD (hN:NB N) (hs:Start N h0 l):∀ (n:Nat) (w:WV),CI h0 l w->0<=w.Scanned->w.Scanned<=w.Queue.length->(100001-w.Scanned).toNat<n ->
 Ok (QbX N n w.Heap.Conf.PageWords w.Heap.Conf.Pages w.Heap.Words w.Heap.Pages w.Heap.Space w.Heap.Bump w.Old w.Taken w.Queue w.Scanned w.Report.Copied w.Report.Kept w.Report.Filled w.Report.Freed w.Report.Cleared w.Report.Steps) λ r=>r.2=0->CI h0 l r.1
 | 0,w,_,_,_,hn=>by omega
 | n+1,w,hc,g0,g1,hn=>by
  rw[QbX]
  have hql:=hc.ql hs.hb
  refine WJ (XkJ hN hs hc g0 g1) λ y _ hy=>Wn (λ he=>We λ e=>absurd e (by simpa using he)) λ he=>?_
  obtain ⟨q1,q2,q3,q4⟩:=hy (by simpa using he)
  refine Wn (λ _=>We λ _=>q1) λ hb=>?_
  have q4:y.1.Scanned=w.Scanned+1:=q4 (by simpa using hb)
  have:=q1.ql hs.hb
  exact XiD hN hs n y.1 q1 q2 q3 (by omega)
theorem Xml (hN:NB N) (hs:Start N h0 l) {w:WV} (hc:CI h0 l w) (g0:0<=w.Scanned) (g1:w.Scanned<=w.Queue.length):Ok (Qfh N w) λ r=>r.2=0->CI h0 l r.1:=by
 have hN':=hN
 unfold NB at hN'
 rw[Qfh]
 exact WJ (XiD hN hs N w hc g0 g1 (by omega)) λ y _ hy=>We hy
theorem XiE (hN:NB N) (hs:Start N h0 l) {w:WV} (hq:w.Queue.length<=100000) (hw:w.Heap.Words.length<=BIG) (a:Int):Ok (Qee N w a) λ _=>True:=by
 have hN':=hN
 unfold NB at hN'
 rw[Qee,Y8 a (by omega) (by omega),Xa]
 refine Wn (λ _=>We trivial) λ _=>?_
 rw[Zn hw,Xa,XbQ,Xa]
 exact We trivial
theorem XcM (hN:NB N) {w:WV} (hb:HB h0) (hc:CI h0 l w) {s:Int->Int} (hll:l.length<=4096) (hpw:l.Pairwise λ a b=>a+s a<=b) (hfit:∀ a∈l,4096<=a/\1<=s a/\a+s a<=4096+h0.Words.length):∀ (n k:Nat) (v:List Int) (c:Int),k<=l.length->l.length-k<n->v.length=h0.Words.length->(∀ a∈l.drop k,szA v a<=s a) ->
 Ok (QaW N w n (k:Int) v c) λ r=>r.1.length=h0.Words.length
 | 0,k,v,c,_,hn,_,_=>by omega
 | n+1,k,v,c,hk,hn,hv,hs=>by
  have hN':=hN
  unfold NB at hN'
  have hb1:=hb.1
  have hql:=hc.ql hb
  have htl:=hc.tl hb
  have hold:=hc.old
  rw[QaW]
  refine Wn (λ h1=>?_) λ _=>We hv
  have h1:k<l.length:=by have:=Wu h1;rw[hold] at this;omega
  have hkl:(k:Int)<w.Old.length:=by rw[hold];omega
  have hdr:=Ws h1
  rw[Xc (n:=(k:Int)+1) (by omega) (by omega),show ((k:Int)+1)=((k+1:Nat):Int) by omega]
  have gp:∀ p,Xb w.Old (k:Int)=some p->p=l[k]:=by
   intro p hp
   rw[hold,Xd,Wd h1] at hp
   exact (WO hp).symm
  have next:Ok (QaW N w n ((k+1:Nat):Int) v c) λ r=>r.1.length=h0.Words.length :=
   XcM hN hb hc hll hpw hfit n (k+1) v c (by omega) (by omega) hv λ a ha=>hs a (by rw[hdr];exact W9 _ ha)
  refine Ok.get (by omega) hkl λ p hp=>?_
  rw[Vm,Xa]
  refine WJ (Xaa hN (w:={ w with Heap:={ w.Heap with Words:=v },Report:=⟨_,_,_,_,_,_⟩ }) htl _) λ b _ _=>Wn (λ _=>next) λ _=>?_
  refine Ok.get (by omega) hkl λ p hp=>?_
  rw[Y8 p (by omega) (by omega),Xa]
  refine Wn (λ _=>next) λ _=>Ok.get (by omega) hkl λ p hp=>?_
  have hpe:=gp p hp
  have hpm:p∈l:=by rw[hpe];exact WT h1
  obtain ⟨f1,f2,f3⟩:=hfit p hpm
  have hsp:=hs p (by rw[hdr,← hpe];exact IA)
  have hin:inW v p:=by unfold inW;omega
  have hsz:=ZA v p
  rw[Qez,Zn (by show v.length<=BIG;unfold BIG;omega),Xa,Wm hin,Vl,Xa,Xa,XcG,Xa]
  refine Ok.get (by omega) hkl λ p' hp'=>?_
  obtain rfl:p=p':=hpe.trans (gp p' hp').symm
  have e1:szA v p=(hdA v p).Length+1:=rfl
  have e2:(ZF (v.getD (ix p) 0)).Length=(hdA v p).Length:=rfl
  refine W4 (by rw[e2];omega) (W4 (by rw[e2];omega) ?_)
  have hlen:∀ x:Int,([x]++List.replicate (ZF (v.getD (ix p) 0)).Length.toNat (0:Int)).length=(szA v p).toNat:=by
   intro x;rw[Wr,WL,e2];simp only[W7,UC];omega
  rw[Vk (by unfold BIG;omega) (by rw[hlen];unfold BIG;omega) (by rw[hlen];omega),Xa,hlen,Wm (by unfold Yu;omega)]
  have hlo:∀ x:Int,(ovr v ([x]++List.replicate (ZF (v.getD (ix p) 0)).Length.toNat (0:Int)) (ix p)).length=v.length:=by
   intro x;apply Z7;rw[hlen];unfold ix;omega
  refine XcM hN hb hc hll hpw hfit n (k+1) _ _ (by omega) (by omega) ((hlo _).trans hv) λ a ha=>?_
  have ham:a∈l:=WZ ha
  have hsa:=hs a (by rw[hdr];exact W9 _ ha)
  have hfa:=hfit a ham
  have hle:p+s p<=a:=by
   have hp2:=hpw.drop (i:=k)
   rw[hdr,List.pairwise_cons] at hp2
   rw[hpe]
   exact hp2.1 a ha
  have:∀ x:Int,szA (ovr v ([x]++List.replicate (ZF (v.getD (ix p) 0)).Length.toNat (0:Int)) (ix p)) a=szA v a:=by
   intro x
   unfold szA hdA wd
   rw[XdD (by rw[hlen];unfold ix;omega),hlen,Wk]
   unfold ix
   have:p+szA v p<=a:=by omega
   omega
  rw[this];exact hsa
theorem XkK (hN:NB N) (hs:Start N h0 l) {w:WV} (hc:CI h0 l w):Ok (QeI N w) λ r=>r.Heap.Conf=h0.Conf/\r.Heap.Words.length=h0.Words.length/\r.Heap.Pages=w.Heap.Pages/\r.Heap.Pages.length=h0.Pages.length/\r.Taken.length<=100000:=by
 have hN':=hN
 unfold NB at hN'
 have hb:=hs.hb
 rw[QeI]
 obtain ⟨O,s,ho⟩:=hc.obj
 have hpw:l.Pairwise λ a b=>a+s a<=b:=by
  refine List.Pairwise.imp_of_mem ?_ hs.st.obj.pw
  intro a b ha _ h
  rw[(ho.old a ha).2];exact h
 have hwl:=hc.wlen
 have:=XcM hN (w:=w) hb hc (s:=s) hs.st.len hpw (λ a ha=>by have:=ho.fit a (ho.old a ha).1;omega) N 0 w.Heap.Words w.Report.Filled (by omega) (by have:=hs.st.len;omega) hwl λ a ha=>(ho.fit a (ho.old a (WZ ha)).1).2.2.2
 have htl:w.Taken.length<=100000:=hc.tl hb
 refine WJ this λ r _ hr=>We ⟨hc.conf,hr,rfl,hc.plen,htl⟩
theorem XfC {w:WV} (v4:List Wx) (p5:Wx) (i c:Int) (hp:UK h0) (hc:w.Heap.Conf=h0.Conf) (g0:0<=i) (g1:i<h0.Conf.Pages):∀ (n:Nat) (k:Int) (v:List Int),0<=k->(65-k).toNat<n->v.length=h0.Words.length->Ok (QbJ N w v4 p5 i c n k v) λ r=>r.length=h0.Words.length
 | 0,k,v,_,hn,_=>by omega
 | n+1,k,v,k0,hn,hv=>by
  have hvc:=Xk.1 hp.conf
  have hm:=Yt hp.conf g0 g1
  have hw:=hp.words
  rw[QbJ,hc]
  refine Wn (λ h1=>?_) λ _=>We hv
  have h1:k<h0.Conf.PageWords:=Wu h1
  rw[Xc (n:=k+1) (by omega) (by omega),Xc (n:=i*h0.Conf.PageWords) (by omega) (by omega),Xc (n:=i*h0.Conf.PageWords+k) (by omega) (by omega)]
  refine Ok.get (by omega) (by omega) λ p _=>XfC v4 p5 i c hp hc g0 g1 n (k+1) _ (by omega) (by omega) (by rw[WE];exact hv)
theorem XcN (hN:NB N) {w:WV} (hb:HB h0) (hp:UK h0\/h0.Pages=[]) (hc:w.Heap.Conf=h0.Conf):∀ (n:Nat) (i c:Int) (v:List Int) (ps:List Wx),0<=i->i<=h0.Pages.length->(h0.Pages.length-i).toNat<n->v.length=h0.Words.length->ps.length=h0.Pages.length->Ok (Qa9 N w n i c v ps) λ r=>r.2.1.length=h0.Words.length/\r.2.2.length=h0.Pages.length
 | 0,i,c,v,ps,_,_,hn,_,_=>by omega
 | n+1,i,c,v,ps,g0,gi,hn,hv,hps=>by
  have hN':=hN
  unfold NB at hN'
  have hb2:=hb.2
  rw[Qa9]
  refine W4 (by omega) (Wn (λ h1=>?_) λ _=>We ⟨hv,hps⟩)
  have h1:i<ps.length:=Wu h1
  rw[Xc (n:=i+1) (by omega) (by omega)]
  have next:=XcN hN (w:=w) hb hp hc n (i+1) c v ps (by omega) (by omega) (by omega) hv hps
  refine Ok.get g0 h1 λ p _=>Wn (λ _=>next) λ _=>Wn (λ _=>next) λ _=>Ok.get g0 h1 λ p6 _=>?_
  rcases hp with hp | hp
  ·have hpp:=hp.pages
   refine WJ (XfC ps p i c hp hc g0 (by omega) N 0 v (by omega) (by omega) hv) λ r _ hr=>?_
   exact XcN hN hb (.inl hp) hc n (i+1) _ r _ (by omega) (by omega) (by omega) hr (by rw[WE];exact hps)
  ·rw[hp] at hps;simp at hps;rw[hps] at h1;simp at h1;omega
theorem XkL (hN:NB N) {w:WV} (hb:HB h0) (hp:UK h0\/h0.Pages=[]) (hc:w.Heap.Conf=h0.Conf) (hw:w.Heap.Words.length=h0.Words.length) (hpl:w.Heap.Pages.length=h0.Pages.length):Ok (QeH N w) λ r=>HB r.Heap/\r.Taken=w.Taken:=by
 have hN':=hN
 unfold NB at hN'
 have hb1:=hb.1
 have hb2:=hb.2
 rw[QeH]
 refine W4 (by omega) (W4 (by omega) (WJ (XcN hN hb hp hc N 0 _ _ _ (by omega) (by omega) (by omega) hw hpl) λ r _ hr=>We ⟨⟨?_,?_⟩,rfl⟩))
 ·show r.2.1.length<=_;omega
 ·show r.2.2.length<=_;omega
theorem XfD (hN:NB N) (hs:Start N h0 l) (ws:List Int) (hl:ws.length<=1000000) (y5:WV×List Int×Int) (y6:WV×Int) (hc:CI h0 l y6.1):∀ (n:Nat) (i c:Int) (out:List Int),0<=i->i<=ws.length->(ws.length-i).toNat<n->(out.length:Int)=i->Ok (QaZ N ws y5 y6 n i c out) λ r=>r.2.length=ws.length
 | 0,i,c,out,_,_,hn,_=>by omega
 | n+1,i,c,out,g0,gi,hn,ho=>by
  rw[QaZ]
  refine Wn (λ h1=>?_) λ h1=>We (by have:=WD h1;show out.length=ws.length;omega)
  have h1:i<ws.length:=Wu h1
  rw[Xc (n:=i+1) (by omega) (by omega)]
  have next:=λ c' x=>XfD hN hs ws hl y5 y6 hc n (i+1) c' (out++[x]) (by omega) (by omega) (by omega) (by rw[Wr];simp;omega)
  refine Ok.get g0 h1 λ p _=>Ip (Wn (λ _=>Ok.get g0 h1 λ p _=>?_) λ _=>W4 (by omega) (next _ _))
  refine WJ (XiE hN hs (w:=⟨_,_,_,_,_,_⟩) (hc.ql hs.hb) (hc.wl hs.hb) p) λ y _ _=>Ip (Wn (λ _=>W4 (by omega) (next _ _)) λ _=>W4 (by omega) (next _ _))
structure Oq (rs ws:List Int) (r:Wo×List Int×List Int×Us×Int):Prop where
 hb:HB r.1
 len:r.2.2.2.2=0->r.2.1.length=rs.length/\r.2.2.1.length=ws.length
 no:r.2.2.2.2≠0->r.2.1=[]/\r.2.2.1=[]
theorem XeS (hN:NB N) {h:Wo} (hb:HB h) {rs ws:List Int} (hr:rs.length<=1000000) (hw:ws.length<=1000000):Ok (Qc8 N h rs ws) (Oq rs ws):=by
 have hN':=hN
 unfold NB at hN'
 have bad:∀ e:Int,e≠0->Oq rs ws (zH,[],[],⟨0,0,0,0,0,0⟩,e):=λ e he=>⟨Zv,λ h=>absurd h he,λ _=>⟨rfl,rfl⟩⟩
 rw[Qc8]
 refine WJ (Yo (N:=N) (by omega) hb.1 hb.2) λ b _ _=>Wn (λ _=>We (bad 1 (by decide))) λ _=>Ip ?_
 refine WJ (VN hN hb hr) λ b _ _=>Wn (λ _=>We (bad 19 (by decide))) λ _=>?_
 refine WJ (VN hN hb hw) λ b _ _=>Wn (λ _=>We (bad 19 (by decide))) λ _=>?_
 refine WJ (XiB hN hb) λ y4 _ hy4=>?_
 obtain ⟨h',l,bq⟩:=hy4
 have hs:=bq.st
 refine WJ (XiC hN hs hr bq.ci) λ y5 _ hy5=>Wn (λ he=>We (bad _ (by simpa using he))) λ he=>?_
 obtain ⟨c1,c2,c3⟩:=hy5 (by simpa using he)
 have hsc:=bq.sc
 refine WJ (Xml hN hs c1 (by omega) (by omega)) λ y6 _ hy6=>Wn (λ he=>We (bad _ (by simpa using he))) λ he=>?_
 have d1:=hy6 (by simpa using he)
 refine WJ (XfD hN hs ws hw y5 y6 d1 N 0 _ [] (by omega) (by omega) (by omega) rfl) λ y16 _ hy16=>?_
 have d2:CI h' l (WV.mk y6.1.Heap y6.1.Old y6.1.Taken y6.1.Queue y6.1.Scanned (Us.mk y6.1.Report.Copied y6.1.Report.Kept y6.1.Report.Filled y6.1.Report.Freed y16.1 y6.1.Report.Steps)):=by
  obtain ⟨O,s,ho⟩:=d1.obj
  exact ⟨d1.conf,d1.wlen,d1.plen,d1.spc,d1.old,d1.tk,d1.tnd,d1.knd,d1.qnd,⟨O,s,⟨ho.old,ho.queue,ho.fit,ho.apart,ho.taken,ho.free⟩⟩⟩
 refine WJ (XkK hN hs d2) λ y17 _ ⟨f1,f2,f3,f4,f5⟩=>?_
 refine WJ (XkL hN (h0:=h') hs.hb bq.pr f1 f2 f4) λ y18 _ ⟨g1,g2⟩=>?_
 have fin:∀ x:Int,Oq rs ws ((Wo.mk y18.Heap.Conf y18.Heap.Words y18.Heap.Pages (wI (1-y18.Heap.Space)) x),y5.2.1,y16.2,y18.Report,0):=λ x=>⟨g1,λ _=>⟨c3,hy16⟩,λ h=>absurd rfl h⟩
 refine Ip (Wn (λ ht=>?_) λ _=>We (fin _))
 have ht:0<(y18.Taken.length:Int):=Wu ht
 rw[g2] at ht ⊢
 rw[Xc (by omega) (by omega)]
 exact Ok.get (by omega) (by omega) λ p _=>We (fin _)
end
end Go.Sx
namespace Go.Sx
def Y3 {α σ:Type} (q:σ->Nat->α->Bool) (nxp:σ->α->σ):σ->Nat->List α->Bool
 | _,_,[]=>true
 | s,k,x::l=>q s k x&&Y3 q nxp (nxp s x) (k+1) l
theorem Zi {α:Type} (q:α->Bool):∀ (k:Nat) (l:List α),Y3 (λ (_:Unit) _ x=>q x) (λ s _=>s) () k l=l.all q
 | _,[]=>rfl
 | k,x::l=>by rw[Y3,Zi q (k+1) l,List.all_cons]
theorem KG {α σ:Type} {l:List α} {F:Nat->σ->Int->Option (Ex Bool Unit)} {q:σ->Nat->α->Bool} {nxp:σ->α->σ} {I:σ->Prop}
 (hstep:∀ (n:Nat) (s:σ) (k:Nat) (p:α),I s->l[k]? = some p->F (n+1) s (k:Int)=bif q s k p then F n (nxp s p) ((k+1:Nat):Int) else some (.ret false))
 (hstop:∀ (n:Nat) (s:σ),F (n+1) s (l.length:Int)=some (.nxt ()))
 (hI:∀ s k p,I s->l[k]? = some p->q s k p=true->I (nxp s p)):∀ (n:Nat) (s:σ) (k:Nat),I s->k<=l.length->l.length-k<n->F n s (k:Int)=some (bif Y3 q nxp s k (l.drop k) then .nxt () else .ret false)
 | 0,s,k,_,_,hn=>by omega
 | n+1,s,k,hs,hk,hn=>by
  by_cases h:k<l.length
  ·have e:=Wd h
   rw[hstep n s k _ hs e,Ws h,Y3]
   cases hq:q s k l[k] with
   | false=>rfl
   | true =>
    rw[WP,Wc]
    exact KG hstep hstop hI n _ (k+1) (hI s k _ hs e hq) (by omega) (by omega)
  ·obtain rfl:k=l.length:=by omega
   rw[hstop,WK (Ue _)]
   rfl
theorem Kj {α:Type} {l:List α} {F:Nat->Int->Option (Ex Bool Unit)} {q:Nat->α->Bool}
 (hstep:∀ (n:Nat) (k:Nat) (p:α),l[k]? = some p->F (n+1) (k:Int)=bif q k p then F n ((k+1:Nat):Int) else some (.ret false))
 (hstop:∀ (n:Nat),F (n+1) (l.length:Int)=some (.nxt ())) {n:Nat} (hn:l.length<n):F n 0=some (bif Y3 (λ (_:Unit)=>q) (λ s _=>s) () 0 l then .nxt () else .ret false):=by
 have h:=KG (F:=λ n (_:Unit) i=>F n i) (q:=λ _=>q) (nxp:=λ s _=>s) (I:=λ _=>True) (l:=l) (λ n s k p _ e=>hstep n k p e) (λ n _=>hstop n) (λ _ _ _ _ _ _=>trivial) n () 0 trivial (by omega) (by omega)
 rw[WU] at h
 exact h
theorem Xy {k:Nat} {n:Nat} (h:k<n):decide ((k:Int)<((n:Nat):Int))=true:=Wi (by omega)
theorem Xs (n:Nat):decide (((n:Nat):Int)<((n:Nat):Int))=false:=Wj (by omega)
theorem Xv {α:Type} {l:List α} {k:Nat} {p:α} (h:l[k]? = some p):k<l.length:=(List.getElem?_eq_some_iff.1 h).1
theorem Xh {k:Nat} (h:k<=140737488355328):wI ((k:Int)+1)=((k+1:Nat):Int):=by rw[Xc (by omega) (by omega)];omega
def Vp (e:W6):Bool:=!decide (e.Gen<1)&&(!decide (e.Gen>4294967295)&&(e.Live||!(e.Ref != 0)))
def YH (l:List W6):Bool:=l.all Vp&&decide (l.length<=64)
def XU (l:List W6):List Int:=(l.filter (·.Live)).map (·.Ref)
theorem Zp {N:Nat} {t:Wy} (hl:t.Entries.length<=1000000) (hN:1000000<N):QbH N t=some (YH t.Entries):=by
 have h:=Kj (l:=t.Entries) (F:=Qcc N t) (q:=λ _=>Vp) (λ n k p e=>?_) (λ n=>?_) (n:=N) (by omega)
 ·rw[QbH,h,Xa,Zi,YH]
  cases t.Entries.all Vp
  ·rw[Wa,Xz];rfl
  ·rw[Wc,Xq,WP]
   congr 1
   exact decide_eq_decide.2 (by omega)
 ·have hk:=Xv e
  rw[Qcc,Xy hk,Wc,Xd,e,Xa,Xh (by omega)]
  unfold Vp
  cases decide (p.Gen<1)<;>cases decide (p.Gen>4294967295)<;>cases p.Live<;>cases (p.Ref != 0)<;>rfl
 ·rw[Qcc,Xs,Wa]
theorem Xa0 {N:Nat} {t:Wy} (hl:t.Entries.length<=1000000) (hN:1000000<N) (hv:YH t.Entries=true):∀ (n k:Nat) (v:List Int),k<=t.Entries.length->t.Entries.length-k<n->v.length<=k ->
 Qa7 N t n (k:Int) v=some (v++XU (t.Entries.drop k))
 | 0,k,v,_,hn,_=>by omega
 | n+1,k,v,hk,hn,hlv=>by
  rw[Qa7]
  by_cases h:k<t.Entries.length
  ·rw[Xy h,Wc,Zp hl hN,Xa,hv,Wc,Xd,Wd h,Xa,Xa,Xh (by omega),Ws h,XU]
   cases hL:t.Entries[k].Live
   ·rw[Wa,Xa0 hl hN hv n (k+1) v (by omega) (by omega) (by omega),Uy (by rw[hL];simp)]
    rfl
   ·rw[Wc,Xi (by omega),Xa0 hl hN hv n (k+1) _ (by omega) (by omega) (by rw[Wr];simp;omega),UJ (by rw[hL])]
    simp[XU]
  ·obtain rfl:k=t.Entries.length:=by omega
   rw[Xs,Wa,WK (Ue _)]
   simp[XU]
theorem YM {N:Nat} {t:Wy} (hl:t.Entries.length<=1000000) (hN:1000000<N):Qa4 N t=some (bif YH t.Entries then XU t.Entries else []):=by
 rw[Qa4]
 cases hv:YH t.Entries
 ·obtain ⟨m,rfl⟩:∃ m,N=m+1:=⟨N-1,by omega⟩
  rw[Qa7,Zp hl hN,hv]
  by_cases h:0<t.Entries.length
  ·rw[show decide ((0:Int)<((t.Entries.length:Nat):Int))=true from Wi (by omega),Wc,Xa,Wa,Xa];rfl
  ·rw[show decide ((0:Int)<((t.Entries.length:Nat):Int))=false from Wj (by omega),Wa,Xa];rfl
 ·have h:=Xa0 hl hN hv N 0 [] (by omega) (by omega) (by simp)
  rw[show ((0:Nat):Int)=0 from rfl,WU,Ur] at h
  rw[h,Xa];rfl
theorem VO (l:List W6):(XU l).length<=l.length:=by unfold XU;rw[Ug];exact List.length_filter_le _ _
theorem Vq {l:List W6} (h:YH l=true):l.length<=64:=by
 unfold YH at h
 rw[WC] at h
 exact Wu h.2
theorem XiF {l:List W6} (h:YH l=true) {e:W6} (he:e∈l):1<=e.Gen/\e.Gen<=4294967295/\(e.Live=false->e.Ref=0):=by
 unfold YH at h
 rw[WC,Uf] at h
 have:=h.1 e he
 unfold Vp at this
 simp only[WC,Uq,W5,Ig,bne_eq_false_iff_eq] at this
 refine ⟨by omega,by omega,λ hL=>?_⟩
 rcases this.2.2 with h | h
 ·rw[hL] at h;cases h
 ·exact h
def YS (l:List W6) (i g:Int):Int×Int :=
 if YH l=false then (0,1) else if i<0\/(l.length:Int)<=i\/g<1 then (0,6) else
 match l[i.toNat]? with
 | none=>(0,6)
 | some e=>if g>e.Gen then (0,6) else if g<e.Gen then (0,8) else if e.Live then (e.Ref,0) else (0,8)
theorem KV {N:Nat} {t:Wy} (hl:t.Entries.length<=1000000) (hN:1000000<N) (i g:Int):Qc3 N t i g=some (YS t.Entries i g):=by
 rw[Qc3,Zp hl hN,Xa,YS]
 cases hv:YH t.Entries
 ·rfl
 ·simp only[Wt,Wa,Ut,Bool.true_eq_false,if_false]
  by_cases h0:i<0
  ·rw[Wm h0,Wm (.inl h0)]
  ·rw[Wk h0]
   by_cases h1:i>=((t.Entries.length:Nat):Int)
   ·rw[Wm h1,Wm (.inr (.inl h1))]
   ·rw[Wk h1]
    by_cases h2:g<1
    ·rw[Wm h2,Wm (.inr (.inr h2))]
    ·have hlt:i.toNat<t.Entries.length:=by omega
     rw[Wk h2,Wk (by omega),X4 (by omega) (by omega),Xa,Wd hlt]
     simp only[Xa]
     by_cases h3:g>t.Entries[i.toNat].Gen
     ·rw[Wm h3,Wm h3]
     ·rw[Wk h3,Wk h3]
      by_cases h4:g<t.Entries[i.toNat].Gen
      ·rw[Wm h4,Wm h4]
      ·rw[Wk h4,Wk h4]
       cases t.Entries[i.toNat].Live<;>rfl
end Go.Sx
namespace Go.Sx
theorem Kk {α σ:Type} {q:σ->Nat->α->Bool} {nxp:σ->α->σ}:∀ (l:List α) (s:σ) (k:Nat),Y3 q nxp s k l=true↔∀ i p,l[i]? = some p->q ((l.take i).foldl nxp s) (k+i) p=true
 | [],s,k=>by simp[Y3]
 | x::l,s,k=>by
  rw[Y3,WC,Kk l (nxp s x) (k+1)]
  constructor
  ·rintro ⟨h1,h2⟩ i p hp
   cases i with
   | zero=>simp at hp;subst hp;exact h1
   | succ i =>
    have:=h2 i p (by simpa using hp)
    rw[Iw,ID,show k+(i+1)=k+1+i by omega]
    exact this
  ·intro h
   refine ⟨h 0 x rfl,λ i p hp=>?_⟩
   have:=h (i+1) p (by simpa using hp)
   rw[Iw,ID,show k+(i+1)=k+1+i by omega] at this
   exact this
def XkM (l:List Int):Bool:=l.all λ p=>!decide (p<0)&&!decide (p>4095)
def stQ (iss:List Int) (s:Int) (i:Nat) (p:US):Bool:=!decide (p.Stamp<=s)&&(!decide (p.Stamp>((iss.length:Nat):Int))&&(!((iss.getD (p.Stamp-1).toNat 0) != (i:Int))&&(p.Live==(p.Ref != 0))))
def stB (iss:List Int) (l:List US):Bool:=Y3 (stQ iss) (λ _ p=>p.Stamp) 0 0 l
def neQ (n:Nat) (s:Int) (i:Nat) (p:U2):Bool:=(!((i:Int)==0)||(!(p.From != 0)&&p.Base))&&(!decide (p.From<s)&&(!decide (p.From>((n:Nat):Int))&&(!decide (p.Cap<0)&&!decide (p.Cap>64))))
def neB (n:Nat) (l:List U2):Bool:=Y3 (neQ n) (λ _ p=>p.From) 0 0 l
def Kl (l:List US) (f t:Nat):Nat:=((l.drop f).take (t-f)).countP (·.Live)
def toL (a:Wq) (i:Nat):Int:=match a.Scopes[i+1]? with | some p=>p.From | none=>a.Slots.length
def XiG (a:Wq) (_:Unit) (i:Nat) (p:U2):Bool:=!decide (((Kl a.Slots p.From.toNat (toL a i).toNat:Nat):Int)>p.Cap)
def XeT (a:Wq):Bool:=Y3 (XiG a) (λ s _=>s) () 0 a.Scopes
def YZ (a:Wq):Bool:=!decide (((a.Issued.length:Nat):Int)>4096)&&(!decide (((a.Scopes.length:Nat):Int)>64)&&((!(((a.Scopes.length:Nat):Int)==0)||!decide (((a.Slots.length:Nat):Int)>0))&&(XkM a.Issued&&(stB a.Issued a.Slots&&(neB a.Slots.length a.Scopes&&XeT a)))))
def LBp (a:Wq):Prop:=a.Slots.length<=1000000/\a.Scopes.length<=1000000/\a.Issued.length<=1000000
theorem Jh {n:Nat} {l:List U2} (h:neB n l=true) {i:Nat} {p:U2} (hp:l[i]? = some p):0<=p.From/\p.From<=n/\0<=p.Cap/\p.Cap<=64/\(i=0->p.From=0/\p.Base=true)/\∀ p',l[i+1]? = some p'->p.From<=p'.From:=by
 have hi:=(Kk l (0:Int) 0).1 h
 have inv:∀ (k:Nat) (p:U2),l[k]? = some p->0<=p.From:=by
  intro k
  induction k with
  | zero =>
   intro p hp
   have:=hi 0 p hp
   unfold neQ at this
   simp at this
   omega
  | succ k ih =>
   intro p hp
   have hk:k<l.length:=by have:=Xv hp;omega
   have e:=Wd hk
   have h1:=ih _ e
   have h2:=hi (k+1) p hp
   rw[List.take_add_one,e] at h2
   simp only[List.foldl_append,Option.toList,ID,List.foldl_nil] at h2
   unfold neQ at h2
   simp only[WC,Uq,W5] at h2
   have:=h2.2.1
   omega
 have h0:=hi i p hp
 unfold neQ at h0
 simp only[WC,Uq,W5,Ig,Uu,bne_eq_false_iff_eq] at h0
 refine ⟨inv i p hp,by omega,by omega,by omega,λ hz=>?_,λ p' hp'=>?_⟩
 ·subst hz
  rcases h0.1 with h | h
  ·cases h
  ·exact h
 ·have h2:=hi (i+1) p' hp'
  rw[List.take_add_one,hp] at h2
  simp only[List.foldl_append,Option.toList,ID,List.foldl_nil] at h2
  unfold neQ at h2
  simp only[WC,Uq,W5] at h2
  have:=h2.2.1
  omega
theorem XgH {iss:List Int} {l:List US} (h:stB iss l=true) {i:Nat} {p:US} (hp:l[i]? = some p):(i:Int)+1<=p.Stamp/\p.Stamp<=iss.length/\iss.getD (p.Stamp-1).toNat 0=i/\(p.Live=true↔p.Ref≠0):=by
 have hi:=(Kk l (0:Int) 0).1 h
 have inv:∀ (k:Nat) (p:US),l[k]? = some p->(k:Int)+1<=p.Stamp:=by
  intro k
  induction k with
  | zero =>
   intro p hp
   have:=hi 0 p hp
   unfold stQ at this
   simp only[WC,Uq,W5,List.take_zero,List.foldl_nil] at this
   have:=WD this.1
   omega
  | succ k ih =>
   intro p hp
   have hk:k<l.length:=by have:=Xv hp;omega
   have e:=Wd hk
   have h1:=ih _ e
   have h2:=hi (k+1) p hp
   rw[List.take_add_one,e] at h2
   simp only[List.foldl_append,Option.toList,ID,List.foldl_nil] at h2
   unfold stQ at h2
   simp only[WC,Uq,W5] at h2
   have:=h2.1
   omega
 have h0:=hi i p hp
 unfold stQ at h0
 simp only[WC,Uq,W5,Uu,bne_eq_false_iff_eq,beq_iff_eq] at h0
 refine ⟨inv i p hp,by omega,h0.2.2.1,?_⟩
 rw[h0.2.2.2]
 simp
structure On (a:Wq):Prop where
 iss:a.Issued.length<=4096
 sc:a.Scopes.length<=64
 none:a.Scopes.length=0->a.Slots.length=0
 issr:∀ x∈a.Issued,0<=x/\x<=4095
 st:stB a.Issued a.Slots=true
 ne:neB a.Slots.length a.Scopes=true
 cap:XeT a=true
theorem Z9 {a:Wq}:YZ a=true↔On a:=by
 unfold YZ XkM
 simp only[WC,Uq,W5,Ig,Uf,Ix]
 constructor
 ·rintro ⟨h1,h2,h3,h4,h5,h6,h7⟩
  exact ⟨by omega,by omega,λ e=>by omega,λ x hx=>by have:=h4 x hx;omega,h5,h6,h7⟩
 ·intro h
  exact ⟨by have:=h.iss;omega,by have:=h.sc;omega,by have:=h.none;omega,λ x hx=>by have:=h.issr x hx;omega,h.st,h.ne,h.cap⟩
theorem On.slots {a:Wq} (h:On a):a.Slots.length<=a.Issued.length:=by
 by_cases hz:a.Slots.length=0
 ·omega
 ·have e:=Wd (show a.Slots.length-1<a.Slots.length by omega)
  have:=XgH h.st e
  omega
theorem XcO {N:Nat} {a:Wq} (hl:a.Slots.length<=1000000) (t:Nat) (ht:t<=a.Slots.length):∀ (n f c:Nat),t-f<n->c<=f->f<=1000000->QcC N a (t:Int) n (c:Int) (f:Int)=some (((c+Kl a.Slots f t:Nat):Int))
 | 0,f,c,hn,_,_=>by omega
 | n+1,f,c,hn,hc,hf=>by
  rw[QcC]
  by_cases h:f<t
  ·have hlt:f<a.Slots.length:=by omega
   rw[show decide ((f:Int)<(t:Int))=true from Wi (by omega),Wc,Xd,Wd hlt,Xa,Xh (by omega),Xh (by omega)]
   have e:Kl a.Slots f t=(if a.Slots[f].Live then 1 else 0)+Kl a.Slots (f+1) t:=by
    unfold Kl
    rw[Ws hlt,show t-f=(t-(f+1))+1 by omega,Iw,List.countP_cons]
    omega
   cases hL:a.Slots[f].Live
   ·rw[Wa,XcO hl t ht n (f+1) c (by omega) (by omega) (by omega),e,hL]
    simp
   ·rw[Wc,XcO hl t ht n (f+1) (c+1) (by omega) (by omega) (by omega),e,hL]
    simp;omega
  ·rw[show decide ((f:Int)<(t:Int))=false from Wj (by omega),Wa]
   unfold Kl
   rw[show t-f=0 by omega]
   simp
theorem XfE {N:Nat} {a:Wq} (hl:a.Slots.length<=1000000) (hN:1000000<N) {f t:Int} (f0:0<=f) (f1:f<=1000000) (t0:0<=t) (t1:t<=a.Slots.length):Qfw N a f t=some ((Kl a.Slots f.toNat t.toNat:Nat):Int):=by
 obtain ⟨f,rfl⟩:=U5 f0
 obtain ⟨t,rfl⟩:=U5 t0
 rw[Qfw]
 have:=XcO (N:=N) hl t (by omega) N f 0 (by omega) (by omega) (by omega)
 rw[show ((0:Nat):Int)=0 from rfl] at this
 show bnd (QcC N a (t:Int) N 0 (f:Int)) _=_
 rw[this,Xa]
 simp
theorem Xm9 {N:Nat} {a:Wq} {i:Nat} (hi:i<=1000000):QgS N a (i:Int)=some (toL a i):=by
 rw[QgS,Xh (by omega),toL]
 by_cases h:i+1<a.Scopes.length
 ·rw[Xy h,Wc,Xd,Wd h,Xa]
 ·rw[show decide (((i+1:Nat):Int)<((a.Scopes.length:Nat):Int))=false from Wj (by omega),Wa,WN (by omega)]
theorem Xna {a:Wq} (h:neB a.Slots.length a.Scopes=true) (i:Nat):0<=toL a i/\toL a i<=a.Slots.length:=by
 unfold toL
 cases e:a.Scopes[i+1]? with
 | none=>simp
 | some p=>have:=Jh h e;simp only;omega
theorem Zq {N:Nat} {a:Wq} (hl:LBp a) (hN:1000000<N):QbG N a=some (YZ a):=by
 obtain ⟨hl1,hl2,hl3⟩:=hl
 have h1:=Kj (l:=a.Issued) (F:=QcO N a) (q:=λ _ p=>!decide (p<0)&&!decide (p>4095)) (λ n k p e=>by
  have hk:=Xv e
  rw[QcO,Xy hk,Wc,Xd,e,Xa,Xa,Xh (by omega)]
  cases decide (p<0)<;>cases decide (p>4095)<;>rfl) (λ n=>by rw[QcO,Xs,Wa]) (n:=N) (by omega)
 have h2:=KG (l:=a.Slots) (F:=λ n s i=>Qai N a n s i) (q:=stQ a.Issued) (nxp:=λ _ p=>p.Stamp) (I:=λ s=>0<=s) (λ n s k p hs e=>by
  have hk:=Xv e
  show Qai N a (n+1) s (k:Int)=_
  rw[Qai,Xy hk,Wc,Xd,e,Xa,Xh (by omega)]
  unfold stQ
  cases g1:decide (p.Stamp<=s)
  ·cases g2:decide (p.Stamp>((a.Issued.length:Nat):Int))
   ·have g1:=WD g1
    have g2:=WD g2
    rw[Wa,Wa,Xc (by omega) (by omega),X4 (by omega) (by omega),Xa]
    have ge:a.Issued[(p.Stamp-1).toNat]'(by omega)=a.Issued.getD (p.Stamp-1).toNat 0:=by
     rw[Wp,Wd (by omega)];rfl
    rw[ge]
    cases (a.Issued.getD (p.Stamp-1).toNat 0 != (k:Int))<;>cases (p.Live==(p.Ref != 0))<;>rfl
   ·rfl
  ·rfl) (λ n s=>by show Qai N a (n+1) s _=_;rw[Qai,Xs,Wa]) (λ s k p hs e hq=>by
   unfold stQ at hq
   simp only[WC,Uq,W5] at hq
   have:=hq.1
   omega) N 0 0 (by omega) (by omega) (by omega)
 have h3:=KG (l:=a.Scopes) (F:=λ n s i=>Qag N a n s i) (q:=neQ a.Slots.length) (nxp:=λ _ p=>p.From) (I:=λ _=>True) (λ n s k p hs e=>by
  have hk:=Xv e
  show Qag N a (n+1) s (k:Int)=_
  rw[Qag,Xy hk,Wc,Xd,e,Xa,Xh (by omega)]
  unfold neQ
  cases ((k:Int)==0)<;>cases (p.From != 0)<;>cases p.Base<;>cases decide (p.From<s)<;>cases decide (p.From>((a.Slots.length:Nat):Int))<;>cases decide (p.Cap<0)<;>cases decide (p.Cap>64)<;>rfl) (λ n s=>by show Qag N a (n+1) s _=_;rw[Qag,Xs,Wa]) (λ _ _ _ _ _ _=>trivial) N 0 0 trivial (by omega) (by omega)
 rw[WU] at h2 h3
 rw[Zi] at h1
 rw[QbG,Yy,h1,Xa]
 have e2:Qai N a N 0 0=some (bif stB a.Issued a.Slots then .nxt () else .ret false):=h2
 have e3:Qag N a N 0 0=some (bif neB a.Slots.length a.Scopes then .nxt () else .ret false):=h3
 unfold YZ XkM
 have main:(exK (bif (a.Issued.all λ p=>!decide (p<0)&&!decide (p>4095)) then Ex.nxt () else Ex.ret false) (λ r=>some r) λ y4 =>
  bnd (Qai N a N 0 0) λ e=>exK e (λ r=>some r) λ y9 =>
  bnd (Qag N a N 0 0) λ e=>exK e (λ r=>some r) λ y13 =>
  bnd (Qcb N a N 0) λ e=>exK e (λ r=>some r) λ y19=>some true)=some ((a.Issued.all λ p=>!decide (p<0)&&!decide (p>4095))&&(stB a.Issued a.Slots&&(neB a.Slots.length a.Scopes&&XeT a))):=by
  cases (a.Issued.all λ p=>!decide (p<0)&&!decide (p>4095))
  ·rw[Wa,Xz];rfl
  rw[Wc,Xq,WP,e2,Xa]
  cases stB a.Issued a.Slots
  ·rw[Wa,Xz];rfl
  rw[Wc,Xq,WP,e3,Xa]
  cases hne:neB a.Slots.length a.Scopes
  ·rw[Wa,Xz];rfl
  rw[Wc,Xq,WP]
  have h4:=Kj (l:=a.Scopes) (F:=Qcb N a) (q:=XiG a ()) (λ n k p e=>by
   have hk:=Xv e
   have hf:=Jh hne e
   have ht:=Xna hne k
   rw[Qcb,Xy hk,Wc,Xd,e,Xa,Xm9 (by omega),Xa,XfE hl1 hN hf.1 (by omega) ht.1 ht.2,Xa,Xa,Xh (by omega)]
   unfold XiG
   cases decide (((Kl a.Slots p.From.toNat (toL a k).toNat:Nat):Int)>p.Cap)<;>rfl) (λ n=>by rw[Qcb,Xs,Wa]) (n:=N) (by omega)
  rw[h4,Xa]
  show exK (bif XeT a then Ex.nxt () else Ex.ret false) _ _=_
  cases XeT a
  ·rw[Wa,Xz]
  ·rw[Wc,Xq]
 rw[main]
 cases decide (((a.Issued.length:Nat):Int)>4096)<;>cases decide (((a.Scopes.length:Nat):Int)>64)<;>cases (((a.Scopes.length:Nat):Int)==0)<;>cases decide (((a.Slots.length:Nat):Int)>0)<;>rfl
end Go.Sx
namespace Go.Sx
def zL:Wq:=⟨[],[],[]⟩
def Yi (l:List US):List Int:=(l.filter (·.Live)).map (·.Ref)
theorem XbX (l:List US):(Yi l).length<=l.length:=by unfold Yi;rw[Ug];exact List.length_filter_le _ _
section
variable {N:Nat} {a:Wq}
theorem Xa1 (hl:LBp a) (hN:1000000<N) (hv:YZ a=true):∀ (n k:Nat) (v:List Int),k<=a.Slots.length->a.Slots.length-k<n->v.length<=k ->
 Qa8 N a n (k:Int) v=some (v++Yi (a.Slots.drop k))
 | 0,k,v,_,hn,_=>by omega
 | n+1,k,v,hk,hn,hlv=>by
  have hl1:=hl.1
  rw[Qa8]
  by_cases h:k<a.Slots.length
  ·rw[Xy h,Wc,Zq hl hN,Xa,hv,Wc,Xd,Wd h,Xa,Xa,Xh (by omega),Ws h,Yi]
   cases hL:a.Slots[k].Live
   ·rw[Wa,Xa1 hl hN hv n (k+1) v (by omega) (by omega) (by omega),Uy (by rw[hL];simp)]
    rfl
   ·rw[Wc,Xi (by omega),Xa1 hl hN hv n (k+1) _ (by omega) (by omega) (by rw[Wr];simp;omega),UJ (by rw[hL])]
    simp[Yi]
  ·obtain rfl:k=a.Slots.length:=by omega
   rw[Xs,Wa,WK (Ue _)]
   simp[Yi]
theorem Ka (hl:LBp a) (hN:1000000<N):Qb5 N a=some (bif YZ a then Yi a.Slots else []):=by
 rw[Qb5]
 cases hv:YZ a
 ·obtain ⟨m,rfl⟩:∃ m,N=m+1:=⟨N-1,by omega⟩
  rw[Qa8,Zq hl hN,hv]
  by_cases h:0<a.Slots.length
  ·rw[show decide ((0:Int)<((a.Slots.length:Nat):Int))=true from Wi (by omega),Wc,Xa,Wa,Xa];rfl
  ·rw[show decide ((0:Int)<((a.Slots.length:Nat):Int))=false from Wj (by omega),Wa,Xa];rfl
 ·have h:=Xa1 hl hN hv N 0 [] (by omega) (by have:=hl.1;omega) (by simp)
  rw[show ((0:Nat):Int)=0 from rfl,WU,Ur] at h
  rw[h,Xa];rfl
def JY (a:Wq):U2:=a.Scopes.getD (a.Scopes.length-1) ⟨0,0,false⟩
theorem Xa2 (h:a.Scopes.length≠0) (hl:a.Scopes.length<=1000000):Xb a.Scopes (wI (((a.Scopes.length:Nat):Int)-1))=some (JY a):=by
 rw[Xc (by omega) (by omega),show ((a.Scopes.length:Nat):Int)-1=((a.Scopes.length-1:Nat):Int) by omega,Xd,JY,Wp,Wd (by omega)]
 rfl
def Xa3 (a:Wq) (id:Int):Wq×Int×Int×Int :=
 if YZ a=false then (zL,0,0,1) else if id=0 then (zL,0,0,1) else if a.Scopes.length=0 then (zL,0,0,9)
 else if (JY a).Cap<=((Kl a.Slots (JY a).From.toNat a.Slots.length:Nat):Int) then (zL,0,0,10)
 else if a.Issued.length=4096 then (zL,0,0,18)
 else (⟨a.Slots++[⟨(a.Issued.length:Int)+1,id,true⟩],a.Scopes,a.Issued++[(a.Slots.length:Int)]⟩,(a.Slots.length:Int),(a.Issued.length:Int)+1,0)
theorem XdR (hv:YZ a=true) (h:a.Scopes.length≠0):0<=(JY a).From/\(JY a).From<=a.Slots.length:=by
 have hf:=Z9.1 hv
 have e:=Wd (show a.Scopes.length-1<a.Scopes.length by omega)
 have:=Jh hf.ne e
 have e2:JY a=a.Scopes[a.Scopes.length-1]:=by unfold JY;rw[Wp,e];rfl
 rw[e2];omega
theorem Xan (hl:LBp a) (hN:1000000<N) (id:Int):Qdv N a id=some (Xa3 a id):=by
 obtain ⟨hl1,hl2,hl3⟩:=hl
 rw[Qdv,Zq ⟨hl1,hl2,hl3⟩ hN,Xa,Xa3]
 cases hv:YZ a
 ·rfl
 rw[Wt,Wa,Wk (by simp)]
 by_cases h1:id=0
 ·subst h1;rfl
 rw[Wk h1,show (id==0)=false by simpa using h1,Wa]
 by_cases h2:a.Scopes.length=0
 ·rw[Wm h2,h2];rfl
 rw[Wk h2,show (((a.Scopes.length:Nat):Int)==0)=false by simpa using h2,Wa,Xa2 h2 hl2,Xa]
 have ht:=XdR hv h2
 rw[XfE hl1 hN ht.1 (by omega) (by omega) (by omega),Xa,Xa,Is]
 by_cases h3:(JY a).Cap<=((Kl a.Slots (JY a).From.toNat a.Slots.length:Nat):Int)
 ·rw[Wm h3,Wi (show ((Kl a.Slots (JY a).From.toNat a.Slots.length:Nat):Int)>=_ from h3),Wc];rfl
 rw[Wk h3,Wj (show ¬ ((Kl a.Slots (JY a).From.toNat a.Slots.length:Nat):Int)>=_ from h3),Wa]
 by_cases h4:a.Issued.length=4096
 ·rw[Wm h4,h4];rfl
 rw[Wk h4,show (((a.Issued.length:Nat):Int)==4096)=false by simp;omega,Wa,Xi (by omega),Xi (by omega),Xi (by omega),Xi (by omega),Xc (by omega) (by omega)]
theorem Zc:LBp zL:=⟨by simp[zL],by simp[zL],by simp[zL]⟩
theorem XfF (hl:LBp a) (id:Int):LBp (Xa3 a id).1:=by
 obtain ⟨hl1,hl2,hl3⟩:=hl
 unfold Xa3
 cases hv:YZ a
 ·exact Zc
 have hf:=Z9.1 hv
 have hs:=hf.slots
 have hi:=hf.iss
 split
 ·exact Zc
 split
 ·exact Zc
 split
 ·exact Zc
 split
 ·exact Zc
 split
 ·exact Zc
 refine ⟨?_,hl2,?_⟩
 ·show (a.Slots++[_]).length<=_
  rw[Wr];simp;omega
 ·show (a.Issued++[_]).length<=_
  rw[Wr];simp;omega
def Y9 (a:Wq) (i g:Int):Int×Int :=
 if YZ a=false then (0,1) else if g<1\/(a.Issued.length:Int)<g then (0,6) else
 if a.Issued.getD (g-1).toNat 0≠i then (0,6) else if (a.Slots.length:Int)<=i then (0,7) else
 match a.Slots[i.toNat]? with
 | none=>(0,7)
 | some p=>if p.Stamp≠g then (0,7) else if p.Live then (p.Ref,0) else (0,8)
theorem Vr (hl:LBp a) (hN:1000000<N) (i g:Int):Qdw N a i g=some (Y9 a i g):=by
 have hl':=hl
 obtain ⟨hl1,hl2,hl3⟩:=hl
 rw[Qdw,Zq hl' hN,Xa,Y9]
 cases hv:YZ a
 ·rfl
 have hf:=Z9.1 hv
 rw[Wt,Wa,Wk (by simp)]
 by_cases h1:g<1
 ·rw[Wi h1,Wc,Wm (.inl h1)]
 rw[Wj h1,Wa]
 by_cases h2:g>((a.Issued.length:Nat):Int)
 ·rw[Wi h2,Wc,Wm (.inr h2)]
 have hlt:(g-1).toNat<a.Issued.length:=by omega
 rw[Wj h2,Wa,Wk (by omega),Xc (by omega) (by omega),X4 (by omega) (by omega),Xa]
 have ge:a.Issued[(g-1).toNat]=a.Issued.getD (g-1).toNat 0:=by rw[Wp,Wd hlt];rfl
 have hm:=hf.issr _ (WT hlt)
 rw[ge] at hm ⊢
 by_cases h3:a.Issued.getD (g-1).toNat 0=i
 ·rw[h3] at hm ⊢
  rw[show (i != i)=false by simp,Wa,Wk (by simp)]
  by_cases h4:i>=((a.Slots.length:Nat):Int)
  ·rw[Wi h4,Wc,Wm h4]
  ·have hlt2:i.toNat<a.Slots.length:=by omega
   rw[Wj h4,Wa,Wk (by omega),X4 (by omega) (by omega),Xa,Wd hlt2]
   simp only[Xa]
   by_cases h5:a.Slots[i.toNat].Stamp=g
   ·rw[h5,show (g != g)=false by simp,Wa,Wk (by simp)]
    cases a.Slots[i.toNat].Live<;>rfl
   ·rw[show (a.Slots[i.toNat].Stamp != g)=true by simpa using h5,Wc,Wm h5]
 ·rw[show (a.Issued.getD (g-1).toNat 0 != i)=true by simpa using h3,Wc,Wm h3]
theorem XbY {i g:Int} (h:(Y9 a i g).2=0):YZ a=true/\0<=i/\∃ p,a.Slots[i.toNat]? = some p/\p.Stamp=g/\p.Live=true/\(Y9 a i g).1=p.Ref:=by
 unfold Y9 at h ⊢
 cases hv:YZ a
 ·rw[hv] at h;cases h
 have hf:=Z9.1 hv
 rw[hv] at h
 rw[Wk (by simp)] at h ⊢
 by_cases h1:g<1\/(a.Issued.length:Int)<g
 ·rw[Wm h1] at h;cases h
 rw[Wk h1] at h ⊢
 have hlt:(g-1).toNat<a.Issued.length:=by omega
 have ge:a.Issued[(g-1).toNat]=a.Issued.getD (g-1).toNat 0:=by rw[Wp,Wd hlt];rfl
 have hm:=hf.issr _ (WT hlt)
 rw[ge] at hm
 by_cases h2:a.Issued.getD (g-1).toNat 0≠i
 ·rw[Wm h2] at h;cases h
 rw[Wk h2] at h ⊢
 by_cases h3:(a.Slots.length:Int)<=i
 ·rw[Wm h3] at h;cases h
 rw[Wk h3] at h ⊢
 have hi:0<=i:=by have:a.Issued.getD (g-1).toNat 0=i:=Classical.not_not.1 h2;omega
 have e:=Wd (show i.toNat<a.Slots.length by omega)
 rw[e] at h ⊢
 simp only at h ⊢
 by_cases h4:a.Slots[i.toNat].Stamp≠g
 ·rw[Wm h4] at h;cases h
 rw[Wk h4] at h ⊢
 cases hL:a.Slots[i.toNat].Live
 ·rw[hL] at h;cases h
 ·exact ⟨trivial,hi,_,rfl,Classical.not_not.1 h4,hL,rfl⟩
def XcP (a:Wq) (i g:Int):Wq×Int :=
 if (Y9 a i g).2≠0 then (zL,(Y9 a i g).2) else (⟨a.Slots.set i.toNat ⟨g,0,false⟩,a.Scopes,a.Issued⟩,0)
theorem XfG (hl:LBp a) (hN:1000000<N) (i g:Int):Qc4 N a i g=some (XcP a i g):=by
 rw[Qc4,Vr hl hN,Xa,XcP]
 by_cases h:(Y9 a i g).2=0
 ·obtain ⟨_,h0,p,hp,_⟩:=XbY h
  have:=Xv hp
  have hl1:=hl.1
  rw[h,show ((0:Int) != 0)=false from rfl,Wa,Wk (by simp),Xi (by omega),X4 h0 (by omega),Xa]
 ·rw[show ((Y9 a i g).2 != 0)=true by simpa using h,Wc,Wm h];rfl
theorem XfH (hl:LBp a) (i g:Int):LBp (XcP a i g).1:=by
 unfold XcP
 split
 ·exact Zc
 ·exact ⟨by show (a.Slots.set _ _).length<=_;rw[WE];exact hl.1,hl.2⟩
def Vs (a:Wq) (c:Int):Wq×Int :=
 if YZ a=false\/c<0\/64<c then (zL,1) else if a.Scopes.length=0 then (zL,9) else if a.Scopes.length=64 then (zL,17) else (⟨a.Slots,a.Scopes++[⟨(a.Slots.length:Int),c,false⟩],a.Issued⟩,0)
theorem Xa4 (hl:LBp a) (hN:1000000<N) (c:Int):Qdo N a c=some (Vs a c):=by
 have hl2:=hl.2.1
 rw[Qdo,Qfz,Zq hl hN,Xa,Vs]
 cases hv:YZ a
 ·rw[WR,Wc,Xa,Wm (.inl rfl)];rfl
 rw[Wt,Wa]
 by_cases h1:c<0
 ·rw[Wi h1,Wc,Xa,Wm (.inr (.inl h1))];rfl
 by_cases h2:c>64
 ·rw[Wj h1,Wa,Wi h2,Wc,Xa,Wm (.inr (.inr h2))];rfl
 rw[Wj h1,Wa,Wj h2,Wa,Yy,WR,Wc,Wk (by rintro (h | h | h);cases h;exact h1 h;exact h2 h)]
 by_cases h3:a.Scopes.length=0
 ·rw[Wm h3,h3];rw[show (((0:Nat):Int)==0)=true from rfl,Wc,Xa];rfl
 rw[Wk h3,show (((a.Scopes.length:Nat):Int)==0)=false by simpa using h3,Wa]
 by_cases h4:a.Scopes.length=64
 ·rw[Wm h4,h4];rw[show (((64:Nat):Int)==64)=true from rfl,Wc,Xa];rfl
 rw[Wk h4,show (((a.Scopes.length:Nat):Int)==64)=false by simp;omega,Wa,Xi (by omega),Xi (by omega),Xa]
theorem XdS (hl:LBp a) (c:Int):LBp (Vs a c).1:=by
 unfold Vs
 cases hv:YZ a
 ·exact Zc
 have:=(Z9.1 hv).sc
 split
 ·exact Zc
 split
 ·exact Zc
 split
 ·exact Zc
 ·exact ⟨hl.1,by show (a.Scopes++[_]).length<=_;rw[Wr];simp;omega,hl.2.2⟩
def Ks (a:Wq):Wq×Int :=
 if YZ a=false then (zL,1) else if a.Scopes.length=0 then (zL,9) else if (JY a).Base then (zL,9) else (⟨a.Slots.take (JY a).From.toNat,a.Scopes.take (a.Scopes.length-1),a.Issued⟩,0)
theorem XcQ (hl:LBp a) (hN:1000000<N):Qd4 N a=some (Ks a):=by
 obtain ⟨hl1,hl2,hl3⟩:=hl
 rw[Qd4,Zq ⟨hl1,hl2,hl3⟩ hN,Xa,Ks]
 cases hv:YZ a
 ·rfl
 rw[Wt,Wa,Wk (by simp)]
 by_cases h2:a.Scopes.length=0
 ·rw[Wm h2,h2];rfl
 have ht:=XdR hv h2
 rw[Wk h2,show (((a.Scopes.length:Nat):Int)==0)=false by simpa using h2,Wa,Xa2 h2 hl2,Xa]
 cases hB:(JY a).Base
 ·rw[Wa,QfZ,Xa2 h2 hl2,Xa,Xc (by omega) (by omega),Xi (by omega),Xi (by omega),Xi (by omega),Xi (by omega),Xa]
  rw[show (((a.Scopes.length:Nat):Int)-1).toNat=a.Scopes.length-1 by omega]
  rfl
 ·rw[Wc];rfl
theorem XcR (hl:LBp a):LBp (Ks a).1:=by
 unfold Ks
 split
 ·exact Zc
 split
 ·exact Zc
 split
 ·exact Zc
 ·obtain ⟨hl1,hl2,hl3⟩:=hl
  exact ⟨by show (a.Slots.take _).length<=_;rw[Wz];omega,by show (a.Scopes.take _).length<=_;rw[Wz];omega,hl3⟩
theorem Xa5 (rs:List Int) (hl:a.Slots.length<=1000000):∀ (n k:Nat) (c:Int) (v:List US),k<=a.Slots.length->a.Slots.length-k<n->v.length=a.Slots.length->v.drop k=a.Slots.drop k->0<=c->c+(Yi (a.Slots.drop k)).length=rs.length->rs.length<=1000000 ->
 Ok (Qbi N a rs n c (k:Int) v) λ e=>match e with | .ret r=>r=(zL,1) | .nxt v=>v.length=a.Slots.length
 | 0,k,c,v,_,hn,_,_,_,_,_=>by omega
 | n+1,k,c,v,hk,hn,hv,hd,hc,hr,hrl=>by
  rw[Qbi]
  refine W4 (by omega) (Wn (λ h=>?_) λ h=>We hv)
  have h:k<a.Slots.length:=by have:=Wu h;omega
  have hkv:(k:Int)<v.length:=by omega
  rw[Xh (by omega)]
  have hdv:=Ws (show k<v.length by omega)
  have hda:=Ws h
  rw[hd,hda] at hdv
  have e1:a.Slots[k]=v[k]:=(IS hdv).1
  have e2:a.Slots.drop (k+1)=v.drop (k+1):=(IS hdv).2
  refine Ok.get (by omega) hkv λ p hp=>?_
  have hpe:p=a.Slots[k]:=by
   rw[Xd,Wd (by omega),← e1] at hp
   exact (WO hp).symm
  rw[hda] at hr
  refine Wn (λ hL=>?_) λ hL=>?_
  ·have hL:a.Slots[k].Live=false:=by rw[← hpe];simpa using hL
   refine Xa5 rs hl n (k+1) c v (by omega) (by omega) hv e2.symm hc ?_ hrl
   rw[← hr];unfold Yi;rw[Uy (by rw[hL];simp)]
  ·have hL:a.Slots[k].Live=true:=by rw[← hpe];simpa using hL
   have hr2:c+1+(Yi (a.Slots.drop (k+1))).length=rs.length:=by
    rw[← hr];unfold Yi;rw[UJ (by rw[hL]),Un,W7];omega
   refine Ok.get hc (by omega) λ q _=>Wn (λ _=>We rfl) λ _=>Ok.get hc (by omega) λ q _=>Ok.get (by omega) hkv λ p' _=>?_
   rw[Xc (n:=c+1) (by omega) (by omega)]
   refine Xa5 rs hl n (k+1) (c+1) _ (by omega) (by omega) (by rw[WE];exact hv) ?_ (by omega) hr2 hrl
   rw[List.drop_set_of_lt (by omega)]
   exact e2.symm
theorem XiH (hl:LBp a) (hN:1000000<N) {rs:List Int} (hr:rs.length<=1000000):Ok (QeJ N a rs) λ r=>LBp r.1:=by
 have hl':=hl
 obtain ⟨hl1,hl2,hl3⟩:=hl
 rw[QeJ,Zq hl' hN,Xa]
 refine Wn (λ _=>We Zc) λ hv=>?_
 have hv:YZ a=true:=by simpa using hv
 rw[Ka hl' hN,Xa,hv,Wc]
 refine Wn (λ _=>We Zc) λ he=>W4 (by omega) ?_
 have he:((rs.length:Nat):Int)=(((Yi a.Slots).length:Nat):Int):=by simpa using he
 refine IG (Xa5 rs hl1 N 0 0 a.Slots (by omega) (by omega) rfl rfl (by omega) (by rw[WU];omega) hr) (λ r q=>We (by have q:r=(zL,1):=q;rw[q];exact Zc)) λ v q=>We ⟨?_,hl2,hl3⟩
 have q:v.length=a.Slots.length:=q
 show v.length<=_
 omega
end
end Go.Sx
namespace Go.Sx
def TB (t:Wy):Prop:=t.Entries.length<=1000000
def zT:Wy:=⟨[]⟩
theorem Xa6:TB zT:=by simp[TB,zT]
section
variable {N:Nat} {t:Wy}
def XfI (l:List W6):Option Nat:=l.findIdx? λ e=>!e.Live&&decide (e.Gen<4294967295)
def JZ (t:Wy) (id:Int):Wy×Int×Int×Int :=
 if YH t.Entries=false then (zT,0,0,1) else
 match XfI t.Entries with
 | some k=>(⟨t.Entries.set k ⟨(t.Entries.getD k ⟨0,0,false⟩).Gen+1,id,true⟩⟩,(k:Int),(t.Entries.getD k ⟨0,0,false⟩).Gen+1,0)
 | none=>if t.Entries.length=64 then (zT,0,0,18) else (⟨t.Entries++[⟨1,id,true⟩]⟩,(t.Entries.length:Int),1,0)
theorem XfJ (hl:TB t) (hv:YH t.Entries=true) (id:Int):∀ (n k:Nat),k<=t.Entries.length->t.Entries.length-k<n->Qbl N t id n (k:Int)=some (match (t.Entries.drop k).findIdx? (λ e=>!e.Live&&decide (e.Gen<4294967295)) with
 | some j=>.ret (⟨t.Entries.set (k+j) ⟨(t.Entries.getD (k+j) ⟨0,0,false⟩).Gen+1,id,true⟩⟩,((k+j:Nat):Int),(t.Entries.getD (k+j) ⟨0,0,false⟩).Gen+1,0)
 | none=>.nxt ())
 | 0,k,_,hn=>by omega
 | n+1,k,hk,hn=>by
  unfold TB at hl
  rw[Qbl,Xi (by omega)]
  by_cases h:k<t.Entries.length
  ·have e:=Wd h
   have gd:t.Entries.getD k ⟨0,0,false⟩=t.Entries[k]:=by rw[Wp,e];rfl
   have hg:=XiF hv (WT h)
   rw[Xy h,Wc,Xd,e]
   simp only[Xa]
   rw[Xh (by omega),Ws h,List.findIdx?_cons]
   have next:=XfJ hl hv id n (k+1) (by omega) (by omega)
   have go:Qbl N t id n ((k+1:Nat):Int)=some (match Option.map (λ i=>i+1) ((t.Entries.drop (k+1)).findIdx? (λ e=>!e.Live&&decide (e.Gen<4294967295))) with
    | some j=>.ret (⟨t.Entries.set (k+j) ⟨(t.Entries.getD (k+j) ⟨0,0,false⟩).Gen+1,id,true⟩⟩,((k+j:Nat):Int),(t.Entries.getD (k+j) ⟨0,0,false⟩).Gen+1,0)
    | none=>.nxt ()):=by
    rw[next]
    cases (t.Entries.drop (k+1)).findIdx? (λ e=>!e.Live&&decide (e.Gen<4294967295)) with
    | none=>rfl
    | some j=>simp only[If];rw[show k+1+j=k+(j+1) by omega]
   cases hL:t.Entries[k].Live
   ·cases hG:decide (t.Entries[k].Gen<4294967295)
    ·rw[WR,Wc,Wa,IW,Wk (by simp)]
     exact go
    ·have hG:=Wu hG
     rw[WR,Wc,Wc,Bool.and_true,Wm rfl]
     have hk2:(k:Int).toNat=k:=by omega
     rw[Xc (by omega) (by omega),hk2,Xd,Ic,Wm rfl,Wm h,Xa]
     simp only[IB]
     rw[gd]
   ·rw[Wt,Wa,Ui,Wk (by simp)]
    exact go
  ·obtain rfl:k=t.Entries.length:=by omega
   rw[Xs,Wa,WK (Ue _)]
   rfl
theorem Jz (hl:TB t) (hN:1000000<N) (id:Int):QbT N t id=some (JZ t id):=by
 have hl':=hl
 unfold TB at hl
 rw[QbT,Zp hl hN,Xa,JZ]
 cases hv:YH t.Entries
 ·rfl
 have h1:=XfJ (N:=N) hl' hv id N 0 (by omega) (by omega)
 rw[show ((0:Nat):Int)=0 from rfl,WU] at h1
 rw[Wt,Wa,Xi (by omega),h1,Xa,Wk (by simp),XfI]
 cases t.Entries.findIdx? (λ e=>!e.Live&&decide (e.Gen<4294967295)) with
 | some j=>simp only[Xz,Uu]
 | none =>
  simp only[Xq]
  rw[Xi (by omega)]
  by_cases h:t.Entries.length=64
  ·rw[Wm h,h];rfl
  ·rw[Wk h,show (((t.Entries.length:Nat):Int)==64)=false by simp;omega,Wa,Xi (by omega),Xi (by omega)]
theorem XfK (hl:TB t) (id:Int):TB (JZ t id).1:=by
 unfold JZ
 cases hv:YH t.Entries
 ·exact Xa6
 have:=Vq hv
 rw[Wk (by simp)]
 cases XfI t.Entries with
 | some k=>show (t.Entries.set _ _).length<=_;rw[WE];exact hl
 | none =>
  simp only
  split
  ·exact Xa6
  ·show (t.Entries++[_]).length<=_
   rw[Wr];simp;omega
theorem XbZ {i g:Int} (h:(YS t.Entries i g).2=0):YH t.Entries=true/\0<=i/\∃ p,t.Entries[i.toNat]? = some p/\p.Gen=g/\p.Live=true/\(YS t.Entries i g).1=p.Ref:=by
 unfold YS at h ⊢
 cases hv:YH t.Entries
 ·rw[hv] at h;cases h
 rw[hv] at h
 rw[Wk (by simp)] at h ⊢
 by_cases h1:i<0\/(t.Entries.length:Int)<=i\/g<1
 ·rw[Wm h1] at h;cases h
 rw[Wk h1] at h ⊢
 have e:=Wd (show i.toNat<t.Entries.length by omega)
 rw[e] at h ⊢
 simp only at h ⊢
 by_cases h4:g>t.Entries[i.toNat].Gen
 ·rw[Wm h4] at h;cases h
 rw[Wk h4] at h ⊢
 by_cases h5:g<t.Entries[i.toNat].Gen
 ·rw[Wm h5] at h;cases h
 rw[Wk h5] at h ⊢
 cases hL:t.Entries[i.toNat].Live
 ·rw[hL] at h;cases h
 ·exact ⟨trivial,by omega,_,rfl,by omega,hL,rfl⟩
def VP (t:Wy) (i g:Int):Wy×Int :=
 if (YS t.Entries i g).2≠0 then (zT,(YS t.Entries i g).2) else (⟨t.Entries.set i.toNat ⟨g,0,false⟩⟩,0)
theorem Xao (hl:TB t) (hN:1000000<N) (i g:Int):QbY N t i g=some (VP t i g):=by
 have hl':=hl
 unfold TB at hl
 rw[QbY,KV hl hN,Xa,VP]
 by_cases h:(YS t.Entries i g).2=0
 ·obtain ⟨_,h0,p,hp,_⟩:=XbZ h
  have:=Xv hp
  rw[h,show ((0:Int) != 0)=false from rfl,Wa,Wk (by simp),QfY,Xi (by omega),X4 h0 (by omega),Xa,Xa]
 ·rw[show ((YS t.Entries i g).2 != 0)=true by simpa using h,Wc,Wm h];rfl
theorem XfL (hl:TB t) (i g:Int):TB (VP t i g).1:=by
 unfold VP
 split
 ·exact Xa6
 ·show (t.Entries.set _ _).length<=_;rw[WE];exact hl
theorem Xa7 (rs:List Int) (hl:t.Entries.length<=1000000):∀ (n k:Nat) (c:Int) (v:List W6),k<=t.Entries.length->t.Entries.length-k<n->v.length=t.Entries.length->v.drop k=t.Entries.drop k->0<=c->c+(XU (t.Entries.drop k)).length=rs.length->rs.length<=1000000 ->
 Ok (Qbj N rs n c (k:Int) v) λ v=>v.length=t.Entries.length
 | 0,k,c,v,_,hn,_,_,_,_,_=>by omega
 | n+1,k,c,v,hk,hn,hv,hd,hc,hr,hrl=>by
  rw[Qbj]
  refine W4 (by omega) (Wn (λ h=>?_) λ h=>We hv)
  have h:k<t.Entries.length:=by have:=Wu h;omega
  have hkv:(k:Int)<v.length:=by omega
  rw[Xh (by omega)]
  have hdv:=Ws (show k<v.length by omega)
  have hda:=Ws h
  rw[hd,hda] at hdv
  have e1:t.Entries[k]=v[k]:=(IS hdv).1
  have e2:t.Entries.drop (k+1)=v.drop (k+1):=(IS hdv).2
  refine Ok.get (by omega) hkv λ p hp=>?_
  have hpe:p=t.Entries[k]:=by
   rw[Xd,Wd (by omega),← e1] at hp
   exact (WO hp).symm
  rw[hda] at hr
  refine Wn (λ hL=>?_) λ hL=>?_
  ·have hL:t.Entries[k].Live=true:=by rw[← hpe];exact hL
   have hr2:c+1+(XU (t.Entries.drop (k+1))).length=rs.length:=by
    rw[← hr];unfold XU;rw[UJ (by rw[hL]),Un,W7];omega
   refine Ok.get hc (by omega) λ q _=>Ok.get (by omega) hkv λ p' _=>?_
   rw[Xc (n:=c+1) (by omega) (by omega)]
   refine Xa7 rs hl n (k+1) (c+1) _ (by omega) (by omega) (by rw[WE];exact hv) ?_ (by omega) hr2 hrl
   rw[List.drop_set_of_lt (by omega)]
   exact e2.symm
  ·have hL:t.Entries[k].Live=false:=by rw[← hpe];exact hL
   refine Xa7 rs hl n (k+1) c v (by omega) (by omega) hv e2.symm hc ?_ hrl
   rw[← hr];unfold XU;rw[Uy (by rw[hL];simp)]
theorem Xb0 (hl:TB t) (hN:1000000<N) {rs:List Int} (hr:rs.length<=1000000):Ok (Qc1 N t rs) λ r=>r.1.Entries.length<=t.Entries.length:=by
 have hl':=hl
 unfold TB at hl
 rw[Qc1,Zp hl hN,Xa]
 refine Wn (λ _=>We (by simp)) λ hv=>?_
 have hv:YH t.Entries=true:=by simpa using hv
 have hll:=VO t.Entries
 rw[YM hl hN,Xa,hv,Wc]
 refine W4 (by omega) (Wn (λ _=>We (by simp)) λ he=>W4 (by omega) ?_)
 have he:((rs.length:Nat):Int)=(((XU t.Entries).length:Nat):Int):=by simpa using he
 refine WJ (Xa7 rs hl N 0 0 t.Entries (by omega) (by omega) rfl rfl (by omega) (by rw[WU];omega) hr) λ v _ q=>We ?_
 show v.length<=_
 omega
theorem XdT (hl:TB t) (hN:1000000<N) {rs:List Int} (hr:rs.length<=1000000):Ok (Qc1 N t rs) λ r=>TB r.1:=(Xb0 hl hN hr).mono λ r h=>UP h hl
theorem XdU {k:Nat} (hl:t.Entries.length<=1000+k) (id:Int):(JZ t id).1.Entries.length<=1000+k:=by
 unfold JZ
 cases hv:YH t.Entries
 ·simp[zT]
 have:=Vq hv
 rw[Wk (by simp)]
 cases XfI t.Entries with
 | some k=>show (t.Entries.set _ _).length<=_;rw[WE];exact hl
 | none =>
  simp only
  split
  ·simp[zT]
  ·show (t.Entries++[_]).length<=_
   rw[Wr];simp;omega
theorem XdV {k:Nat} (hl:t.Entries.length<=1000+k) (i g:Int):(VP t i g).1.Entries.length<=1000+k:=by
 unfold VP
 split
 ·simp[zT]
 ·show (t.Entries.set _ _).length<=_;rw[WE];exact hl
end
end Go.Sx
