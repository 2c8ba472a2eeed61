import Derived.KernelRfl
import Derived.Test.YtbikeogjhdcfmaaGreatVC
set_option linter.all false
namespace Go.Sx
def Ok {α:Type} (o:Option α) (P:α->Prop):Prop:=∃ r,o=some r/\P r
section
variable {α β γ:Type} {P:β->Prop}
theorem Xa (x:α) (f:α->Option β):bnd (some x) f=f x:=by unfold bnd;rfl
theorem Vi (f:α->Option β):bnd none f=none:=by unfold bnd;rfl
theorem Xe {p:Prop} [Decidable p] (h:p) (x:Option α):grd p x=x:=by unfold grd;rw[Wm h]
theorem XV {κ:Type} (k:κ) (f:κ->γ):jn k f=f k:=by unfold jn;rfl
theorem XC (a:α) (f:α->γ) (k:β->γ):exK (.ret a) f k=f a:=by unfold exK;rfl
theorem Xo (b:β) (f:α->γ) (k:β->γ):exK (.nxt b) f k=k b:=by unfold exK;rfl
theorem Xd (l:List α) (k:Nat):Xb l (k:Int)=l[k]?:=by unfold Xb;simp
theorem Yj {l:List α} {i:Int} (h0:0<=i) (h1:i<l.length):Xb l i=some (l[i.toNat]'(by omega)):=by
 unfold Xb;rw[Wm h0];exact Wd _
theorem J9 {l:List α} {i:Int} {p:α}:Xb l i=some p↔0<=i/\l[i.toNat]? = some p:=by
 unfold Xb
 by_cases h0:0<=i
 ·rw[Wm h0];exact ⟨λ h=>⟨h0,h⟩,λ h=>h.2⟩
 ·rw[Wk h0];exact ⟨λ h=>(by cases h),λ h=>absurd h.1 h0⟩
theorem Yq {l:List α} {i:Int} {p:α} (h:Xb l i=some p):p∈l:=Uh (J9.1 h).2
theorem XhU {l:List α} {i:Int} (h:¬ (0<=i/\i<l.length)):Xb l i=none:=by
 unfold Xb;split
 ·exact WP (by omega)
 ·rfl
theorem Wg {x:β} (h:P x):Ok (some x) P:=⟨x,rfl,h⟩
theorem WH {o:Option α} {f:α->Option β} {Q:α->Prop} (h:Ok o Q) (k:∀ y,o=.some y->Q y->Ok (f y) P):Ok (Sx.bnd o f) P:=by
 obtain ⟨y,rfl,hq⟩:=h;rw[Xa];exact k y rfl hq
theorem WS {p:Prop} [Decidable p] {x:Option β} (h:p) (k:Ok x P):Ok (Sx.grd p x) P:=by rw[Xe h];exact k
theorem In {κ:Type} {k:κ} {f:κ->Option β} (h:Ok (f k) P):Ok (Sx.jn k f) P:=by rw[XV];exact h
theorem Wo {b:Bool} {x y:Option β} (h1:b=true->Ok x P) (h2:b=false->Ok y P):Ok (bif b then x else y) P:=by
 cases b
 ·exact h2 rfl
 ·exact h1 rfl
theorem Ok.get {l:List α} {i:Int} {f:α->Option β} (h0:0<=i) (h1:i<l.length) (k:∀ p,Xb l i=.some p->Ok (f p) P):Ok (Sx.bnd (Xb l i) f) P:=by
 rw[Yj h0 h1,Xa];exact k _ (Yj h0 h1)
theorem Ok.mono {o:Option β} {Q:β->Prop} (h:Ok o Q) (k:∀ x,Q x->P x):Ok o P:=by
 obtain ⟨y,rfl,hq⟩:=h;exact ⟨y,rfl,k y hq⟩
theorem OH {o:Option β} {x:β} (h:o=.some x) (hp:P x):Ok o P:=⟨x,h,hp⟩
theorem Ok.get_eq {o:Option β} {x:β} (h:Ok o P) (e:o=.some x):P x:=by
 obtain ⟨y,h1,h2⟩:=h;rw[e] at h1;exact WV h1▸h2
theorem Ok.isSome {o:Option β} (h:Ok o P):o≠none:=by obtain ⟨y,rfl,_⟩:=h;simp
theorem IT {α':Type} {o:Option (Ex α' α)} {f:α'->Option β} {k:α->Option β} {Q:Ex α' α->Prop} (h:Ok o Q) (h1:∀ a,Q (.ret a)->Ok (f a) P) (h2:∀ b,Q (.nxt b)->Ok (k b) P):Ok (Sx.bnd o λ e=>exK e f k) P:=by
 obtain ⟨y,rfl,hq⟩:=h
 rw[Xa]
 cases y with
 | ret a=>rw[XC];exact h1 a hq
 | nxt b=>rw[Xo];exact h2 b hq
end
theorem Xc {n:Int} (h1 : -9223372036854775808<=n) (h2:n<=9223372036854775807):wI n=n:=by
 have e:wI n=if n % 18446744073709551616>=9223372036854775808 then n % 18446744073709551616-18446744073709551616 else n % 18446744073709551616:=by
  have e1:IntKind.bits .i64=64:=rfl
  have e2:IntKind.signed .i64=true:=rfl
  simp[wI,IntKind.wrap,e1,e2]
 rw[e]
 split<;>omega
theorem Xbr (n:Int):wU n=n % 18446744073709551616:=by
 have e1:IntKind.bits .u64=64:=rfl
 have e2:IntKind.signed .u64=false:=rfl
 simp[wU,IntKind.wrap,e1,e2]
theorem Xw {n:Int} (h1:0<=n) (h2:n<=18446744073709551615):wU n=n:=by rw[Xbr];omega
theorem Xbs (n:Int):0<=wU n/\wU n<=18446744073709551615:=by rw[Xbr];omega
theorem XjH (n:Int):wW n=n % 4294967296:=by
 have e1:IntKind.bits .u32=32:=rfl
 have e2:IntKind.signed .u32=false:=rfl
 simp[wW,IntKind.wrap,e1,e2]
theorem Xng {n:Int} (h1:0<=n) (h2:n<=4294967295):wW n=n:=by rw[XjH];omega
theorem XjI {n:Int} (h0:0<=n) (h1:n<=63):ZF .u64 1 n=2 ^ n.toNat:=by
 have e1:IntKind.bits .u64=64:=rfl
 have h:min n.toNat 64=n.toNat:=by omega
 have hp:(2:Int) ^ n.toNat<=2 ^ 63:=by
  have:2 ^ n.toNat<=2 ^ 63:=IX (by omega) (by omega)
  exact_mod_cast this
 have hq:(0:Int)<=2 ^ n.toNat:=Int.pow_nonneg (by decide)
 show IntKind.wrap .u64 (1*2 ^ min n.toNat (IntKind.bits .u64))=_
 rw[e1,h,Od]
 exact Xw hq (by omega)
theorem Zi (a:Int) (k:Nat) (hk:k<=64) (h0:0<=a):X9 .u64 a k=a / 2 ^ k:=by
 have e1:IntKind.bits .u64=64:=rfl
 show a.fdiv (2 ^ min (k:Int).toNat (IntKind.bits .u64))=_
 rw[e1,IB,Nat.min_eq_left hk]
 exact Int.fdiv_eq_ediv_of_nonneg _ (Int.pow_nonneg (by decide))
theorem Y5 (a:Int) (k:Nat) (hk:k<=63) (h0:0<=a) (h1:a<=18446744073709551615):YA .u64 a (2 ^ k-1)=a % 2 ^ k:=by
 obtain ⟨n,rfl⟩:=UE h0
 have hb:IntKind.u64.bits=64:=rfl
 show IntKind.u64.wrap ((BitVec.ofInt IntKind.u64.bits n &&& BitVec.ofInt IntKind.u64.bits (2 ^ k-1)).toNat:Int)=_
 rw[hb]
 have hk2:(2:Int) ^ k-1=((2 ^ k-1:Nat):Int):=by
  have h1:=Nat.one_le_two_pow (n:=k)
  have h2:(2:Int) ^ k=((2 ^ k:Nat):Int):=by simp
  rw[h2];omega
 have e1:BitVec.ofInt 64 (n:Int)=BitVec.ofNat 64 n:=by simp
 have e2:BitVec.ofInt 64 ((2 ^ k-1:Nat):Int)=BitVec.ofNat 64 (2 ^ k-1):=by simp
 rw[hk2,e1,e2,BitVec.toNat_and,Iq,Iq]
 have hn:n % 2 ^ 64=n:=I6 (by omega)
 have hp:2 ^ k<=2 ^ 63:=IX (by omega) hk
 have hm:(2 ^ k-1) % 2 ^ 64=2 ^ k-1:=I6 (by omega)
 rw[hn,hm,Nat.and_two_pow_sub_one_eq_mod]
 have hlt:n % 2 ^ k<2 ^ k:=Oh _ (Nat.two_pow_pos k)
 show wU _=_
 rw[Xw (by omega) (by omega)]
 simp
end Go.Sx
namespace Go.Sx
def PT {α:Type} (o:Option α) (P:α->Prop):Prop:=∀ r,o=some r->P r
def tU (n:Int):Prop:=0<=n/\n<=18446744073709551615
def tW (n:Int):Prop:=0<=n/\n<=4294967295
def tL {α:Type} (T:α->Prop) (l:List α):Prop:=∀ x∈l,T x
def tE {α β:Type} (A:α->Prop) (B:β->Prop):Ex α β->Prop
 | .ret a=>A a
 | .nxt b=>B b
section
variable {α β γ:Type} {P:β->Prop} {T:α->Prop}
theorem We {x:β} (h:P x):PT (some x) P:=λ r e=>WV e▸h
theorem IJ:PT none P:=λ r e=>by cases e
theorem Wt {o:Option α} {f:α->Option β} {Q:α->Prop} (h:PT o Q) (k:∀ y,Q y->PT (f y) P):PT (Sx.bnd o f) P:=by
 cases o with
 | none=>rw[Vi];exact IJ
 | some y=>rw[Xa];exact k y (h y rfl)
theorem WA {o:Option α} {f:α->Option β} (k:∀ y,PT (f y) P):PT (Sx.bnd o f) P:=by
 cases o with
 | none=>rw[Vi];exact IJ
 | some y=>rw[Xa];exact k y
theorem WO {p:Prop} [Decidable p] {x:Option β} (k:PT x P):PT (Sx.grd p x) P:=by
 unfold Sx.grd
 split
 ·exact k
 ·exact IJ
theorem UW {κ:Type} {k:κ} {f:κ->Option β} {Q:κ->Prop} (h:Q k) (g:∀ j,Q j->PT (f j) P):PT (Sx.jn k f) P:=by rw[XV];exact g k h
theorem Wl {b:Bool} {x y:Option β} (h1:PT x P) (h2:PT y P):PT (bif b then x else y) P:=by cases b;exact h2;exact h1
theorem PT.get {l:List α} {i:Int} {f:α->Option β} (h:tL T l) (k:∀ p,T p->PT (f p) P):PT (Sx.bnd (Xb l i) f) P :=
 Wt (Q:=T) (λ r e=>h r (Yq e)) k
theorem Oo {α':Type} {o:Option (Ex α' α)} {f:α'->Option β} {k:α->Option β} {A:α'->Prop} (h:PT o (tE A T)) (h1:∀ a,A a->PT (f a) P) (h2:∀ b,T b->PT (k b) P):PT (Sx.bnd o λ e=>exK e f k) P:=by
 refine Wt h λ y hy=>?_
 cases y with
 | ret a=>rw[XC];exact h1 a hy
 | nxt b=>rw[Xo];exact h2 b hy
theorem ON {o:Option β} {r:β} (h:PT o P) (e:o=.some r):P r:=h r e
end
@[simp] theorem Xqx {α β:Type} (A:α->Prop) (B:β->Prop) (a:α):tE A B (.ret a)=A a:=rfl
@[simp] theorem Xqy {α β:Type} (A:α->Prop) (B:β->Prop) (b:β):tE A B (.nxt b)=B b:=rfl
@[simp] theorem Xqz (n:Nat):tU (no_index (OfNat.ofNat n):Int)=((OfNat.ofNat n:Nat)<=18446744073709551615):=by
 have:(no_index (OfNat.ofNat n):Int)=((n:Nat):Int):=rfl
 unfold tU
 rw[this]
 simp only[eq_iff_iff]
 show (0:Int)<=n/\(n:Int)<=18446744073709551615↔n<=18446744073709551615
 omega
@[simp] theorem XqA (n:Nat):tW (no_index (OfNat.ofNat n):Int)=((OfNat.ofNat n:Nat)<=4294967295):=by
 have:(no_index (OfNat.ofNat n):Int)=((n:Nat):Int):=rfl
 unfold tW
 rw[this]
 simp only[eq_iff_iff]
 show (0:Int)<=n/\(n:Int)<=4294967295↔n<=4294967295
 omega
@[simp] theorem XqW (n:Int):tU (wU n):=Xbs n
@[simp] theorem Xo0 (n:Int):tW (wW n):=by unfold tW;rw[XjH];omega
theorem VF (n:Int):tU (IntKind.wrap .u64 n):=Xbs n
theorem XjJ (n:Int):tW (IntKind.wrap .u32 n):=Xo0 n
@[simp] theorem Xqg (a b:Int):tU (YA .u64 a b):=VF _
@[simp] theorem XqB (a b:Int):tU (bOr .u64 a b):=VF _
@[simp] theorem Xqh (a b:Int):tU (Xlb .u64 a b):=VF _
@[simp] theorem Xqi (a b:Int):tU (ZF .u64 a b):=VF _
@[simp] theorem Xqj (a b:Int):tW (YA .u32 a b):=XjJ _
theorem Xnh {a b:Int} (h:0<=a) (k:IntKind):0<=X9 k a b/\X9 k a b<=a:=by
 show 0<=a.fdiv _/\a.fdiv _<=a
 have hp:(0:Int)<2 ^ min b.toNat (IntKind.bits k):=Int.pow_pos (by decide)
 rw[Int.fdiv_eq_ediv_of_nonneg _ (by omega)]
 exact ⟨Int.ediv_nonneg h (by omega),Int.ediv_le_self _ h⟩
@[simp] theorem Xqk {a b:Int} (h:tU a):tU (X9 .u64 a b):=by
 have:=Xnh (b:=b) h.1 .u64
 unfold tU at *;omega
@[simp] theorem Xql {a b:Int} (h:tW a):tW (X9 .u32 a b):=by
 have:=Xnh (b:=b) h.1 .u32
 unfold tW at *;omega
@[simp] theorem Xqm {a b:Int} (h:tU a):tU (a.tmod b):=by
 unfold tU at *
 rw[Ir h.1]
 by_cases hb:b=0
 ·subst hb;rw[Int.emod_zero];exact h
 ·have h1:=Int.emod_nonneg a hb
  have h2:a % b<=a:=by
   obtain ⟨n,rfl⟩:=UE h.1
   rcases Int.natAbs_eq b with e | e
   ·rw[e,← Int.natCast_emod]
    have:=Nat.mod_le n b.natAbs
    omega
   ·rw[e,Int.emod_neg,← Int.natCast_emod]
    have:=Nat.mod_le n b.natAbs
    omega
  omega
section
variable {α:Type} {T:α->Prop}
@[simp] theorem XqC:tL T ([]:List α):=λ x h=>by cases h
@[simp] theorem Xqn {x:α} {l:List α}:tL T (x::l)↔T x/\tL T l:=by unfold tL;simp
@[simp] theorem XoB {a b:List α}:tL T (a++b)↔tL T a/\tL T b:=by
 unfold tL;simp only[WJ];exact ⟨λ h=>⟨λ x hx=>h x (.inl hx),λ x hx=>h x (.inr hx)⟩,λ h x hx=>hx.elim (h.1 x) (h.2 x)⟩
@[simp] theorem Xbt {l:List α} {i:Nat} {x:α} (h:tL T l) (hx:T x):tL T (l.set i x):=λ y hy=>by
 rcases UL hy with h1 | h1
 ·exact h y h1
 ·rw[h1];exact hx
@[simp] theorem Xqo {l:List α} {i:Nat} (h:tL T l):tL T (l.take i):=λ y hy=>h y (W5 hy)
@[simp] theorem Xqp {l:List α} {i:Nat} (h:tL T l):tL T (l.drop i):=λ y hy=>h y (W6 hy)
@[simp] theorem XqD {n:Nat} {x:α} (h:T x):tL T (List.replicate n x):=λ y hy=>by rw[List.eq_of_mem_replicate hy];exact h
end
@[simp] theorem XqE {p:Prop} [Decidable p] {a b:Int} (ha:tU a) (hb:tU b):tU (if p then a else b):=by split;exact ha;exact hb
end Go.Sx
namespace Go.Sx
set_option maxHeartbeats 1000000
def XL (s:Wn):Prop:=(tL tU) s.Words
def X7 (s:UX):Prop:=tU s.Ref
def XJ (s:Ww):Prop:=(tL X7) s.Slots
def Xv (s:Ua):Prop:=tU s.Ref
def XW (s:WG):Prop:=(tL Xv) s.Entries
def YD (s:UG):Prop:=tU s.Ref
def X0 (s:W8):Prop:=XL s.Heap/\XJ s.Locals/\XW s.Globals/\XW s.Weaks/\(tL YD) s.Pins/\(tL tU) s.Roots
def YN (s:Wz):Prop:=tW s.Map
def Y6 (s:Ii):Prop:=YN s.Header/\(tL tU) s.Fields
def ZK (s:Ix):Prop:=tU s.Id/\tU s.Base
def XQ (s:WM):Prop:=(tL Y6) s.Things/\XJ s.Locals/\XW s.Globals/\XW s.Weaks/\(tL ZK) s.Marks/\(tL tU) s.Roots
def Vj (s:Iv):Prop:=X0 s.Env/\XQ s.World/\(tL tU) s.Words
def Xbu (s:Oi):Prop:=tU s.A/\tU s.B/\tU s.C
def Xbv (s:Ig):Prop:=XL s.Heap/\(tL tU) s.Strong/\(tL tU) s.Weak
def XjK (s:Iu):Prop:=XJ s.Locals
def XfW (s:Oj):Prop:=tU s.Base
def XhV (s:Ul):Prop:=tU s.Addr
def Xl6 (s:UJ):Prop:=tU s.addr/\YN s.hd
def XR (s:WY):Prop:=XL s.Heap/\(tL tU) s.Old/\(tL tU) s.Queue
def Xl7 (s:Im):Prop:=tU s.Value
@[simp] theorem Xl8 {l:List UX} {i:Nat} {x:UX} (h:tL X7 l) (hx:tU x.Ref):tL X7 (l.set i x):=Xbt h hx
@[simp] theorem Xk9 {l:List Ua} {i:Nat} {x:Ua} (h:tL Xv l) (hx:tU x.Ref):tL Xv (l.set i x):=Xbt h hx
@[simp] theorem Xni {l:List UG} {i:Nat} {x:UG} (h:tL YD l) (hx:tU x.Ref):tL YD (l.set i x):=Xbt h hx
@[simp] theorem Xl9 {l:List Ix} {i:Nat} {x:Ix} (h:tL ZK l) (hx:tU x.Id/\tU x.Base):tL ZK (l.set i x):=Xbt h hx
@[simp] theorem Xla {l:List Ii} {i:Nat} {x:Ii} (h:tL Y6 l) (hx:tW x.Header.Map/\(tL tU) x.Fields):tL Y6 (l.set i x):=Xbt h hx
attribute [local simp] XL X7 XJ Xv XW YD X0 YN Y6 ZK XQ Vj Xbu Xbv XjK XfW XhV Xl6 XR Xl7
theorem Qks {N a0}:PT (Qeg N a0) (λ r=>XL r.1):=by
 rw[Qeg]
 refine (WA λ y1=>(Wl (We ?_) (WO (WO (We ?_)))))
 all_goals simp_all (maxDischargeDepth:=9)
theorem Qkt {N a0}:PT (Qcd N a0) (λ r=>X0 r.1):=by
 rw[Qcd]
 refine (Wt (Qks) λ y1 h1=>(We ?_))
 all_goals simp_all (maxDischargeDepth:=9)
theorem Qku {N a0}:PT (Qft N a0) (λ r=>XQ r.1):=by
 rw[Qft]
 refine (WA λ y1=>(Wl (We ?_) (We ?_)))
 all_goals simp_all (maxDischargeDepth:=9)
theorem QhT {N a0}:PT (Qbl N a0) (λ r=>Vj r.1):=by
 rw[Qbl]
 refine (WA λ y1=>(Wt (Qkt) λ y2 h1=>(Wt (Qku) λ y3 h2=>(WA λ y4=>(We ?_)))))
 all_goals simp_all (maxDischargeDepth:=9)
theorem Qef {N a0 a1} (ka0:(tL tU) a0) (ka1:tU a1):PT (Qa3 N a0 a1) (λ r=>tU r.1):=by
 rw[Qa3]
 refine (WA λ y1=>(Wl (We ?_) (PT.get (T:=tU) ?_ λ p2 h1=>(We ?_))))
 all_goals simp_all (maxDischargeDepth:=9) []
theorem Qgu {N a0} (ka0:YN a0):PT (Qcg N a0) (λ r=>tU r.1):=by
 rw[Qcg]
 refine (WA λ y1=>(Wl (We ?_) (We ?_)))
 all_goals simp_all (maxDischargeDepth:=9)
theorem Qgv {N a0} (ka0:tU a0):PT (QbJ N a0) (λ r=>YN r.1):=by
 rw[QbJ]
 refine (Wt (Qgu ?_) λ y1 h1=>(Wl (We ?_) (Wl (We ?_) (We ?_))))
 all_goals simp_all (maxDischargeDepth:=9)
theorem Qhq {N a0 a1} (ka0:XL a0) (ka1:tU a1):PT (Qat N a0 a1) (λ r=>YN r.1):=by
 rw[Qat]
 refine (WA λ y1=>(Wl (We ?_) (WA λ y2=>(Wl (We ?_) (WA λ p3=>(Wt (Qef ?_ ?_) λ y4 h1=>(Wt (Qgv ?_) λ y5 h2=>(UW (Q:=λ k=>∀ _,PT (k ()) _) (λ _=>(WA λ y6=>(Wl (Wl (We ?_) (Wl (Wl (We ?_) (Wl (We ?_) (We ?_))) (We ?_))) (Wl (Wl (We ?_) (Wl (We ?_) (We ?_))) (We ?_))))) λ j1 hj1=>(Wl (Wl (We ?_) (Wl (We ?_) (Wl (We ?_) (hj1 ())))) (Wl (We ?_) (Wl (We ?_) (hj1 ()))))))))))))
 all_goals simp_all (maxDischargeDepth:=9)
theorem Qin {N a0 a1 a2}:PT (Qbq N a0 a1 a2) (λ r=>tU r.1):=by
 rw[Qbq]
 refine (WA λ y1=>(Wl (We ?_) (Wl (We ?_) (Wl (We ?_) (Wl (We ?_) (Wl (We ?_) (We ?_)))))))
 all_goals simp_all (maxDischargeDepth:=9) []
theorem Qg0 {N a0 a1 p2} (ka0:XL a0):∀ n v3 v4,(tL tU) v4->PT (QaU N a0 a1 p2 n v3 v4) (tE (λ r=>(tL tU) r.1) (tL tU))
 | 0,_,_,_=>by rw[QaU];exact IJ
 | n+1,v3,v4,kv4=>by
  have ih:=Qg0 (N:=N) (a0:=a0) (a1:=a1) (p2:=p2) ka0 n
  rw[QaU]
  refine (Wl (Wt (Qin) λ y5 h1=>(Wt (Qhq ?_ ?_) λ y6 h2=>(Wl (We ?_) (WO (Wl (We ?_) (WA λ y7=>(ih _ _ ?_))))))) (We ?_))
  all_goals (clear ih;simp_all (maxDischargeDepth:=9))
theorem Qio {N a0 a1 p2 n v3 v4} (ka0:XL a0) (kv4:(tL tU) v4):PT (QaU N a0 a1 p2 n v3 v4) (tE (λ r=>(tL tU) r.1) (tL tU)):=Qg0 ka0 n _ _ kv4
theorem Qkd {N a0 a1} (ka0:XL a0):PT (Qau N a0 a1) (λ r=>(tL tU) r.1):=by
 rw[Qau]
 refine (WA λ y1=>(Wl (We ?_) (Wl (We ?_) (Wl (We ?_) (WA λ p2=>(Wl (We ?_) (Wl (We ?_) (Oo (Qio ?_ ?_) (λ r h1=>(We ?_)) λ y8 h2=>(We ?_)))))))))
 all_goals simp_all (maxDischargeDepth:=9)
theorem QgM {N a0} (ka0:XL a0):∀ n v2 v3,(tL tU) v3->PT (QaO N a0 n v2 v3) (tE (λ r=>(tL tU) r.1) (tL tU))
 | 0,_,_,_=>by rw[QaO];exact IJ
 | n+1,v2,v3,kv3=>by
  have ih:=QgM (N:=N) (a0:=a0) ka0 n
  rw[QaO]
  refine (Wl (Wt (Qkd ?_) λ y4 h1=>(Wl (We ?_) (WO (ih _ _ ?_)))) (We ?_))
  all_goals (clear ih;simp_all (maxDischargeDepth:=9))
theorem QhU {N a0 n v2 v3} (ka0:XL a0) (kv3:(tL tU) v3):PT (QaO N a0 n v2 v3) (tE (λ r=>(tL tU) r.1) (tL tU)):=QgM ka0 n _ _ kv3
theorem Qi9 {N a0} (ka0:XL a0):PT (QcM N a0) (λ r=>(tL tU) r.1):=by
 rw[QcM]
 refine (WA λ y1=>(Wl (We ?_) (Oo (QhU ?_ ?_) (λ r h1=>(We ?_)) λ y5 h2=>(We ?_))))
 all_goals simp_all (maxDischargeDepth:=9)
theorem Qgw {N a0 y1} (ka0:XL a0) (ky1:(λ r=>(tL tU) r.1) y1):∀ n v2 v3,(tL tU) v3->PT (QaA N a0 y1 n v2 v3) (tL tU)
 | 0,_,_,_=>by rw[QaA];exact IJ
 | n+1,v2,v3,kv3=>by
  have ih:=Qgw (N:=N) (a0:=a0) (y1:=y1) ka0 ky1 n
  rw[QaA]
  refine (Wl (PT.get (T:=tU) ?_ λ p4 h1=>(Wt (Qhq ?_ ?_) λ y5 h2=>(Wl (PT.get (T:=tU) ?_ λ p6 h3=>(WO (ih _ _ ?_))) (ih _ _ ?_)))) (We ?_))
  all_goals (clear ih;simp_all (maxDischargeDepth:=9))
theorem QhF {N a0 y1 n v2 v3} (ka0:XL a0) (ky1:(λ r=>(tL tU) r.1) y1) (kv3:(tL tU) v3):PT (QaA N a0 y1 n v2 v3) (tL tU):=Qgw ka0 ky1 n _ _ kv3
theorem Qip {N a0} (ka0:XL a0):PT (Qav N a0) (λ r=>(tL tU) r.1):=by
 rw[Qav]
 refine (Wt (Qi9 ?_) λ y1 h1=>(Wt (QhF ?_ ?_ ?_) λ y7 h2=>(We ?_)))
 all_goals simp_all (maxDischargeDepth:=9)
theorem Qg1 {N a0 a1} (ka0:XL a0) (ka1:tU a1):PT (Qbn N a0 a1) (λ r=>YN r.1):=by
 rw[Qbn]
 refine (WA λ y1=>(Wl (We ?_) (Wl (We ?_) (Wt (Qhq ?_ ?_) λ y2 h1=>(Wl (Wl (We ?_) (We ?_)) (We ?_))))))
 all_goals simp_all (maxDischargeDepth:=9)
theorem Qke {N a0 a1 a2} (ka0:(tL tU) a0) (ka1:tU a1):PT (QcN N a0 a1 a2) (λ r=>(tL tU) r.1):=by
 rw[QcN]
 refine (Wl (We ?_) (WA λ y1=>(Wl (We ?_) (WO (WO (We ?_))))))
 all_goals simp_all (maxDischargeDepth:=9) []
theorem Qg2 {N a0} (ka0:XW a0):∀ n v1 v2,(tL tU) v2->PT (Qbc N a0 n v1 v2) (tL tU)
 | 0,_,_,_=>by rw[Qbc];exact IJ
 | n+1,v1,v2,kv2=>by
  have ih:=Qg2 (N:=N) (a0:=a0) ka0 n
  rw[Qbc]
  refine (Wl (WA λ y3=>(Wl (PT.get (T:=Xv) ?_ λ p4 h1=>(Wl (PT.get (T:=Xv) ?_ λ p5 h2=>(WO (ih _ _ ?_))) (ih _ _ ?_))) (We ?_))) (We ?_))
  all_goals (clear ih;simp_all (maxDischargeDepth:=9))
theorem Qiq {N a0 n v1 v2} (ka0:XW a0) (kv2:(tL tU) v2):PT (Qbc N a0 n v1 v2) (tL tU):=Qg2 ka0 n _ _ kv2
theorem Qfg {N a0} (ka0:XW a0):PT (Qa8 N a0) (tL tU):=by
 rw[Qa8]
 refine (Wt (Qiq ?_ ?_) λ y6 h1=>(We ?_))
 all_goals simp_all (maxDischargeDepth:=9)
theorem Qg3 {N a0} (ka0:XJ a0):∀ n v1 v2,(tL tU) v2->PT (Qbd N a0 n v1 v2) (tL tU)
 | 0,_,_,_=>by rw[Qbd];exact IJ
 | n+1,v1,v2,kv2=>by
  have ih:=Qg3 (N:=N) (a0:=a0) ka0 n
  rw[Qbd]
  refine (Wl (WA λ y3=>(Wl (PT.get (T:=X7) ?_ λ p4 h1=>(Wl (PT.get (T:=X7) ?_ λ p5 h2=>(WO (ih _ _ ?_))) (ih _ _ ?_))) (We ?_))) (We ?_))
  all_goals (clear ih;simp_all (maxDischargeDepth:=9))
theorem Qir {N a0 n v1 v2} (ka0:XJ a0) (kv2:(tL tU) v2):PT (Qbd N a0 n v1 v2) (tL tU):=Qg3 ka0 n _ _ kv2
theorem QgP {N a0} (ka0:XJ a0):PT (Qcs N a0) (tL tU):=by
 rw[Qcs]
 refine (Wt (Qir ?_ ?_) λ y6 h1=>(We ?_))
 all_goals simp_all (maxDischargeDepth:=9)
theorem QgN {N a0} (ka0:X0 a0):∀ n v3 v4,(tL tU) v4->PT (QaP N a0 n v3 v4) (tL tU)
 | 0,_,_,_=>by rw[QaP];exact IJ
 | n+1,v3,v4,kv4=>by
  have ih:=QgN (N:=N) (a0:=a0) ka0 n
  rw[QaP]
  refine (Wl (PT.get (T:=YD) ?_ λ p5 h1=>(WO (ih _ _ ?_))) (We ?_))
  all_goals (clear ih;simp_all (maxDischargeDepth:=9))
theorem QhV {N a0 n v3 v4} (ka0:X0 a0) (kv4:(tL tU) v4):PT (QaP N a0 n v3 v4) (tL tU):=QgN ka0 n _ _ kv4
theorem Qja {N a0} (ka0:X0 a0):PT (Qci N a0) (tL tU):=by
 rw[Qci]
 refine (WO (Wt (QgP ?_) λ y1 h1=>(WO (Wt (Qfg ?_) λ y2 h2=>(WO (Wt (QhV ?_ ?_) λ y6 h3=>(We ?_)))))))
 all_goals simp_all (maxDischargeDepth:=9)
theorem QjS {N a0} (ka0:XL a0):PT (Qdm N a0) (λ r=>XR r.1):=by
 rw[Qdm]
 refine (WA λ y1=>(Wl (We ?_) (WA λ y2=>(Wl (We ?_) (Wt (Qip ?_) λ y3 h1=>(WO (WA λ y8=>(We ?_))))))))
 all_goals simp_all (maxDischargeDepth:=9)
theorem Qhk {N a0} (ka0:tU a0):PT (Qds N a0) (λ r=>tU r.1):=by
 rw[Qds]
 refine (Wl (We ?_) (Wl (We ?_) (We ?_)))
 all_goals simp_all (maxDischargeDepth:=9) []
theorem QgR {N a2 y1} (ka2:(tL tU) a2):∀ n v2 v3,(tL tU) v3->PT (Qbv N a2 y1 n v2 v3) (tL tU)
 | 0,_,_,_=>by rw[Qbv];exact IJ
 | n+1,v2,v3,kv3=>by
  have ih:=QgR (N:=N) (a2:=a2) (y1:=y1) ka2 n
  rw[Qbv]
  refine (Wl (PT.get (T:=tU) ?_ λ p4 h1=>(PT.get (T:=tU) ?_ λ p5 h2=>(ih _ _ ?_))) (We ?_))
  all_goals (clear ih;simp_all (maxDischargeDepth:=9) [])
theorem Qh9 {N a2 y1 n v2 v3} (ka2:(tL tU) a2) (kv3:(tL tU) v3):PT (Qbv N a2 y1 n v2 v3) (tL tU):=QgR ka2 n _ _ kv3
theorem QfY {N a0 a1 a2} (ka0:(tL tU) a0) (ka1:tU a1) (ka2:(tL tU) a2):PT (QbX N a0 a1 a2) (λ r=>(tL tU) r.1):=by
 rw[QbX]
 refine (WA λ y1=>(Wl (We ?_) (WO (Wt (Qh9 ?_ ?_) λ y6 h1=>(We ?_)))))
 all_goals simp_all (maxDischargeDepth:=9) []
theorem QgA {N a0 a1 a2} (ka0:(tL tU) a0) (ka1:tU a1) (ka2:tU a2):PT (Qdn N a0 a1 a2) (λ r=>(tL tU) r.1):=by
 rw[Qdn]
 refine (Wt (QfY ?_ ?_ ?_) λ y1 h1=>(We ?_))
 all_goals simp_all (maxDischargeDepth:=9) []
theorem QhD {N a0 a1} (ka0:XR a0) (ka1:tU a1):PT (Qem N a0 a1) XR:=by
 rw[Qem]
 refine (WO (WO (We ?_)))
 all_goals simp_all (maxDischargeDepth:=9)
theorem QjT {N a0 a1} (ka0:XR a0):PT (QdQ N a0 a1) (λ r=>XR r.1/\tU r.2.1):=by
 rw[QdQ]
 refine (WO (UW (Q:=λ k=>∀ _,PT (k ()) _) (λ _=>(WA λ y4=>(Wl (We ?_) (WA λ y5=>(WO (WO (WA λ p13=>(WA λ p14=>(WA λ p15=>(We ?_)))))))))) λ j1 hj1=>(Wl (WA λ p1=>(WA λ p2=>(Wl (WA λ p3=>(WA λ p10=>(WA λ p11=>(WA λ p12=>(We ?_))))) (hj1 ())))) (hj1 ()))))
 all_goals simp_all (maxDischargeDepth:=9)
theorem Qkf {N a0 a1 a2 a3} (ka0:(tL tU) a0) (ka1:tU a1) (ka2:tU a2):PT (QeR N a0 a1 a2 a3) (λ r=>(tL tU) r.1):=by
 rw[QeR]
 refine (Wt (Qke ?_ ?_) λ y1 h1=>(Wl (We ?_) (Wt (QfY ?_ ?_ ?_) λ y2 h2=>(We ?_))))
 all_goals simp_all (maxDischargeDepth:=9) []
theorem Qis {N a0} (ka0:tU a0):PT (Qdz N a0) (λ r=>tU r.1):=by
 rw[Qdz]
 refine (Wl (We ?_) (We ?_))
 all_goals simp_all (maxDischargeDepth:=9) []
theorem Qg4 {N a0 a1} (ka0:XR a0) (ka1:tU a1):PT (Qc2 N a0 a1) (λ r=>XR r.1/\tU r.2.1):=by
 rw[Qc2]
 refine (Wl (We ?_) (WA λ y1=>(Wl (We ?_) (WA λ y2=>(Wl (We ?_) (Wt (Qef ?_ ?_) λ y3 h1=>(Wt (Qhk ?_) λ y4 h2=>(Wl (We ?_) (WA λ y5=>(Wl (We ?_) (Wl (We ?_) (WA λ y6=>(Wl (Wt (QhD ?_ ?_) λ y7 h3=>(We ?_)) (WA λ p8=>(Wl (WO (WA λ p9=>(WA λ y14=>(Wt (QhD ?_ ?_) λ y15 h4=>(We ?_))))) (Wt (Qgv ?_) λ y16 h5=>(WA λ y17=>(Wt (QjT ?_) λ y18 h6=>(Wl (We ?_) (Wt (Qkf ?_ ?_ ?_) λ y19 h7=>(Wt (Qis ?_) λ y20 h8=>(Wt (QgA ?_ ?_ ?_) λ y21 h9=>(WO (WO (We ?_)))))))))))))))))))))))))
 all_goals simp_all (maxDischargeDepth:=9)
theorem QgS {N a1} (ka1:(tL tU) a1):∀ n v1 v2 v3 v4 v5 v6 v7 v8 v9 v10 v11 v12 v13 v14 v15 v16 v17 v18,(tL tU) v4->(tL tU) v8->(tL tU) v10->(tL tU) v18->PT (Qby N a1 n v1 v2 v3 v4 v5 v6 v7 v8 v9 v10 v11 v12 v13 v14 v15 v16 v17 v18) (tE (λ r=>XR r.1/\(tL tU) r.2.1) (λ r=>(tL tU) r.2.2.1/\(tL tU) r.2.2.2.2.2.2.1/\(tL tU) r.2.2.2.2.2.2.2.2.1/\(tL tU) r.2.2.2.2.2.2.2.2.2.2.2.2.2.2.2.2))
 | 0,_,_,_,_,_,_,_,_,_,_,_,_,_,_,_,_,_,_,_,_,_,_=>by rw[Qby];exact IJ
 | n+1,v1,v2,v3,v4,v5,v6,v7,v8,v9,v10,v11,v12,v13,v14,v15,v16,v17,v18,kv4,kv8,kv10,kv18=>by
  have ih:=QgS (N:=N) (a1:=a1) ka1 n
  rw[Qby]
  refine (Wl (PT.get (T:=tU) ?_ λ p19 h1=>(Wt (Qg4 ?_ ?_) λ y20 h2=>(Wl (We ?_) (WO (ih _ _ _ _ _ _ _ _ _ _ _ _ _ _ _ _ _ _ ?_ ?_ ?_ ?_))))) (We ?_))
  all_goals (clear ih;simp_all (maxDischargeDepth:=9))
theorem Qia {N a1 n v1 v2 v3 v4 v5 v6 v7 v8 v9 v10 v11 v12 v13 v14 v15 v16 v17 v18} (ka1:(tL tU) a1) (kv4:(tL tU) v4) (kv8:(tL tU) v8) (kv10:(tL tU) v10) (kv18:(tL tU) v18):PT (Qby N a1 n v1 v2 v3 v4 v5 v6 v7 v8 v9 v10 v11 v12 v13 v14 v15 v16 v17 v18) (tE (λ r=>XR r.1/\(tL tU) r.2.1) (λ r=>(tL tU) r.2.2.1/\(tL tU) r.2.2.2.2.2.2.1/\(tL tU) r.2.2.2.2.2.2.2.2.1/\(tL tU) r.2.2.2.2.2.2.2.2.2.2.2.2.2.2.2.2)):=QgS ka1 n _ _ _ _ _ _ _ _ _ _ _ _ _ _ _ _ _ _ kv4 kv8 kv10 kv18
theorem QjU {N a0 a1} (ka0:XR a0) (ka1:(tL tU) a1):PT (Qet N a0 a1) (λ r=>XR r.1/\(tL tU) r.2.1):=by
 rw[Qet]
 refine (Oo (Qia ?_ ?_ ?_ ?_ ?_) (λ r h1=>(We ?_)) λ y21 h2=>(We ?_))
 all_goals simp_all (maxDischargeDepth:=9)
theorem QhW {N a0 a1} (ka0:XR a0) (ka1:tU a1):PT (QeK N a0 a1) YN:=by
 rw[QeK]
 refine (Wt (Qef ?_ ?_) λ y1 h1=>(Wt (Qgv ?_) λ y2 h2=>(We ?_)))
 all_goals simp_all (maxDischargeDepth:=9)
theorem Qg5 {N p1 y3} (kp1:tU p1):∀ n v4 v5 v6 v7 v8 v9 v10 v11 v12 v13 v14 v15 v16 v17 v18 v19 v20,(tL tU) v7->(tL tU) v11->(tL tU) v13->PT (QbY N p1 y3 n v4 v5 v6 v7 v8 v9 v10 v11 v12 v13 v14 v15 v16 v17 v18 v19 v20) (tE (λ r=>XR r.1) (λ r=>(tL tU) r.2.2.1/\(tL tU) r.2.2.2.2.2.2.1/\(tL tU) r.2.2.2.2.2.2.2.2.1))
 | 0,_,_,_,_,_,_,_,_,_,_,_,_,_,_,_,_,_,_,_,_=>by rw[QbY];exact IJ
 | n+1,v4,v5,v6,v7,v8,v9,v10,v11,v12,v13,v14,v15,v16,v17,v18,v19,v20,kv7,kv11,kv13=>by
  have ih:=Qg5 (N:=N) (p1:=p1) (y3:=y3) kp1 n
  rw[QbY]
  refine (Wl (WA λ p21=>(Wt (Qef ?_ ?_) λ y22 h1=>(Wt (Qg4 ?_ ?_) λ y23 h2=>(Wl (We ?_) (Wt (QgA ?_ ?_ ?_) λ y24 h3=>(ih _ _ _ _ _ _ _ _ _ _ _ _ _ _ _ _ _ ?_ ?_ ?_)))))) (We ?_))
  all_goals (clear ih;simp_all (maxDischargeDepth:=9))
theorem Qit {N p1 y3 n v4 v5 v6 v7 v8 v9 v10 v11 v12 v13 v14 v15 v16 v17 v18 v19 v20} (kp1:tU p1) (kv7:(tL tU) v7) (kv11:(tL tU) v11) (kv13:(tL tU) v13):PT (QbY N p1 y3 n v4 v5 v6 v7 v8 v9 v10 v11 v12 v13 v14 v15 v16 v17 v18 v19 v20) (tE (λ r=>XR r.1) (λ r=>(tL tU) r.2.2.1/\(tL tU) r.2.2.2.2.2.2.1/\(tL tU) r.2.2.2.2.2.2.2.2.1)):=Qg5 kp1 n _ _ _ _ _ _ _ _ _ _ _ _ _ _ _ _ _ kv7 kv11 kv13
theorem Qkg {N a0} (ka0:XR a0):PT (QeS N a0) (λ r=>XR r.1):=by
 rw[QeS]
 refine (Wl (We ?_) (PT.get (T:=tU) ?_ λ p1 h1=>(Wt (QhW ?_ ?_) λ y2 h2=>(WA λ y3=>(Oo (Qit ?_ ?_ ?_ ?_) (λ r h3=>(We ?_)) λ y25 h4=>(We ?_))))))
 all_goals simp_all (maxDischargeDepth:=9)
theorem Qhl {N}:∀ n v1 v2 v3 v4 v5 v6 v7 v8 v9 v10 v11 v12 v13 v14 v15 v16,(tL tU) v3->(tL tU) v7->(tL tU) v9->PT (Qcj N n v1 v2 v3 v4 v5 v6 v7 v8 v9 v10 v11 v12 v13 v14 v15 v16) (λ r=>XR r.1)
 | 0,_,_,_,_,_,_,_,_,_,_,_,_,_,_,_,_,_,_,_=>by rw[Qcj];exact IJ
 | n+1,v1,v2,v3,v4,v5,v6,v7,v8,v9,v10,v11,v12,v13,v14,v15,v16,kv3,kv7,kv9=>by
  have ih:=Qhl (N:=N) n
  rw[Qcj]
  refine (Wt (Qkg ?_) λ y17 h1=>(Wl (We ?_) (Wl (We ?_) (ih _ _ _ _ _ _ _ _ _ _ _ _ _ _ _ _ ?_ ?_ ?_))))
  all_goals (clear ih;simp_all (maxDischargeDepth:=9))
theorem Qjb {N n v1 v2 v3 v4 v5 v6 v7 v8 v9 v10 v11 v12 v13 v14 v15 v16} (kv3:(tL tU) v3) (kv7:(tL tU) v7) (kv9:(tL tU) v9):PT (Qcj N n v1 v2 v3 v4 v5 v6 v7 v8 v9 v10 v11 v12 v13 v14 v15 v16) (λ r=>XR r.1):=Qhl n _ _ _ _ _ _ _ _ _ _ _ _ _ _ _ _ kv3 kv7 kv9
theorem Qkv {N a0} (ka0:XR a0):PT (Qfu N a0) (λ r=>XR r.1):=by
 rw[Qfu]
 refine (Wt (Qjb ?_ ?_ ?_) λ r h1=>(We ?_))
 all_goals simp_all (maxDischargeDepth:=9)
theorem QjV {N a0 a1} (ka0:XR a0) (ka1:tU a1):PT (Qeu N a0 a1) tU:=by
 rw[Qeu]
 refine (WA λ y1=>(Wl (We ?_) (Wt (Qef ?_ ?_) λ y2 h1=>(Wt (Qhk ?_) λ y3 h2=>(We ?_)))))
 all_goals simp_all (maxDischargeDepth:=9)
theorem Qg6 {N a0 v4 p5 v1 v2} (ka0:XR a0):∀ n v7 v8,(tL tU) v8->PT (QbZ N a0 v4 p5 v1 v2 n v7 v8) (tL tU)
 | 0,_,_,_=>by rw[QbZ];exact IJ
 | n+1,v7,v8,kv8=>by
  have ih:=Qg6 (N:=N) (a0:=a0) (v4:=v4) (p5:=p5) (v1:=v1) (v2:=v2) ka0 n
  rw[QbZ]
  refine (Wl (PT.get (T:=tU) ?_ λ p9 h1=>(ih _ _ ?_)) (We ?_))
  all_goals (clear ih;simp_all (maxDischargeDepth:=9))
theorem Qiu {N a0 v4 p5 v1 v2 n v7 v8} (ka0:XR a0) (kv8:(tL tU) v8):PT (QbZ N a0 v4 p5 v1 v2 n v7 v8) (tL tU):=Qg6 ka0 n _ _ kv8
theorem Qg7 {N a0} (ka0:XR a0):∀ n v1 v2 v3 v4,(tL tU) v3->PT (Qbe N a0 n v1 v2 v3 v4) (λ r=>(tL tU) r.2.1)
 | 0,_,_,_,_,_=>by rw[Qbe];exact IJ
 | n+1,v1,v2,v3,v4,kv3=>by
  have ih:=Qg7 (N:=N) (a0:=a0) ka0 n
  rw[Qbe]
  refine (WO (Wl (WA λ p5=>(Wl (ih _ _ _ _ ?_) (Wl (ih _ _ _ _ ?_) (WA λ p6=>(Wt (Qiu ?_ ?_) λ y10 h1=>(ih _ _ _ _ ?_)))))) (We ?_)))
  all_goals (clear ih;simp_all (maxDischargeDepth:=9))
theorem Qiv {N a0 n v1 v2 v3 v4} (ka0:XR a0) (kv3:(tL tU) v3):PT (Qbe N a0 n v1 v2 v3 v4) (λ r=>(tL tU) r.2.1):=Qg7 ka0 n _ _ _ _ kv3
theorem Qkh {N a0} (ka0:XR a0):PT (QdJ N a0) XR:=by
 rw[QdJ]
 refine (WO (WO (Wt (Qiv ?_ ?_) λ y11 h1=>(We ?_))))
 all_goals simp_all (maxDischargeDepth:=9)
theorem Qg8 {N a0} (ka0:XR a0):∀ n v1 v2 v3,(tL tU) v2->PT (QaX N a0 n v1 v2 v3) (λ r=>(tL tU) r.1)
 | 0,_,_,_,_=>by rw[QaX];exact IJ
 | n+1,v1,v2,v3,kv2=>by
  have ih:=Qg8 (N:=N) (a0:=a0) ka0 n
  rw[QaX]
  refine (Wl (PT.get (T:=tU) ?_ λ p4 h1=>(WA λ y5=>(WA λ y6=>(Wl (ih _ _ _ ?_) (PT.get (T:=tU) ?_ λ p7 h2=>(WA λ y8=>(Wl (ih _ _ _ ?_) (PT.get (T:=tU) ?_ λ p9 h3=>(Wt (QhW ?_ ?_) λ y10 h4=>(Wt (Qgu ?_) λ y11 h5=>(PT.get (T:=tU) ?_ λ p12 h6=>(WO (WO (Wt (QfY ?_ ?_ ?_) λ y13 h7=>(ih _ _ _ ?_))))))))))))))) (We ?_))
  all_goals (clear ih;simp_all (maxDischargeDepth:=9))
theorem Qiw {N a0 n v1 v2 v3} (ka0:XR a0) (kv2:(tL tU) v2):PT (QaX N a0 n v1 v2 v3) (λ r=>(tL tU) r.1):=Qg8 ka0 n _ _ _ kv2
theorem Qki {N a0} (ka0:XR a0):PT (QeT N a0) XR:=by
 rw[QeT]
 refine (Wt (Qiw ?_ ?_) λ y14 h1=>(We ?_))
 all_goals simp_all (maxDischargeDepth:=9)
theorem Qgx {N a2 y5 y6} (ka2:(tL tU) a2) (ky5:(λ r=>XR r.1/\(tL tU) r.2.1) y5) (ky6:(λ r=>XR r.1) y6):∀ n v7 v8 v9,(tL tU) v9->PT (Qa4 N a2 y5 y6 n v7 v8 v9) (λ r=>(tL tU) r.2)
 | 0,_,_,_,_=>by rw[Qa4];exact IJ
 | n+1,v7,v8,v9,kv9=>by
  have ih:=Qgx (N:=N) (a2:=a2) (y5:=y5) (y6:=y6) ka2 ky5 ky6 n
  rw[Qa4]
  refine (Wl (PT.get (T:=tU) ?_ λ p10 h1=>(UW (Q:=λ k=>∀ x14 x15,tU x14->PT (k x14 x15) _) (λ x14 x15 h2=>(WO (ih _ _ _ ?_))) λ j3 hj3=>(Wl (PT.get (T:=tU) ?_ λ p11 h3=>(Wt (QjV ?_ ?_) λ y12 h4=>(UW (Q:=λ k=>∀ x13,PT (k x13) _) (λ x13=>(hj3 _ _ ?_)) λ j2 hj2=>(Wl (hj2 _) (hj2 _))))) (hj3 _ _ ?_)))) (We ?_))
  all_goals (clear ih;simp_all (maxDischargeDepth:=9))
theorem QhG {N a2 y5 y6 n v7 v8 v9} (ka2:(tL tU) a2) (ky5:(λ r=>XR r.1/\(tL tU) r.2.1) y5) (ky6:(λ r=>XR r.1) y6) (kv9:(tL tU) v9):PT (Qa4 N a2 y5 y6 n v7 v8 v9) (λ r=>(tL tU) r.2):=Qgx ka2 ky5 ky6 n _ _ _ kv9
theorem Qix {N a0 a1 a2} (ka0:XL a0) (ka1:(tL tU) a1) (ka2:(tL tU) a2):PT (Qcu N a0 a1 a2) (λ r=>XL r.1/\(tL tU) r.2.1/\(tL tU) r.2.2.1):=by
 rw[Qcu]
 refine (WA λ y1=>(Wl (We ?_) (UW (Q:=λ k=>∀ _,PT (k ()) _) (λ _=>(We ?_)) λ j1 hj1=>(WA λ y2=>(Wl (hj1 ()) (WA λ y3=>(Wl (hj1 ()) (Wt (QjS ?_) λ y4 h1=>(Wt (QjU ?_ ?_) λ y5 h2=>(Wl (We ?_) (Wt (Qkv ?_) λ y6 h3=>(Wl (We ?_) (Wt (QhG ?_ ?_ ?_ ?_) λ y16 h4=>(Wt (Qki ?_) λ y17 h5=>(Wt (Qkh ?_) λ y18 h6=>(UW (Q:=λ k=>∀ x20,PT (k x20) _) (λ x20=>(We ?_)) λ j4 hj4=>(Wl (WA λ p19=>(hj4 _)) (hj4 _))))))))))))))))))
 all_goals simp_all (maxDischargeDepth:=9)
theorem Qg9 {N a0 a1} (ka0:XJ a0) (ka1:(tL tU) a1):∀ n v3 v4 v5,(tL X7) v5->PT (QaY N a0 a1 n v3 v4 v5) (tE (λ r=>XJ r.1) (tL X7))
 | 0,_,_,_,_=>by rw[QaY];exact IJ
 | n+1,v3,v4,v5,kv5=>by
  have ih:=Qg9 (N:=N) (a0:=a0) (a1:=a1) ka0 ka1 n
  rw[QaY]
  refine (WO (Wl (PT.get (T:=X7) ?_ λ p6 h1=>(Wl (ih _ _ _ ?_) (PT.get (T:=tU) ?_ λ p7 h2=>(Wl (We ?_) (PT.get (T:=tU) ?_ λ p8 h3=>(PT.get (T:=X7) ?_ λ p9 h4=>(ih _ _ _ ?_))))))) (We ?_)))
  all_goals (clear ih;simp_all (maxDischargeDepth:=9))
theorem Qiy {N a0 a1 n v3 v4 v5} (ka0:XJ a0) (ka1:(tL tU) a1) (kv5:(tL X7) v5):PT (QaY N a0 a1 n v3 v4 v5) (tE (λ r=>XJ r.1) (tL X7)):=Qg9 ka0 ka1 n _ _ _ kv5
theorem Qkj {N a0 a1} (ka0:XJ a0) (ka1:(tL tU) a1):PT (QdK N a0 a1) (λ r=>XJ r.1):=by
 rw[QdK]
 refine (WA λ y1=>(Wl (We ?_) (Wt (QgP ?_) λ y2 h1=>(Wl (We ?_) (WO (Oo (Qiy ?_ ?_ ?_) (λ r h2=>(We ?_)) λ y10 h3=>(We ?_)))))))
 all_goals simp_all (maxDischargeDepth:=9)
theorem Qha {N a1} (ka1:(tL tU) a1):∀ n v3 v4 v5,(tL Xv) v5->PT (QaZ N a1 n v3 v4 v5) (tL Xv)
 | 0,_,_,_,_=>by rw[QaZ];exact IJ
 | n+1,v3,v4,v5,kv5=>by
  have ih:=Qha (N:=N) (a1:=a1) ka1 n
  rw[QaZ]
  refine (WO (Wl (PT.get (T:=Xv) ?_ λ p6 h1=>(Wl (PT.get (T:=tU) ?_ λ p7 h2=>(PT.get (T:=Xv) ?_ λ p8 h3=>(ih _ _ _ ?_))) (ih _ _ _ ?_))) (We ?_)))
  all_goals (clear ih;simp_all (maxDischargeDepth:=9))
theorem Qiz {N a1 n v3 v4 v5} (ka1:(tL tU) a1) (kv5:(tL Xv) v5):PT (QaZ N a1 n v3 v4 v5) (tL Xv):=Qha ka1 n _ _ _ kv5
theorem QgQ {N a0 a1} (ka0:XW a0) (ka1:(tL tU) a1):PT (Qcv N a0 a1) (λ r=>XW r.1):=by
 rw[Qcv]
 refine (WA λ y1=>(Wl (We ?_) (Wt (Qfg ?_) λ y2 h1=>(WO (Wl (We ?_) (WO (Wt (Qiz ?_ ?_) λ y9 h2=>(We ?_))))))))
 all_goals simp_all (maxDischargeDepth:=9)
theorem Qgy {N a0 y4 y5 y6 y7 y8 y9} (ka0:X0 a0) (ky4:(λ r=>XL r.1/\(tL tU) r.2.1/\(tL tU) r.2.2.1) y4) (ky5:(tL tU) y5) (ky6:(tL tU) y6) (ky7:(λ r=>XJ r.1) y7) (ky8:(λ r=>XW r.1) y8) (ky9:(λ r=>XW r.1) y9):∀ n v10 v11,(tL YD) v11->PT (QaI N a0 y4 y5 y6 y7 y8 y9 n v10 v11) (tL YD)
 | 0,_,_,_=>by rw[QaI];exact IJ
 | n+1,v10,v11,kv11=>by
  have ih:=Qgy (N:=N) (a0:=a0) (y4:=y4) (y5:=y5) (y6:=y6) (y7:=y7) (y8:=y8) (y9:=y9) ka0 ky4 ky5 ky6 ky7 ky8 ky9 n
  rw[QaI]
  refine (Wl (PT.get (T:=tU) ?_ λ p12 h1=>(PT.get (T:=YD) ?_ λ p13 h2=>(WO (ih _ _ ?_)))) (We ?_))
  all_goals (clear ih;simp_all (maxDischargeDepth:=9))
theorem QhH {N a0 y4 y5 y6 y7 y8 y9 n v10 v11} (ka0:X0 a0) (ky4:(λ r=>XL r.1/\(tL tU) r.2.1/\(tL tU) r.2.2.1) y4) (ky5:(tL tU) y5) (ky6:(tL tU) y6) (ky7:(λ r=>XJ r.1) y7) (ky8:(λ r=>XW r.1) y8) (ky9:(λ r=>XW r.1) y9) (kv11:(tL YD) v11):PT (QaI N a0 y4 y5 y6 y7 y8 y9 n v10 v11) (tL YD):=Qgy ka0 ky4 ky5 ky6 ky7 ky8 ky9 n _ _ kv11
theorem Qhb {N a0} (ka0:X0 a0):PT (Qa0 N a0) (λ r=>X0 r.1):=by
 rw[Qa0]
 refine (WA λ y1=>(Wl (We ?_) (Wt (Qja ?_) λ y2 h1=>(Wt (Qfg ?_) λ y3 h2=>(Wt (Qix ?_ ?_ ?_) λ y4 h3=>(Wl (We ?_) (Wt (QgP ?_) λ y5 h4=>(Wt (Qfg ?_) λ y6 h5=>(WO (WO (WO (WO (Wt (Qkj ?_ ?_) λ y7 h6=>(WO (Wt (QgQ ?_ ?_) λ y8 h7=>(Wt (QgQ ?_ ?_) λ y9 h8=>(Wt (QhH ?_ ?_ ?_ ?_ ?_ ?_ ?_ ?_) λ y14 h9=>(We ?_))))))))))))))))))
 all_goals simp_all (maxDischargeDepth:=9)
theorem Qgz {N a0 y2} (ka0:XQ a0):∀ n v4 v5,(tL tU) v5->PT (QaJ N a0 y2 n v4 v5) (tL tU)
 | 0,_,_,_=>by rw[QaJ];exact IJ
 | n+1,v4,v5,kv5=>by
  have ih:=Qgz (N:=N) (a0:=a0) (y2:=y2) ka0 n
  rw[QaJ]
  refine (WO (Wl (PT.get (T:=tU) ?_ λ p6 h1=>(Wl (PT.get (T:=tU) ?_ λ p7 h2=>(WA λ p8=>(Wl (PT.get (T:=tU) ?_ λ p9 h3=>(ih _ _ ?_)) (ih _ _ ?_)))) (ih _ _ ?_))) (We ?_)))
  all_goals (clear ih;simp_all (maxDischargeDepth:=9))
theorem QhI {N a0 y2 n v4 v5} (ka0:XQ a0) (kv5:(tL tU) v5):PT (QaJ N a0 y2 n v4 v5) (tL tU):=Qgz ka0 n _ _ kv5
theorem Qhc {N a0} (ka0:XQ a0):PT (Qc3 N a0) (λ r=>XQ r.1):=by
 rw[Qc3]
 refine (WA λ y1=>(Wl (We ?_) (WA λ y2=>(Wt (Qfg ?_) λ y3 h1=>(Wt (QhI ?_ ?_) λ y10 h2=>(Wt (QgQ ?_ ?_) λ y11 h3=>(We ?_)))))))
 all_goals simp_all (maxDischargeDepth:=9)
theorem Qad {N a0}:PT (Qac N a0) (λ r=>X0 r.1/\tU r.2.1):=by
 rw[Qac]
 refine (We ?_)
 all_goals simp_all (maxDischargeDepth:=9)
theorem QgB {N a0 a1 a2} (ka1:tU a1) (ka2:tU a2):PT (Qb0 N a0 a1 a2) (λ r=>YN r.1):=by
 rw[Qb0]
 refine (Wl (Wl (We ?_) (We ?_)) (We ?_))
 all_goals simp_all (maxDischargeDepth:=9)
theorem Qhd {N a0 a1} (ka0:XJ a0) (ka1:tU a1):PT (QdS N a0 a1) (λ r=>XJ r.1):=by
 rw[QdS]
 refine (WA λ y1=>(Wl (We ?_) (Wl (We ?_) (Wl (We ?_) (WA λ p2=>(WA λ y3=>(WA λ p4=>(Wl (We ?_) (Wl (We ?_) (WO (WO (WO (WO (We ?_))))))))))))))
 all_goals simp_all (maxDischargeDepth:=9)
theorem QjW {N a0 a1} (ka0:XL a0):PT (Qdo N a0 a1) (λ r=>XL r.1/\tU r.2.1):=by
 rw[Qdo]
 refine (WO (WA λ y1=>(WA λ y2=>(UW (Q:=λ k=>∀ _,PT (k ()) _) (λ _=>(WA λ y5=>(Wl (We ?_) (Wl (We ?_) (WA λ y6=>(WA λ p11=>(WA λ p12=>(WA λ p13=>(We ?_))))))))) λ j1 hj1=>(Wl (hj1 ()) (WA λ p3=>(Wl (hj1 ()) (WA λ p4=>(Wl (hj1 ()) (Wl (hj1 ()) (WA λ p14=>(WA λ p15=>(WA λ p16=>(We ?_))))))))))))))
 all_goals simp_all (maxDischargeDepth:=9)
theorem QjX {N a0 a1 a2} (ka0:XL a0):PT (QdU N a0 a1 a2) (λ r=>XL r.1/\tU r.2.1):=by
 rw[QdU]
 refine (WA λ y1=>(Wl (We ?_) (WA λ y2=>(WA λ y3=>(Wl (We ?_) (WA λ y4=>(We ?_)))))))
 all_goals simp_all (maxDischargeDepth:=9)
theorem Qkk {N a0 a1 a2} (ka0:XL a0) (ka1:tU a1) (ka2:YN a2):PT (QbG N a0 a1 a2) (λ r=>XL r.1):=by
 rw[QbG]
 refine (Wt (Qgu ?_) λ y1 h1=>(WA λ y2=>(Wl (We ?_) (Wl (We ?_) (WO (WO (Wt (QfY ?_ ?_ ?_) λ y3 h2=>(Wl (We ?_) (We ?_)))))))))
 all_goals simp_all (maxDischargeDepth:=9)
theorem QhX {N a0 a1} (ka0:XL a0) (ka1:YN a1):PT (QbL N a0 a1) (λ r=>XL r.1/\tU r.2.1):=by
 rw[QbL]
 refine (WA λ y1=>(Wl (We ?_) (WA λ y2=>(Wl (We ?_) (WA λ y3=>(WA λ y4=>(Wt (QjW ?_) λ y5 h1=>(UW (Q:=λ k=>∀ x7 x8 x9 x10 x11 x12 x13 x14,tU x7->(tL tU) x11->PT (k x7 x8 x9 x10 x11 x12 x13 x14) _) (λ x7 x8 x9 x10 x11 x12 x13 x14 h2 h3=>(Wl (We ?_) (Wt (Qkk ?_ ?_ ?_) λ y15 h4=>(We ?_)))) λ j1 hj1=>(Wl (Wt (QjX ?_) λ y6 h5=>(hj1 _ _ _ _ _ _ _ _ ?_ ?_)) (hj1 _ _ _ _ _ _ _ _ ?_ ?_))))))))))
 all_goals simp_all (maxDischargeDepth:=9)
theorem QjY {N a0 a1} (ka0:X0 a0) (ka1:YN a1):PT (Qb1 N a0 a1) (λ r=>X0 r.1/\tU r.2.1):=by
 rw[Qb1]
 refine (WA λ y1=>(Wl (We ?_) (Wt (QhX ?_ ?_) λ y2 h1=>(UW (Q:=λ k=>∀ x5 x6 x7 x8 x9 x10 x11 x12 x13 x14 x15 x16 x17 x18 x19 x20 x21 x22 x23 x24 x25,tU x5->(tL tU) x9->(tL X7) x13->(tL Xv) x16->(tL Xv) x17->(tL YD) x18->(tL tU) x19->(tL tU) x22->PT (k x5 x6 x7 x8 x9 x10 x11 x12 x13 x14 x15 x16 x17 x18 x19 x20 x21 x22 x23 x24 x25) _) (λ x5 x6 x7 x8 x9 x10 x11 x12 x13 x14 x15 x16 x17 x18 x19 x20 x21 x22 x23 x24 x25 h2 h3 h4 h5 h6 h7 h8 h9=>(Wl (We ?_) (We ?_))) λ j1 hj1=>(Wl (Wt (Qhb ?_) λ y3 h10=>(Wl (We ?_) (Wt (QhX ?_ ?_) λ y4 h11=>(hj1 _ _ _ _ _ _ _ _ _ _ _ _ _ _ _ _ _ _ _ _ _ ?_ ?_ ?_ ?_ ?_ ?_ ?_ ?_)))) (hj1 _ _ _ _ _ _ _ _ _ _ _ _ _ _ _ _ _ _ _ _ _ ?_ ?_ ?_ ?_ ?_ ?_ ?_ ?_))))))
 all_goals simp_all (maxDischargeDepth:=9)
theorem Qfr {N a0}:PT (Qbr N a0) (λ r=>tU r.1):=by
 rw[Qbr]
 refine (WA λ y1=>(Wl (We ?_) (We ?_)))
 all_goals simp_all (maxDischargeDepth:=9) []
theorem QfZ {N a0 a1} (ka0:X0 a0) (ka1:tU a1):PT (Qb2 N a0 a1) (λ r=>X0 r.1/\tU r.2.1):=by
 rw[Qb2]
 refine (Wl (We ?_) (Wt (Qhd ?_ ?_) λ y1 h1=>(Wl (Wt (Qad) λ y2 h2=>(We ?_)) (Wt (Qfr) λ y3 h3=>(We ?_)))))
 all_goals simp_all (maxDischargeDepth:=9)
theorem Qjc {N a0 a1 a2 a3} (ka0:X0 a0) (ka2:tU a2) (ka3:tU a3):PT (QcQ N a0 a1 a2 a3) (λ r=>X0 r.1/\tU r.2.1):=by
 rw[QcQ]
 refine (Wl (Wt (Qad) λ y1 h1=>(We ?_)) (Wt (QgB ?_ ?_) λ y2 h2=>(UW (Q:=λ k=>∀ _,PT (k ()) _) (λ _=>(Wt (Qad) λ y4 h3=>(We ?_))) λ j1 hj1=>(Wl (hj1 ()) (WA λ y3=>(Wl (hj1 ()) (Wt (Qhd ?_ ?_) λ y5 h4=>(Wl (Wt (Qad) λ y6 h5=>(We ?_)) (Wt (QjY ?_ ?_) λ y7 h6=>(Wl (Wt (Qad) λ y8 h7=>(We ?_)) (Wt (QfZ ?_ ?_) λ y9 h8=>(We ?_))))))))))))
 all_goals simp_all (maxDischargeDepth:=9)
theorem Qhe {N a0 a1 a2} (ka0:XJ a0):PT (Qen N a0 a1 a2) (λ r=>tU r.1):=by
 rw[Qen]
 refine (WA λ y1=>(Wl (We ?_) (Wl (We ?_) (Wl (We ?_) (WA λ p2=>(Wl (We ?_) (Wl (We ?_) (PT.get (T:=X7) ?_ λ p3 h1=>(Wl (We ?_) (PT.get (T:=X7) ?_ λ p4 h2=>(Wl (We ?_) (PT.get (T:=X7) ?_ λ p5 h3=>(We ?_)))))))))))))
 all_goals simp_all (maxDischargeDepth:=9)
theorem QfB {N a0 a1 a2} (ka0:XW a0):PT (Qdt N a0 a1 a2) (λ r=>tU r.1):=by
 rw[Qdt]
 refine (WA λ y1=>(Wl (We ?_) (Wl (We ?_) (Wl (We ?_) (Wl (We ?_) (PT.get (T:=Xv) ?_ λ p2 h1=>(Wl (We ?_) (PT.get (T:=Xv) ?_ λ p3 h2=>(Wl (We ?_) (PT.get (T:=Xv) ?_ λ p4 h3=>(Wl (We ?_) (PT.get (T:=Xv) ?_ λ p5 h4=>(We ?_)))))))))))))
 all_goals simp_all (maxDischargeDepth:=9)
theorem QcB {N a0 a1} (ka0:X0 a0) (ka1:tU a1):PT (Qa2 N a0 a1) (λ r=>tU r.1):=by
 rw[Qa2]
 refine (WA λ y1=>(Wl (We ?_) (Wl (We ?_) (WA λ y2=>(Wl (We ?_) (Wl (Wt (Qhe ?_) λ y3 h1=>(We ?_)) (Wl (Wt (QfB ?_) λ y4 h2=>(We ?_)) (Wt (QfB ?_) λ y5 h3=>(We ?_)))))))))
 all_goals simp_all (maxDischargeDepth:=9)
theorem Qf0 {N a0 a1} (ka0:X0 a0) (ka1:tU a1):PT (QcJ N a0 a1) (λ r=>tU r.1):=by
 rw[QcJ]
 refine (Wt (QcB ?_ ?_) λ y1 h1=>(Wl (Wl (We ?_) (We ?_)) (We ?_)))
 all_goals simp_all (maxDischargeDepth:=9)
theorem Qht {N a0 a1 a2 a3} (ka0:X0 a0) (ka1:tU a1) (ka2:tU a2):PT (QcK N a0 a1 a2 a3) (λ r=>tU r.1):=by
 rw[QcK]
 refine (Wt (Qf0 ?_ ?_) λ y1 h1=>(Wl (We ?_) (Wt (Qg1 ?_ ?_) λ y2 h2=>(Wl (We ?_) (WA λ y3=>(Wl (We ?_) (We ?_)))))))
 all_goals simp_all (maxDischargeDepth:=9)
theorem Qhu {N a0 a1 a2} (ka0:XL a0) (ka1:tU a1):PT (Qbm N a0 a1 a2) (λ r=>tU r.1):=by
 rw[Qbm]
 refine (Wt (Qg1 ?_ ?_) λ y1 h1=>(Wl (We ?_) (Wl (We ?_) (Wl (We ?_) (Wt (Qef ?_ ?_) λ y2 h2=>(We ?_))))))
 all_goals simp_all (maxDischargeDepth:=9)
theorem Qib {N a0 a1 a2 a3} (ka0:XL a0) (ka1:tU a1) (ka3:tU a3):PT (Qbj N a0 a1 a2 a3) (λ r=>XL r.1):=by
 rw[Qbj]
 refine (Wt (Qhu ?_ ?_) λ y1 h1=>(Wl (We ?_) (Wt (QgA ?_ ?_ ?_) λ y2 h2=>(We ?_))))
 all_goals simp_all (maxDischargeDepth:=9)
theorem QjZ {N a0 a1 a2 a3 a4} (ka0:X0 a0) (ka2:tU a2) (ka3:tU a3) (ka4:tU a4):PT (Qdq N a0 a1 a2 a3 a4) (λ r=>X0 r.1/\tU r.2.1):=by
 rw[Qdq]
 refine (UW (Q:=λ k=>∀ x3 x4 x5,tU x3->PT (k x3 x4 x5) _) (λ x3 x4 x5 h1=>(Wl (Wt (Qad) λ y6 h2=>(We ?_)) (Wt (Qhu ?_ ?_) λ y7 h3=>(Wl (We ?_) (Wl (Wt (QfZ ?_ ?_) λ y8 h4=>(We ?_)) (UW (Q:=λ k=>∀ x11,tU x11->PT (k x11) _) (λ x11 h5=>(Wt (Qib ?_ ?_ ?_) λ y12 h6=>(We ?_))) λ j2 hj2=>(Wl (Wt (QcB ?_ ?_) λ y9 h7=>(Wl (Wt (Qad) λ y10 h8=>(We ?_)) (hj2 _ ?_))) (hj2 _ ?_)))))))) λ j1 hj1=>(Wl (Wt (Qht ?_ ?_ ?_) λ y1 h9=>(hj1 _ _ _ ?_)) (Wt (Qht ?_ ?_ ?_) λ y2 h10=>(hj1 _ _ _ ?_))))
 all_goals simp_all (maxDischargeDepth:=9)
theorem Qj0 {N a0 a1 a2 a3} (ka0:X0 a0) (ka2:tU a2) (ka3:tU a3):PT (Qdr N a0 a1 a2 a3) (λ r=>X0 r.1/\tU r.2.1):=by
 rw[Qdr]
 refine (UW (Q:=λ k=>∀ x1,PT (k x1) _) (λ x1=>(Wl (Wt (Qf0 ?_ ?_) λ y2 h1=>(Wl (Wt (Qad) λ y3 h2=>(We ?_)) (Wt (Qg1 ?_ ?_) λ y4 h3=>(Wl (We ?_) (We ?_))))) (Wl (Wt (QcB ?_ ?_) λ y5 h4=>(Wl (Wt (Qad) λ y6 h5=>(We ?_)) (Wt (QcB ?_ ?_) λ y7 h6=>(Wl (Wt (Qad) λ y8 h7=>(We ?_)) (Wl (We ?_) (We ?_)))))) (Wt (QcB ?_ ?_) λ y9 h8=>(Wl (Wt (Qad) λ y10 h9=>(We ?_)) (Wt (QfZ ?_ ?_) λ y11 h10=>(We ?_))))))) λ j1 hj1=>(Wl (hj1 _) (hj1 _)))
 all_goals simp_all (maxDischargeDepth:=9)
theorem Qhm {N a0 a1} (ka0:XW a0) (ka1:tU a1):∀ n v2,PT (Qbs N a0 a1 n v2) (tE (λ r=>XW r.1) (λ _=>True))
 | 0,_=>by rw[Qbs];exact IJ
 | n+1,v2=>by
  have ih:=Qhm (N:=N) (a0:=a0) (a1:=a1) ka0 ka1 n
  rw[Qbs]
  refine (WO (Wl (PT.get (T:=Xv) ?_ λ p3 h1=>(Wl (PT.get (T:=Xv) ?_ λ p4 h2=>(Wl (PT.get (T:=Xv) ?_ λ p5 h3=>(PT.get (T:=Xv) ?_ λ p6 h4=>(PT.get (T:=Xv) ?_ λ p7 h5=>(We ?_)))) (ih _))) (ih _))) (We ?_)))
  all_goals (clear ih;simp_all (maxDischargeDepth:=9))
theorem Qjd {N a0 a1 n v2} (ka0:XW a0) (ka1:tU a1):PT (Qbs N a0 a1 n v2) (tE (λ r=>XW r.1) (λ _=>True)):=Qhm ka0 ka1 n _
theorem Qhf {N a0 a1} (ka0:XW a0) (ka1:tU a1):PT (Qce N a0 a1) (λ r=>XW r.1):=by
 rw[Qce]
 refine (WA λ y1=>(Wl (We ?_) (WO (Oo (Qjd ?_ ?_) (λ r h1=>(We ?_)) λ y8 h2=>(WO (Wl (We ?_) (WO (WO (We ?_)))))))))
 all_goals simp_all (maxDischargeDepth:=9)
theorem QiA {N a0 a1 a2} (ka0:X0 a0) (ka2:tU a2):PT (Qcw N a0 a1 a2) (λ r=>X0 r.1/\tU r.2.1):=by
 rw[Qcw]
 refine (Wt (Qf0 ?_ ?_) λ y1 h1=>(Wl (Wt (Qad) λ y2 h2=>(We ?_)) (UW (Q:=λ k=>∀ x3 x4,(tL Xv) x4->PT (k x3 x4) _) (λ x3 x4 h3=>(Wt (Qhf ?_ ?_) λ y5 h4=>(Wl (Wt (Qad) λ y6 h5=>(We ?_)) (UW (Q:=λ k=>∀ x7 x8,(tL Xv) x7->(tL Xv) x8->PT (k x7 x8) _) (λ x7 x8 h6 h7=>(Wt (Qfr) λ y9 h8=>(We ?_))) λ j2 hj2=>(Wl (hj2 _ _ ?_ ?_) (hj2 _ _ ?_ ?_)))))) λ j1 hj1=>(Wl (hj1 _ _ ?_) (hj1 _ _ ?_)))))
 all_goals simp_all (maxDischargeDepth:=9)
theorem Qhn {N a0 a1 a2} (ka0:XJ a0):PT (Qdu N a0 a1 a2) (λ r=>XJ r.1):=by
 rw[Qdu]
 refine (Wt (Qhe ?_) λ y1 h1=>(Wl (We ?_) (WO (PT.get (T:=X7) ?_ λ p2 h2=>(We ?_)))))
 all_goals simp_all (maxDischargeDepth:=9)
theorem Qkw {N a0 a1 a2} (ka0:XW a0) (ka2:Xv a2):PT (Qgc N a0 a1 a2) XW:=by
 rw[Qgc]
 refine (WO (PT.get (T:=Xv) ?_ λ p1 h1=>(We ?_)))
 all_goals simp_all (maxDischargeDepth:=9)
theorem Qfs {N a0 a1 a2} (ka0:XW a0):PT (Qcl N a0 a1 a2) (λ r=>XW r.1):=by
 rw[Qcl]
 refine (Wt (QfB ?_) λ y1 h1=>(Wl (We ?_) (Wt (Qkw ?_ ?_) λ y2 h2=>(We ?_))))
 all_goals simp_all (maxDischargeDepth:=9)
theorem Qje {N a0 a1 a2} (ka0:X0 a0) (ka2:tU a2):PT (QcR N a0 a1 a2) (λ r=>X0 r.1/\tU r.2.1):=by
 rw[QcR]
 refine (Wl (Wt (Qad) λ y1 h1=>(We ?_)) (Wt (QcB ?_ ?_) λ y2 h2=>(Wl (Wt (Qad) λ y3 h3=>(We ?_)) (WA λ y4=>(UW (Q:=λ k=>∀ _,PT (k ()) _) (λ _=>(Wl (Wt (Qhn ?_) λ y6 h4=>(We ?_)) (Wl (Wt (Qfs ?_) λ y7 h5=>(We ?_)) (Wt (Qfs ?_) λ y8 h6=>(We ?_))))) λ j2 hj2=>(UW (Q:=λ k=>∀ _,PT (k ()) _) (λ _=>(Wt (Qad) λ y5 h7=>(We ?_))) λ j1 hj1=>(Wl (Wl (hj1 ()) (Wl (Wl (hj1 ()) (Wl (Wl (hj1 ()) (hj2 ())) (hj2 ()))) (Wl (Wl (hj1 ()) (hj2 ())) (hj2 ())))) (Wl (Wl (hj1 ()) (Wl (Wl (hj1 ()) (hj2 ())) (hj2 ()))) (Wl (Wl (hj1 ()) (hj2 ())) (hj2 ()))))))))))
 all_goals simp_all (maxDischargeDepth:=9)
theorem Qkl {N a0 a1 a2} (ka0:XJ a0):PT (QfK N a0 a1 a2) (λ r=>XJ r.1):=by
 rw[QfK]
 refine (WA λ y1=>(Wl (We ?_) (Wl (We ?_) (Wl (We ?_) (UW (Q:=λ k=>∀ _,PT (k ()) _) (λ _=>(Wl (We ?_) (WO (WO (We ?_))))) λ j1 hj1=>(Wl (Wl (We ?_) (hj1 ())) (hj1 ())))))))
 all_goals simp_all (maxDischargeDepth:=9)
theorem QhE {N a0 a1} (ka0:XJ a0):PT (QdL N a0 a1) (λ r=>XJ r.1):=by
 rw[QdL]
 refine (Wt (Qkl ?_) λ y1 h1=>(We ?_))
 all_goals simp_all (maxDischargeDepth:=9)
theorem Qkx {N a0 a1} (ka0:XJ a0):PT (Qgd N a0 a1) XJ:=by
 rw[Qgd]
 refine (WA λ p1=>(WO (WO (WO (WO (We ?_))))))
 all_goals simp_all (maxDischargeDepth:=9)
theorem QhY {N a0} (ka0:XJ a0):PT (Qeo N a0) (λ r=>XJ r.1):=by
 rw[Qeo]
 refine (WA λ y1=>(Wl (We ?_) (Wl (We ?_) (WA λ p2=>(Wl (We ?_) (Wt (Qkx ?_) λ y3 h1=>(We ?_)))))))
 all_goals simp_all (maxDischargeDepth:=9)
theorem Qjf {N a0 a1 a2} (ka0:X0 a0) (ka2:tU a2):PT (QcS N a0 a1 a2) (λ r=>X0 r.1/\tU r.2.1):=by
 rw[QcS]
 refine (Wl (Wl (Wt (Qad) λ y1 h1=>(We ?_)) (Wt (QhE ?_) λ y2 h2=>(Wl (Wt (Qad) λ y3 h3=>(We ?_)) (We ?_)))) (Wt (QcB ?_ ?_) λ y4 h4=>(Wl (Wt (Qad) λ y5 h5=>(We ?_)) (Wt (QhY ?_) λ y6 h6=>(Wl (Wt (Qad) λ y7 h7=>(We ?_)) (Wt (QfZ ?_ ?_) λ y8 h8=>(We ?_)))))))
 all_goals simp_all (maxDischargeDepth:=9)
theorem QgC {N a0 a1 a2} (ka0:XL a0) (ka1:tU a1):PT (Qb3 N a0 a1 a2) XL:=by
 rw[Qb3]
 refine (WO (WA λ y1=>(WA λ p2=>(WA λ p3=>(We ?_)))))
 all_goals simp_all (maxDischargeDepth:=9)
theorem QiB {N a0 a1 a2} (ka0:XL a0) (ka1:(tL YD) a1) (ka2:tU a2):PT (Qbf N a0 a1 a2) (λ r=>XL r.1/\(tL YD) r.2.1):=by
 rw[Qbf]
 refine (WA λ y1=>(Wl (We ?_) (Wl (We ?_) (WA λ y2=>(Wl (We ?_) (WO (PT.get (T:=YD) ?_ λ p3 h1=>(PT.get (T:=YD) ?_ λ p4 h2=>(PT.get (T:=YD) ?_ λ p5 h3=>(Wl (WO (WO (WO (Wt (QgC ?_ ?_) λ y7 h4=>(We ?_))))) (Wt (QgC ?_ ?_) λ y8 h5=>(We ?_))))))))))))
 all_goals simp_all (maxDischargeDepth:=9)
theorem Qky {N a0 a1 a2} (ka0:XL a0) (ka1:(tL YD) a1) (ka2:tU a2):PT (Qc5 N a0 a1 a2) (λ r=>XL r.1/\(tL YD) r.2.1/\tU r.2.2.1):=by
 rw[Qc5]
 refine (WA λ y1=>(Wl (We ?_) (Wl (We ?_) (WA λ y2=>(Wl (We ?_) (WA λ y3=>(UW (Q:=λ k=>∀ _,PT (k ()) _) (λ _=>(WO (UW (Q:=λ k=>∀ x11,(tL YD) x11->PT (k x11) _) (λ x11 h1=>(Wt (QgC ?_ ?_) λ y12 h2=>(We ?_))) λ j2 hj2=>(Wl (PT.get (T:=YD) ?_ λ p9 h3=>(PT.get (T:=YD) ?_ λ p10 h4=>(hj2 _ ?_))) (WO (hj2 _ ?_)))))) λ j1 hj1=>(Wl (PT.get (T:=YD) ?_ λ p4 h5=>(Wl (We ?_) (Wl (Wl (We ?_) (WA λ y5=>(Wl (We ?_) (hj1 ())))) (WA λ y6=>(Wl (We ?_) (hj1 ())))))) (Wl (Wl (We ?_) (WA λ y7=>(Wl (We ?_) (hj1 ())))) (WA λ y8=>(Wl (We ?_) (hj1 ()))))))))))))
 all_goals simp_all (maxDischargeDepth:=9)
theorem Qkm {N a0 a1 a2} (ka0:X0 a0) (ka2:tU a2):PT (QdM N a0 a1 a2) (λ r=>X0 r.1/\tU r.2.1):=by
 rw[QdM]
 refine (Wt (Qf0 ?_ ?_) λ y1 h1=>(Wl (Wt (Qad) λ y2 h2=>(We ?_)) (Wl (Wt (QiB ?_ ?_ ?_) λ y3 h3=>(Wl (Wt (Qad) λ y4 h4=>(We ?_)) (We ?_))) (Wt (Qky ?_ ?_ ?_) λ y5 h5=>(Wl (Wt (Qad) λ y6 h6=>(We ?_)) (We ?_))))))
 all_goals simp_all (maxDischargeDepth:=9)
theorem Qkn {N a0 a1 a2 a3 a4} (ka0:X0 a0) (ka2:tU a2) (ka3:tU a3) (ka4:tU a4):PT (QdN N a0 a1 a2 a3 a4) (λ r=>X0 r.1/\tU r.2.1):=by
 rw[QdN]
 refine (WA λ y1=>(Wl (Wt (Qad) λ y2 h1=>(We ?_)) (UW (Q:=λ k=>∀ x4,PT (k x4) _) (λ x4=>(Wl (Wt (Qjc ?_ ?_ ?_) λ y5 h2=>(We ?_)) (UW (Q:=λ k=>∀ x8,PT (k x8) _) (λ x8=>(Wl (Wt (QjZ ?_ ?_ ?_ ?_) λ y9 h3=>(We ?_)) (UW (Q:=λ k=>∀ x12,PT (k x12) _) (λ x12=>(Wl (Wt (Qj0 ?_ ?_ ?_) λ y13 h4=>(We ?_)) (UW (Q:=λ k=>∀ x14,PT (k x14) _) (λ x14=>(Wl (Wt (QiA ?_ ?_) λ y15 h5=>(We ?_)) (UW (Q:=λ k=>∀ x17,PT (k x17) _) (λ x17=>(Wl (Wt (Qje ?_ ?_) λ y18 h6=>(We ?_)) (UW (Q:=λ k=>∀ x19,PT (k x19) _) (λ x19=>(Wl (Wt (Qjf ?_ ?_) λ y20 h7=>(We ?_)) (UW (Q:=λ k=>∀ x21,PT (k x21) _) (λ x21=>(Wl (Wt (Qkm ?_ ?_) λ y22 h8=>(We ?_)) (Wt (Qad) λ y23 h9=>(We ?_)))) λ j13 hj13=>(Wl (hj13 _) (hj13 _))))) λ j12 hj12=>(Wl (hj12 _) (hj12 _))))) λ j11 hj11=>(Wl (hj11 _) (UW (Q:=λ k=>∀ x16,PT (k x16) _) (λ x16=>(hj11 _)) λ j10 hj10=>(Wl (hj10 _) (hj10 _))))))) λ j9 hj9=>(Wl (hj9 _) (hj9 _))))) λ j8 hj8=>(Wl (hj8 _) (UW (Q:=λ k=>∀ x11,PT (k x11) _) (λ x11=>(hj8 _)) λ j7 hj7=>(Wl (hj7 _) (UW (Q:=λ k=>∀ x10,PT (k x10) _) (λ x10=>(hj7 _)) λ j6 hj6=>(Wl (hj6 _) (hj6 _))))))))) λ j5 hj5=>(Wl (hj5 _) (UW (Q:=λ k=>∀ x7,PT (k x7) _) (λ x7=>(hj5 _)) λ j4 hj4=>(Wl (hj4 _) (UW (Q:=λ k=>∀ x6,PT (k x6) _) (λ x6=>(hj4 _)) λ j3 hj3=>(Wl (hj3 _) (hj3 _))))))))) λ j2 hj2=>(Wl (hj2 _) (UW (Q:=λ k=>∀ x3,PT (k x3) _) (λ x3=>(hj2 _)) λ j1 hj1=>(Wl (hj1 _) (hj1 _)))))))
 all_goals simp_all (maxDischargeDepth:=9)
theorem QiC {N a0 a1 a2 a3 a4} (ka0:X0 a0) (ka1:X0 a1) (ka3:tU a3):PT (QdB N a0 a1 a2 a3 a4) XfW:=by
 rw[QdB]
 refine (UW (Q:=λ k=>∀ x1,PT (k x1) _) (λ x1=>(UW (Q:=λ k=>∀ x2,PT (k x2) _) (λ x2=>(Wl (Wl (We ?_) (We ?_)) (We ?_))) λ j2 hj2=>(Wl (hj2 _) (hj2 _)))) λ j1 hj1=>(Wl (hj1 _) (Wl (hj1 _) (hj1 _))))
 all_goals simp_all (maxDischargeDepth:=9)
theorem QeZ {N a0 a1} (ka0:XQ a0) (ka1:tU a1):PT (QaB N a0 a1) (λ r=>tU r.1):=by
 rw[QaB]
 refine (WA λ y1=>(Wl (We ?_) (Wl (We ?_) (WA λ y2=>(Wl (We ?_) (Wl (Wt (Qhe ?_) λ y3 h1=>(We ?_)) (Wl (Wt (QfB ?_) λ y4 h2=>(We ?_)) (Wt (QfB ?_) λ y5 h3=>(We ?_)))))))))
 all_goals simp_all (maxDischargeDepth:=9)
theorem Qf1 {N a0 a1} (ka0:XQ a0) (ka1:tU a1):PT (Qcm N a0 a1) (λ r=>XQ r.1/\tU r.2):=by
 rw[Qcm]
 refine (Wl (We ?_) (Wt (Qhd ?_ ?_) λ y1 h1=>(Wt (Qfr) λ y2 h2=>(We ?_))))
 all_goals simp_all (maxDischargeDepth:=9)
theorem QhZ {N a0 a1 a2 a3} (ka0:XQ a0) (ka1:tU a1) (ka3:tU a3):PT (QeL N a0 a1 a2 a3) XQ:=by
 rw[QeL]
 refine (WO (PT.get (T:=Y6) ?_ λ p1 h1=>(WO (PT.get (T:=tU) ?_ λ p2 h2=>(PT.get (T:=Y6) ?_ λ p3 h3=>(We ?_))))))
 all_goals simp_all (maxDischargeDepth:=9)
theorem QiD {N a0 a1 a2} (ka0:XQ a0) (ka2:tU a2):PT (QdC N a0 a1 a2) (λ r=>XQ r.1/\tU r.2):=by
 rw[QdC]
 refine (UW (Q:=λ k=>∀ x3 x4 x5 x6 x7,(tL Xv) x3->(tL Xv) x4->PT (k x3 x4 x5 x6 x7) _) (λ x3 x4 x5 x6 x7 h1 h2=>(Wt (Qfr) λ y8 h3=>(We ?_))) λ j1 hj1=>(Wl (Wt (Qhf ?_ ?_) λ y1 h4=>(hj1 _ _ _ _ _ ?_ ?_)) (Wt (Qhf ?_ ?_) λ y2 h5=>(hj1 _ _ _ _ _ ?_ ?_))))
 all_goals simp_all (maxDischargeDepth:=9)
theorem Qjg {N a0 a1} (ka0:XQ a0) (ka1:tU a1):PT (Qd4 N a0 a1) XQ:=by
 rw[Qd4]
 refine (WA λ y1=>(Wl (Wt (Qhn ?_) λ y2 h1=>(We ?_)) (Wl (Wt (Qfs ?_) λ y3 h2=>(We ?_)) (Wt (Qfs ?_) λ y4 h3=>(We ?_)))))
 all_goals simp_all (maxDischargeDepth:=9)
theorem Qko {N a0 a1 a2 a3} (ka0:XQ a0) (ka2:tU a2) (ka3:tU a3):PT (QeV N a0 a1 a2 a3) (λ r=>XQ r.1/\tU r.2):=by
 rw[QeV]
 refine (WA λ y1=>(WO (Wl (PT.get (T:=ZK) ?_ λ p2 h1=>(PT.get (T:=ZK) ?_ λ p3 h2=>(PT.get (T:=ZK) ?_ λ p4 h3=>(Wl (WO (WO (WO (We ?_)))) (We ?_))))) (Wl (PT.get (T:=ZK) ?_ λ p7 h4=>(PT.get (T:=ZK) ?_ λ p8 h5=>(PT.get (T:=ZK) ?_ λ p9 h6=>(We ?_)))) (WO (We ?_))))))
 all_goals simp_all (maxDischargeDepth:=9)
theorem Qkp {N a0 a1 a2 a3 a4 a5} (ka0:XQ a0) (ka2:tU a2) (ka3:tU a3) (ka4:tU a4) (ka5:XfW a5):PT (QeW N a0 a1 a2 a3 a4 a5) (λ r=>XQ r.1/\tU r.2.1):=by
 rw[QeW]
 refine (WA λ y1=>(Wl (We ?_) (UW (Q:=λ k=>∀ x3,tU x3->PT (k x3) _) (λ x3 h1=>(UW (Q:=λ k=>∀ x5,PT (k x5) _) (λ x5=>(Wl (UW (Q:=λ k=>∀ x7 x8 x9 x10 x11 x12 x13 x14 x15 x16,(tL Y6) x9->(tL X7) x10->(tL Xv) x13->(tL Xv) x14->(tL ZK) x15->(tL tU) x16->PT (k x7 x8 x9 x10 x11 x12 x13 x14 x15 x16) _) (λ x7 x8 x9 x10 x11 x12 x13 x14 x15 x16 h2 h3 h4 h5 h6 h7=>(Wt (QgB ?_ ?_) λ y17 h8=>(WO (WO (WO (WO (Wt (Qf1 ?_ ?_) λ y18 h9=>(We ?_)))))))) λ j4 hj4=>(Wl (Wt (Qhc ?_) λ y6 h10=>(hj4 _ _ _ _ _ _ _ _ _ _ ?_ ?_ ?_ ?_ ?_ ?_)) (hj4 _ _ _ _ _ _ _ _ _ _ ?_ ?_ ?_ ?_ ?_ ?_))) (Wl (PT.get (T:=Y6) ?_ λ p19 h11=>(We ?_)) (Wl (PT.get (T:=Y6) ?_ λ p20 h12=>(We ?_)) (Wl (PT.get (T:=Y6) ?_ λ p21 h13=>(PT.get (T:=tU) ?_ λ p22 h14=>(We ?_))) (Wl (Wt (QhZ ?_ ?_ ?_) λ y23 h15=>(We ?_)) (Wl (PT.get (T:=Y6) ?_ λ p24 h16=>(PT.get (T:=tU) ?_ λ p25 h17=>(Wt (Qf1 ?_ ?_) λ y26 h18=>(We ?_)))) (Wl (Wt (QeZ ?_ ?_) λ y27 h19=>(Wt (QhZ ?_ ?_ ?_) λ y28 h20=>(We ?_))) (Wl (Wt (QeZ ?_ ?_) λ y29 h21=>(Wl (We ?_) (We ?_))) (Wl (Wt (Qf1 ?_ ?_) λ y30 h22=>(We ?_)) (UW (Q:=λ k=>∀ x31,PT (k x31) _) (λ x31=>(Wl (Wt (QiD ?_ ?_) λ y32 h23=>(We ?_)) (UW (Q:=λ k=>∀ x34,PT (k x34) _) (λ x34=>(Wl (Wt (Qjg ?_ ?_) λ y35 h24=>(We ?_)) (Wl (Wt (QhE ?_) λ y36 h25=>(We ?_)) (Wl (Wt (QhY ?_) λ y37 h26=>(Wt (Qf1 ?_ ?_) λ y38 h27=>(We ?_))) (Wt (Qko ?_ ?_ ?_) λ y39 h28=>(We ?_)))))) λ j7 hj7=>(Wl (hj7 _) (UW (Q:=λ k=>∀ x33,PT (k x33) _) (λ x33=>(hj7 _)) λ j6 hj6=>(Wl (hj6 _) (hj6 _))))))) λ j5 hj5=>(Wl (hj5 _) (hj5 _))))))))))))) λ j3 hj3=>(Wl (hj3 _) (UW (Q:=λ k=>∀ x4,PT (k x4) _) (λ x4=>(hj3 _)) λ j2 hj2=>(Wl (hj2 _) (hj2 _)))))) λ j1 hj1=>(Wl (Wl (Wt (QeZ ?_ ?_) λ y2 h29=>(hj1 _ ?_)) (hj1 _ ?_)) (hj1 _ ?_)))))
 all_goals simp_all (maxDischargeDepth:=9)
theorem Qjh {N a0 a1} (ka0:Vj a0) (ka1:Xbu a1):PT (QbO N a0 a1) (λ r=>Vj r.1/\tU r.2.1):=by
 rw[QbO]
 refine (Wl (Wt (Qhb ?_) λ y1 h1=>(UW (Q:=λ k=>∀ x3 x4 x5 x6 x7 x8 x9 x10 x11 x12 x13 x14 x15 x16 x17 x18 x19 x20 x21 x22 x23 x24 x25,(tL tU) x5->(tL X7) x9->(tL Xv) x12->(tL Xv) x13->(tL YD) x14->(tL tU) x15->(tL Y6) x18->(tL X7) x19->(tL Xv) x22->(tL Xv) x23->(tL ZK) x24->(tL tU) x25->PT (k x3 x4 x5 x6 x7 x8 x9 x10 x11 x12 x13 x14 x15 x16 x17 x18 x19 x20 x21 x22 x23 x24 x25) _) (λ x3 x4 x5 x6 x7 x8 x9 x10 x11 x12 x13 x14 x15 x16 x17 x18 x19 x20 x21 x22 x23 x24 x25 h2 h3 h4 h5 h6 h7 h8 h9 h10 h11 h12 h13=>(We ?_)) λ j1 hj1=>(Wl (Wt (Qhc ?_) λ y2 h14=>(hj1 _ _ _ _ _ _ _ _ _ _ _ _ _ _ _ _ _ _ _ _ _ _ _ ?_ ?_ ?_ ?_ ?_ ?_ ?_ ?_ ?_ ?_ ?_ ?_)) (hj1 _ _ _ _ _ _ _ _ _ _ _ _ _ _ _ _ _ _ _ _ _ _ _ ?_ ?_ ?_ ?_ ?_ ?_ ?_ ?_ ?_ ?_ ?_ ?_)))) (Wt (Qkn ?_ ?_ ?_ ?_) λ y26 h15=>(Wt (QiC ?_ ?_ ?_) λ y27 h16=>(Wt (Qkp ?_ ?_ ?_ ?_ ?_) λ y28 h17=>(UW (Q:=λ k=>∀ x29 x30 x31 x32 x33 x34 x35 x36 x37 x38,(tL Y6) x31->(tL X7) x32->(tL Xv) x35->(tL Xv) x36->(tL ZK) x37->(tL tU) x38->PT (k x29 x30 x31 x32 x33 x34 x35 x36 x37 x38) _) (λ x29 x30 x31 x32 x33 x34 x35 x36 x37 x38 h18 h19 h20 h21 h22 h23=>(Wl (Wl (WO (WO (We ?_))) (We ?_)) (We ?_))) λ j2 hj2=>(Wl (hj2 _ _ _ _ _ _ _ _ _ _ ?_ ?_ ?_ ?_ ?_ ?_) (hj2 _ _ _ _ _ _ _ _ _ _ ?_ ?_ ?_ ?_ ?_ ?_)))))))
 all_goals simp_all (maxDischargeDepth:=9)
theorem QeB {N a0 a1} (ka0:Vj a0):PT (Qbk N a0 a1) (λ r=>tU r.1):=by
 rw[Qbk]
 refine (WA λ y1=>(Wl (WA λ y2=>(PT.get (T:=tU) ?_ λ p3 h1=>(We ?_))) (Wl (WA λ y4=>(PT.get (T:=tU) ?_ λ p5 h2=>(WA λ y6=>(We ?_)))) (UW (Q:=λ k=>∀ x8,PT (k x8) _) (λ x8=>(Wl (WA λ y9=>(PT.get (T:=tU) ?_ λ p10 h3=>(We ?_))) (WA λ y11=>(PT.get (T:=tU) ?_ λ p12 h4=>(We ?_))))) λ j2 hj2=>(Wl (hj2 _) (UW (Q:=λ k=>∀ x7,PT (k x7) _) (λ x7=>(hj2 _)) λ j1 hj1=>(Wl (hj1 _) (hj1 _))))))))
 all_goals simp_all (maxDischargeDepth:=9)
theorem Qic {N a0 a1} (ka0:Vj a0):PT (QcH N a0 a1) (λ r=>Xbu r.1):=by
 rw[QcH]
 refine (WA λ y1=>(WA λ p2=>(Wl (WA λ y3=>(WO (WA λ y4=>(We ?_)))) (UW (Q:=λ k=>∀ x5,PT (k x5) _) (λ x5=>(Wl (WA λ y6=>(WA λ y7=>(Wl (WA λ y8=>(We ?_)) (We ?_)))) (Wl (WA λ y9=>(We ?_)) (Wt (QeB ?_) λ y10 h1=>(WA λ y11=>(WA λ y12=>(UW (Q:=λ k=>∀ x16 x17 x18,tU x18->PT (k x16 x17 x18) _) (λ x16 x17 x18 h2=>(Wl (Wt (QeB ?_) λ y19 h3=>(We ?_)) (We ?_))) λ j2 hj2=>(Wl (Wt (QeB ?_) λ y14 h4=>(hj2 _ _ _ ?_)) (WA λ y13=>(Wl (Wt (QeB ?_) λ y15 h5=>(hj2 _ _ _ ?_)) (hj2 _ _ _ ?_))))))))))) λ j1 hj1=>(Wl (hj1 _) (hj1 _))))))
 all_goals simp_all (maxDischargeDepth:=9)
theorem QhJ {N a0 a1} (ka0:Xbv a0):PT (Qcy N a0 a1) (λ r=>Xbv r.1):=by
 rw[Qcy]
 refine (WO (WO (WO (WA λ y1=>(WO (WA λ y2=>(WA λ y3=>(UW (Q:=λ k=>∀ x4,PT (k x4) _) (λ x4=>(Wl (WA λ y5=>(PT.get (T:=tU) ?_ λ p6 h1=>(PT.get (T:=tU) ?_ λ p7 h2=>(We ?_)))) (Wl (PT.get (T:=tU) ?_ λ p8 h3=>(WA λ y9=>(WO (PT.get (T:=tU) ?_ λ p10 h4=>(We ?_))))) (Wl (WA λ y11=>(WA λ p12=>(We ?_))) (Wl (WA λ y13=>(WA λ p14=>(We ?_))) (Wl (WA λ p15=>(WA λ y16=>(WA λ p17=>(We ?_)))) (Wl (WA λ y18=>(WA λ p19=>(We ?_))) (Wl (WA λ y20=>(We ?_)) (Wl (WO (WA λ y21=>(We ?_))) (Wl (We ?_) (Wl (WO (We ?_)) (Wl (WA λ y26=>(We ?_)) (We ?_))))))))))))) λ j1 hj1=>(Wl (hj1 _) (hj1 _))))))))))
 all_goals simp_all (maxDischargeDepth:=9)
theorem Qkz {N a0 a1} (ka0:X0 a0):PT (Qfy N a0 a1) (λ r=>X0 r.1):=by
 rw[Qfy]
 refine (WA λ y1=>(Wl (Wt (QhJ ?_) λ y2 h1=>(We ?_)) (Wl (WO (WA λ y3=>(WO (We ?_)))) (Wl (Wl (WO (WA λ y4=>(PT.get (T:=X7) ?_ λ p5 h2=>(WA λ y6=>(PT.get (T:=X7) ?_ λ p7 h3=>(We ?_)))))) (We ?_)) (Wl (WO (WA λ y8=>(WA λ y9=>(WO (We ?_))))) (Wl (WO (WA λ y10=>(WA λ y11=>(WO (We ?_))))) (Wl (WO (WA λ y12=>(WA λ y13=>(WO (We ?_))))) (Wl (WO (WA λ y14=>(WA λ y15=>(WO (We ?_))))) (We ?_)))))))))
 all_goals simp_all (maxDischargeDepth:=9)
end Go.Sx
namespace Go.Sx
def BIG:Nat:=1099511627776
theorem XaS {ws:List Int} (hl:ws.length<=BIG) (N:Nat) (a k:Int) (hk : -1<=k/\k<=1000000000000000000):Qdl N ws a k =
 some (if 4096<=a/\a<=4096+ws.length then (a-4096,decide (a+k<=4096+ws.length)) else (0,false)):=by
 unfold BIG at hl
 simp only[Qdl,Uy]
 rw[Xw (n:=(ws.length:Int)) (by omega) (by omega),Xw (n:=4096+(ws.length:Int)) (by omega) (by omega)]
 by_cases h1:a<4096
 ·rw[Wm h1,Wk (by omega)]
 ·rw[Wk h1]
  by_cases h2:a>4096+ws.length
  ·rw[Wm h2,Wk (by omega)]
  ·rw[Wk h2,Wm (by omega),Xw (n:=a-4096) (by omega) (by omega),Xc (n:=a-4096) (by omega) (by omega),Xc (by omega) (by omega)]
   congr 2
   exact decide_eq_decide.2 (by omega)
def inW (ws:List Int) (a:Int):Prop:=4096<=a/\a<4096+ws.length
instance (ws:List Int) (a:Int):Decidable (inW ws a):=by unfold inW;infer_instance
def ix (a:Int):Nat:=(a-4096).toNat
theorem Zw {ws:List Int} (hl:ws.length<=BIG) (N:Nat) (a:Int):Qa3 N ws a=some (if inW ws a then (ws.getD (ix a) 0,0) else (0,2)):=by
 simp only[Qa3,Qfh,XaS hl N a 1 (by omega),Xa]
 by_cases h:4096<=a/\a<=4096+ws.length
 ·simp only[Wm h]
  by_cases h2:inW ws a
  ·have h3:a+1<=4096+ws.length:=by unfold inW at h2;omega
   simp only[Wm h2,h3,decide_true,Ws,Wa,Xa]
   have h4:(a-4096).toNat<ws.length:=by unfold inW at h2;omega
   rw[show ((0:Int) != 0)=false from rfl,Wa,Yj (by omega) (by unfold inW at h2;omega),Xa]
   simp[ix,List.getD,h4]
  ·have h3:¬ a+1<=4096+ws.length:=by unfold inW at h2;omega
   simp only[Wk h2,h3,decide_false,W0,Wc,Xa]
   rfl
 ·have h2:¬ inW ws a:=by unfold inW;omega
  simp only[Wk h,Wk h2,W0,Wc,Xa]
  rfl
def ovr (ws l:List Int) (i:Nat):List Int:=ws.take i++l++ws.drop (i+l.length)
theorem ZL {ws l:List Int} {i:Nat} (h:i+l.length<=ws.length):(ovr ws l i).length=ws.length:=by
 simp[ovr];omega
theorem Xdq {ws l:List Int} {i:Nat} (h:i+l.length<=ws.length) (j:Nat):(ovr ws l i)[j]? = if i<=j/\j<i+l.length then l[j-i]? else ws[j]?:=by
 unfold ovr
 have hm:(ws.take i).length=i:=by simp only[Wy];omega
 by_cases h1:j<i
 ·rw[Wk (by omega),Ut,Uq (by omega),WW,Wm h1]
 ·by_cases h2:j<i+l.length
  ·rw[Wm (by omega),Uq (by rw[Wq];omega),UP (by omega),hm]
  ·rw[Wk (by omega),UP (by rw[Wq];omega),Un,Wq,hm]
   congr 1
   omega
theorem XeE {ws l:List Int} {i:Nat} (h:i+l.length<=ws.length) (j:Nat):(ovr ws l i).getD j 0=if i<=j/\j<i+l.length then l.getD (j-i) 0 else ws.getD j 0:=by
 simp only[Wp,Xdq h]
 split<;>rfl
theorem XeF {l:List Int} (y:Int×Bool) (i:Nat) (N:Nat) (ws:List Int) (hi:y.1=i) (h:i+l.length<=ws.length) (hl:ws.length<=BIG):∀ (n k:Nat) (v:List Int),k<=l.length->l.length-k<n->v=ovr ws (l.take k) i ->
 Qbv N l y n (k:Int) v=some (ovr ws l i)
 | 0,k,v,_,hn,_=>by omega
 | n+1,k,v,hk,hn,hv=>by
  unfold BIG at hl
  rw[Qbv]
  have hlt:(l.take k).length=k:=by simp;omega
  have hvl:v.length=ws.length:=by rw[hv];exact ZL (by rw[hlt];omega)
  by_cases h1:k<l.length
  ·have e1:decide ((k:Int)<((l.length:Nat):Int))=true:=by simp;omega
   have e2:wI (y.1+(k:Int))=((i+k:Nat):Int):=by rw[hi,Xc (by omega) (by omega)];simp
   have e3:wI ((k:Int)+1)=((k+1:Nat):Int):=by rw[Xc (by omega) (by omega)];simp
   rw[e1,Wc,Yj (by omega) (by omega),Xa,e2,Yj (by omega) (by omega),Xa,e3]
   refine XeF y i N ws hi h (by unfold BIG;omega) n (k+1) _ (by omega) (by omega) ?_
   rw[hv]
   simp only[IB]
   apply List.ext_getElem?
   intro j
   have hlt2:(l.take (k+1)).length=k+1:=by simp only[Wy];omega
   rw[Ih,ZL (by omega),Xdq (by omega),Xdq (by omega),hlt,hlt2]
   by_cases hj:i+k=j
   ·subst hj
    rw[Wm rfl,Wm (by omega),Wm (by omega),WW,Wm (by omega),IG,Wd h1]
   ·rw[Wk hj]
    by_cases hj2:i<=j/\j<i+k
    ·rw[Wm hj2,Wm (by omega),WW,WW,Wm (by omega),Wm (by omega)]
    ·rw[Wk hj2,Wk (by omega)]
  ·have e1:decide ((k:Int)<((l.length:Nat):Int))=false:=by simp;omega
   rw[e1,Wa,hv,U3 (by omega)]
def Yc (ws:List Int) (a:Int) (k:Nat):Prop:=4096<=a/\a+k<=4096+ws.length
instance (ws:List Int) (a:Int) (k:Nat):Decidable (Yc ws a k):=by unfold Yc;infer_instance
theorem ZU {ws l:List Int} (hl:ws.length<=BIG) (h2:l.length<=BIG) {N:Nat} (hN:l.length<N) (a:Int):QbX N ws a l=some (if Yc ws a l.length then (ovr ws l (ix a),0) else ([],2)):=by
 simp only[QbX]
 rw[XaS hl N a _ (by unfold BIG at h2;omega),Xa]
 by_cases h:Yc ws a l.length
 ·have h3:4096<=a/\a<=4096+ws.length:=by unfold Yc at h;omega
  have h4:a+(l.length:Int)<=4096+ws.length:=by unfold Yc at h;omega
  simp only[Wm h,Wm h3,h4,decide_true,Ws,Wa]
  rw[Xe (by unfold BIG at hl;omega)]
  have:=XeF (l:=l) (a-4096,true) (ix a) N ws (by unfold ix;simp;omega) (by unfold ix;omega) hl N 0 ws (by omega) (by omega) (by simp[ovr])
  rw[show ((0:Nat):Int)=0 from rfl] at this
  rw[this,Xa]
 ·by_cases h3:4096<=a/\a<=4096+ws.length
  ·have h4:¬ a+(l.length:Int)<=4096+ws.length:=by unfold Yc at h;omega
   simp only[Wk h,Wm h3,h4,decide_false,W0,Wc]
  ·simp only[Wk h,Wk h3,W0,Wc]
theorem VG {ws:List Int} (hl:ws.length<=BIG) {N:Nat} (hN:1<N) (a v:Int):Qdn N ws a v=some (if inW ws a then (ws.set (ix a) v,0) else ([],2)):=by
 simp only[Qdn]
 rw[ZU (l:=[v]) hl (by unfold BIG;simp) (by simpa using hN),Xa]
 by_cases h:inW ws a
 ·have h1:Yc ws a [v].length:=by unfold inW at h;unfold Yc;simp only[Ub,UM];omega
  simp only[Wm h,Wm h1]
  congr 2
  unfold ovr
  have hlt:ix a<ws.length:=by unfold inW at h;unfold ix;omega
  simp[Ia,hlt]
 ·have h1:¬ Yc ws a [v].length:=by unfold inW at h;unfold Yc;simp only[Ub,UM];omega
  simp only[Wk h,Wk h1]
theorem XaT {ws:List Int} (hl:ws.length<=BIG) (N:Nat) (a:Int) (k:Nat) (hk:k<=1000000000):QcN N ws a (k:Int)=some (if Yc ws a k then ((ws.drop (ix a)).take k,0) else ([],2)):=by
 simp only[QcN]
 have e1:decide ((k:Int)<0)=false:=Wj (by omega)
 rw[e1,Wa,XaS hl N a _ (by omega),Xa]
 unfold BIG at hl
 by_cases h:Yc ws a k
 ·have h3:4096<=a/\a<=4096+ws.length:=by unfold Yc at h;omega
  have h4:a+(k:Int)<=4096+ws.length:=by unfold Yc at h;omega
  simp only[Wm h,Wm h3,h4,decide_true,Ws,Wa]
  rw[Xc (n:=a-4096+(k:Int)) (by omega) (by omega),Xe (by omega),Xe (by omega)]
  have e2:(a-4096+(k:Int)).toNat-(a-4096).toNat=k:=by omega
  rw[e2];rfl
 ·by_cases h3:4096<=a/\a<=4096+ws.length
  ·have h4:¬ a+(k:Int)<=4096+ws.length:=by unfold Yc at h;omega
   simp only[Wk h,Wm h3,h4,decide_false,W0,Wc]
  ·simp only[Wk h,Wk h3,W0,Wc]
theorem Xma {ws:List Int} (hl:ws.length<=BIG) {N:Nat} (to a:Int) (k:Nat) (hk:k<=1000000000) (hN:k<N):QeR N ws to a (k:Int) =
 some (if Yc ws a k/\Yc ws to k then (ovr ws ((ws.drop (ix a)).take k) (ix to),0) else ([],2)):=by
 simp only[QeR]
 rw[XaT hl N a k hk,Xa]
 by_cases h:Yc ws a k
 ·have hlen:((ws.drop (ix a)).take k).length=k:=by unfold Yc at h;simp[ix];omega
  simp only[Wm h]
  rw[show ((0:Int) != 0)=false from rfl,Wa,ZU hl (by rw[hlen];unfold BIG;omega) (by rw[hlen];exact hN),Xa,hlen]
  by_cases h2:Yc ws to k
  ·rw[Wm h2,Wm ⟨h,h2⟩]
  ·rw[Wk h2,Wk (λ h3=>h2 h3.2)]
 ·simp only[Wk h]
  rw[show ((2:Int) != 0)=true from rfl,Wc,Wk (λ h3=>h h3.1)]
end Go.Sx
namespace Go.Sx
def Xx (d:Wz):Bool:=decide (0<=d.Kind/\d.Kind<=3/\0<=d.Length/\d.Length<=255)&&(if d.Kind=1 then decide (d.Length<=32)&&decide (d.Map % 18446744073709551616<2 ^ d.Length.toNat) else decide (d.Map=0))
theorem YS (N:Nat) (d:Wz):QcI N d=some (Xx d):=by
 simp only[QcI,Uy,Xx]
 by_cases h1:d.Kind<0
 ·rw[Wm h1,Wj (by omega),Um]
 rw[Wk h1]
 by_cases h2:d.Kind>3
 ·rw[Wm h2,Wj (by omega),Um]
 rw[Wk h2]
 by_cases h3:d.Length<0
 ·rw[Wm h3,Wj (by omega),Um]
 rw[Wk h3]
 by_cases h4:d.Length>255
 ·rw[Wm h4,Wj (by omega),Um]
 rw[Wk h4,Wh (p:=0<=d.Kind/\d.Kind<=3/\0<=d.Length/\d.Length<=255) (by omega),WR]
 by_cases h5:d.Kind=1
 ·rw[Wm h5,h5,show ((1:Int) != 1)=false from rfl,Wa]
  by_cases h6:d.Length<=32
  ·rw[Wm h6,Xw (n:=d.Length) (by omega) (by omega),Xe (by omega),XjI (by omega) (by omega),Xbr,Wh h6,WR]
  ·rw[Wk h6,Wj h6,Um]
 ·have:(d.Kind != 1)=true:=by simpa using h5
  rw[Wk h5,this,Wc]
  congr 1
theorem XH {d:Wz} (h:Xx d=true):0<=d.Kind/\d.Kind<=3/\0<=d.Length/\d.Length<=255:=by
 unfold Xx at h
 simp only[WE,decide_eq_true_eq] at h
 exact h.1
def XG (d:Wz):Int:=if Xx d then d.Length+1 else 0
theorem Yg (N:Nat) (d:Wz):Qcq N d=some (XG d):=by
 simp only[Qcq,YS,Xa,XG]
 cases h:Xx d with
 | false=>rfl
 | true=>have:=XH h;simp[Xc (n:=d.Length+1) (by omega) (by omega)]
theorem XeG (d:Wz):0<=XG d/\XG d<=256:=by
 unfold XG
 split
 ·rename_i h;have:=XH h;omega
 ·omega
def Vk (d:Wz):Int:=wU (wU (wU (1+wU (4*wU d.Kind))+wU (16*wU d.Length))+ZF .u64 (wU d.Map) 16)
theorem Jc (N:Nat) (d:Wz):Qcg N d=some (if Xx d then (Vk d,0) else (0,1)):=by
 simp only[Qcg,YS,Xa]
 cases h:Xx d<;>rfl
def Vl (w:Int):Wz:=⟨wI (YA .u64 (X9 .u64 w 2) 3),wI (YA .u64 (X9 .u64 w 4) 4095),wW (X9 .u64 w 16)⟩
def okH (w:Int):Bool:=Xx (Vl w)&&(Vk (Vl w)==w)
def ZV (w:Int):Wz:=if okH w then Vl w else ⟨0,0,0⟩
theorem VH (N:Nat) (w:Int):QbJ N w=some (ZV w,okH w):=by
 show QbJ N w=_
 simp only[QbJ]
 rw[Jc N (Wz.mk _ _ _),Xa]
 show _=some (ZV w,okH w)
 unfold ZV okH Vl
 cases h:Xx (Vl w) with
 | false=>unfold Vl at h;simp only[h];rfl
 | true =>
  unfold Vl at h
  simp only[h,if_true,WR]
  rw[show ((0:Int) != 0)=false from rfl,Wa]
  by_cases h2:Vk ⟨wI (YA .u64 (X9 .u64 w 2) 3),wI (YA .u64 (X9 .u64 w 4) 4095),wW (X9 .u64 w 16)⟩=w
  ·simp[h2]
  ·rw[show (Vk ⟨wI (YA .u64 (X9 .u64 w 2) 3),wI (YA .u64 (X9 .u64 w 4) 4095),wW (X9 .u64 w 16)⟩ != w)=true by simpa using h2,show (Vk ⟨wI (YA .u64 (X9 .u64 w 2) 3),wI (YA .u64 (X9 .u64 w 4) 4095),wW (X9 .u64 w 16)⟩==w)=false by simpa using h2]
   rfl
theorem ZM (w:Int):Xx (ZV w)=true:=by
 unfold ZV
 split
 ·rename_i h;unfold okH at h;simp only[WE] at h;exact h.1
 ·rfl
theorem Xcz (w:Int):XG (ZV w)=(ZV w).Length+1/\1<=XG (ZV w)/\XG (ZV w)<=256:=by
 have h:=ZM w
 have:=XH h
 unfold XG
 rw[Wm h]
 omega
def Kw (d:Wz) (i:Int):Bool:=Xx d&&(decide (0<=i/\i<d.Length)&&(decide (d.Kind=2)||(decide (d.Kind=1)&&(YA .u32 (X9 .u32 d.Map (wU i)) 1==1))))
theorem JV (N:Nat) (d:Wz) (i:Int):QbT N d i=some (Kw d i):=by
 simp only[QbT,YS,Xa,Kw,Uy]
 cases h:Xx d with
 | false=>rfl
 | true =>
  simp only[Ws,Wa,WR]
  by_cases h1:i<0
  ·rw[Wm h1,Wj (by omega),Um]
  rw[Wk h1]
  by_cases h2:i>=d.Length
  ·rw[Wm h2,Wj (by omega),Um]
  rw[Wk h2,Wh (p:=0<=i/\i<d.Length) (by omega),WR,Xe (Xbs i).1]
  by_cases h3:d.Kind=2
  ·simp[h3]
  ·by_cases h4:d.Kind=1
   ·simp[h4]
   ·have e1:(d.Kind==2)=false:=by simpa using h3
    have e2:(d.Kind==1)=false:=by simpa using h4
    simp[e1,e2,h3,h4]
def Yh (d:Wz):Nat->Int->List Int
 | 0,_=>[]
 | k+1,i=>(if Kw d i then [i] else [])++Yh d k (i+1)
def Zx (d:Wz):List Int:=if Xx d then Yh d d.Length.toNat 0 else []
theorem Jd {d:Wz}:∀ {k:Nat} {i x:Int},x∈Yh d k i->i<=x/\x<i+k/\Kw d x=true
 | 0,i,x,h=>by simp[Yh] at h
 | k+1,i,x,h=>by
  simp only[Yh,WJ] at h
  rcases h with h | h
  ·split at h
   ·rename_i hp;simp at h;subst h;exact ⟨by omega,by omega,hp⟩
   ·simp at h
  ·have:=Jd h;exact ⟨by omega,by omega,this.2.2⟩
theorem Je {d:Wz}:∀ {k:Nat} {i:Int},(Yh d k i).length<=k
 | 0,i=>by simp[Yh]
 | k+1,i=>by
  have:=Je (d:=d) (k:=k) (i:=i+1)
  simp only[Yh,Wq]
  split<;>simp<;>omega
theorem JA (N:Nat) (d:Wz) (hv:Xx d=true):∀ (n:Nat) (i:Int) (v:List Int),0<=i->i<=d.Length->(d.Length-i).toNat<n->v.length<=1000-(d.Length-i).toNat->v.length+(d.Length-i).toNat<=1000 ->
 QbC N d n i v=some (v++Yh d (d.Length-i).toNat i)
 | 0,i,v,_,_,h,_,_=>by omega
 | n+1,i,v,h0,h1,h2,h3,h4=>by
  have hb:=XH hv
  rw[QbC]
  by_cases h:i<d.Length
  ·obtain ⟨k,hk⟩:∃ k,(d.Length-i).toNat=k+1:=⟨(d.Length-i).toNat-1,by omega⟩
   have hk2:(d.Length-(i+1)).toNat=k:=by omega
   rw[Wh h,Wc,YS,Xa,hv,Wc,JV,Xa,hk,Xc (n:=i+1) (by omega) (by omega)]
   simp only[Yh]
   cases hp:Kw d i with
   | true =>
    rw[Wc,Xe (by omega),JA N d hv n (i+1) _ (by omega) (by omega) (by omega) (by rw[Wq];simp only[Ub,UM];omega) (by rw[Wq];simp only[Ub,UM];omega),hk2]
    simp
   | false =>
    rw[Wa,JA N d hv n (i+1) _ (by omega) (by omega) (by omega) (by omega) (by omega),hk2]
    simp
  ·rw[Wj h,Wa,show (d.Length-i).toNat=0 by omega]
   simp[Yh]
theorem XjL {N:Nat} (hN:300<N) (d:Wz):QeD N d=some (Zx d):=by
 simp only[QeD,Zx]
 cases hv:Xx d with
 | true =>
  have hb:=XH hv
  rw[JA N d hv N 0 [] (by omega) (by omega) (by omega) (by simp only[UM];omega) (by simp only[UM];omega),Xa]
  simp
 | false =>
  obtain ⟨n,rfl⟩:∃ n,N=n+1:=⟨N-1,by omega⟩
  rw[QbC,YS,Xa,hv,Wa]
  cases h:decide ((0:Int)<d.Length)<;>simp[Xa]
def Xnj (w:Int):Bool:=decide (w.tmod 4=2)&&decide (X9 .u64 w 2<4294967296)
theorem XcA (N:Nat) (w:Int):Qds N w=some (if Xnj w then (X9 .u64 w 2,true) else (0,false)):=by
 simp only[Qds,Xnj,Uy]
 by_cases h1:w.tmod 4=2
 ·by_cases h2:X9 .u64 w 2>=4294967296
  ·have h3:¬ X9 .u64 w 2<4294967296:=by omega
   simp[h1,h2,h3]
  ·have h3:X9 .u64 w 2<4294967296:=by omega
   simp[h1,h2,h3]
 ·have:(w.tmod 4 != 2)=true:=by simpa using h1
  simp[this,h1]
theorem XfX (N:Nat) (a:Int):Qdz N a=some (if a>=4294967296 then (0,1) else (wU (wU (4*a)+2),0)):=by
 simp only[Qdz,Uy]
 split<;>rfl
end Go.Sx
namespace Go.Sx
def XY (c:WQ):Bool:=decide (16<=c.PageWords/\c.PageWords<=64/\c.PageWords % 4=0/\8<=c.Pages/\c.Pages<=64)
theorem Xi {c:WQ}:XY c=true↔16<=c.PageWords/\c.PageWords<=64/\c.PageWords % 4=0/\8<=c.Pages/\c.Pages<=64:=by simp[XY]
theorem Yr (N:Nat) (c:WQ):Qaw N c=some (XY c):=by
 simp only[Qaw,Uy,XY]
 by_cases h1:c.PageWords>=16
 ·rw[Wm h1]
  by_cases h2:c.PageWords<=64
  ·rw[Wm h2]
   have e:c.PageWords.tmod 4=c.PageWords % 4:=Ir (by omega)
   rw[e]
   by_cases h3:c.PageWords % 4=0
   ·rw[h3,show ((0:Int)==0)=true from rfl,Wc]
    by_cases h4:c.Pages>=8
    ·rw[Wm h4]
     congr 1
     exact decide_eq_decide.2 (by omega)
    ·rw[Wk h4,Wj (by omega)]
   ·rw[show (c.PageWords % 4==0)=false by simpa using h3,Wa,Wj (by omega)]
  ·rw[Wk h2,Wj (by omega)]
 ·rw[Wk h1,Wj (by omega)]
def Y0 (c:WQ):Int:=if XY c then c.Pages / 4 else 0
theorem Xbw (N:Nat) (c:WQ):QdT N c=some (Y0 c):=by
 simp only[QdT,Yr,Xa,Y0]
 cases h:XY c with
 | false=>rfl
 | true =>
  have:=Xi.1 h
  simp only[Ws,Wa,if_true]
  rw[Ib (by omega),Xc (by omega) (by omega)]
def smC (c:WQ):Int:=if XY c then c.PageWords / 4 else 0
theorem XgM (N:Nat) (c:WQ):QbI N c=some (smC c):=by
 simp only[QbI,Yr,Xa,smC]
 cases h:XY c with
 | false=>rfl
 | true =>
  have:=Xi.1 h
  simp only[Ws,Wa,if_true]
  rw[Ib (by omega),Xc (by omega) (by omega)]
def XA (c:WQ) (w:Int):Int :=
 if XY c=true/\1<=w then (if w<=c.PageWords / 4 then 0 else if c.PageWords>=w then 1 else if 2*c.PageWords>=w then 2 else if 3*c.PageWords>=w then 3 else if 4*c.PageWords>=w then 4 else -1) else -1
theorem XaU (N:Nat) (c:WQ) (w:Int) (hc:XY c=true) (k:Int) (hk:1<=k/\k<=4) (n:Nat):Qcp N c w (n+1) k=if k*c.PageWords>=w then some (.ret k) else Qcp N c w n (k+1):=by
 have h:=Xi.1 hc
 have hm:0<=k*c.PageWords/\k*c.PageWords<=256:=by
  constructor
  ·exact Int.mul_nonneg (by omega) (by omega)
  ·have:=Int.mul_le_mul (a:=k) (b:=c.PageWords) (c:=4) (d:=64) (by omega) (by omega) (by omega) (by omega)
   omega
 rw[Qcp,Wh (by omega),Wc,Uy,Xc (n:=k*c.PageWords) (by omega) (by omega),Xc (n:=k+1) (by omega) (by omega)]
theorem Zl {N:Nat} (hN:10<=N) (c:WQ) (w:Int):Qei N c w=some (XA c w):=by
 simp only[Qei,Yr,XgM,Xa,XA,smC]
 cases hc:XY c with
 | false=>simp
 | true =>
  have h:=Xi.1 hc
  simp only[Ws,Wa,if_true,Uy]
  by_cases h1:w<1
  ·rw[Wm h1,Wk (show ¬ (True/\1<=w) from λ h=>by omega)]
  rw[Wk h1,Wm (show True/\1<=w from ⟨trivial,by omega⟩)]
  by_cases h2:w<=c.PageWords / 4
  ·rw[Wm h2,Wm h2]
  rw[Wk h2,Wk h2]
  obtain ⟨n,rfl⟩:∃ n,N=n+5:=⟨N-5,by omega⟩
  rw[XaU _ c w hc 1 (by omega),XaU _ c w hc (1+1) (by omega),XaU _ c w hc (1+1+1) (by omega),XaU _ c w hc (1+1+1+1) (by omega)]
  rw[show Qcp (n+5) c w (n+1) (1+1+1+1+1)=some (.nxt ()) by rw[Qcp,Wj (by omega),Wa]]
  simp only[Od,show (1:Int)+1=2 from rfl,show (2:Int)+1=3 from rfl,show (3:Int)+1=4 from rfl]
  by_cases h3:c.PageWords>=w
  ·simp only[Wm h3,Xa,XC]
  simp only[Wk h3]
  by_cases h4:2*c.PageWords>=w
  ·simp only[Wm h4,Xa,XC]
  simp only[Wk h4]
  by_cases h5:3*c.PageWords>=w
  ·simp only[Wm h5,Xa,XC]
  simp only[Wk h5]
  by_cases h6:4*c.PageWords>=w
  ·simp only[Wm h6,Xa,XC]
  ·simp only[Wk h6,Xa,Xo]
theorem Y7 (c:WQ) (w:Int) : -1<=XA c w/\XA c w<=4:=by
 unfold XA;repeat' split
 all_goals omega
theorem X1 {c:WQ} (hc:XY c=true) {i:Int} (h0:0<=i) (h1:i<c.Pages):0<=i*c.PageWords/\i*c.PageWords+c.PageWords<=c.Pages*c.PageWords/\c.Pages*c.PageWords<=4096:=by
 have h:=Xi.1 hc
 refine ⟨Int.mul_nonneg h0 (by omega),?_,?_⟩
 ·have:=UC (a:=i+1) (b:=c.Pages) (c:=c.PageWords) (by omega) (by omega)
  rw[IK] at this
  omega
 ·have:=Int.mul_le_mul (a:=c.Pages) (b:=c.PageWords) (c:=64) (d:=64) (by omega) (by omega) (by omega) (by omega)
  omega
def Xg (c:WQ) (p o:Int):Int:=4096+p*c.PageWords+o
theorem ZP (N:Nat) (c:WQ) (p o:Int):Qbq N c p o=some (if XY c=false then (0,1) else if 0<=p/\p<c.Pages/\0<=o/\o<c.PageWords then (Xg c p o,0) else (0,2)):=by
 simp only[Qbq,Yr,Xa,Uy]
 cases hc:XY c with
 | false=>simp
 | true =>
  have h:=Xi.1 hc
  simp only[Ws,Wa]
  rw[Wk (show ¬ (true=false) by simp)]
  by_cases h1:p<0
  ·rw[Wm h1,Wk (by omega)]
  rw[Wk h1]
  by_cases h2:p>=c.Pages
  ·rw[Wm h2,Wk (by omega)]
  rw[Wk h2]
  by_cases h3:o<0
  ·rw[Wm h3,Wk (by omega)]
  rw[Wk h3]
  by_cases h4:o>=c.PageWords
  ·rw[Wm h4,Wk (by omega)]
  rw[Wk h4,Wm (by omega)]
  have hm:=X1 hc (i:=p) (by omega) (by omega)
  rw[Xc (n:=p*c.PageWords) (by omega) (by omega),Xc (n:=4096+p*c.PageWords) (by omega) (by omega),Xc (n:=4096+p*c.PageWords+o) (by omega) (by omega),Xw (by omega) (by omega)]
  rfl
theorem VI (N:Nat) (c:WQ) (a:Int):Qda N c a=some (if XY c=false then (0,0,1) else if 4096<=a/\a<4096+c.Pages*c.PageWords then ((a-4096) / c.PageWords,(a-4096) % c.PageWords,0) else (0,0,2)):=by
 simp only[Qda,Yr,Xa,Uy]
 cases hc:XY c with
 | false=>simp
 | true =>
  have h:=Xi.1 hc
  have hm:=X1 hc (i:=0) (by omega) (by omega)
  simp only[Ws,Wa]
  rw[Wk (show ¬ (true=false) by simp)]
  rw[Xc (n:=c.Pages*c.PageWords) (by omega) (by omega),Xc (n:=4096+c.Pages*c.PageWords) (by omega) (by omega),Xw (n:=4096+c.Pages*c.PageWords) (by omega) (by omega)]
  by_cases h1:a<4096
  ·rw[Wm h1,Wk (by omega)]
  rw[Wk h1]
  by_cases h2:a>=4096+c.Pages*c.PageWords
  ·rw[Wm h2,Wk (by omega)]
  rw[Wk h2,Wm (by omega),Xe (by omega),Xe (by omega)]
  rw[Xw (n:=a-4096) (by omega) (by omega),Xc (n:=a-4096) (by omega) (by omega),Ib (by omega),Ir (by omega)]
  have hd:0<=(a-4096) / c.PageWords:=Int.ediv_nonneg (by omega) (by omega)
  have hd2:(a-4096) / c.PageWords<=a-4096:=Int.ediv_le_self _ (by omega)
  rw[Xc (by omega) (by omega)]
theorem Xdr {c:WQ} (hc:XY c=true) {a:Int} (h1:4096<=a) (h2:a<4096+c.Pages*c.PageWords) :
 0<=(a-4096) / c.PageWords/\(a-4096) / c.PageWords<c.Pages/\0<=(a-4096) % c.PageWords/\(a-4096) % c.PageWords<c.PageWords/\a=Xg c ((a-4096) / c.PageWords) ((a-4096) % c.PageWords):=by
 have h:=Xi.1 hc
 refine ⟨Int.ediv_nonneg (by omega) (by omega),Int.ediv_lt_of_lt_mul (by omega) (by omega),Int.emod_nonneg _ (by omega),Int.emod_lt_of_pos _ (by omega),?_⟩
 have:=Int.mul_ediv_add_emod (a-4096) c.PageWords
 unfold Xg
 rw[I4] at this
 omega
theorem Xmb {c:WQ} (hc:XY c=true) {p o:Int} (h0:0<=o) (h1:o<c.PageWords):(Xg c p o-4096) / c.PageWords=p/\(Xg c p o-4096) % c.PageWords=o:=by
 have h:=Xi.1 hc
 have e:Xg c p o-4096=o+c.PageWords*p:=by unfold Xg;rw[I4 p];omega
 rw[e,Int.add_mul_ediv_left _ _ (by omega),Int.add_mul_emod_self_left,Int.ediv_eq_zero_of_lt h0 h1,Int.emod_eq_of_lt h0 h1]
 exact ⟨by omega,rfl⟩
def XaB:Wv:=⟨0,0,0,0⟩
def pg (ps:List Wv) (i:Int):Wv:=ps.getD i.toNat XaB
theorem Yd {ps:List Wv} {i:Int} {p:Wv} (h:Xb ps i=some p):pg ps i=p:=by
 have:=(J9.1 h).2
 simp[pg,this]
theorem YK {ps:List Wv} {i:Int} (h0:0<=i) (h1:i<ps.length):Xb ps i=some (pg ps i):=by
 rw[Yj h0 h1]
 have:i.toNat<ps.length:=by omega
 simp[pg,List.getD,this]
theorem XeH (N:Nat) (ps:List Wv) (sp:Int) (hl:ps.length<=BIG):∀ (n:Nat) (c i:Int),0<=i->0<=c->c<=BIG*2->i<=BIG*2->(ps.length:Int)+c-i<=BIG*2->(ps.length-i).toNat<n ->
 Ok (QcD N ps sp n c i) λ r=>c<=r/\∀ m,0<=m->m<r-c->i+m<ps.length/\(pg ps (i+m)).Kind=3
 | 0,c,i,_,_,_,_,_,h=>by omega
 | n+1,c,i,h0,hc,hc2,hi,hs,hn=>by
  unfold BIG at *
  rw[QcD]
  refine Wo (λ h=>?_) λ h=>Wg ⟨Int.le_refl _,λ m h1 h2=>by omega⟩
  have h1:i<ps.length:=by simpa using h
  refine Ok.get h0 h1 λ p hp=>Wo (λ hk=>?_) λ hk=>Wg ⟨Int.le_refl _,λ m h1 h2=>by omega⟩
  refine Ok.get h0 h1 λ p' hp'=>Wo (λ hk2=>?_) λ hk=>Wg ⟨Int.le_refl _,λ m h1 h2=>by omega⟩
  rw[Xc (n:=c+1) (by omega) (by omega),Xc (n:=i+1) (by omega) (by omega)]
  refine (XeH N ps sp (by unfold BIG;omega) n (c+1) (i+1) (by omega) (by omega) (by unfold BIG;omega) (by unfold BIG;omega) (by unfold BIG;omega) (by omega)).mono λ r hr=>⟨by omega,λ m h2 h3=>?_⟩
  by_cases hm:m=0
  ·subst hm;rw[Int.add_zero];exact ⟨h1,by rw[Yd hp];simpa using hk⟩
  ·have:=hr.2 (m-1) (by omega) (by omega)
   rw[show i+1+(m-1)=i+m by omega] at this
   exact this
theorem XjM {N:Nat} {ps:List Wv} (sp i:Int) (hl:ps.length<N) (hl2:ps.length<=100000000) (h0:0<=i) (hi:i<=100000000):Ok (Qes N ps i sp) λ r=>0<=r/\∀ m,1<=m->m<=r->i+m<ps.length/\(pg ps (i+m)).Kind=3:=by
 rw[Qes,Xc (n:=i+1) (by omega) (by omega)]
 refine WH (XeH N ps sp (by unfold BIG;omega) N 0 (i+1) (by omega) (by omega) (by unfold BIG;omega) (by unfold BIG;omega) (by unfold BIG;omega) (by omega)) λ r _ h=>Wg ⟨h.1,λ m h1 h2=>?_⟩
 have:=h.2 (m-1) (by omega) (by omega)
 rwa[show i+1+(m-1)=i+m by omega] at this
theorem XaV (N:Nat) (n:Int):Qgk N n=some (decide (0<=n/\n<=2147483647)):=by
 simp only[Qgk,Uy]
 split
 ·congr 1;exact decide_eq_decide.2 (by omega)
 ·rw[Wj (by omega)]
end Go.Sx
namespace Go.Sx
structure OC (h:Wn) (i:Int):Prop where
 kind:0<=(pg h.Pages i).Kind/\(pg h.Pages i).Kind<=3
 space:0<=(pg h.Pages i).Space/\(pg h.Pages i).Space<=1
 pins:0<=(pg h.Pages i).Pins/\(pg h.Pages i).Pins<=2147483647
 free:(pg h.Pages i).Kind=0->pg h.Pages i=XaB
 small:(pg h.Pages i).Kind=1->0<=(pg h.Pages i).Used/\(pg h.Pages i).Used<=h.Conf.PageWords
 large:(pg h.Pages i).Kind=2->1<=XA h.Conf (pg h.Pages i).Used/\∀ m,1<=m->m<XA h.Conf (pg h.Pages i).Used->i+m<h.Pages.length/\(pg h.Pages (i+m)).Kind=3
structure UI (h:Wn):Prop where
 conf:XY h.Conf=true
 words:(h.Words.length:Int)=h.Conf.Pages*h.Conf.PageWords
 pages:(h.Pages.length:Int)=h.Conf.Pages
 space:0<=h.Space/\h.Space<=1
 bump:h.Bump = -1\/(0<=h.Bump/\h.Bump<h.Pages.length/\(pg h.Pages h.Bump).Kind=1)
 pgs:∀ i:Int,0<=i->i<h.Pages.length->OC h i
 first:(pg h.Pages 0).Kind≠3
def PL (h:Wn) (i:Int):Ex Bool Unit->Prop
 | .ret a=>a=false
 | .nxt _=>(∀ j,i<=j->j<h.Pages.length->OC h j)/\(i=0->(0:Int)<h.Pages.length->(pg h.Pages 0).Kind≠3)
theorem XcB {N:Nat} {h:Wn} (hc:XY h.Conf=true) (hN:100000<N) (hl:(h.Pages.length:Int)=h.Conf.Pages):∀ (n:Nat) (due i:Int),0<=i->0<=due->due<=4->(h.Pages.length-i).toNat<n->(i=0->due=0) ->
 Ok (Qaq N h n due i) (PL h i)
 | 0,due,i,_,_,_,hn,_=>by omega
 | n+1,due,i,h0,hd,hd4,hn,hi0=>by
  have hv:=Xi.1 hc
  rw[Qaq]
  refine Wo (λ h1=>?_) λ h1=>Wg ⟨λ j hj hj2=>?_,λ hi hpos=>?_⟩
  rotate_left
  ·have:¬ i<h.Pages.length:=by simpa using h1
   omega
  ·have:¬ i<h.Pages.length:=by simpa using h1
   omega
  have hlt:i<h.Pages.length:=by simpa using h1
  refine Ok.get h0 hlt λ p hp=>?_
  have hpg:=Yd hp
  refine Wo (λ _=>Wg rfl) λ g1=>?_
  refine Wo (λ _=>Wg rfl) λ g2=>?_
  refine Wo (λ _=>Wg rfl) λ g3=>?_
  rw[XaV,Xa]
  refine Wo (λ _=>Wg rfl) λ g4=>?_
  simp only[Bool.not_eq_false',beq_iff_eq,Ud,decide_eq_true_eq,Int.not_lt,Int.not_le] at g1 g2 g3 g4
  have hk3:p.Kind=3↔0<due:=by
   have e:(p.Kind==3)=decide (due>0):=g1
   by_cases hx:p.Kind=3
   ·have:(p.Kind==3)=true:=by simpa using hx
    rw[this] at e
    have:=Wr e.symm
    exact ⟨λ _=>this,λ _=>hx⟩
   ·have:(p.Kind==3)=false:=by simpa using hx
    rw[this] at e
    have:=WI e.symm
    exact ⟨λ h=>absurd h hx,λ h=>absurd h this⟩
  have next:∀ (due':Int),0<=due'->due'<=4->OC h i->Ok (Qaq N h n (if 0<wI (due'-1) then wI (due'-1) else 0) (wI (i+1))) (PL h i):=by
   intro due' hd1 hd2 hok
   rw[Xc (n:=i+1) (by omega) (by omega),Xc (n:=due'-1) (by omega) (by omega)]
   refine (XcB hc hN hl n _ (i+1) (by omega) (by split<;>omega) (by split<;>omega) (by omega) (by omega)).mono λ e he=>?_
   cases e with
   | ret a=>exact he
   | nxt b =>
   obtain ⟨k1,k2⟩:=he
   refine ⟨λ j hj hj2=>?_,λ hi hpos hk=>?_⟩
   ·by_cases hji:j=i
    ·subst hji;exact hok
    ·exact k1 j (by omega) hj2
   ·subst hi
    rw[hpg] at hk
    have:=hk3.1 hk
    have:=hi0 rfl
    omega
  refine In ?_
  refine Wo (λ q0=>Wo (λ _=>Wg rfl) λ q1=>?_) λ q0=>In (Wo (λ q1=>Wo (λ _=>Wg rfl) λ q2=>Wo (λ _=>Wg rfl) λ q3=>?_) λ q1=>In (Wo (λ q2=>?_) λ q2=>Wo (λ q3=>Wo (λ _=>Wg rfl) λ q4=>Wo (λ _=>Wg rfl) λ q5=>?_) λ q3=>Wg rfl))
  ·refine next due hd hd4 ?_
   have hk:p.Kind=0:=by simpa using q0
   simp only[Bool.not_eq_false',WE,beq_iff_eq] at q1
   have hz:pg h.Pages i=XaB:=by
    rw[hpg];cases p;simp only at q1;obtain ⟨rfl,rfl,rfl,rfl⟩:=q1;rfl
   refine ⟨by rw[hz];decide,by rw[hz];decide,by rw[hz];decide,λ _=>hz,λ e=>?_,λ e=>?_⟩
   ·rw[hz] at e;cases e
   ·rw[hz] at e;cases e
  ·refine next due hd hd4 ?_
   have hk:p.Kind=1:=by simpa using q1
   simp only[Ud,Int.not_lt] at q2 q3
   exact ⟨by rw[hpg];omega,by rw[hpg];omega,by rw[hpg];omega,λ e=>by rw[hpg] at e;omega,λ _=>by rw[hpg];omega,λ e=>by rw[hpg] at e;omega⟩
  ·have hk:p.Kind=2:=by simpa using q2
   rw[Zl (by omega),Xa]
   refine Wo (λ _=>Wg rfl) λ q3=>?_
   refine WH (XjM (N:=N) (ps:=h.Pages) p.Space i (by omega) (by omega) h0 (by omega)) λ t _ ht=>?_
   refine Wo (λ _=>Wg rfl) λ q4=>?_
   have hr:=Y7 h.Conf p.Used
   have hn1:1<=XA h.Conf p.Used:=by have:=WI q3;omega
   have hn2:XA h.Conf p.Used-1<=t:=by
    have:=WI q4
    rw[Xc (by omega) (by omega)] at this
    omega
   refine next _ (by omega) (by omega) ?_
   exact ⟨by rw[hpg];omega,by rw[hpg];omega,by rw[hpg];omega,λ e=>by rw[hpg] at e;omega,λ e=>by rw[hpg] at e;omega,λ _=>by rw[hpg];exact ⟨hn1,λ m h1 h2=>ht.2 m h1 (by omega)⟩⟩
  ·refine next due hd hd4 ?_
   have hk:p.Kind=3:=by simpa using q3
   exact ⟨by rw[hpg];omega,by rw[hpg];omega,by rw[hpg];omega,λ e=>by rw[hpg] at e;omega,λ e=>by rw[hpg] at e;omega,λ e=>by rw[hpg] at e;omega⟩
theorem Yn {N:Nat} (hN:100000<N) {h:Wn} (hw:h.Words.length<=100000) (hp:h.Pages.length<=100000):Ok (Qab N h) λ b=>b=true->UI h:=by
 rw[Qab,Yr,Xa]
 refine Wo (λ _=>Wg λ e=>by cases e) λ g1=>?_
 have hc:XY h.Conf=true:=by simpa using g1
 have hv:=Xi.1 hc
 have hm:=X1 hc (i:=0) (by omega) (by omega)
 refine Wo (λ _=>Wg λ e=>by cases e) λ g2=>?_
 refine Wo (λ _=>Wg λ e=>by cases e) λ g3=>?_
 refine Wo (λ _=>Wg λ e=>by cases e) λ g4=>?_
 refine Wo (λ _=>Wg λ e=>by cases e) λ g5=>?_
 have e2:(h.Words.length:Int)=h.Conf.Pages*h.Conf.PageWords:=by
  have:(h.Words.length:Int)=wI (h.Conf.Pages*h.Conf.PageWords):=by simpa using g2
  rwa[Xc (by omega) (by omega)] at this
 have e3:(h.Pages.length:Int)=h.Conf.Pages:=by simpa using g3
 have e4:0<=h.Space/\h.Space<=1:=⟨by simpa using g4,by simpa using g5⟩
 have main:(h.Bump = -1\/(0<=h.Bump/\h.Bump<h.Pages.length/\(pg h.Pages h.Bump).Kind=1))->Ok (bnd (Qaq N h N 0 0) λ e=>exK e (λ r=>some r) λ y12=>some true) λ b=>b=true->UI h:=by
  intro hb
  refine IT (XcB (N:=N) (h:=h) hc hN e3 N 0 0 (by omega) (by omega) (by omega) (by omega) (by omega)) (λ a hq=>?_) λ b hq=>Wg λ _=>?_
  ·have ha:a=false:=hq
   subst ha
   exact Wg λ e=>by cases e
  ·obtain ⟨k1,k2⟩:=hq
   exact ⟨hc,e2,e3,e4,hb,k1,k2 rfl (by omega)⟩
 refine In (Wo (λ b1=>Wo (λ _=>Wg λ e=>by cases e) λ b2=>Wo (λ _=>Wg λ e=>by cases e) λ b3=>?_) λ b1=>main (.inl (by simpa using b1)))
 have h2:0<=h.Bump:=by simpa using b2
 have h3:h.Bump<h.Pages.length:=by simpa using b3
 refine Ok.get h2 h3 λ p hp=>Wo (λ _=>Wg λ e=>by cases e) λ b4=>main (.inr ⟨h2,h3,?_⟩)
 rw[Yd hp];simpa using b4
end Go.Sx
namespace Go.Sx
theorem dlt {a b:Int} (h:decide (a<b)=true):a<b:=Wr h
theorem Vm {ps:List Wv} {i j:Int} (p:Wv) (hi:0<=i) (hi2:i<ps.length) (hj:0<=j):pg (ps.set i.toNat p) j=if j=i then p else pg ps j:=by
 unfold pg
 simp only[Wp,Ih]
 by_cases h:j=i
 ·subst h;rw[Wm rfl,Wm rfl,Wm (by omega)];rfl
 ·rw[Wk (by omega),Wk h]
theorem Xbx (N:Nat) (ps:List Wv) (hl:ps.length<=100000000):∀ (n:Nat) (c i:Int),0<=i->0<=c->c<=i->i<=ps.length->(ps.length-i).toNat<n->Ok (Qa1 N ps n c i) λ r=>0<=r/\r<=ps.length
 | 0,c,i,_,_,_,_,h=>by omega
 | n+1,c,i,h0,hc,hci,hi,hn=>by
  rw[Qa1]
  refine Wo (λ h=>?_) λ h=>Wg ⟨hc,by omega⟩
  have h1:i<ps.length:=dlt h
  refine Ok.get h0 h1 λ p hp=>?_
  rw[Xc (n:=c+1) (by omega) (by omega),Xc (n:=i+1) (by omega) (by omega)]
  refine Wo (λ _=>?_) λ _=>?_
  ·exact Xbx N ps hl n (c+1) (i+1) (by omega) (by omega) (by omega) (by omega) (by omega)
  ·exact Xbx N ps hl n c (i+1) (by omega) (by omega) (by omega) (by omega) (by omega)
theorem JB {N:Nat} {ps:List Wv} (hl:ps.length<=100000000) (hN:ps.length<N):Ok (Qck N ps) λ r=>0<=r/\r<=ps.length :=
 WH (Xbx N ps hl N 0 0 (by omega) (by omega) (by omega) (by omega) (by omega)) λ r _ h=>Wg h
def RunOK (ps:List Wv) (i k:Int):Prop:=0<=i/\1<=k/\i+k<=ps.length/\∀ m,0<=m->m<k->(pg ps (i+m)).Kind=0
theorem XaW (N:Nat) (ps:List Wv) (hl:ps.length<=100000000):∀ (n:Nat) (i:Int) (rs:List Og),0<=i->i<=ps.length->(ps.length-i).toNat<n->rs.length<=i->(∀ r∈rs,RunOK ps r.From r.Len) ->
 Ok (QaQ N ps n i rs) λ out=>out.length<=ps.length/\∀ r∈out,RunOK ps r.From r.Len
 | 0,i,rs,_,_,h,_,_=>by omega
 | n+1,i,rs,h0,hi,hn,hlen,hrs=>by
  rw[QaQ]
  refine Wo (λ h=>?_) λ h=>Wg ⟨by omega,hrs⟩
  have h1:i<ps.length:=dlt h
  refine Ok.get h0 h1 λ p hp=>?_
  have hpg:=Yd hp
  rw[Xc (n:=i+1) (by omega) (by omega)]
  refine Wo (λ _=>XaW N ps hl n (i+1) rs (by omega) (by omega) (by omega) (by omega) hrs) λ hk=>?_
  have hk:p.Kind=0:=by simpa using hk
  have new:Ok (grd ((rs.length+1)*16<=140737488355328) (QaQ N ps n (i+1) (rs++[Og.mk i 1]))) λ out=>out.length<=ps.length/\∀ r∈out,RunOK ps r.From r.Len:=by
   refine WS (by omega) (XaW N ps hl n (i+1) _ (by omega) (by omega) (by omega) (by rw[Wq];simp only[Ub,UM];omega) λ r hr=>?_)
   rcases WJ.1 hr with hr | hr
   ·exact hrs r hr
   ·have:r=Og.mk i 1:=by simpa using hr
    subst this
    refine ⟨h0,by show (1:Int)<=1;omega,by show i+1<=_;omega,λ m h1 h2=>?_⟩
    have h2:m<1:=h2
    have:m=0:=by omega
    subst this
    show (pg ps (i+0)).Kind=0
    rw[Int.add_zero,hpg];exact hk
  refine WS (by omega) (In (Wo (λ hp1=>?_) λ _=>new))
  have hp1:0<(rs.length:Int):=Wr hp1
  rw[Xc (n:=((rs.length:Nat):Int)-1) (by omega) (by omega)]
  refine Ok.get (by omega) (by omega) λ q hq=>Ok.get (by omega) (by omega) λ q' hq'=>?_
  obtain rfl:q=q':=WV (hq.symm.trans hq')
  have hqm:=hrs q (Yq hq)
  have hb:=hqm.2.2.1
  rw[Xc (n:=q.From+q.Len) (by have:=hqm.1;have:=hqm.2.1;omega) (by omega)]
  refine Wo (λ he=>?_) λ _=>new
  have he:q.From+q.Len=i:=by simpa using he
  refine Ok.get (by omega) (by omega) λ q2 hq2=>Ok.get (by omega) (by omega) λ q3 hq3=>?_
  obtain rfl:q=q2:=WV (hq.symm.trans hq2)
  obtain rfl:q=q3:=WV (hq.symm.trans hq3)
  have:=hqm.1
  have:=hqm.2.1
  rw[Xc (n:=q.Len+1) (by omega) (by omega)]
  refine XaW N ps hl n (i+1) _ (by omega) (by omega) (by omega) (by rw[Wx];omega) λ r hr=>?_
  rcases UL hr with hr | hr
  ·exact hrs r hr
  ·subst hr
   refine ⟨hqm.1,by show 1<=q.Len+1;omega,by show q.From+(q.Len+1)<=_;omega,λ m h1 h2=>?_⟩
   show (pg ps (q.From+m)).Kind=0
   have h2:m<q.Len+1:=h2
   by_cases hm:m<q.Len
   ·exact hqm.2.2.2 m h1 hm
   ·have:q.From+m=i:=by omega
    rw[this,hpg];exact hk
theorem XgN {N:Nat} {ps:List Wv} (hl:ps.length<=100000000) (hN:ps.length<N):Ok (QfI N ps) λ out=>out.length<=ps.length/\∀ r∈out,RunOK ps r.From r.Len :=
 WH (XaW N ps hl N 0 [] (by omega) (by omega) (by omega) (by simp) (by simp)) λ r _ h=>Wg h
theorem RunOK.less {ps:List Wv} {i k j:Int} (h:RunOK ps i k) (h1:1<=j) (h2:j<=k):RunOK ps i j:=⟨h.1,h1,by have:=h.2.2.1;omega,λ m a b=>h.2.2.2 m a (by omega)⟩
theorem XeI (N:Nat) (ps:List Wv) (k:Int) (rs:List Og) (hl:rs.length<=100000000) (hrs:∀ r∈rs,RunOK ps r.From r.Len):∀ (n:Nat) (i:Int),0<=i->i<=rs.length->(rs.length-i).toNat<n ->
 Ok (QaW N k rs n i) λ e=>∀ a,e=.ret a->RunOK ps a k
 | 0,i,_,_,h=>by omega
 | n+1,i,h0,hi,hn=>by
  rw[QaW]
  refine Wo (λ h=>?_) λ h=>Wg λ a e=>by cases e
  have h1:i<rs.length:=dlt h
  rw[Xc (n:=i+1) (by omega) (by omega)]
  have next:=XeI N ps k rs hl hrs n (i+1) (by omega) (by omega) (by omega)
  refine Wo (λ hk=>?_) λ _=>next
  refine Ok.get h0 h1 λ p hp=>Wo (λ hk2=>?_) λ _=>next
  refine Ok.get h0 h1 λ p' hp'=>Wg λ a e=>?_
  obtain rfl:p=p':=WV (hp.symm.trans hp')
  cases e
  have hk:1<=k:=Wr hk
  have hk2:k<=p.Len:=Wr hk2
  exact (hrs p (Yq hp)).less hk hk2
theorem Y1 {N:Nat} {ps:List Wv} (k:Int) (hl:ps.length<=100000000) (hN:ps.length<N):Ok (Qbw N ps k) λ i=>i = -1\/RunOK ps i k:=by
 refine WH (XgN hl hN) λ rs _ h=>?_
 refine IT (XeI N ps k rs (by omega) h.2 N 0 (by omega) (by omega) (by omega)) (λ a q=>Wg (.inr (q a rfl))) λ _ _=>Wg (.inl rfl)
def Taken (ps out:List Wv) (i k:Int) (first rest:Wv):Prop:=out.length=ps.length/\∀ j,0<=j->pg out j=if j=i then first else if i<=j/\j<i+k then rest else pg ps j
theorem XgO (N:Nat) (ps:List Wv) (i k:Int) (f r:Wv) (hl:ps.length<=100000000) (hi:0<=i) (hk:i+k<=ps.length):∀ (n:Nat) (m:Int) (v:List Wv),0<=m->(m<=k\/m=0)->(k-m).toNat<n->v.length=ps.length->(∀ j,0<=j->pg v j=if i<=j/\j<i+m then r else pg ps j) ->
 Ok (Qc1 N i k f r n m v) λ e=>(∀ o,e=.nxt o->o.length=ps.length/\∀ j,0<=j->pg o j=if i<=j/\j<i+k then r else pg ps j)/\(∀ o,e=.ret o->o.2=20/\o.1=[])/\((∀ j,m<=j->j<k->(pg ps (i+j)).Kind=0)->∀ o,e≠.ret o)
 | 0,m,v,_,_,h,_,_=>by omega
 | n+1,m,v,h0,hm,hn,hv,hpg=>by
  rw[Qc1]
  refine Wo (λ h=>?_) λ h=>Wg ⟨λ o e=>?_,λ o e=>(by cases e),λ _ o e=>(by cases e)⟩
  rotate_left
  ·cases e
   have:¬ m<k:=WI h
   refine ⟨hv,λ j hj=>?_⟩
   rw[hpg j hj]
   by_cases hc:i<=j/\j<i+m
   ·rw[Wm hc,Wm (by omega)]
   ·rw[Wk hc,Wk (by omega)]
  have h1:m<k:=dlt h
  rw[Xc (n:=i+m) (by omega) (by omega),Xc (n:=m+1) (by omega) (by omega)]
  refine Ok.get (by omega) (by omega) λ p hp=>?_
  have hpk:p=pg ps (i+m):=by rw[← Yd hp,hpg _ (by omega),Wk (by omega)]
  refine Wo (λ hk2=>Wg ⟨λ o e=>(by cases e),λ o e=>(by cases e;exact ⟨rfl,rfl⟩),λ hall=>?_⟩) λ hk2=>?_
  ·have:=hall m (by omega) h1
   rw[← hpk] at this
   simp[this] at hk2
  refine Ok.get (by omega) (by omega) λ p' hp'=>?_
  refine (XgO N ps i k f r hl hi hk n (m+1) _ (by omega) (by omega) (by omega) (by rw[Wx];exact hv) λ j hj=>?_).mono λ e he=>⟨he.1,he.2.1,λ hall=>he.2.2 λ j a b=>hall j (by omega) b⟩
  rw[Vm r (by omega) (by omega) hj,hpg j hj]
  by_cases hc:j=i+m
  ·rw[Wm hc,Wm (by omega)]
  ·rw[Wk hc]
   by_cases hd:i<=j/\j<i+m
   ·rw[Wm hd,Wm (by omega)]
   ·rw[Wk hd,Wk (by omega)]
theorem XgP {N:Nat} {ps:List Wv} (i k:Int) (f r:Wv) (hl:ps.length<=1000000) (hN:1000000<N) (hk1:1<=k) (hk2:k<=1000000):Ok (Qct N ps i k f r) λ o=>(o.2=0->0<=i/\i+k<=ps.length/\Taken ps o.1 i k f r)/\(o.2≠0->o.1=[])/\(RunOK ps i k->o.2=0):=by
 rw[Qct]
 refine Wo (λ h=>Wg ⟨λ e=>(by cases e),λ _=>rfl,λ hr=>?_⟩) λ h1=>?_
 ·have:=Wr h;have:=hr.1;omega
 have h1:¬ i<0:=WI h1
 refine Wo (λ h=>Wg ⟨λ e=>(by cases e),λ _=>rfl,λ hr=>?_⟩) λ h2=>?_
 ·have:=Wr h;have:=hr.2.2.1;omega
 have h2:¬ i>=(ps.length:Int):=WI h2
 rw[Xc (n:=((ps.length:Nat):Int)-i) (by omega) (by omega)]
 refine Wo (λ h=>Wg ⟨λ e=>(by cases e),λ _=>rfl,λ hr=>?_⟩) λ h3=>?_
 ·have:=Wr h;have:=hr.2.2.1;omega
 have h3:¬ k>(ps.length:Int)-i:=WI h3
 refine WS (by omega) (IT (XgO N ps i k f r (by omega) (by omega) (by omega) N 0 ps (by omega) (by omega) (by omega) rfl λ j hj=>(by rw[Wk (by omega)])) (λ a q=>?_) λ o q=>?_)
 ·obtain ⟨e1,e2⟩:=q.2.1 a rfl
  refine Wg ⟨λ e=>(by rw[e1] at e;cases e),λ _=>e2,λ hr=>?_⟩
  exact absurd rfl (q.2.2 (λ j a b=>hr.2.2.2 j a b) a)
 ·obtain ⟨e1,e2⟩:=q.1 o rfl
  refine Ok.get (by omega) (by omega) λ p hp=>Wg ⟨λ _=>⟨by omega,by omega,⟨by rw[Wx];exact e1,λ j hj=>?_⟩⟩,λ e=>absurd rfl e,λ _=>rfl⟩
  rw[Vm f (by omega) (by omega) hj,e2 j hj]
theorem XeJ {N:Nat} {ps:List Wv} (i sp:Int) (hl:ps.length<=1000000) (hN:1000000<N):Ok (Qbx N ps i sp) λ o=>(o.2=0->0<=i/\i+1<=ps.length/\Taken ps o.1 i 1 ⟨1,sp,0,0⟩ ⟨0,0,0,0⟩)/\(o.2≠0->o.1=[])/\(RunOK ps i 1->0<=sp->sp<=1->o.2=0):=by
 rw[Qbx]
 refine Wo (λ h=>Wg ⟨λ e=>(by cases e),λ _=>rfl,λ _ h1 h2=>?_⟩) λ h1=>?_
 ·have:=Wr h;omega
 refine Wo (λ h=>Wg ⟨λ e=>(by cases e),λ _=>rfl,λ _ h1 h2=>?_⟩) λ h2=>?_
 ·have:=Wr h;omega
 refine WH (XgP i 1 ⟨1,sp,0,0⟩ ⟨0,0,0,0⟩ hl hN (by omega) (by omega)) λ y _ hy=>Wg ⟨hy.1,hy.2.1,λ hr _ _=>hy.2.2 hr⟩
theorem XjN {N:Nat} {ps:List Wv} (c:WQ) (i sp w:Int) (hl:ps.length<=1000000) (hN:1000000<N):Ok (Qdp N c ps i sp w) λ o=>(o.2=0->0<=i/\i+XA c w<=ps.length/\1<=XA c w/\Taken ps o.1 i (XA c w) ⟨2,sp,w,0⟩ ⟨3,sp,0,0⟩)/\(o.2≠0->o.1=[]):=by
 rw[Qdp,Zl (by omega),Xa]
 refine Wo (λ h=>Wg ⟨λ e=>(by cases e),λ _=>rfl⟩) λ h0=>?_
 have h0:¬ XA c w<1:=WI h0
 refine Wo (λ h=>Wg ⟨λ e=>(by cases e),λ _=>rfl⟩) λ h1=>?_
 refine Wo (λ h=>Wg ⟨λ e=>(by cases e),λ _=>rfl⟩) λ h2=>?_
 have hr:=Y7 c w
 refine WH (XgP i (XA c w) ⟨2,sp,w,0⟩ ⟨3,sp,0,0⟩ hl hN (by omega) (by omega)) λ y _ hy=>Wg ⟨λ e=>?_,hy.2.1⟩
 obtain ⟨a,b,c'⟩:=hy.1 e
 exact ⟨a,b,by omega,c'⟩
end Go.Sx
namespace Go.Sx
def HB (h:Wn):Prop:=h.Words.length<=100000/\h.Pages.length<=100000
def NB (N:Nat):Prop:=10000000<N
def zH:Wn:=⟨⟨0,0⟩,[],[],0,0⟩
theorem ZE:HB zH:=⟨by decide,by decide⟩
def wd (ws:List Int) (a:Int):Int:=ws.getD (ix a) 0
def hdA (ws:List Int) (a:Int):Wz:=ZV (wd ws a)
def szA (ws:List Int) (a:Int):Int:=(hdA ws a).Length+1
theorem ZN (ws:List Int) (a:Int):XG (hdA ws a)=szA ws a/\1<=szA ws a/\szA ws a<=256:=by
 have:=Xcz (wd ws a)
 unfold szA hdA
 omega
def pgi (c:WQ) (a:Int):Int:=(a-4096) / c.PageWords
def pgo (c:WQ) (a:Int):Int:=(a-4096) % c.PageWords
structure I8 (h:Wn) (a:Int):Prop where
 rng:4096<=a/\a<4096+h.Conf.Pages*h.Conf.PageWords
 kind:(pg h.Pages (pgi h.Conf a)).Kind=1\/(pg h.Pages (pgi h.Conf a)).Kind=2
 ok:okH (wd h.Words a)=true
 used:pgo h.Conf a<(pg h.Pages (pgi h.Conf a)).Used
 small:(pg h.Pages (pgi h.Conf a)).Kind=1->pgo h.Conf a+szA h.Words a<=(pg h.Pages (pgi h.Conf a)).Used
 large:(pg h.Pages (pgi h.Conf a)).Kind=2->pgo h.Conf a=0/\szA h.Words a=(pg h.Pages (pgi h.Conf a)).Used
theorem XeK {N:Nat} (hN:NB N) {h:Wn} (hb:HB h) (a:Int):Ok (Qat N h a) λ r=>r.2=0->UI h/\Qab N h=some true/\I8 h a/\r.1=hdA h.Words a:=by
 unfold NB at hN
 rw[Qat]
 refine WH (Yn (N:=N) (by omega) hb.1 hb.2) λ b eb hp=>?_
 refine Wo (λ _=>Wg λ e=>by cases e) λ hb1=>?_
 have hbt:b=true:=by simpa using hb1
 subst hbt
 have hp:=hp rfl
 rw[VI,Xa,hp.conf,Wk (by simp)]
 have hv:=Xi.1 hp.conf
 by_cases hr:4096<=a/\a<4096+h.Conf.Pages*h.Conf.PageWords
 rotate_left
 ·rw[Wk hr];exact Wo (λ _=>Wg λ e=>by cases e) λ e=>by cases e
 rw[Wm hr,show (a-4096) / h.Conf.PageWords=pgi h.Conf a from rfl,show (a-4096) % h.Conf.PageWords=pgo h.Conf a from rfl]
 have hof:=Xdr hp.conf hr.1 hr.2
 refine Wo (λ e=>by cases e) λ _=>?_
 show Ok (bnd (Xb h.Pages (pgi h.Conf a)) _) _
 have hl:=hp.pages
 have h0:0<=pgi h.Conf a:=hof.1
 have h1:pgi h.Conf a<h.Pages.length:=by have:pgi h.Conf a<h.Conf.Pages:=hof.2.1;omega
 refine Ok.get h0 h1 λ p hpp=>?_
 have hpg:=Yd hpp
 have hin:inW h.Words a:=by unfold inW;have:=hp.words;omega
 rw[Zw (by unfold BIG;have:=hb.1;omega),Xa,Wm hin]
 show Ok (bnd (QbJ N (wd h.Words a)) _) _
 rw[VH,Xa]
 show Ok (jn _ _) _
 have hsz:=ZN h.Words a
 have hpo:pgo h.Conf a<h.Conf.PageWords:=hof.2.2.2.1
 have hpo0:0<=pgo h.Conf a:=hof.2.2.1
 have rest:okH (wd h.Words a)=true->(p.Kind=1\/p.Kind=2)->pgo h.Conf a<p.Used->Ok (α:=Wz×Int) (bnd (Qcq N (ZV (wd h.Words a))) λ y6 =>
  bif (p.Kind==1) then (bif (decide ((wI (pgo h.Conf a+y6))>p.Used)) then some ((Wz.mk 0 0 0),19)
   else bif (p.Kind==2) then (bif (pgo h.Conf a != 0) then some ((Wz.mk 0 0 0),19)
    else bif (y6 != p.Used) then some ((Wz.mk 0 0 0),19)
    else some (ZV (wd h.Words a),0))
   else some (ZV (wd h.Words a),0))
  else bif (p.Kind==2) then (bif (pgo h.Conf a != 0) then some ((Wz.mk 0 0 0),19)
   else bif (y6 != p.Used) then some ((Wz.mk 0 0 0),19)
   else some (ZV (wd h.Words a),0))
  else some (ZV (wd h.Words a),0)) λ r=>r.2=0->UI h/\Qab N h=some true/\I8 h a/\r.1=hdA h.Words a:=by
  intro ho hk hu
  rw[Yg,Xa]
  have e1:XG (ZV (wd h.Words a))=szA h.Words a:=hsz.1
  rw[e1,Xc (by omega) (by omega)]
  refine Wo (λ k1=>?_) λ k1=>?_
  ·have k1:p.Kind=1:=by simpa using k1
   refine Wo (λ _=>Wg λ e=>by cases e) λ k2=>?_
   have k2:¬ pgo h.Conf a+szA h.Words a>p.Used:=WI k2
   refine Wo (λ k3=>by rw[k1] at k3;cases k3) λ _=>Wg λ _=>⟨hp,eb,⟨hr,by rw[hpg];exact hk,ho,by rw[hpg];exact hu,λ _=>by rw[hpg];omega,λ e=>by rw[hpg,k1] at e;cases e⟩,rfl⟩
  ·have k1:¬ p.Kind=1:=by simpa using k1
   have k2:p.Kind=2:=by omega
   refine Wo (λ _=>?_) λ k3=>by rw[k2] at k3;cases k3
   refine Wo (λ _=>Wg λ e=>by cases e) λ k3=>?_
   refine Wo (λ _=>Wg λ e=>by cases e) λ k4=>Wg λ _=>⟨hp,eb,⟨hr,by rw[hpg];exact hk,ho,by rw[hpg];exact hu,λ e=>by rw[hpg] at e;omega,λ _=>⟨by simpa using k3,by rw[hpg];simpa using k4⟩⟩,rfl⟩
 refine In (Wo (λ k1=>Wo (λ _=>Wg λ e=>by cases e) λ k2=>Wo (λ _=>Wg λ e=>by cases e) λ k3=>Wo (λ _=>Wg λ e=>by cases e) λ k4=>?_) λ k1=>Wo (λ _=>Wg λ e=>by cases e) λ k3=>Wo (λ _=>Wg λ e=>by cases e) λ k4=>?_)
 ·exact rest (by simpa using k4) (.inr (by simpa using k2)) (by have k5:¬ (pgo h.Conf a>=p.Used):=WI k3;omega)
 ·exact rest (by simpa using k4) (.inl (by simpa using k1)) (by have k5:¬ (pgo h.Conf a>=p.Used):=WI k3;omega)
theorem Vn {N:Nat} (hN:NB N) {h:Wn} (hb:HB h) (a:Int):Ok (Qbn N h a) λ r=>r.2=0->UI h/\Qab N h=some true/\I8 h a/\r.1=hdA h.Words a/\r.1.Kind≠0:=by
 have hN':=hN
 unfold NB at hN
 rw[Qbn]
 refine WH (Yn (N:=N) (by omega) hb.1 hb.2) λ b eb hp=>?_
 refine Wo (λ _=>Wg λ e=>by cases e) λ hb1=>?_
 refine Wo (λ _=>Wg λ e=>by cases e) λ _=>?_
 refine WH (XeK hN' hb a) λ y ey hy=>?_
 refine Wo (λ k1=>Wo (λ _=>Wg λ e=>by cases e) λ k2=>Wg λ e=>?_) λ k1=>Wg λ e=>?_
 ·obtain ⟨q1,q2,q3,q4⟩:=hy e
  exact ⟨q1,q2,q3,q4,by simpa using k2⟩
 ·exact absurd e (by simpa using k1)
theorem Xby {N:Nat} (hN:NB N) {h:Wn} (hb:HB h) (a i:Int):Ok (Qbm N h a i) λ r=>r.2=0->UI h/\I8 h a/\0<=i/\i<(hdA h.Words a).Length:=by
 rw[Qbm]
 refine WH (Vn hN hb a) λ y ey hy=>?_
 refine Wo (λ k=>Wg λ e=>absurd e (by simpa using k)) λ k1=>?_
 refine Wo (λ _=>Wg λ e=>by cases e) λ k2=>?_
 refine Wo (λ _=>Wg λ e=>by cases e) λ k3=>?_
 obtain ⟨q1,q2,q3,q4,q5⟩:=hy (by simpa using k1)
 rw[Zw (by unfold BIG;have:=hb.1;omega),Xa]
 refine Wg λ _=>⟨q1,q3,?_,?_⟩
 ·have:=WI k2;omega
 ·have:=WI k3;rw[q4] at this;omega
theorem XeL {N:Nat} (hN:NB N) {h:Wn} (hb:HB h) (a i v:Int):Ok (Qbj N h a i v) λ r=>HB r.1:=by
 rw[Qbj]
 refine WH (Xby hN hb a i) λ y ey hy=>?_
 refine Wo (λ _=>Wg ZE) λ k1=>?_
 have hN':=hN
 unfold NB at hN'
 rw[VG (by unfold BIG;have:=hb.1;omega) (by omega),Xa]
 refine Wg ?_
 split
 ·exact ⟨by rw[Wx];exact hb.1,hb.2⟩
 ·exact ⟨by simp,hb.2⟩
theorem XhW {N:Nat} (hN:NB N) {h:Wn} (hb:HB h) (a:Int):Ok (Qd3 N h a) λ r=>r.1.length<=256:=by
 rw[Qd3]
 refine WH (Vn hN hb a) λ y ey hy=>?_
 refine Wo (λ _=>Wg (by simp)) λ k1=>?_
 obtain ⟨q1,q2,q3,q4,q5⟩:=hy (by simpa using k1)
 have hsz:=ZN h.Words a
 have hlen:y.1.Length=szA h.Words a-1:=by rw[q4];unfold szA;omega
 obtain ⟨k,hk⟩:=UE (a:=y.1.Length) (by omega)
 rw[hk,XaT (by unfold BIG;have:=hb.1;omega) N _ k (by omega),Xa]
 refine Wg ?_
 split
 ·simp only[Wy];omega
 ·simp
theorem XgQ {N:Nat} (hN:NB N) {h:Wn} (hb:HB h) (a:Int) (hd:Wz):Ok (QbG N h a hd) λ r=>HB r.1:=by
 have hN':=hN
 unfold NB at hN'
 rw[QbG,Jc,Xa]
 refine WH (Yn (N:=N) (by omega) hb.1 hb.2) λ b eb hp=>?_
 refine Wo (λ _=>Wg ZE) λ _=>?_
 refine Wo (λ _=>Wg ZE) λ k1=>?_
 have hv:Xx hd=true:=by
  cases hv:Xx hd with
  | true=>rfl
  | false=>rw[hv] at k1;cases k1
 have hb2:=XH hv
 refine WS (by omega) (WS (by omega) ?_)
 rw[Wm hv,ZU (by unfold BIG;have:=hb.1;omega) (by unfold BIG;simp;omega) (by simp;omega),Xa]
 split
 ·rename_i hin
  refine Wo (λ e=>by cases e) λ _=>Wg ⟨?_,hb.2⟩
  have hb1:=hb.1
  rw[ZL]
  ·exact hb1
  ·unfold Yc at hin;unfold ix;omega
 ·exact Wo (λ _=>Wg ZE) λ e=>by cases e
end Go.Sx
namespace Go.Sx
theorem XjO (N:Nat) (l:List Int) (v:Int) (hl:l.length<=1000000000):∀ (n k:Nat),k<=l.length->l.length-k<n->QeC N l v n (k:Int)=some (if (l.drop k).contains v then .ret true else .nxt ())
 | 0,k,_,h=>by omega
 | n+1,k,hk,hn=>by
  rw[QeC]
  by_cases h:k<l.length
  ·have e1:decide ((k:Int)<((l.length:Nat):Int))=true:=Wh (by omega)
   rw[e1,Wc,Xd,Wd h,Xa,Xc (by omega) (by omega)]
   rw[show ((k:Int)+1)=((k+1:Nat):Int) by omega,XjO N l v hl n (k+1) (by omega) (by omega)]
   rw[Wu h,List.contains_cons]
   by_cases h2:l[k]=v
   ·subst h2;simp
   ·rw[show (l[k]==v)=false by simpa using h2,Wa,show (v==l[k])=false by simpa using λ e=>h2 e.symm,If]
  ·have e1:decide ((k:Int)<((l.length:Nat):Int))=false:=Wj (by omega)
   rw[e1,Wa,WL (by omega)]
   simp
theorem Ze {N:Nat} {l:List Int} (v:Int) (hl:l.length<=1000000000) (hN:l.length<N):QcC N l v=some (l.contains v):=by
 have h:=XjO N l v hl N 0 (by omega) (by omega)
 rw[show ((0:Nat):Int)=0 from rfl,WT] at h
 rw[QcC,h,Xa]
 cases l.contains v
 ·simp[Xo]
 ·simp[XC]
structure Ot (N:Nat) (h:Wn) (l:List Int):Prop where
 at_:∀ a∈l,I8 h a
 ev:∀ a∈l,Qat N h a=some (hdA h.Words a,0)
 pw:l.Pairwise λ a b=>a+szA h.Words a<=b
def XfY (h:Wn) (i:Int) (l:List Int):Prop:=∀ a∈l,Xg h.Conf i 0<=a/\pgi h.Conf a=i
theorem XcC {c:WQ} {i o p:Int} (h:o<=p):Xg c i o<=Xg c i p:=by unfold Xg;omega
theorem XeM {c:WQ} (hc:XY c=true) {p o:Int} (h0:0<=o) (h1:o<c.PageWords):pgi c (Xg c p o)=p/\pgo c (Xg c p o)=o:=Xmb hc h0 h1
theorem JC {c:WQ} (hc:XY c=true) {a:Int} (h:4096<=a/\a<4096+c.Pages*c.PageWords):a=Xg c (pgi c a) (pgo c a)/\0<=pgi c a/\pgi c a<c.Pages/\0<=pgo c a/\pgo c a<c.PageWords:=by
 have:=Xdr hc h.1 h.2
 exact ⟨this.2.2.2.2,this.1,this.2.1,this.2.2.1,this.2.2.2.1⟩
def XqF (N:Nat) (h:Wn) (i o:Int) (l:List Int):Prop:=Ot N h l/\XfY h i l/\(∀ a∈l,a+szA h.Words a<=Xg h.Conf i o)/\(l.length:Int)<=o
theorem Ot.snoc {N:Nat} {h:Wn} {l:List Int} {a:Int} (hl:Ot N h l) (ha:I8 h a) (hev:Qat N h a=some (hdA h.Words a,0)) (hle:∀ b∈l,b+szA h.Words b<=a):Ot N h (l++[a]):=by
 refine ⟨λ x hx=>?_,λ x hx=>?_,?_⟩
 ·rcases WJ.1 hx with hx | hx
  ·exact hl.at_ x hx
  ·have:x=a:=by simpa using hx
   subst this;exact ha
 ·rcases WJ.1 hx with hx | hx
  ·exact hl.ev x hx
  ·have:x=a:=by simpa using hx
   subst this;exact hev
 ·rw[IV]
  refine ⟨hl.pw,by simp,λ b hb c hc=>?_⟩
  have:c=a:=by simpa using hc
  subst this;exact hle b hb
def PageL (N:Nat) (h:Wn) (i:Int) (l:List Int):Prop:=Ot N h l/\XfY h i l/\(l.length:Int)<=64
def Xo1 (N:Nat) (h:Wn) (i:Int):Ex (List Int×Int) (List Int)->Prop
 | .ret r=>r=([],19)
 | .nxt l=>PageL N h i l
theorem QkD {N:Nat} (hN:NB N) {h:Wn} (hb:HB h) (hp:UI h) {i:Int} (h0:0<=i) (h1:i<h.Pages.length) (hk:(pg h.Pages i).Kind=1\/(pg h.Pages i).Kind=2):∀ (n:Nat) (o:Int) (l:List Int),0<=o->(65-o).toNat<n->XqF N h i o l->((pg h.Pages i).Kind=1->o<=(pg h.Pages i).Used)->((pg h.Pages i).Kind=2->o=0) ->
 Ok (QaU N h i (pg h.Pages i) n o l) (Xo1 N h i)
 | 0,o,l,_,hn,hu,k1,k2=>by
  have hv:=Xi.1 hp.conf
  have ho:=(hp.pgs i h0 h1).small
  rcases hk with hk | hk
  ·have:=k1 hk;have:=ho hk;omega
  ·have:=k2 hk;omega
 | n+1,o,l,ho0,hn,hu,k1,k2=>by
  have hv:=Xi.1 hp.conf
  have hsm:=(hp.pgs i h0 h1).small
  have hpl:=hp.pages
  have hle64:(l.length:Int)<=64:=by
   have:=hu.2.2.2
   rcases hk with hk | hk
   ·have:=k1 hk;have:=hsm hk;omega
   ·have:=k2 hk;omega
  rw[QaU]
  refine Wo (λ hlt=>?_) λ _=>Wg ⟨hu.1,hu.2.1,hle64⟩
  have hlt:o<(pg h.Pages i).Used:=Wr hlt
  have hopw:o<h.Conf.PageWords:=by
   rcases hk with hk | hk
   ·have:=hsm hk;omega
   ·have:=k2 hk;omega
  rw[ZP,hp.conf,Xa,Wk (by simp),Wm (by omega)]
  dsimp only
  refine WH (XeK hN hb (Xg h.Conf i o)) λ y ey hy=>?_
  refine Wo (λ _=>Wg rfl) λ hy0=>?_
  obtain ⟨_,_,hat,hhd⟩:=hy (by simpa using hy0)
  have hpi:=XeM hp.conf (p:=i) ho0 hopw
  have hsz:=ZN h.Words (Xg h.Conf i o)
  have hev:Qat N h (Xg h.Conf i o)=some (hdA h.Words (Xg h.Conf i o),0):=by
   rw[ey];congr 1;exact Prod.ext hhd (by simpa using hy0)
  have hobj:Ot N h (l++[Xg h.Conf i o]):=hu.1.snoc hat hev hu.2.2.1
  have hon:XfY h i (l++[Xg h.Conf i o]):=by
   intro x hx
   rcases WJ.1 hx with hx | hx
   ·exact hu.2.1 x hx
   ·have:x=Xg h.Conf i o:=by simpa using hx
    subst this;exact ⟨XcC ho0,hpi.1⟩
  have hlen1:((l++[Xg h.Conf i o]).length:Int)=l.length+1:=by simp
  have hlo:=hu.2.2.2
  refine WS (by omega) (Wo (λ kk=>Wg ⟨hobj,hon,by have:=k2 (by simpa using kk);omega⟩) λ kk=>?_)
  have kk:(pg h.Pages i).Kind=1:=by
   rcases hk with hk | hk
   ·exact hk
   ·rw[hk] at kk;cases kk
  rw[hhd,Yg,Xa]
  rw[hsz.1]
  have hs:=hat.small (by rw[hpi.1];exact kk)
  rw[hpi.1,hpi.2] at hs
  have:=hsm kk
  rw[Xc (by omega) (by omega)]
  refine QkD hN hb hp h0 h1 hk n _ _ (by omega) (by omega) ⟨hobj,hon,λ x hx=>?_,by omega⟩ (λ _=>by omega) (λ e=>by rw[kk] at e;cases e)
  rcases WJ.1 hx with hx | hx
  ·have:=hu.2.2.1 x hx
   have:=XcC (c:=h.Conf) (i:=i) (o:=o) (p:=o+szA h.Words (Xg h.Conf i o)) (by omega)
   omega
  ·have:x=Xg h.Conf i o:=by simpa using hx
   subst this
   unfold Xg;omega
theorem PageL.nil (N:Nat) (h:Wn) (i:Int):PageL N h i []:=⟨⟨by simp,by simp,by simp⟩,λ a ha=>by simp at ha,by simp⟩
theorem QkE {N:Nat} (hN:NB N) {h:Wn} (hb:HB h) (i:Int):Ok (Qau N h i) λ r=>(r.2≠0->r.1=[])/\r.1.length<=64/\(UI h->PageL N h i r.1):=by
 have hN':=hN
 unfold NB at hN'
 rw[Qau]
 refine WH (Yn (N:=N) (by omega) hb.1 hb.2) λ b eb hp=>?_
 refine Wo (λ _=>Wg ⟨λ _=>rfl,by simp,λ _=>PageL.nil N h i⟩) λ hb1=>?_
 have hp:=hp (by simpa using hb1)
 refine Wo (λ _=>Wg ⟨λ _=>rfl,by simp,λ _=>PageL.nil N h i⟩) λ h0=>?_
 refine Wo (λ _=>Wg ⟨λ _=>rfl,by simp,λ _=>PageL.nil N h i⟩) λ h1=>?_
 have h0:0<=i:=by have:=WI h0;omega
 have h1:i<h.Pages.length:=by have:=WI h1;omega
 refine Ok.get h0 h1 λ p hpp=>?_
 have hpg:=Yd hpp
 subst hpg
 refine Wo (λ _=>Wg ⟨λ _=>rfl,by simp,λ _=>PageL.nil N h i⟩) λ k0=>?_
 refine Wo (λ _=>Wg ⟨λ _=>rfl,by simp,λ _=>PageL.nil N h i⟩) λ k3=>?_
 have hkk:=(hp.pgs i h0 h1).kind
 have k0:¬ (pg h.Pages i).Kind=0:=by simpa using k0
 have k3:¬ (pg h.Pages i).Kind=3:=by simpa using k3
 refine IT (QkD hN hb hp h0 h1 (by omega) N 0 [] (by omega) (by omega) ⟨⟨by simp,by simp,by simp⟩,λ a ha=>by simp at ha,by simp,by simp⟩ (λ k=>((hp.pgs i h0 h1).small k).1) (λ _=>rfl)) (λ a q=>?_) λ l q=>?_
 ·have:a=([],19):=q
  subst this
  exact Wg ⟨λ _=>rfl,by simp,λ _=>PageL.nil N h i⟩
 ·have q:PageL N h i l:=q
  exact Wg ⟨λ e=>absurd rfl e,by have:=q.2.2;dsimp only;omega,λ _=>q⟩
theorem XgR {c:WQ} (hc:XY c=true) {w:Int} (h:1<=XA c w):w<=XA c w*c.PageWords:=by
 unfold XA at h ⊢
 by_cases h0:XY c=true/\1<=w
 ·rw[Wm h0] at h ⊢
  by_cases h1:w<=c.PageWords / 4
  ·rw[Wm h1] at h;omega
  rw[Wk h1] at h ⊢
  by_cases h2:c.PageWords>=w
  ·rw[Wm h2];omega
  rw[Wk h2] at h ⊢
  by_cases h3:2*c.PageWords>=w
  ·rw[Wm h3];omega
  rw[Wk h3] at h ⊢
  by_cases h4:3*c.PageWords>=w
  ·rw[Wm h4];omega
  rw[Wk h4] at h ⊢
  by_cases h5:4*c.PageWords>=w
  ·rw[Wm h5];omega
  rw[Wk h5] at h;omega
 ·rw[Wk h0] at h;omega
theorem Xds {h:Wn} (hp:UI h) {a:Int} (ha:I8 h a):∃ k,1<=k/\pgi h.Conf a+k<=h.Conf.Pages/\a+szA h.Words a<=Xg h.Conf (pgi h.Conf a+k) 0/\∀ m,1<=m->m<k->(pg h.Pages (pgi h.Conf a+m)).Kind=3:=by
 have hv:=Xi.1 hp.conf
 obtain ⟨e,q0,q1,q2,q3⟩:=JC hp.conf ha.rng
 have hpl:=hp.pages
 rcases ha.kind with hk | hk
 ·have hs:=ha.small hk
  have:=(hp.pgs _ q0 (by omega)).small hk
  refine ⟨1,by omega,by omega,?_,λ m h1 h2=>by omega⟩
  have e2:Xg h.Conf (pgi h.Conf a+1) 0=4096+pgi h.Conf a*h.Conf.PageWords+h.Conf.PageWords:=by unfold Xg;rw[IK];omega
  rw[e2]
  have e3:a=4096+pgi h.Conf a*h.Conf.PageWords+pgo h.Conf a:=e
  omega
 ·obtain ⟨z1,z2⟩:=ha.large hk
  obtain ⟨l1,l2⟩:=(hp.pgs _ q0 (by omega)).large hk
  have hle:=XgR hp.conf l1
  refine ⟨_,l1,?_,?_,λ m h1 h2=>(l2 m h1 h2).2⟩
  ·by_cases h1:XA h.Conf (pg h.Pages (pgi h.Conf a)).Used=1
   ·omega
   ·have:=(l2 (XA h.Conf (pg h.Pages (pgi h.Conf a)).Used-1) (by omega) (by omega)).1
    omega
  ·have e3:a=4096+pgi h.Conf a*h.Conf.PageWords+pgo h.Conf a:=e
   unfold Xg
   rw[IK]
   omega
theorem VJ {h:Wn} (hp:UI h) {a:Int} (ha:I8 h a):a+szA h.Words a<=4096+h.Words.length:=by
 obtain ⟨k,h1,h2,h3,_⟩:=Xds hp ha
 have hv:=Xi.1 hp.conf
 have:=hp.words
 have hm:(pgi h.Conf a+k)*h.Conf.PageWords<=h.Conf.Pages*h.Conf.PageWords:=UC h2 (by omega)
 unfold Xg at h3
 omega
theorem XhX {h:Wn} (hp:UI h) {a b:Int} (ha:I8 h a) (hb:I8 h b) (hlt:pgi h.Conf a<pgi h.Conf b):a+szA h.Words a<=b:=by
 obtain ⟨k,h1,h2,h3,h4⟩:=Xds hp ha
 have hv:=Xi.1 hp.conf
 obtain ⟨e,q0,q1,q2,q3⟩:=JC hp.conf hb.rng
 have hge:pgi h.Conf a+k<=pgi h.Conf b:=by
  rcases (by omega:pgi h.Conf b<pgi h.Conf a+k\/pgi h.Conf a+k<=pgi h.Conf b) with hc | hc
  ·have:=h4 (pgi h.Conf b-pgi h.Conf a) (by omega) (by omega)
   rw[show pgi h.Conf a+(pgi h.Conf b-pgi h.Conf a)=pgi h.Conf b by omega] at this
   rcases hb.kind with hk | hk<;>omega
  ·exact hc
 have hm:(pgi h.Conf a+k)*h.Conf.PageWords<=pgi h.Conf b*h.Conf.PageWords:=UC hge (by omega)
 unfold Xg at h3 e
 omega
end Go.Sx
namespace Go.Sx
theorem Qhg {N:Nat} (hN:NB N) {h:Wn} (hb:HB h) (hp:UI h) (i:Int) (h0:0<=i) (h1:i<h.Pages.length):Ok (Qau N h i) λ r=>PageL N h i r.1/\r.1.length<=64:=(QkE hN hb i).mono λ r hr=>⟨hr.2.2 hp,hr.2.1⟩
structure Oc (N:Nat) (h:Wn) (l:List Int):Prop where
 obj:Ot N h l
 page:∀ a∈l,∃ r,Qau N h (pgi h.Conf a)=some r/\a∈r.1
 len:l.length<=4096
theorem Oc.nil (N:Nat) (h:Wn):Oc N h []:=⟨⟨by simp,by simp,by simp⟩,by simp,by simp⟩
theorem XcD {N:Nat} (hN:NB N) {h:Wn} (hb:HB h) (hp:UI h):∀ (n:Nat) (i:Int) (l:List Int),0<=i->i<=h.Pages.length->(h.Pages.length-i).toNat<n->Ot N h l->(∀ a∈l,∃ r,Qau N h (pgi h.Conf a)=some r/\a∈r.1)->(∀ a∈l,pgi h.Conf a<i)->(l.length:Int)<=64*i ->
 Ok (QaO N h n i l) λ e=>match e with | .ret r=>r.1=[]/\r.2≠0 | .nxt l=>Oc N h l
 | 0,i,l,_,_,hn,_,_,_,_=>by omega
 | n+1,i,l,h0,hi,hn,hl,hpp,hlt,hlen=>by
  have hv:=Xi.1 hp.conf
  have hpl:=hp.pages
  rw[QaO]
  refine Wo (λ hc=>?_) λ _=>Wg ⟨hl,hpp,by omega⟩
  have hc:i<h.Pages.length:=Wr hc
  refine WH (Qhg hN hb hp i h0 hc) λ y ey hy=>?_
  refine Wo (λ hk=>Wg ⟨rfl,by simpa using hk⟩) λ hk=>?_
  have hy2:=hy.2
  refine WS (by omega) ?_
  rw[Xc (by omega) (by omega)]
  have hon:∀ a∈y.1,pgi h.Conf a=i:=λ a ha=>(hy.1.2.1 a ha).2
  refine XcD hN hb hp n (i+1) _ (by omega) (by omega) (by omega) ⟨λ a ha=>?_,λ a ha=>?_,?_⟩ (λ a ha=>?_) (λ a ha=>?_) (by rw[Wq];omega)
  ·rcases WJ.1 ha with ha | ha
   ·exact hl.at_ a ha
   ·exact hy.1.1.at_ a ha
  ·rcases WJ.1 ha with ha | ha
   ·exact hl.ev a ha
   ·exact hy.1.1.ev a ha
  ·rw[IV]
   refine ⟨hl.pw,hy.1.1.pw,λ a ha b hb'=>?_⟩
   exact XhX hp (hl.at_ a ha) (hy.1.1.at_ b hb') (by rw[hon b hb'];exact hlt a ha)
  ·rcases WJ.1 ha with ha | ha
   ·exact hpp a ha
   ·exact ⟨y,by rw[hon a ha];exact ey,ha⟩
  ·rcases WJ.1 ha with ha | ha
   ·have:=hlt a ha;omega
   ·have:=hon a ha;omega
theorem Xaf {N:Nat} (hN:NB N) {h:Wn} (hb:HB h):Ok (QcM N h) λ r=>Oc N h r.1/\(r.2=0->UI h)/\(r.2≠0->r.1=[]):=by
 have hN':=hN
 unfold NB at hN'
 rw[QcM]
 refine WH (Yn (N:=N) (by omega) hb.1 hb.2) λ b eb hp=>?_
 refine Wo (λ _=>Wg ⟨Oc.nil N h,λ e=>(by cases e),λ _=>rfl⟩) λ hb1=>?_
 have hp:=hp (by simpa using hb1)
 have hbb:=hb.2
 refine IT (XcD hN hb hp N 0 [] (by omega) (by omega) (by omega) ⟨by simp,by simp,by simp⟩ (by simp) (by simp) (by simp)) (λ a q=>?_) λ l q=>Wg ⟨q,λ _=>hp,λ e=>absurd rfl e⟩
 refine Wg ⟨?_,λ e=>absurd e q.2,λ _=>q.1⟩
 rw[q.1];exact Oc.nil N h
theorem Oc.sub {N:Nat} {h:Wn} {l l':List Int} (hs:Oc N h l) (h':l'.Sublist l):Oc N h l' :=
 ⟨⟨λ a ha=>hs.obj.at_ a (h'.subset ha),λ a ha=>hs.obj.ev a (h'.subset ha),hs.obj.pw.sublist h'⟩,λ a ha=>hs.page a (h'.subset ha),Ur h'.length_le hs.len⟩
theorem Vo {N:Nat} (hN:NB N) {h:Wn} (hb:HB h) (y:List Int×Int) (hy:y.1.length<=4096):∀ (n k:Nat) (l:List Int),k<=y.1.length->y.1.length-k<n->l.Sublist (y.1.take k)->Ok (QaA N h y n (k:Int) l) λ o=>o.Sublist y.1
 | 0,k,l,_,hn,_=>by omega
 | n+1,k,l,hk,hn,hs=>by
  rw[QaA]
  have hlen:l.length<=4096:=Ur hs.length_le (by rw[Wy];omega)
  refine Wo (λ hc=>?_) λ _=>Wg (hs.trans (List.take_sublist _ _))
  have hc:(k:Int)<y.1.length:=Wr hc
  have hkl:k<y.1.length:=by omega
  refine Ok.get (by omega) hc λ p hp=>?_
  refine WH (XeK hN hb p) λ z ez hz=>?_
  have e1:wI ((k:Int)+1)=((k+1:Nat):Int):=by rw[Xc (by omega) (by omega)];omega
  rw[e1]
  refine Wo (λ _=>?_) λ _=>Vo hN hb y hy n (k+1) l (by omega) (by omega) (hs.trans (List.take_sublist_take_left (by omega)))
  refine Ok.get (by omega) hc λ p' hp'=>WS (by omega) (Vo hN hb y hy n (k+1) _ (by omega) (by omega) ?_)
  have hpe:p'=y.1[k]:=by
   rw[Xd,Wd hkl] at hp'
   exact (WV hp').symm
  rw[List.take_succ_eq_append_getElem hkl,hpe]
  exact hs.append (List.Sublist.refl _)
theorem Zn {N:Nat} (hN:NB N) {h:Wn} (hb:HB h):Ok (Qav N h) λ r=>Oc N h r.1/\(r.2=0->UI h)/\(r.1≠[]->UI h):=by
 rw[Qav]
 refine WH (Xaf hN hb) λ y ey hy=>?_
 have hN':=hN
 unfold NB at hN'
 have hl:=hy.1.len
 have:=Vo hN hb y hl N 0 [] (by omega) (by omega) (by simp)
 rw[show ((0:Nat):Int)=0 from rfl] at this
 refine WH this λ o eo ho=>Wg ⟨hy.1.sub ho,hy.2.1,λ hne=>?_⟩
 by_cases h2:y.2=0
 ·exact hy.2.1 h2
 ·rw[hy.2.2 h2] at ho
  exact absurd (List.sublist_nil.1 ho) hne
theorem XaC {N:Nat} (hN:NB N) {h:Wn} (hb:HB h) (a:Int):Ok (Qd0 N h a) λ b=>b=true->UI h/\I8 h a:=by
 rw[Qd0]
 have hN':=hN
 unfold NB at hN'
 refine WH (Zn hN hb) λ y ey hy=>?_
 have hl:=hy.1.len
 rw[Ze a (by omega) (by omega),Xa]
 refine Wg λ e=>?_
 have hm:a∈y.1:=by simpa using e
 exact ⟨hy.2.2 (List.ne_nil_of_mem hm),hy.1.obj.at_ a hm⟩
theorem Xmc {N:Nat} {h:Wn} (hb:HB h) (i o:Int):Ok (QeO N h i o) λ _=>True:=by
 rw[QeO,Qgl,ZP,Xa,Zw (by unfold BIG;have:=hb.1;omega),Xa,Xa]
 exact Wg trivial
end Go.Sx
namespace Go.Sx
def Xbz (h:Wn) (i:Int) (l:List Int):Prop:=(pg h.Pages i).Kind=1->∀ a∈l,szA h.Words a<=smC h.Conf
theorem XeN {N:Nat} (hN:NB N) {h:Wn} (hb:HB h) {i:Int} (h0:0<=i) (h1:i<h.Pages.length) (l:List Int) (hl:l.length<=4096) (hev:∀ a∈l,Qat N h a=some (hdA h.Words a,0)/\a≠0):∀ (n k:Nat),k<=l.length->l.length-k<n ->
 Ok (QaV N h i l n (k:Int)) λ e=>match e with | .ret r=>r≠0 | .nxt _=>(pg h.Pages i).Kind=1->∀ a∈l.drop k,szA h.Words a<=smC h.Conf
 | 0,k,_,hn=>by omega
 | n+1,k,hk,hn=>by
  rw[QaV]
  refine Wo (λ hc=>?_) λ hc=>Wg ?_
  rotate_left
  ·have hc:=WI hc
   rw[WL (by omega)]
   simp
  have hc:(k:Int)<l.length:=Wr hc
  have hkl:k<l.length:=by omega
  refine Ok.get (by omega) hc λ p hp=>?_
  have hpe:p=l[k]:=by
   rw[Xd,Wd hkl] at hp
   exact (WV hp).symm
  have hpm:p∈l:=Yq hp
  rw[(hev p hpm).1,Xa]
  dsimp only
  rw[Yg,Xa,XgM,Xa,(ZN h.Words p).1]
  have e1:wI ((k:Int)+1)=((k+1:Nat):Int):=by rw[Xc (by omega) (by omega)];omega
  rw[e1]
  have ret:∀ p',Xb l (k:Int)=some p'->p'≠0:=λ p' hp'=>(hev p' (Yq hp')).2
  have next:((pg h.Pages i).Kind=1->szA h.Words p<=smC h.Conf)->Ok (QaV N h i l n ((k+1:Nat):Int)) λ e=>match e with | .ret r=>r≠0 | .nxt _=>(pg h.Pages i).Kind=1->∀ a∈l.drop k,szA h.Words a<=smC h.Conf:=by
   intro hs
   refine (XeN hN hb h0 h1 l hl hev n (k+1) (by omega) (by omega)).mono λ e he=>?_
   cases e with
   | ret r=>exact he
   | nxt _ =>
    intro hk1 a ha
    rw[Wu hkl] at ha
    rcases UH.1 ha with rfl | ha
    ·rw[← hpe];exact hs hk1
    ·exact he hk1 a ha
  refine Ok.get h0 h1 λ q hq=>?_
  have hqg:=Yd hq
  refine Wo (λ k1=>?_) λ k1=>?_
  ·refine Wo (λ _=>Ok.get (by omega) hc λ p' hp'=>Wg (ret p' hp')) λ k2=>?_
   have hs:szA h.Words p<=smC h.Conf:=by simpa using k2
   refine Ok.get h0 h1 λ q2 hq2=>Wo (λ _=>Wo (λ _=>Ok.get (by omega) hc λ p' hp'=>Wg (ret p' hp')) λ _=>next λ _=>hs) λ _=>next λ _=>hs
  ·have hs:(pg h.Pages i).Kind=1->szA h.Words p<=smC h.Conf:=by
    intro e;rw[hqg] at e;rw[e] at k1;cases k1
   refine Ok.get h0 h1 λ q2 hq2=>Wo (λ _=>Wo (λ _=>Ok.get (by omega) hc λ p' hp'=>Wg (ret p' hp')) λ _=>next hs) λ _=>next hs
theorem XjP {N:Nat} (hN:NB N) {h:Wn} (hb:HB h) {i:Int} (h0:0<=i) (h1:i<h.Pages.length) {l:List Int} (hl:l.length<=64) (hev:∀ a∈l,Qat N h a=some (hdA h.Words a,0)/\a≠0) :
 Ok (QdO N h i l) λ r=>r=0->Xbz h i l:=by
 rw[QdO]
 have hN':=hN
 unfold NB at hN'
 have:=XeN hN hb h0 h1 l (by omega) hev N 0 (by omega) (by omega)
 rw[show ((0:Nat):Int)=0 from rfl] at this
 refine IT this (λ a q=>Wg λ e=>absurd e q) λ _ q=>Wg λ _=>?_
 rw[WT] at q
 exact q
theorem Xdt {N:Nat} {h:Wn} (i:Int) (l:List Int) (k:Int) (hk0:0<=k) (hk:k<l.length) (x:Int) (hx:x<=256):∀ (n:Nat) (w:Int) (u:List Bool),0<=w->(x-w).toNat<n->u.length<=1000->Ok (Qbb N h i l k x n w u) λ r=>r.length=u.length
 | 0,w,u,_,hn,_=>by omega
 | n+1,w,u,h0,hn,hu=>by
  rw[Qbb]
  refine Wo (λ hc=>?_) λ _=>Wg rfl
  have hc:w<x:=Wr hc
  refine Ok.get hk0 hk λ p hp=>?_
  rw[Xc (n:=w+1) (by omega) (by omega)]
  have next:=Xdt (N:=N) (h:=h) i l k hk0 hk x hx n (w+1) u (by omega) (by omega) hu
  refine Wo (λ h1=>?_) λ _=>next
  refine WS (by omega) (Wo (λ h2=>?_) λ _=>next)
  refine Ok.get (Wr h1) (Wr h2) λ q hq=>?_
  refine (Xdt i l k hk0 hk x hx n (w+1) _ (by omega) (by omega) (by rw[Wx];exact hu)).mono λ r hr=>?_
  rw[hr,Wx]
theorem XgS {N:Nat} (hN:NB N) {h:Wn} (hb:HB h) (i:Int) (l:List Int) (hl:l.length<=100000):∀ (n:Nat) (k:Int) (u:List Bool),0<=k->k<=l.length->(l.length-k).toNat<n->u.length<=1000->Ok (Qcr N h i l n k u) λ r=>r.length=u.length
 | 0,k,u,_,_,hn,_=>by omega
 | n+1,k,u,h0,hk,hn,hu=>by
  rw[Qcr]
  refine Wo (λ hc=>?_) λ _=>Wg rfl
  have hc:k<l.length:=Wr hc
  have hN':=hN
  unfold NB at hN'
  refine Ok.get h0 hc λ p hp=>WH (XeK hN hb p) λ y ey hy=>?_
  rw[Yg,Xa]
  have hs:=XeG y.1
  have next:∀ x:Int,x<=256->Ok (bnd (Qbb N h i l k x N 0 u) λ y11=>Qcr N h i l n (wI (k+1)) y11) λ r=>r.length=u.length:=by
   intro x hx
   refine WH (Xdt i l k h0 hc x hx N 0 u (by omega) (by omega) hu) λ r er hr=>?_
   rw[Xc (n:=k+1) (by omega) (by omega)]
   exact (XgS hN hb i l hl n (k+1) r (by omega) (by omega) (by omega) (by omega)).mono λ o ho=>by omega
  exact In (Wo (λ _=>next 1 (by omega)) λ _=>next _ (by omega))
theorem Xdu (N:Nat) {h:Wn} (hf:(pg h.Pages 0).Kind≠3):∀ (n:Nat) (i:Int),0<=i->i<h.Pages.length->h.Pages.length<=100000->i.toNat<n->Ok (QcZ N h n i) λ r=>0<=r/\r<h.Pages.length
 | 0,i,_,_,_,hn=>by omega
 | n+1,i,h0,h1,hl,hn=>by
  rw[QcZ]
  refine Ok.get h0 h1 λ p hp=>Wo (λ hk=>?_) λ _=>Wg ⟨h0,h1⟩
  have hk:p.Kind=3:=by simpa using hk
  have:i≠0:=by rintro rfl;exact hf (by rw[Yd hp];exact hk)
  rw[Xc (by omega) (by omega)]
  exact Xdu N hf n (i-1) (by omega) (by omega) hl (by omega)
theorem XgT {N:Nat} {h:Wn} (hb:HB h) (i:Int) (u:List Bool) (hu:u.length<=1000):∀ (n:Nat) (k:Int),0<=k->k<=u.length->(u.length-k).toNat<n->Ok (QbS N h i u n k) λ _=>True
 | 0,k,_,_,hn=>by omega
 | n+1,k,h0,hk,hn=>by
  rw[QbS]
  refine Wo (λ hc=>?_) λ _=>Wg trivial
  have hc:k<u.length:=Wr hc
  rw[Xc (n:=k+1) (by omega) (by omega)]
  have next:=XgT (N:=N) hb i u hu n (k+1) (by omega) (by omega) (by omega)
  refine Ok.get h0 hc λ p hp=>Wo (λ _=>WH (Xmc hb i k) λ y _ _=>Wo (λ _=>?_) λ _=>next) λ _=>next
  rw[Qe5,Xa]
  exact Wg trivial
theorem Xmd {N:Nat} (hN:NB N) {h:Wn} (hb:HB h) (hp:UI h) {i:Int} (h0:0<=i) (h1:i<h.Pages.length):Ok (Qek N h i) λ _=>True:=by
 have hN':=hN
 unfold NB at hN'
 have hbb:=hb.2
 have hv:=Xi.1 hp.conf
 rw[Qek,Qej]
 refine WH (WH (Xdu N hp.first N i h0 h1 hbb (by omega)) λ r _ hr=>Wg hr) λ r _ hr=>?_
 refine WH (Qhg hN hb hp r hr.1 hr.2) λ y _ hy=>?_
 rw[QfG]
 refine WH (Q:=λ r=>r.length<=1000) (WS (by omega) (WH (XgS hN hb i y.1 (by have:=hy.2;omega) N 0 _ (by omega) (by omega) (by have:=hy.2;omega) (by rw[WC];omega)) λ u _ hu=>Wg ?_)) λ u _ hu=>?_
 ·rw[hu,WC];omega
 ·exact IT (XgT hb i u hu N 0 (by omega) (by omega) (by omega)) (λ _ _=>Wg trivial) λ _ _=>Wg trivial
theorem XjQ {N:Nat} (hN:NB N) {h:Wn} (hb:HB h) (hp:UI h) {i:Int} (h0:0<=i) (h1:i<h.Pages.length):Ok (Qel N h i) λ f=>f.Fault=0->∀ r,Qau N h i=some r->Xbz h i r.1:=by
 rw[Qel]
 have main:Ok (bnd (Qau N h i) λ y3 =>
  bif (y3.2 != 0) then some (Ul.mk 3 i 0)
  else bnd (QdO N h i y3.1) λ y4 =>
  bif (y4 != 0) then some (Ul.mk 5 i y4)
  else bnd (Qek N h i) λ y5 =>
  bif (y5 != 0) then some (Ul.mk 4 i y5)
  else some (Ul.mk 0 0 0)) λ f=>f.Fault=0->∀ r,Qau N h i=some r->Xbz h i r.1:=by
  refine WH (Qhg hN hb hp i h0 h1) λ y ey hy=>?_
  refine Wo (λ _=>Wg λ e=>by cases e) λ _=>?_
  refine WH (XjP hN hb h0 h1 hy.2 λ a ha=>⟨hy.1.1.ev a ha,by have:=(hy.1.1.at_ a ha).rng;omega⟩) λ c _ hc=>?_
  refine Wo (λ _=>Wg λ e=>by cases e) λ hc0=>?_
  refine WH (Xmd hN hb hp h0 h1) λ d _ _=>?_
  refine Wo (λ _=>Wg λ e=>by cases e) λ _=>Wg λ _ r hr=>?_
  rw[ey] at hr
  exact WV hr▸hc (by simpa using hc0)
 refine In (Ok.get h0 h1 λ p hp=>Wo (λ _=>Ok.get h0 h1 λ p hp=>Wo (λ _=>Wg λ e=>by cases e) λ _=>main) λ _=>main)
theorem XaD {N:Nat} {h:Wn} (y1 y6:List Int×Int) (h1:y1.1.length<=4096) (h6:y6.1.length<=256) (hN:1000000<N) (v:Int) (hv0:0<=v) (hv:v<y1.1.length) (y4:Wz×Int):∀ (n:Nat) (k:Int),0<=k->k<=y6.1.length->(y6.1.length-k).toNat<n->Ok (Qam N h y1 y6 v y4 n k) λ e=>∀ f,e=.ret f->f.Fault=6
 | 0,k,_,_,hn=>by omega
 | n+1,k,h0,hk,hn=>by
  rw[Qam]
  refine Wo (λ hc=>?_) λ _=>Wg λ f e=>by cases e
  have hc:k<y6.1.length:=Wr hc
  rw[Xc (n:=k+1) (by omega) (by omega)]
  have next:=XaD (N:=N) (h:=h) y1 y6 h1 h6 hN v hv0 hv y4 n (k+1) (by omega) (by omega) (by omega)
  rw[JV,Xa]
  refine Wo (λ _=>Ok.get h0 hc λ p hp=>Wo (λ _=>Ok.get h0 hc λ p hp=>?_) λ _=>next) λ _=>next
  rw[Ze p (by omega) (by omega),Xa]
  refine Wo (λ _=>Ok.get hv0 hv λ q hq=>?_) λ _=>next
  rw[VI,Xa]
  exact Wg λ f e=>by cases e;rfl
theorem XaE {N:Nat} (hN:NB N) {h:Wn} (hb:HB h) (y1:List Int×Int) (h1:y1.1.length<=4096):∀ (n:Nat) (k:Int),0<=k->k<=y1.1.length->(y1.1.length-k).toNat<n->Ok (Qa7 N h y1 n k) λ e=>∀ f,e=.ret f->f.Fault=6
 | 0,k,_,_,hn=>by omega
 | n+1,k,h0,hk,hn=>by
  have hN':=hN
  unfold NB at hN'
  rw[Qa7]
  refine Wo (λ hc=>?_) λ _=>Wg λ f e=>by cases e
  have hc:k<y1.1.length:=Wr hc
  rw[Xc (n:=k+1) (by omega) (by omega)]
  refine Ok.get h0 hc λ p hp=>WH (Vn hN hb p) λ y4 _ _=>Ok.get h0 hc λ p hp=>WH (XhW hN hb p) λ y6 _ h6=>?_
  refine IT (XaD y1 y6 h1 h6 (by omega) k h0 hc y4 N 0 (by omega) (by omega) (by omega)) (λ a q=>Wg λ f e=>?_) λ _ _=>XaE hN hb y1 h1 n (k+1) (by omega) (by omega) (by omega)
  cases e;exact q a rfl
theorem XeO {N:Nat} (hN:NB N) {h:Wn} (hb:HB h):Ok (Qdb N h) λ _=>True:=by
 have hN':=hN
 unfold NB at hN'
 rw[Qdb]
 refine WH (Zn hN hb) λ y _ hy=>?_
 have:=hy.1.len
 exact IT (XaE hN hb y hy.1.len N 0 (by omega) (by omega) (by omega)) (λ _ _=>Wg trivial) λ _ _=>Wg trivial
theorem XeP {N:Nat} (hN:NB N) {h:Wn} (hb:HB h) (hp:UI h):∀ (n:Nat) (i:Int),0<=i->i<=h.Pages.length->(h.Pages.length-i).toNat<n->Ok (Qbg N h n i) λ e=>match e with | .ret f=>f.Fault≠0 | .nxt _=>∀ j,i<=j->j<h.Pages.length->∀ r,Qau N h j=some r->Xbz h j r.1
 | 0,i,_,_,hn=>by omega
 | n+1,i,h0,hi,hn=>by
  have hbb:=hb.2
  rw[Qbg]
  refine Wo (λ hc=>?_) λ hc=>Wg λ j h1 h2=>?_
  rotate_left
  ·have:=WI hc;omega
  have hc:i<h.Pages.length:=Wr hc
  refine WH (XjQ hN hb hp h0 hc) λ f _ hf=>Wo (λ hk=>Wg (by simpa using hk)) λ hk=>?_
  rw[Xc (by omega) (by omega)]
  refine (XeP hN hb hp n (i+1) (by omega) (by omega) (by omega)).mono λ e he=>?_
  cases e with
  | ret f=>exact he
  | nxt _ =>
   intro j h1 h2
   by_cases hj:j=i
   ·subst hj;exact hf (by simpa using hk)
   ·exact he j (by omega) h2
theorem XeQ {N:Nat} {h:Wn} (hl:h.Pages.length<=100000):∀ (n:Nat) (c i:Int),0<=i->i<=h.Pages.length->(h.Pages.length-i).toNat<n->Ok (Qbh N h n c i) λ _=>True
 | 0,c,i,_,_,hn=>by omega
 | n+1,c,i,h0,hi,hn=>by
  rw[Qbh]
  refine Wo (λ hc=>?_) λ _=>Wg trivial
  have hc:i<h.Pages.length:=Wr hc
  rw[Xc (n:=i+1) (by omega) (by omega)]
  have next:=λ c'=>XeQ (N:=N) hl n c' (i+1) (by omega) (by omega) (by omega)
  exact Ok.get h0 hc λ p hp=>Wo (λ _=>Ok.get h0 hc λ p hp=>Wo (λ _=>next _) λ _=>next _) λ _=>next _
structure Oq (N:Nat) (h:Wn):Prop where
 prop:UI h
 small:∀ j:Int,0<=j->j<h.Pages.length->∀ r,Qau N h j=some r->Xbz h j r.1
theorem Z7 {N:Nat} (hN:NB N) {h:Wn} (hb:HB h):Ok (QbF N h) λ b=>b=true->Oq N h:=by
 have hN':=hN
 unfold NB at hN'
 have hbb:=hb.2
 rw[QbF,Qf2]
 refine WH (Q:=λ f=>f.Fault=0->Oq N h) (WH (Yn (N:=N) (by omega) hb.1 hb.2) λ b eb hp=>Wo (λ _=>Wg λ e=>by cases e) λ hb1=>?_) λ f _ hf=>Wg λ e=>?_
 ·have hp:=hp (by simpa using hb1)
  refine IT (XeP hN hb hp N 0 (by omega) (by omega) (by omega)) (λ a q=>Wg λ e=>absurd e q) λ _ q=>?_
  have hg:Oq N h:=⟨hp,q⟩
  refine WH (XeO hN hb) λ f _ _=>Wo (λ _=>Wg λ _=>hg) λ _=>?_
  exact WH (XeQ hbb N 0 0 (by omega) (by omega) (by omega)) λ c _ _=>Wo (λ _=>Wg λ _=>hg) λ _=>Wg λ _=>hg
 ·simp only[WE,beq_iff_eq] at e
  exact hf e.1
theorem Oq.sz {N:Nat} {h:Wn} (hg:Oq N h) {l:List Int} (hl:Oc N h l) {a:Int} (ha:a∈l) (hk:(pg h.Pages (pgi h.Conf a)).Kind=1):szA h.Words a<=h.Conf.PageWords / 4:=by
 obtain ⟨r,hr,hm⟩:=hl.page a ha
 have hat:=hl.obj.at_ a ha
 obtain ⟨_,q0,q1,_⟩:=JC hg.prop.conf hat.rng
 have:=hg.small _ q0 (by have:=hg.prop.pages;omega) r hr hk a hm
 unfold smC at this
 rwa[Wm hg.prop.conf] at this
theorem XcE {N:Nat} (l:List Int) (hl:l.length<=100000000) (y:List Int×Int) (hy:y.1.length<=4096) (hN:1000000<N):∀ (n:Nat) (k:Int),0<=k->k<=l.length->(l.length-k).toNat<n->Ok (Qar N l y n k) λ _=>True
 | 0,k,_,_,hn=>by omega
 | n+1,k,h0,hk,hn=>by
  rw[Qar]
  refine Wo (λ hc=>?_) λ _=>Wg trivial
  have hc:k<l.length:=Wr hc
  rw[Xc (n:=k+1) (by omega) (by omega)]
  have next:=XcE (N:=N) l hl y hy hN n (k+1) (by omega) (by omega) (by omega)
  refine Ok.get h0 hc λ p hp=>Wo (λ _=>Ok.get h0 hc λ p hp=>?_) λ _=>next
  rw[Ze p (by omega) (by omega),Xa]
  exact Wo (λ _=>Wg trivial) λ _=>next
theorem KY {N:Nat} (hN:NB N) {h:Wn} (hb:HB h) {l:List Int} (hl:l.length<=1000000):Ok (Qbi N h l) λ b=>b=true->Oq N h:=by
 have hN':=hN
 unfold NB at hN'
 rw[Qbi]
 refine WH (Z7 hN hb) λ b _ hb1=>Wo (λ _=>Wg λ e=>by cases e) λ hb2=>?_
 have hg:=hb1 (by simpa using hb2)
 refine WH (Zn hN hb) λ y _ hy=>?_
 exact IT (XcE l (by omega) y hy.1.len (by omega) N 0 (by omega) (by omega) (by omega)) (λ _ _=>Wg λ _=>hg) λ _ _=>Wg λ _=>hg
end Go.Sx
namespace Go.Sx
theorem XjR (d:Wz):Vk d % 4=1:=by
 have e:ZF .u64 (wU d.Map) 16=wU (wU d.Map*65536):=rfl
 unfold Vk
 rw[e]
 simp only[Xbr]
 omega
theorem Xme (ws:List Int) (a:Int) (h:wd ws a % 4=2):szA ws a=1:=by
 have:okH (wd ws a)=false:=by
  unfold okH
  have h1:=XjR (Vl (wd ws a))
  have:(Vk (Vl (wd ws a))==wd ws a)=false:=by
   rw[IF]
   intro e
   rw[e] at h1
   omega
  rw[this,Of]
 unfold szA hdA ZV
 rw[this]
 rfl
structure On (h0:Wn) (l:List Int) (w:WY) (O:Int->Prop) (s:Int->Int):Prop where
 old:∀ a∈l,O a/\s a=szA h0.Words a
 queue:∀ a∈w.Queue,O a
 fit:∀ a,O a->4096<=a/\1<=s a/\a+s a<=4096+w.Heap.Words.length/\szA w.Heap.Words a<=s a
 apart:∀ a b,O a->O b->a≠b->a+s a<=b\/b+s b<=a
 taken:∀ a,O a->∀ j∈w.Taken,a+s a<=Xg h0.Conf j (pg w.Heap.Pages j).Used\/Xg h0.Conf (j+1) 0<=a
 free:∀ a,O a->∀ j:Int,0<=j->j<w.Heap.Pages.length->(pg w.Heap.Pages j).Kind=0->a+s a<=Xg h0.Conf j 0\/Xg h0.Conf (j+1) 0<=a
structure CI (h0:Wn) (l:List Int) (w:WY):Prop where
 conf:w.Heap.Conf=h0.Conf
 wlen:w.Heap.Words.length=h0.Words.length
 plen:w.Heap.Pages.length=h0.Pages.length
 spc:w.Heap.Space=h0.Space
 old:w.Old=l
 tk:∀ j∈w.Taken,0<=j/\j<w.Heap.Pages.length/\(pg w.Heap.Pages j).Kind=1/\0<=(pg w.Heap.Pages j).Used/\(pg w.Heap.Pages j).Used<=h0.Conf.PageWords
 tnd:w.Taken.Nodup
 knd:∀ a∈l,(pg w.Heap.Pages (pgi h0.Conf a)).Kind=(pg h0.Pages (pgi h0.Conf a)).Kind
 qnd:w.Queue.Nodup
 obj:∃ O s,On h0 l w O s
theorem VK:∀ (n:Nat) (a:Int) (l:List Int),l.Nodup->(∀ x∈l,a<=x/\x<a+n)->l.length<=n
 | 0,a,l,_,h=>by
  cases l with
  | nil=>simp
  | cons x l=>have:=h x (by simp);omega
 | n+1,a,l,hn,h=>by
  by_cases hm:a+(n:Int)∈l
  ·have h1:=VK n a (l.erase (a+(n:Int))) (hn.erase _) λ x hx=>by
    have h2:=(List.Nodup.mem_erase_iff hn).1 hx
    have h3:=h x h2.2
    have:=h2.1
    omega
   have h2:=List.length_erase_of_mem hm
   omega
  ·have h1:=VK n a l hn λ x hx=>by
    have h3:=h x hx
    have:x≠a+(n:Int):=λ e=>hm (e▸hx)
    omega
   omega
section
variable {N:Nat} {h0:Wn} {l:List Int}
theorem CI.ql {w:WY} (hb:HB h0) (hc:CI h0 l w):w.Queue.length<=100000:=by
 obtain ⟨O,s,ho⟩:=hc.obj
 have:=VK w.Heap.Words.length 4096 w.Queue hc.qnd λ x hx=>by
  have:=ho.fit x (ho.queue x hx)
  omega
 have:=hb.1
 have:=hc.wlen
 omega
theorem CI.tl {w:WY} (hb:HB h0) (hc:CI h0 l w):w.Taken.length<=100000:=by
 have:=VK w.Heap.Pages.length 0 w.Taken hc.tnd λ x hx=>by
  have:=hc.tk x hx
  omega
 have:=hb.2
 have:=hc.plen
 omega
theorem XcF {w:WY} (hl:w.Taken.length<=100000) (i:Int):∀ (n:Nat) (k:Int),0<=k->k<=w.Taken.length->(w.Taken.length-k).toNat<n->Ok (QdY N w i n k) λ _=>True
 | 0,k,_,_,hn=>by omega
 | n+1,k,h0,hk,hn=>by
  rw[QdY]
  refine Wo (λ hc=>?_) λ _=>Wg trivial
  have hc:k<w.Taken.length:=Wr hc
  rw[Xc (n:=k+1) (by omega) (by omega)]
  exact Ok.get h0 hc λ p hp=>Wo (λ _=>Wg trivial) λ _=>XcF hl i n (k+1) (by omega) (by omega) (by omega)
theorem XaF (hN:NB N) {w:WY} (hl:w.Taken.length<=100000) (i:Int):Ok (QdZ N w i) λ b=>b=true->0<=i/\i<w.Heap.Pages.length:=by
 unfold NB at hN
 rw[QdZ]
 refine Wo (λ _=>Wg λ e=>by cases e) λ h1=>Wo (λ _=>Wg λ e=>by cases e) λ h2=>?_
 have h1:0<=i:=by have:=WI h1;omega
 have h2:i<w.Heap.Pages.length:=by have:=WI h2;omega
 refine Ok.get h1 h2 λ p hp=>Wo (λ _=>Wo (λ _=>WH (Q:=λ _=>True) ?_ λ y _ _=>Wg λ _=>⟨h1,h2⟩) λ _=>Wg λ e=>by cases e) λ _=>Wg λ e=>by cases e
 rw[QgD]
 exact IT (XcF hl i N 0 (by omega) (by omega) (by omega)) (λ _ _=>Wg trivial) λ _ _=>Wg trivial
structure Ov (h0:Wn) (w:WY) (n:Int) (w':WY) (at_:Int) (j u:Int):Prop where
 rng:0<=j/\j<w.Heap.Pages.length
 fit:0<=u/\u+n<=h0.Conf.PageWords
 addr:at_=Xg h0.Conf j u
 conf:w'.Heap.Conf=w.Heap.Conf
 words:w'.Heap.Words=w.Heap.Words
 space:w'.Heap.Space=w.Heap.Space
 old:w'.Old=w.Old
 queue:w'.Queue=w.Queue
 scanned:w'.Scanned=w.Scanned
 plen:w'.Heap.Pages.length=w.Heap.Pages.length
 other:∀ i,0<=i->i≠j->pg w'.Heap.Pages i=pg w.Heap.Pages i
 this:(pg w'.Heap.Pages j).Kind=1/\(pg w'.Heap.Pages j).Used=u+n
 way:(j∈w.Taken/\w'.Taken=w.Taken/\u=(pg w.Heap.Pages j).Used)\/((pg w.Heap.Pages j).Kind=0/\w'.Taken=w.Taken++[j]/\u=0)
theorem XjS (hN:NB N) (hb:HB h0) (hp:UI h0) {w:WY} (hc:CI h0 l w) {n:Int} (hn:1<=n) (hn2:n<=h0.Conf.PageWords):Ok (QdQ N w n) λ r=>r.2.2=true->∃ j u,Ov h0 w n r.1 r.2.1 j u:=by
 have hN':=hN
 unfold NB at hN'
 have hbb:=hb.2
 have hpl:=hc.plen
 have hv:=Xi.1 hp.conf
 have htl:=hc.tl hb
 have hpp:=hp.pages
 rw[QdQ]
 have new:Ok (bnd (Qbw N w.Heap.Pages 1) λ y4 =>
  bif (decide (y4<0)) then some ((WY.mk (Wn.mk (WQ.mk 0 0) [] [] 0 0) [] [] [] 0 (Us.mk 0 0 0 0 0 0)),0,false)
  else bnd (Qbx N w.Heap.Pages y4 (wI (1-w.Heap.Space))) λ y5 =>
  grd (w.Taken.length*8<=140737488355328) <|
  grd ((w.Taken.length+1)*8<=140737488355328) <|
  bnd (Xb y5.1 y4) λ p13 =>
  bnd (Xb y5.1 y4) λ p14 =>
  bnd (Xb y5.1 y4) λ p15 =>
  some ((WY.mk (Wn.mk w.Heap.Conf w.Heap.Words (y5.1.set y4.toNat (Wv.mk p15.Kind p15.Space (wI (p14.Used+n)) p15.Pins)) w.Heap.Space w.Heap.Bump) w.Old (w.Taken++[y4]) w.Queue w.Scanned w.Report),(wU (wI ((wI (4096+(wI (y4*w.Heap.Conf.PageWords))))+p13.Used))),true)) λ r=>r.2.2=true->∃ j u,Ov h0 w n r.1 r.2.1 j u:=by
  refine WH (Y1 1 (by omega) (by omega)) λ j _ hj=>Wo (λ _=>Wg λ e=>by cases e) λ hj0=>?_
  have hr:RunOK w.Heap.Pages j 1:=by
   rcases hj with rfl | hj
   ·cases hj0
   ·exact hj
  have hsp:=hp.space
  have hws:=hc.spc
  rw[Xc (n:=1-w.Heap.Space) (by omega) (by omega)]
  refine WH (XeJ j (1-w.Heap.Space) (by omega) (by omega)) λ y _ hy=>?_
  have hy0:=hy.2.2 hr (by omega) (by omega)
  obtain ⟨q0,q1,q2,q3⟩:=hy.1 hy0
  have hk:=hr.2.2.2 0 (by omega) (by omega)
  rw[Int.add_zero] at hk
  have hjl:j<y.1.length:=by omega
  refine WS (by omega) (WS (by omega) (Ok.get q0 hjl λ p1 hp1=>Ok.get q0 hjl λ p2 hp2=>Ok.get q0 hjl λ p3 hp3=>Wg λ _=>?_))
  have g1:=Yd hp1
  have g2:=Yd hp2
  have g3:=Yd hp3
  rw[q3 j q0,Wm rfl] at g1 g2 g3
  subst g1;subst g2;subst g3
  have hm:=X1 hp.conf (i:=j) q0 (by omega)
  refine ⟨j,0,⟨⟨q0,by omega⟩,⟨by omega,by omega⟩,?_,rfl,rfl,rfl,rfl,rfl,rfl,?_,λ i hi hij=>?_,?_,.inr ⟨hk,rfl,rfl⟩⟩⟩
  ·show wU (wI (wI (4096+wI (j*w.Heap.Conf.PageWords))+0))=_
   rw[hc.conf,Xc (n:=j*h0.Conf.PageWords) (by omega) (by omega),Xc (n:=4096+j*h0.Conf.PageWords) (by omega) (by omega),Xc (by omega) (by omega),Xw (by omega) (by omega)]
   rfl
  ·show (y.1.set _ _).length=_
   rw[Wx];exact q2
  ·show pg (y.1.set _ _) i=_
   rw[Vm _ q0 hjl hi,Wk hij,q3 i hi,Wk hij,Wk (by omega)]
  ·show (pg (y.1.set _ _) j).Kind=1/\(pg (y.1.set _ _) j).Used=_
   rw[Vm _ q0 hjl q0,Wm rfl]
   refine ⟨rfl,?_⟩
   show wI (0+n)=0+n
   rw[Xc (by omega) (by omega)]
 refine WS (by omega) (In (Wo (λ ht=>?_) λ _=>new))
 have ht:0<(w.Taken.length:Int):=Wr ht
 rw[Xc (n:=((w.Taken.length:Nat):Int)-1) (by omega) (by omega)]
 refine Ok.get (by omega) (by omega) λ j hj=>?_
 have hjm:=Yq hj
 obtain ⟨t0,t1,t2,t3,t4⟩:=hc.tk j hjm
 refine Ok.get t0 t1 λ p hp2=>?_
 have g:=Yd hp2
 subst g
 rw[Xc (n:=(pg w.Heap.Pages j).Used+n) (by omega) (by omega)]
 refine Wo (λ hle=>?_) λ _=>new
 have hle:(pg w.Heap.Pages j).Used+n<=w.Heap.Conf.PageWords:=Wr hle
 rw[hc.conf] at hle
 refine Ok.get (by omega) (by omega) λ j' hj'=>?_
 obtain rfl:j=j':=WV (hj.symm.trans hj')
 refine Ok.get t0 t1 λ p1 hp1=>Ok.get t0 t1 λ p2 hp2=>Ok.get t0 t1 λ p3 hp3=>Wg λ _=>?_
 have g1:=Yd hp1
 have g2:=Yd hp2
 have g3:=Yd hp3
 subst g1;subst g2;subst g3
 have hm:=X1 hp.conf (i:=j) t0 (by omega)
 refine ⟨j,(pg w.Heap.Pages j).Used,⟨⟨t0,t1⟩,⟨t3,hle⟩,?_,rfl,rfl,rfl,rfl,rfl,rfl,?_,λ i hi hij=>?_,?_,.inl ⟨hjm,rfl,rfl⟩⟩⟩
 ·show wU (wI (wI (4096+wI (j*w.Heap.Conf.PageWords))+_))=_
  rw[hc.conf,Xc (n:=j*h0.Conf.PageWords) (by omega) (by omega),Xc (n:=4096+j*h0.Conf.PageWords) (by omega) (by omega),Xc (by omega) (by omega),Xw (by omega) (by omega)]
  rfl
 ·show (w.Heap.Pages.set _ _).length=_
  rw[Wx]
 ·show pg (w.Heap.Pages.set _ _) i=_
  rw[Vm _ t0 t1 hi,Wk hij]
 ·show (pg (w.Heap.Pages.set _ _) j).Kind=1/\(pg (w.Heap.Pages.set _ _) j).Used=_
  rw[Vm _ t0 t1 t0,Wm rfl]
  refine ⟨t2,?_⟩
  show wI ((pg w.Heap.Pages j).Used+n)=_
  rw[Xc (by omega) (by omega)]
end
end Go.Sx
namespace Go.Sx
theorem Xn1 {a b:Int} (ha:4096<=a) (hb:4096<=b) (h:ix a=ix b):a=b:=by unfold ix at h;omega
theorem XjT {ws:List Int} {x a v:Int} (hx:inW ws x) (ha:4096<=a):wd (ws.set (ix x) v) a=if a=x then v else wd ws a:=by
 unfold wd
 have hlt:ix x<ws.length:=by unfold inW at hx;unfold ix;omega
 rw[Wp,Wp,Ih]
 by_cases h:a=x
 ·subst h;rw[Wm rfl,Wm hlt,Wm rfl];rfl
 ·rw[Wk h,Wk]
  intro e
  exact h (Xn1 ha hx.1 e.symm)
theorem Xmf {ws:List Int} {to a x:Int} {k:Nat} (h1:Yc ws a k) (h2:Yc ws to k) (hx:4096<=x):wd (ovr ws ((ws.drop (ix a)).take k) (ix to)) x=if to<=x/\x<to+k then wd ws (a+(x-to)) else wd ws x:=by
 have hlen:((ws.drop (ix a)).take k).length=k:=by unfold Yc at h1;simp[ix];omega
 unfold wd
 rw[XeE (by rw[hlen];unfold Yc at h2;unfold ix;omega),hlen]
 unfold Yc at h1 h2
 by_cases h:to<=x/\x<to+k
 ·rw[Wm h,Wm (by unfold ix;omega),Wp,WW,Wm (by unfold ix;omega),Un,← Wp]
  congr 1
  unfold ix;omega
 ·rw[Wk h,Wk (by unfold ix;omega)]
theorem XgU {ws:List Int} {to a:Int} {k:Nat} (h1:Yc ws a k) (h2:Yc ws to k):(ovr ws ((ws.drop (ix a)).take k) (ix to)).length=ws.length:=by
 have hlen:((ws.drop (ix a)).take k).length=k:=by unfold Yc at h1;simp[ix];omega
 exact ZL (by rw[hlen];unfold Yc at h2;unfold ix;omega)
theorem VL {c:WQ} (hc:XY c=true) {i j o p:Int} (h:i<j) (h1:o<=c.PageWords) (h2:0<=p):Xg c i o<=Xg c j p:=by
 have hv:=Xi.1 hc
 have:(i+1)*c.PageWords<=j*c.PageWords:=UC (by omega) (by omega)
 have e:(i+1)*c.PageWords=i*c.PageWords+c.PageWords:=by rw[IK,Od]
 unfold Xg
 omega
section
variable {N:Nat} {h0:Wn} {l:List Int}
structure Oz (h0:Wn) (l:List Int) (w w':WY) (O:Int->Prop) (s:Int->Int):Prop where
 ci:CI h0 l w'
 ob:∃ O' s',On h0 l w' O' s'/\∀ a,O a->O' a/\s' a=s a
 sc:w'.Scanned=w.Scanned
 ql:w.Queue.length<=w'.Queue.length
def SameK (ps qs:List Wv):Prop:=qs.length=ps.length/\∀ i,0<=i->(pg qs i).Kind=(pg ps i).Kind/\(pg qs i).Used=(pg ps i).Used
theorem SameK.refl (ps:List Wv):SameK ps ps:=⟨rfl,λ _ _=>⟨rfl,rfl⟩⟩
theorem SameK.set {ps qs:List Wv} (h:SameK ps qs) {i:Int} (h0:0<=i) (h1:i<qs.length) (sp pins:Int):SameK ps (qs.set i.toNat ⟨(pg qs i).Kind,sp,(pg qs i).Used,pins⟩):=by
 refine ⟨by rw[Wx];exact h.1,λ j hj=>?_⟩
 rw[Vm _ h0 h1 hj]
 split
 ·rename_i e;subst e;exact h.2 j hj
 ·exact h.2 j hj
theorem XjU (w:WY) (a:Int) {ps:List Wv} (hl:ps.length<=100000):∀ (n:Nat) (i:Int) (qs:List Wv),0<=i->i<=ps.length->(ps.length-i).toNat<n->SameK ps qs->Ok (Qdd N w a n i qs) λ r=>SameK ps r
 | 0,i,qs,_,_,hn,_=>by omega
 | n+1,i,qs,h0,hi,hn,hs=>by
  have hq:=hs.1
  rw[Qdd]
  refine WS (by omega) (Wo (λ hc=>?_) λ _=>Wg hs)
  have hc:i<qs.length:=Wr hc
  rw[Xc (n:=i+1) (by omega) (by omega)]
  refine Ok.get h0 hc λ p hp=>Wo (λ _=>Ok.get h0 hc λ p hp=>?_) λ _=>Wg hs
  have hg:=Yd hp
  subst hg
  exact XjU w a hl n (i+1) _ (by omega) (by omega) (by omega) (hs.set h0 hc _ _)
theorem CI.pages {w:WY} (hc:CI h0 l w) {qs:List Wv} (h:SameK w.Heap.Pages qs):CI h0 l { w with Heap:={ w.Heap with Pages:=qs } }:=by
 obtain ⟨O,s,ho⟩:=hc.obj
 refine ⟨hc.conf,hc.wlen,h.1.trans hc.plen,hc.spc,hc.old,λ j hj=>?_,hc.tnd,λ a ha=>?_,hc.qnd,?_⟩
 ·have:=hc.tk j hj
  have h2:=h.2 j this.1
  show 0<=j/\j<qs.length/\(pg qs j).Kind=1/\0<=(pg qs j).Used/\(pg qs j).Used<=h0.Conf.PageWords
  rw[h2.1,h2.2,h.1];exact this
 ·show (pg qs _).Kind=_
  have hk:=hc.knd a ha
  by_cases hp:0<=pgi h0.Conf a
  ·rw[(h.2 _ hp).1];exact hk
  ·have e1:∀ ps:List Wv,pg ps (pgi h0.Conf a)=pg ps 0:=λ ps=>by
    unfold pg
    have:(pgi h0.Conf a).toNat=(0:Int).toNat:=by omega
    rw[this]
   rw[e1,(h.2 0 (by omega)).1,← e1,hk]
 ·refine ⟨O,s,ho.old,ho.queue,ho.fit,ho.apart,λ a ha j hj=>?_,λ a ha j h1 h2 h3=>?_⟩
  ·show a+s a<=Xg h0.Conf j (pg qs j).Used\/_
   rw[(h.2 j (hc.tk j hj).1).2];exact ho.taken a ha j hj
  ·have h2:j<qs.length:=h2
   have h3:(pg qs j).Kind=0:=h3
   rw[(h.2 j h1).1] at h3
   exact ho.free a ha j h1 (by rw[← h.1];exact h2) h3
theorem On.pages {w:WY} {O:Int->Prop} {s:Int->Int} (hc:CI h0 l w) (ho:On h0 l w O s) {qs:List Wv} (h:SameK w.Heap.Pages qs):On h0 l { w with Heap:={ w.Heap with Pages:=qs } } O s:=by
 refine ⟨ho.old,ho.queue,ho.fit,ho.apart,λ a ha j hj=>?_,λ a ha j h1 h2 h3=>?_⟩
 ·show a+s a<=Xg h0.Conf j (pg qs j).Used\/_
  rw[(h.2 j (hc.tk j hj).1).2];exact ho.taken a ha j hj
 ·have h2:j<qs.length:=h2
  have h3:(pg qs j).Kind=0:=h3
  rw[(h.2 j h1).1] at h3
  exact ho.free a ha j h1 (by rw[← h.1];exact h2) h3
theorem CI.push {w:WY} {O:Int->Prop} {s:Int->Int} (hc:CI h0 l w) (ho:On h0 l w O s) {a:Int} (ha:O a) (hq:a∉w.Queue) (rp:Us):Oz h0 l w { w with Queue:=w.Queue++[a],Report:=rp } O s:=by
 have ho2:On h0 l { w with Queue:=w.Queue++[a],Report:=rp } O s:=by
  refine ⟨ho.old,λ x hx=>?_,ho.fit,ho.apart,ho.taken,ho.free⟩
  rcases WJ.1 hx with hx | hx
  ·exact ho.queue x hx
  ·rw[UN.1 hx];exact ha
 refine ⟨⟨hc.conf,hc.wlen,hc.plen,hc.spc,hc.old,hc.tk,hc.tnd,hc.knd,?_,⟨O,s,ho2⟩⟩,⟨O,s,ho2,λ a h=>⟨h,rfl⟩⟩,rfl,?_⟩
 ·show (w.Queue++[a]).Nodup
  rw[IA]
  refine ⟨hc.qnd,by simp,λ x hx y hy=>?_⟩
  rw[UN.1 hy]
  rintro rfl
  exact hq hx
 ·show w.Queue.length<=(w.Queue++[a]).length
  rw[Wq];omega
end
end Go.Sx
namespace Go.Sx
section
variable {N:Nat} {h0:Wn} {l:List Int}
theorem Xn2 (hp:UI h0) (hk12:∀ a∈l,(pg h0.Pages (pgi h0.Conf a)).Kind=1\/(pg h0.Pages (pgi h0.Conf a)).Kind=2) (hpr:∀ a∈l,0<=pgi h0.Conf a) {w w':WY} {O:Int->Prop} {s:Int->Int} (hc:CI h0 l w) (ho:On h0 l w O s) {a n at_ j u:Int} (hal:a∈l) (hn:n=szA w.Heap.Words a) (hn1:1<=n) (pq:Ov h0 w n w' at_ j u) (v:Int) (hv:v % 4=2) (rp:Us) :
 Yc w.Heap.Words a n.toNat/\Yc w.Heap.Words at_ n.toNat/\4096<=at_/\at_<=200000/\Oz h0 l w { w' with Heap:={ w'.Heap with Words:=(ovr w.Heap.Words ((w.Heap.Words.drop (ix a)).take n.toNat) (ix at_)).set (ix a) v },Queue:=w'.Queue++[at_],Report:=rp } O s:=by
 have hvc:=Xi.1 hp.conf
 obtain ⟨hOa,hsa⟩:=ho.old a hal
 obtain ⟨fa1,fa2,fa3,fa4⟩:=ho.fit a hOa
 rw[← hn] at fa4
 have hwl:=hc.wlen
 have hw0:=hp.words
 have hpl:=hc.plen
 have hpl0:=hp.pages
 obtain ⟨r1,r2⟩:=pq.rng
 have hm:=X1 hp.conf (i:=j) r1 (by omega)
 obtain ⟨u0,u1⟩:=pq.fit
 have hat:at_=Xg h0.Conf j u:=pq.addr
 have hat1:at_=4096+j*h0.Conf.PageWords+u:=hat
 have hend:at_+n=Xg h0.Conf j (u+n):=by rw[hat];unfold Xg;omega
 have hend2:at_+n<=Xg h0.Conf (j+1) 0:=by
  have e:(j+1)*h0.Conf.PageWords=j*h0.Conf.PageWords+h0.Conf.PageWords:=by rw[IK,Od]
  unfold Xg;omega
 have i1:Yc w.Heap.Words a n.toNat:=by unfold Yc;omega
 have i2:Yc w.Heap.Words at_ n.toNat:=by unfold Yc;omega
 have away:∀ x,O x->x+s x<=at_\/Xg h0.Conf (j+1) 0<=x:=by
  intro x hx
  rcases pq.way with ⟨g1,g2,g3⟩ | ⟨g1,g2,g3⟩
  ·have:=ho.taken x hx j g1
   rw[← g3,← hat] at this
   exact this
  ·have:=ho.free x hx j r1 r2 g1
   rw[g3] at hat
   rw[hat]
   exact this
 have fresh:¬ O at_:=by
  intro hx
  have:=away at_ hx
  have:=(ho.fit at_ hx).2.1
  omega
 have hne:a≠at_:=λ e=>fresh (e▸hOa)
 have aw2:∀ x,O x->x+s x<=at_\/at_+n<=x:=λ x hx=>by
  have:=away x hx
  omega
 have hlen:(ovr w.Heap.Words ((w.Heap.Words.drop (ix a)).take n.toNat) (ix at_)).length=w.Heap.Words.length:=XgU i1 i2
 have hlen2:((ovr w.Heap.Words ((w.Heap.Words.drop (ix a)).take n.toNat) (ix at_)).set (ix a) v).length=w.Heap.Words.length:=by rw[Wx,hlen]
 have hwd:∀ x,4096<=x->wd ((ovr w.Heap.Words ((w.Heap.Words.drop (ix a)).take n.toNat) (ix at_)).set (ix a) v) x=if x=a then v else if at_<=x/\x<at_+n then wd w.Heap.Words (a+(x-at_)) else wd w.Heap.Words x:=by
  intro x hx
  rw[XjT (by unfold inW;rw[hlen];omega) hx,Xmf i1 i2 hx]
  have:((n.toNat:Nat):Int)=n:=by omega
  rw[this]
 have hsz:∀ x,O x->szA ((ovr w.Heap.Words ((w.Heap.Words.drop (ix a)).take n.toNat) (ix at_)).set (ix a) v) x<=s x:=by
  intro x hx
  have hf:=ho.fit x hx
  by_cases hxa:x=a
  ·have:szA ((ovr w.Heap.Words ((w.Heap.Words.drop (ix a)).take n.toNat) (ix at_)).set (ix a) v) x=1:=by
    apply Xme
    rw[hwd x hf.1,Wm hxa];exact hv
   omega
  ·have:szA ((ovr w.Heap.Words ((w.Heap.Words.drop (ix a)).take n.toNat) (ix at_)).set (ix a) v) x=szA w.Heap.Words x:=by
    unfold szA hdA
    rw[hwd x hf.1,Wk hxa,Wk]
    have:=aw2 x hx
    omega
   omega
 have hszat:szA ((ovr w.Heap.Words ((w.Heap.Words.drop (ix a)).take n.toNat) (ix at_)).set (ix a) v) at_=n:=by
  refine Eq.trans ?_ hn.symm
  unfold szA hdA
  rw[hwd at_ (by omega),Wk (λ e=>hne e.symm),Wm (by omega)]
  rw[show a+(at_-at_)=a by omega]
 have hjk:=pq.this
 have hk0:∀ i,0<=i->(pg w'.Heap.Pages i).Kind=0->i≠j/\(pg w.Heap.Pages i).Kind=0:=by
  intro i hi hk
  have hij:i≠j:=by rintro rfl;rw[hjk.1] at hk;cases hk
  rw[pq.other i hi hij] at hk
  exact ⟨hij,hk⟩
 have htk:∀ i∈w'.Taken,i=j\/(i∈w.Taken/\i≠j):=by
  intro i hi
  by_cases hij:i=j
  ·exact .inl hij
  ·right
   refine ⟨?_,hij⟩
   rcases pq.way with ⟨_,g2,_⟩ | ⟨_,g2,_⟩
   ·rwa[g2] at hi
   ·rw[g2] at hi
    rcases WJ.1 hi with hi | hi
    ·exact hi
    ·exact absurd (UN.1 hi) hij
 have hqe:w'.Queue=w.Queue:=pq.queue
 refine ⟨i1,i2,by omega,by omega,?_⟩
 have hO:On h0 l { w' with Heap:={ w'.Heap with Words:=(ovr w.Heap.Words ((w.Heap.Words.drop (ix a)).take n.toNat) (ix at_)).set (ix a) v },Queue:=w'.Queue++[at_],Report:=rp } (λ x=>O x\/x=at_) (λ x=>if x=at_ then n else s x):=by
  have ne:∀ x,O x->x≠at_:=λ x hx e=>fresh (e▸hx)
  refine ⟨λ x hx=>?_,λ x hx=>?_,λ x hx=>?_,λ x y hx hy hxy=>?_,λ x hx i hi=>?_,λ x hx i g1 g2 g3=>?_⟩
  ·obtain ⟨q1,q2⟩:=ho.old x hx
   exact ⟨.inl q1,by rw[Wk (ne x q1)];exact q2⟩
  ·have hx:x∈w'.Queue++[at_]:=hx
   rcases WJ.1 hx with hx | hx
   ·rw[hqe] at hx;exact .inl (ho.queue x hx)
   ·exact .inr (UN.1 hx)
  ·show 4096<=x/\1<=(if x=at_ then n else s x)/\x+(if x=at_ then n else s x)<=4096+((ovr w.Heap.Words ((w.Heap.Words.drop (ix a)).take n.toNat) (ix at_)).set (ix a) v).length/\szA ((ovr w.Heap.Words ((w.Heap.Words.drop (ix a)).take n.toNat) (ix at_)).set (ix a) v) x<=(if x=at_ then n else s x)
   rw[hlen2]
   rcases hx with hx | rfl
   ·rw[Wk (ne x hx)]
    obtain ⟨f1,f2,f3,f4⟩:=ho.fit x hx
    exact ⟨f1,f2,f3,hsz x hx⟩
   ·rw[Wm rfl,hszat]
    omega
  ·show x+(if x=at_ then n else s x)<=y\/y+(if y=at_ then n else s y)<=x
   rcases hx with hx | rfl
   ·rcases hy with hy | rfl
    ·rw[Wk (ne x hx),Wk (ne y hy)];exact ho.apart x y hx hy hxy
    ·rw[Wk (ne x hx),Wm rfl];have:=aw2 x hx;omega
   ·rcases hy with hy | rfl
    ·rw[Wm rfl,Wk (ne y hy)];have:=aw2 y hy;omega
    ·exact absurd rfl hxy
  ·show x+(if x=at_ then n else s x)<=Xg h0.Conf i (pg w'.Heap.Pages i).Used\/Xg h0.Conf (i+1) 0<=x
   rcases htk i hi with rfl | ⟨hi1,hi2⟩
   ·rw[hjk.2]
    rcases hx with hx | rfl
    ·rw[Wk (ne x hx)];have:=away x hx;have:at_<=Xg h0.Conf i (u+n):=by omega
     omega
    ·rw[Wm rfl];left;omega
   ·obtain ⟨t1,t2,t3,t4,t5⟩:=hc.tk i hi1
    rw[pq.other i t1 hi2]
    rcases hx with hx | rfl
    ·rw[Wk (ne x hx)];exact ho.taken x hx i hi1
    ·rw[Wm rfl]
     by_cases hlt:i<j
     ·right
      have:=VL hp.conf (o:=h0.Conf.PageWords) (p:=u) hlt (by omega) u0
      have e:Xg h0.Conf (i+1) 0=Xg h0.Conf i h0.Conf.PageWords:=by unfold Xg;rw[IK,Od];omega
      omega
     ·left
      have:=VL hp.conf (i:=j) (j:=i) (o:=u+n) (p:=(pg w.Heap.Pages i).Used) (by omega) (by omega) t4
      omega
  ·have g2:i<w'.Heap.Pages.length:=g2
   have g3:(pg w'.Heap.Pages i).Kind=0:=g3
   show x+(if x=at_ then n else s x)<=Xg h0.Conf i 0\/Xg h0.Conf (i+1) 0<=x
   obtain ⟨k1,k2⟩:=hk0 i g1 g3
   rcases hx with hx | rfl
   ·rw[Wk (ne x hx)];exact ho.free x hx i g1 (by rw[← pq.plen];exact g2) k2
   ·rw[Wm rfl]
    by_cases hlt:i<j
    ·right
     have:=VL hp.conf (o:=h0.Conf.PageWords) (p:=u) hlt (by omega) u0
     have e:Xg h0.Conf (i+1) 0=Xg h0.Conf i h0.Conf.PageWords:=by unfold Xg;rw[IK,Od];omega
     omega
    ·left
     have:=VL hp.conf (i:=j) (j:=i) (o:=u+n) (p:=0) (by omega) (by omega) (by omega)
     omega
 refine ⟨⟨?_,?_,?_,?_,?_,λ i hi=>?_,?_,λ x hx=>?_,?_,⟨_,_,hO⟩⟩,⟨_,_,hO,λ x hx=>⟨.inl hx,?_⟩⟩,pq.scanned,?_⟩
 ·exact pq.conf.trans hc.conf
 ·exact hlen2.trans hc.wlen
 ·exact pq.plen.trans hc.plen
 ·exact pq.space.trans hc.spc
 ·exact pq.old.trans hc.old
 ·show 0<=i/\i<w'.Heap.Pages.length/\(pg w'.Heap.Pages i).Kind=1/\0<=(pg w'.Heap.Pages i).Used/\(pg w'.Heap.Pages i).Used<=h0.Conf.PageWords
  rw[pq.plen]
  rcases htk i hi with rfl | ⟨hi1,hi2⟩
  ·rw[hjk.1,hjk.2]
   omega
  ·have:=hc.tk i hi1
   rw[pq.other i this.1 hi2]
   exact this
 ·show w'.Taken.Nodup
  rcases pq.way with ⟨_,g2,_⟩ | ⟨g1,g2,_⟩
  ·rw[g2];exact hc.tnd
  ·rw[g2,IA]
   refine ⟨hc.tnd,by simp,λ x hx y hy=>?_⟩
   rw[UN.1 hy]
   rintro rfl
   rw[(hc.tk x hx).2.2.1] at g1
   cases g1
 ·show (pg w'.Heap.Pages _).Kind=_
  have hkx:=hc.knd x hx
  have h12:=hk12 x hx
  by_cases hij:pgi h0.Conf x=j
  ·rw[hij] at hkx h12 ⊢
   rw[hjk.1]
   rcases pq.way with ⟨g1,_,_⟩ | ⟨g1,_,_⟩
   ·rw[(hc.tk j g1).2.2.1] at hkx;exact hkx
   ·rw[g1] at hkx;rw[← hkx] at h12;rcases h12 with h | h<;>cases h
  ·rw[pq.other _ (hpr x hx) hij];exact hkx
 ·show (w'.Queue++[at_]).Nodup
  rw[hqe,IA]
  refine ⟨hc.qnd,by simp,λ x hx y hy=>?_⟩
  rw[UN.1 hy]
  rintro rfl
  exact fresh (ho.queue x hx)
 ·show (if x=at_ then n else s x)=s x
  exact Wk (λ e=>fresh (by rw[← e];exact hx))
 ·show w.Queue.length<=(w'.Queue++[at_]).length
  rw[hqe,Wq];omega
structure Start (N:Nat) (h0:Wn) (l:List Int):Prop where
 hb:HB h0
 good:l≠[]->Oq N h0
 prop:l≠[]->UI h0
 st:Oc N h0 l
theorem XjV (a:Int) (h0:0<=a) (h1:a<4294967296):wU (wU (4*a)+2) % 4=2:=by
 rw[Xw (n:=4*a) (by omega) (by omega),Xw (by omega) (by omega)]
 omega
theorem XbA {l:List Int} {a:Int} (h:l.contains a=false):a∉l:=by
 intro hm
 have:l.contains a=true:=by simpa using hm
 rw[h] at this;cases this
theorem Va {l:List Int} {a:Int} (h:l.contains a=true):a∈l:=by simpa using h
theorem CI.wl {w:WY} (hb:HB h0) (hc:CI h0 l w):w.Heap.Words.length<=BIG:=by
 have:=hb.1
 have:=hc.wlen
 unfold BIG
 omega
theorem XbB (hN:NB N) (hs:Start N h0 l) {w:WY} {O:Int->Prop} {s:Int->Int} (hc:CI h0 l w) (ho:On h0 l w O s) (a:Int):Ok (Qc2 N w a) λ r=>r.2.2=0->Oz h0 l w r.1 O s:=by
 have hN':=hN
 unfold NB at hN'
 have hb:=hs.hb
 have hql:=hc.ql hb
 have hwl:=hc.wl hb
 have hww:=hc.wlen
 have hb1:=hb.1
 have hb2:=hb.2
 have hpl:=hc.plen
 have same:Oz h0 l w w O s:=⟨hc,⟨O,s,ho,λ _ h=>⟨h,rfl⟩⟩,rfl,Uf _⟩
 rw[Qc2]
 refine Wo (λ _=>Wg λ _=>same) λ _=>?_
 rw[Ze a (by omega) (by omega),Xa]
 refine Wo (λ _=>Wg λ _=>same) λ hq=>?_
 have hq:=XbA hq
 rw[Ze a (by rw[hc.old];have:=hs.st.len;omega) (by rw[hc.old];have:=hs.st.len;omega),Xa]
 refine Wo (λ _=>Wg λ e=>by cases e) λ hal=>?_
 have hal:a∈l:=by rw[← hc.old];exact Va (by simpa using hal)
 have hne:l≠[]:=List.ne_nil_of_mem hal
 have hp:=hs.prop hne
 have hg:=hs.good hne
 have hat:=hs.st.obj.at_ a hal
 have hwd0:=hp.words
 have hpg0:=hp.pages
 have hvc:=Xi.1 hp.conf
 have hrng:=hat.rng
 obtain ⟨_,q0,q1,_⟩:=JC hp.conf hrng
 have hin:inW w.Heap.Words a:=by unfold inW;omega
 rw[Zw hwl,Xa,Wm hin,XcA,Xa]
 have hof:Qda N w.Heap.Conf a=some (pgi h0.Conf a,pgo h0.Conf a,0):=by
  rw[VI,hc.conf,hp.conf,Wk (by simp),Wm hrng];rfl
 rw[hof,Xa]
 refine Wo (λ _=>Wg λ _=>same) λ _=>?_
 refine Wo (λ _=>Wg λ e=>by cases e) λ _=>?_
 refine Wo (λ _=>Wg λ e=>by cases e) λ _=>?_
 refine WH (XaF hN (hc.tl hb) _) λ b _ _=>Wo (λ _=>?_) λ _=>?_
 ·rw[Qem,Xe (by omega),Xe (by omega),Xa]
  exact Wg λ _=>hc.push ho (ho.old a hal).1 hq _
 refine Ok.get q0 (by show pgi h0.Conf a<_;omega) λ p hpp=>Wo (λ _=>?_) λ hk2=>?_
 ·refine WS (by omega) (Ok.get q0 (by show pgi h0.Conf a<_;omega) λ p hpp=>?_)
  have hgp:=Yd hpp
  subst hgp
  rw[Xc (n:=pgi h0.Conf a+1) (by omega) (by omega)]
  refine WH (XjU w a (ps:=w.Heap.Pages) (by omega) N (pgi h0.Conf a+1) _ (by omega) (by omega) (by omega) ((SameK.refl _).set q0 (by omega) _ _)) λ qs _ hqs=>?_
  rw[Qem,Xe (by show w.Queue.length*8<=_;omega),Xe (by show (w.Queue.length+1)*8<=_;omega),Xa]
  refine Wg λ _=>?_
  have q:=λ rp=>(hc.pages hqs).push (ho.pages hc hqs) (ho.old a hal).1 hq rp
  exact ⟨(q _).ci,(q _).ob,(q w.Report).sc,(q w.Report).ql⟩
 ·have hgp:=Yd hpp
  have hk12:∀ x∈l,(pg h0.Pages (pgi h0.Conf x)).Kind=1\/(pg h0.Pages (pgi h0.Conf x)).Kind=2:=λ x hx=>(hs.st.obj.at_ x hx).kind
  have hpr:∀ x∈l,0<=pgi h0.Conf x:=λ x hx=>(JC hp.conf (hs.st.obj.at_ x hx).rng).2.1
  have hk1:(pg h0.Pages (pgi h0.Conf a)).Kind=1:=by
   rcases hk12 a hal with h | h
   ·exact h
   ·exfalso
    rw[← hc.knd a hal,hgp] at h
    rw[h] at hk2;cases hk2
  have hsz:=hg.sz hs.st hal hk1
  have hso:=(ho.old a hal).2
  have hfit:=ho.fit a (ho.old a hal).1
  have hsw:=ZN w.Heap.Words a
  rw[VH,Xa,Yg,Xa]
  have e1:XG (ZV (w.Heap.Words.getD (ix a) 0))=szA w.Heap.Words a:=hsw.1
  show Ok (bnd (QdQ N w (XG (ZV (w.Heap.Words.getD (ix a) 0)))) _) _
  rw[e1]
  refine WH (XjS hN hb hp hc (n:=szA w.Heap.Words a) hsw.2.1 (by omega)) λ y _ hy=>Wo (λ _=>Wg λ e=>by cases e) λ hy2=>?_
  obtain ⟨j,u,pq⟩:=hy (by simpa using hy2)
  have q:=λ v hv rp=>Xn2 (n:=szA w.Heap.Words a) hp hk12 hpr hc ho hal rfl hsw.2.1 pq v hv rp
  obtain ⟨i1,i2,a1,a2,_⟩:=q 2 rfl y.1.Report
  rw[pq.words]
  have en:szA w.Heap.Words a=(((szA w.Heap.Words a).toNat:Nat):Int):=by omega
  have hmv:=Xma (N:=N) hwl y.2.1 a (szA w.Heap.Words a).toNat (by omega) (by omega)
  rw[← en,Wm ⟨i1,i2⟩] at hmv
  rw[hmv,Xa,XfX,Xa,Wk (by omega)]
  have ol:=XgU i1 i2
  rw[VG (by rw[ol];exact hwl) (by omega),Xa]
  have hin2:inW (ovr w.Heap.Words ((w.Heap.Words.drop (ix a)).take (szA w.Heap.Words a).toNat) (ix y.2.1)) a:=by unfold inW;rw[ol];exact hin
  rw[Wm hin2]
  have hqe:=pq.queue
  refine WS (by rw[hqe];omega) (WS (by rw[hqe];omega) (Wg λ _=>?_))
  exact (q _ (XjV y.2.1 (by omega) (by omega)) _).2.2.2.2
end
end Go.Sx
namespace Go.Sx
section
variable {N:Nat} {h0:Wn} {l:List Int}
theorem VM (h:Wn) (y:List Int×Int) (hl:h.Pages.length<=100000):∀ (n:Nat) (i:Int) (qs:List Wv),0<=i->i<=h.Pages.length->(h.Pages.length-i).toNat<n->SameK h.Pages qs->Ok (QcG N h y n i qs) λ r=>SameK h.Pages r
 | 0,i,qs,_,_,hn,_=>by omega
 | n+1,i,qs,h0,hi,hn,hs=>by
  have hq:=hs.1
  rw[QcG]
  refine WS (by omega) (Wo (λ hc=>?_) λ _=>Wg hs)
  have hc:i<qs.length:=Wr hc
  rw[Xc (n:=i+1) (by omega) (by omega)]
  have next:=VM h y hl n (i+1) qs (by omega) (by omega) (by omega) hs
  refine Ok.get h0 hc λ p hp=>Wo (λ _=>Wo (λ _=>Ok.get h0 hc λ p hp=>?_) λ _=>next) λ _=>next
  have hg:=Yd hp
  subst hg
  exact VM h y hl n (i+1) _ (by omega) (by omega) (by omega) (hs.set h0 hc _ _)
theorem XfZ {h:Wn} (hp:UI h) {a:Int} (ha:I8 h a) {j:Int} (h1:0<=j) (hk:(pg h.Pages j).Kind=0):a+szA h.Words a<=Xg h.Conf j 0\/Xg h.Conf (j+1) 0<=a:=by
 obtain ⟨k,k1,k2,k3,k4⟩:=Xds hp ha
 obtain ⟨q1,q2,q3,q4,q5⟩:=JC hp.conf ha.rng
 have hvc:=Xi.1 hp.conf
 have hkk:=ha.kind
 by_cases hlt:j<pgi h.Conf a
 ·right
  have:=VL hp.conf (o:=h.Conf.PageWords) (p:=pgo h.Conf a) hlt (by omega) q4
  have e:Xg h.Conf (j+1) 0=Xg h.Conf j h.Conf.PageWords:=by unfold Xg;rw[IK,Od];omega
  omega
 ·by_cases he:j=pgi h.Conf a
  ·subst he;rw[hk] at hkk;rcases hkk with h | h<;>cases h
  ·by_cases hlt2:j<pgi h.Conf a+k
   ·have:=k4 (j-pgi h.Conf a) (by omega) (by omega)
    rw[show pgi h.Conf a+(j-pgi h.Conf a)=j by omega] at this
    rw[hk] at this;cases this
   ·left
    have:(pgi h.Conf a+k)*h.Conf.PageWords<=j*h.Conf.PageWords:=UC (by omega) (by omega)
    have e1:Xg h.Conf (pgi h.Conf a+k) 0=4096+(pgi h.Conf a+k)*h.Conf.PageWords+0:=rfl
    have e2:Xg h.Conf j 0=4096+j*h.Conf.PageWords+0:=rfl
    omega
theorem XeR {h:Wn} (hb:HB h) (hp:UI h) {l:List Int} (hs:Oc N h l) {w:WY} (e1:w.Heap.Conf=h.Conf) (e2:w.Heap.Words=h.Words) (e3:w.Heap.Space=h.Space) (hk:SameK h.Pages w.Heap.Pages) (e4:w.Old=l) (e5:w.Taken=[]) (e6:w.Queue=[]):CI h l w:=by
 have ho:On h l w (λ a=>a∈l) (szA h.Words):=by
  refine ⟨λ a ha=>⟨ha,rfl⟩,λ a ha=>(by rw[e6] at ha;cases ha),λ a ha=>?_,λ a b ha hb' hab=>?_,λ a ha j hj=>(by rw[e5] at hj;cases hj),λ a ha j h1 h2 h3=>?_⟩
  ·rw[e2]
   have h1:=hs.obj.at_ a ha
   exact ⟨h1.rng.1,(ZN h.Words a).2.1,VJ hp h1,Int.le_refl _⟩
  ·have hpw:=hs.obj.pw
   rw[U4] at hpw
   obtain ⟨i,hi,ei⟩:=WZ ha
   obtain ⟨j,hj,ej⟩:=WZ hb'
   rcases Nat.lt_trichotomy i j with hij | hij | hij
   ·left;have:=hpw i j hi hj hij;rw[ei,ej] at this;exact this
   ·subst hij;exact absurd (ei.symm.trans ej) hab
   ·right;have:=hpw j i hj hi hij;rw[ei,ej] at this;exact this
  ·rw[(hk.2 j h1).1] at h3
   exact XfZ hp (hs.obj.at_ a ha) h1 h3
 refine ⟨e1,by rw[e2],hk.1,e3,e4,λ j hj=>(by rw[e5] at hj;cases hj),by rw[e5];exact IW,λ a ha=>?_,by rw[e6];exact IW,⟨_,_,ho⟩⟩
 exact (hk.2 _ (JC hp.conf (hs.obj.at_ a ha).rng).2.1).1
def zW:WY:=⟨zH,[],[],[],0,⟨0,0,0,0,0,0⟩⟩
theorem XjW (N:Nat):Start N zH []:=⟨ZE,λ h=>absurd rfl h,λ h=>absurd rfl h,Oc.nil N zH⟩
theorem Xo2:CI zH [] zW:=by
 refine ⟨rfl,rfl,rfl,rfl,rfl,λ j hj=>(by cases hj),IW,λ a ha=>(by cases ha),IW,⟨λ _=>False,λ _=>0,?_⟩⟩
 exact ⟨λ a ha=>(by cases ha),λ a ha=>(by cases ha),λ a ha=>ha.elim,λ a b ha=>ha.elim,λ a ha=>ha.elim,λ a ha=>ha.elim⟩
structure OA (N:Nat) (h:Wn) (l:List Int) (w:WY):Prop where
 st:Start N h l
 ci:CI h l w
 sc:w.Scanned=0
 pr:UI h\/h.Pages=[]
theorem XjX (hN:NB N) {h:Wn} (hb:HB h):Ok (Qdm N h) λ r=>∃ h' l,OA N h' l r.1:=by
 have hN':=hN
 unfold NB at hN'
 have hb2:=hb.2
 have zero:∃ h' l,OA N h' l zW:=⟨zH,[],XjW N,Xo2,rfl,.inr rfl⟩
 rw[Qdm]
 refine WH (Yn (N:=N) (by omega) hb.1 hb.2) λ b eb hp=>Wo (λ _=>Wg zero) λ hb1=>?_
 have hp:=hp (by simpa using hb1)
 refine WH (Z7 hN hb) λ b _ hg=>Wo (λ _=>Wg zero) λ hb2=>?_
 have hg:=hg (by simpa using hb2)
 refine WH (Zn hN hb) λ y _ hy=>WS (by omega) ?_
 refine WH (VM h y (by omega) N 0 h.Pages (by omega) (by omega) (by omega) (SameK.refl _)) λ qs _ hqs=>Wg ?_
 exact ⟨h,y.1,⟨hb,λ _=>hg,λ _=>hp,hy.1⟩,XeR hb hp hy.1 rfl rfl rfl hqs rfl rfl rfl,rfl,.inl hp⟩
theorem XeS (hN:NB N) (hs:Start N h0 l) (rs:List Int) (hl:rs.length<=1000000):∀ (n:Nat) (i:Int) (w:WY) (out:List Int),0<=i->i<=rs.length->(rs.length-i).toNat<n->CI h0 l w->(out.length:Int)=i ->
 Ok (Qby N rs n i w.Heap.Conf.PageWords w.Heap.Conf.Pages w.Heap.Words w.Heap.Pages w.Heap.Space w.Heap.Bump w.Old w.Taken w.Queue w.Scanned w.Report.Copied w.Report.Kept w.Report.Filled w.Report.Freed w.Report.Cleared w.Report.Steps out) λ e=>match e with
  | .ret r=>r.2.2≠0
  | .nxt t=>∃ (w':WY) (out':List Int),CI h0 l w'/\w'.Scanned=w.Scanned/\out'.length=rs.length/\t=(w'.Heap.Conf.PageWords,w'.Heap.Conf.Pages,w'.Heap.Words,w'.Heap.Pages,w'.Heap.Space,w'.Heap.Bump,w'.Old,w'.Taken,w'.Queue,w'.Scanned,w'.Report.Copied,w'.Report.Kept,w'.Report.Filled,w'.Report.Freed,w'.Report.Cleared,w'.Report.Steps,out')
 | 0,i,w,out,_,_,hn,_,_=>by omega
 | n+1,i,w,out,g0,hi,hn,hc,ho=>by
  rw[Qby]
  refine Wo (λ h1=>?_) λ h1=>Wg ⟨w,out,hc,rfl,by have:=WI h1;omega,rfl⟩
  have h1:i<rs.length:=Wr h1
  rw[Xc (n:=i+1) (by omega) (by omega)]
  obtain ⟨O,s,hob⟩:=hc.obj
  refine Ok.get g0 h1 λ p hp=>WH (XbB hN hs hc hob p) λ y _ hy=>Wo (λ he=>Wg (by simpa using he)) λ he=>?_
  have q:=hy (by simpa using he)
  refine WS (by omega) ((XeS hN hs rs hl n (i+1) y.1 (out++[y.2.1]) (by omega) (by omega) (by omega) q.ci (by rw[Wq];simp;omega)).mono λ e he=>?_)
  cases e with
  | ret r=>exact he
  | nxt t=>obtain ⟨w',o',c1,c2,c3,c4⟩:=he;exact ⟨w',o',c1,c2.trans q.sc,c3,c4⟩
theorem XeT (hN:NB N) (hs:Start N h0 l) {rs:List Int} (hl:rs.length<=1000000) {w:WY} (hc:CI h0 l w):Ok (Qet N w rs) λ r=>r.2.2=0->CI h0 l r.1/\r.1.Scanned=w.Scanned/\r.2.1.length=rs.length:=by
 have hN':=hN
 unfold NB at hN'
 rw[Qet]
 refine IT (XeS hN hs rs hl N 0 w [] (by omega) (by omega) (by omega) hc rfl) (λ a q=>Wg λ e=>absurd e q) λ b q=>Wg λ _=>?_
 obtain ⟨w',o',c1,c2,c3,rfl⟩:=q
 exact ⟨c1,c2,c3⟩
end
end Go.Sx
namespace Go.Sx
theorem XhY {d:Wz} {x:Int} (h:x∈Zx d):0<=x/\x<d.Length:=by
 unfold Zx at h
 by_cases hv:Xx d=true
 ·rw[Wm hv] at h
  have:=Jd h
  have:=XH hv
  omega
 ·rw[Wk hv] at h;cases h
theorem XhZ (d:Wz):(Zx d).length<=255:=by
 unfold Zx
 by_cases hv:Xx d=true
 ·rw[Wm hv]
  have:=Je (d:=d) (k:=d.Length.toNat) (i:=0)
  have:=XH hv
  omega
 ·rw[Wk hv];simp
section
variable {N:Nat} {h0:Wn} {l:List Int}
theorem Xmg {w:WY} {O:Int->Prop} {s:Int->Int} (hc:CI h0 l w) (ho:On h0 l w O s) {p x:Int} (hp:O p) (h1:p<x) (h2:x<p+s p) (v:Int) :
 inW w.Heap.Words x/\CI h0 l { w with Heap:={ w.Heap with Words:=w.Heap.Words.set (ix x) v } }/\On h0 l { w with Heap:={ w.Heap with Words:=w.Heap.Words.set (ix x) v } } O s:=by
 have hf:=ho.fit p hp
 have hin:inW w.Heap.Words x:=by unfold inW;omega
 have ho2:On h0 l { w with Heap:={ w.Heap with Words:=w.Heap.Words.set (ix x) v } } O s:=by
  refine ⟨ho.old,ho.queue,λ a ha=>?_,ho.apart,ho.taken,ho.free⟩
  show 4096<=a/\1<=s a/\a+s a<=4096+(w.Heap.Words.set (ix x) v).length/\szA (w.Heap.Words.set (ix x) v) a<=s a
  obtain ⟨f1,f2,f3,f4⟩:=ho.fit a ha
  rw[Wx]
  refine ⟨f1,f2,f3,?_⟩
  have:a≠x:=by
   rintro rfl
   by_cases he:a=p
   ·omega
   ·have:=ho.apart a p ha hp he
    omega
  unfold szA hdA at *
  rw[XjT hin f1,Wk this]
  exact f4
 refine ⟨hin,⟨hc.conf,?_,hc.plen,hc.spc,hc.old,hc.tk,hc.tnd,hc.knd,hc.qnd,⟨O,s,ho2⟩⟩,ho2⟩
 show (w.Heap.Words.set (ix x) v).length=_
 rw[Wx];exact hc.wlen
theorem XgV (hN:NB N) (hs:Start N h0 l) {p:Int} {ks:List Int} (hkl:ks.length<=255):∀ (n:Nat) (i:Int) (w:WY) (O:Int->Prop) (s:Int->Int),0<=i->i<=ks.length->(ks.length-i).toNat<n->CI h0 l w->On h0 l w O s->O p->(∀ k∈ks,0<=k/\k<255/\k+1<s p) ->
 Ok (QbY N p ks n i w.Heap.Conf.PageWords w.Heap.Conf.Pages w.Heap.Words w.Heap.Pages w.Heap.Space w.Heap.Bump w.Old w.Taken w.Queue w.Scanned w.Report.Copied w.Report.Kept w.Report.Filled w.Report.Freed w.Report.Cleared w.Report.Steps) λ e=>match e with
  | .ret r=>r.2.2≠0
  | .nxt t=>∃ (w':WY),CI h0 l w'/\w'.Scanned=w.Scanned/\w.Queue.length<=w'.Queue.length/\t=(w'.Heap.Conf.PageWords,w'.Heap.Conf.Pages,w'.Heap.Words,w'.Heap.Pages,w'.Heap.Space,w'.Heap.Bump,w'.Old,w'.Taken,w'.Queue,w'.Scanned,w'.Report.Copied,w'.Report.Kept,w'.Report.Filled,w'.Report.Freed,w'.Report.Cleared,w'.Report.Steps)
 | 0,i,w,O,s,_,_,hn,_,_,_,_=>by omega
 | n+1,i,w,O,s,g0,hi,hn,hc,ho,hp,hk=>by
  have hN':=hN
  unfold NB at hN'
  have hb1:=hs.hb.1
  rw[QbY]
  refine Wo (λ h1=>?_) λ h1=>Wg ⟨w,hc,rfl,Uf _,rfl⟩
  have h1:i<ks.length:=Wr h1
  rw[Xc (n:=i+1) (by omega) (by omega)]
  refine Ok.get g0 h1 λ k hk2=>?_
  have hkm:=Yq hk2
  obtain ⟨k0,k1,k2⟩:=hk k hkm
  have hf:=ho.fit p hp
  have hwl:=hc.wlen
  rw[Xw (n:=p+1) (by omega) (by omega),Xw (n:=k) (by omega) (by omega),Xw (n:=p+1+k) (by omega) (by omega)]
  rw[Zw (hc.wl hs.hb),Xa]
  refine WH (XbB hN hs hc ho _) λ y _ hy=>Wo (λ he=>Wg (by simpa using he)) λ he=>?_
  have q:=hy (by simpa using he)
  obtain ⟨O',s',ho',hx⟩:=q.ob
  obtain ⟨hp',hs'⟩:=hx p hp
  have st:=Xmg q.ci ho' hp' (x:=p+1+k) (by omega) (by omega) y.2.1
  rw[VG (q.ci.wl hs.hb) (by omega),Xa,Wm st.1]
  refine (XgV hN hs hkl n (i+1) _ O' s' (by omega) (by omega) (by omega) st.2.1 st.2.2 hp' (λ k' hk'=>by rw[hs'];exact hk k' hk')).mono λ e he=>?_
  cases e with
  | ret r=>exact he
  | nxt t=>obtain ⟨w',c1,c2,c3,c4⟩:=he;exact ⟨w',c1,c2.trans q.sc,Ur q.ql c3,c4⟩
theorem Xmh (hN:NB N) (hs:Start N h0 l) {w:WY} (hc:CI h0 l w) (h0s:0<=w.Scanned) (h1s:w.Scanned<=w.Queue.length):Ok (QeS N w) λ r=>r.2.2=0->CI h0 l r.1/\0<=r.1.Scanned/\r.1.Scanned<=r.1.Queue.length/\(r.2.1=true->r.1.Scanned=w.Scanned+1):=by
 have hN':=hN
 unfold NB at hN'
 have hb:=hs.hb
 have hql:=hc.ql hb
 rw[QeS]
 refine Wo (λ _=>Wg λ _=>⟨hc,h0s,h1s,λ e=>by cases e⟩) λ hlt=>?_
 have hlt:w.Scanned<w.Queue.length:=by have:=WI hlt;omega
 refine Ok.get h0s hlt λ p hp=>?_
 have hpm:=Yq hp
 obtain ⟨O,s,ho⟩:=hc.obj
 have hOp:=ho.queue p hpm
 have hf:=ho.fit p hOp
 have hin:inW w.Heap.Words p:=by unfold inW;omega
 rw[QeK,Zw (hc.wl hb),Xa,Wm hin,VH,Xa,Xa,XjL (by omega),Xa]
 have hkl:=XhZ (hdA w.Heap.Words p)
 have hvl:=XH (ZM (wd w.Heap.Words p))
 refine IT (XgV hN hs (p:=p) (ks:=Zx (hdA w.Heap.Words p)) hkl N 0 w O s (by omega) (by omega) (by omega) hc ho hOp λ k hk=>?_) (λ a q=>Wg λ e=>absurd e q) λ t q=>Wg λ _=>?_
 ·have h1:=XhY hk
  have h2:szA w.Heap.Words p=(hdA w.Heap.Words p).Length+1:=rfl
  have h3:(hdA w.Heap.Words p).Length<=255:=hvl.2.2.2
  omega
 ·obtain ⟨w',c1,c2,c3,rfl⟩:=q
  have e:wI (w'.Scanned+1)=w.Scanned+1:=by rw[c2,Xc (by omega) (by omega)]
  refine ⟨⟨c1.conf,c1.wlen,c1.plen,c1.spc,c1.old,c1.tk,c1.tnd,c1.knd,c1.qnd,?_⟩,?_,?_,λ _=>e⟩
  ·obtain ⟨O,s,h⟩:=c1.obj
   exact ⟨O,s,⟨h.old,h.queue,h.fit,h.apart,h.taken,h.free⟩⟩
  ·show 0<=wI (w'.Scanned+1);omega
  ·show wI (w'.Scanned+1)<=w'.Queue.length;omega
theorem XjY (hN:NB N) (hs:Start N h0 l):∀ (n:Nat) (w:WY),CI h0 l w->0<=w.Scanned->w.Scanned<=w.Queue.length->(100001-w.Scanned).toNat<n ->
 Ok (Qcj N n w.Heap.Conf.PageWords w.Heap.Conf.Pages w.Heap.Words w.Heap.Pages w.Heap.Space w.Heap.Bump w.Old w.Taken w.Queue w.Scanned w.Report.Copied w.Report.Kept w.Report.Filled w.Report.Freed w.Report.Cleared w.Report.Steps) λ r=>r.2=0->CI h0 l r.1
 | 0,w,_,_,_,hn=>by omega
 | n+1,w,hc,g0,g1,hn=>by
  rw[Qcj]
  have hql:=hc.ql hs.hb
  refine WH (Xmh hN hs hc g0 g1) λ y _ hy=>Wo (λ he=>Wg λ e=>absurd e (by simpa using he)) λ he=>?_
  obtain ⟨q1,q2,q3,q4⟩:=hy (by simpa using he)
  refine Wo (λ _=>Wg λ _=>q1) λ hb=>?_
  have q4:y.1.Scanned=w.Scanned+1:=q4 (by simpa using hb)
  have:=q1.ql hs.hb
  exact XjY hN hs n y.1 q1 q2 q3 (by omega)
theorem XjZ (hN:NB N) (hs:Start N h0 l) {w:WY} (hc:CI h0 l w) (g0:0<=w.Scanned) (g1:w.Scanned<=w.Queue.length):Ok (Qfu N w) λ r=>r.2=0->CI h0 l r.1:=by
 have hN':=hN
 unfold NB at hN'
 rw[Qfu]
 exact WH (XjY hN hs N w hc g0 g1 (by omega)) λ y _ hy=>Wg hy
theorem Xj0 (hN:NB N) (hs:Start N h0 l) {w:WY} (hq:w.Queue.length<=100000) (hw:w.Heap.Words.length<=BIG) (a:Int):Ok (Qeu N w a) λ _=>True:=by
 have hN':=hN
 unfold NB at hN'
 rw[Qeu,Ze a (by omega) (by omega),Xa]
 refine Wo (λ _=>Wg trivial) λ _=>?_
 rw[Zw hw,Xa,XcA,Xa]
 exact Wg trivial
theorem Xdv (hN:NB N) {w:WY} (hb:HB h0) (hc:CI h0 l w) {s:Int->Int} (hll:l.length<=4096) (hpw:l.Pairwise λ a b=>a+s a<=b) (hfit:∀ a∈l,4096<=a/\1<=s a/\a+s a<=4096+h0.Words.length):∀ (n k:Nat) (v:List Int) (c:Int),k<=l.length->l.length-k<n->v.length=h0.Words.length->(∀ a∈l.drop k,szA v a<=s a) ->
 Ok (QaX N w n (k:Int) v c) λ r=>r.1.length=h0.Words.length
 | 0,k,v,c,_,hn,_,_=>by omega
 | n+1,k,v,c,hk,hn,hv,hs=>by
  have hN':=hN
  unfold NB at hN'
  have hb1:=hb.1
  have hql:=hc.ql hb
  have htl:=hc.tl hb
  have hold:=hc.old
  rw[QaX]
  refine Wo (λ h1=>?_) λ _=>Wg hv
  have h1:k<l.length:=by have:=Wr h1;rw[hold] at this;omega
  have hkl:(k:Int)<w.Old.length:=by rw[hold];omega
  have hdr:=Wu h1
  rw[Xc (n:=(k:Int)+1) (by omega) (by omega),show ((k:Int)+1)=((k+1:Nat):Int) by omega]
  have gp:∀ p,Xb w.Old (k:Int)=some p->p=l[k]:=by
   intro p hp
   rw[hold,Xd,Wd h1] at hp
   exact (WV hp).symm
  have next:Ok (QaX N w n ((k+1:Nat):Int) v c) λ r=>r.1.length=h0.Words.length :=
   Xdv hN hb hc hll hpw hfit n (k+1) v c (by omega) (by omega) hv λ a ha=>hs a (by rw[hdr];exact Ug _ ha)
  refine Ok.get (by omega) hkl λ p hp=>?_
  rw[VI,Xa]
  refine WH (XaF hN (w:={ w with Heap:={ w.Heap with Words:=v },Report:=⟨_,_,_,_,_,_⟩ }) htl _) λ b _ _=>Wo (λ _=>next) λ _=>?_
  refine Ok.get (by omega) hkl λ p hp=>?_
  rw[Ze p (by omega) (by omega),Xa]
  refine Wo (λ _=>next) λ _=>Ok.get (by omega) hkl λ p hp=>?_
  have hpe:=gp p hp
  have hpm:p∈l:=by rw[hpe];exact WU h1
  obtain ⟨f1,f2,f3⟩:=hfit p hpm
  have hsp:=hs p (by rw[hdr,← hpe];exact IM)
  have hin:inW v p:=by unfold inW;omega
  have hsz:=ZN v p
  rw[QeK,Zw (by show v.length<=BIG;unfold BIG;omega),Xa,Wm hin,VH,Xa,Xa,Jc,Xa]
  refine Ok.get (by omega) hkl λ p' hp'=>?_
  obtain rfl:p=p':=hpe.trans (gp p' hp').symm
  have e1:szA v p=(hdA v p).Length+1:=rfl
  have e2:(ZV (v.getD (ix p) 0)).Length=(hdA v p).Length:=rfl
  refine WS (by rw[e2];omega) (WS (by rw[e2];omega) ?_)
  have hlen:∀ x:Int,([x]++List.replicate (ZV (v.getD (ix p) 0)).Length.toNat (0:Int)).length=(szA v p).toNat:=by
   intro x;rw[Wq,WC,e2];simp only[Ub,UM];omega
  rw[ZU (by unfold BIG;omega) (by rw[hlen];unfold BIG;omega) (by rw[hlen];omega),Xa,hlen,Wm (by unfold Yc;omega)]
  have hlo:∀ x:Int,(ovr v ([x]++List.replicate (ZV (v.getD (ix p) 0)).Length.toNat (0:Int)) (ix p)).length=v.length:=by
   intro x;apply ZL;rw[hlen];unfold ix;omega
  refine Xdv hN hb hc hll hpw hfit n (k+1) _ _ (by omega) (by omega) ((hlo _).trans hv) λ a ha=>?_
  have ham:a∈l:=W6 ha
  have hsa:=hs a (by rw[hdr];exact Ug _ ha)
  have hfa:=hfit a ham
  have hle:p+s p<=a:=by
   have hp2:=hpw.drop (i:=k)
   rw[hdr,List.pairwise_cons] at hp2
   rw[hpe]
   exact hp2.1 a ha
  have:∀ x:Int,szA (ovr v ([x]++List.replicate (ZV (v.getD (ix p) 0)).Length.toNat (0:Int)) (ix p)) a=szA v a:=by
   intro x
   unfold szA hdA wd
   rw[XeE (by rw[hlen];unfold ix;omega),hlen,Wk]
   unfold ix
   have:p+szA v p<=a:=by omega
   omega
  rw[this];exact hsa
theorem XgW (hN:NB N) (hs:Start N h0 l) {w:WY} (hc:CI h0 l w):Ok (QeT N w) λ r=>r.Heap.Conf=h0.Conf/\r.Heap.Words.length=h0.Words.length/\r.Heap.Pages=w.Heap.Pages/\r.Heap.Pages.length=h0.Pages.length/\r.Taken.length<=100000:=by
 have hN':=hN
 unfold NB at hN'
 have hb:=hs.hb
 rw[QeT]
 obtain ⟨O,s,ho⟩:=hc.obj
 have hpw:l.Pairwise λ a b=>a+s a<=b:=by
  refine List.Pairwise.imp_of_mem ?_ hs.st.obj.pw
  intro a b ha _ h
  rw[(ho.old a ha).2];exact h
 have hwl:=hc.wlen
 have:=Xdv hN (w:=w) hb hc (s:=s) hs.st.len hpw (λ a ha=>by have:=ho.fit a (ho.old a ha).1;omega) N 0 w.Heap.Words w.Report.Filled (by omega) (by have:=hs.st.len;omega) hwl λ a ha=>(ho.fit a (ho.old a (W6 ha)).1).2.2.2
 have htl:w.Taken.length<=100000:=hc.tl hb
 refine WH this λ r _ hr=>Wg ⟨hc.conf,hr,rfl,hc.plen,htl⟩
theorem XgX {w:WY} (v4:List Wv) (p5:Wv) (i c:Int) (hp:UI h0) (hc:w.Heap.Conf=h0.Conf) (g0:0<=i) (g1:i<h0.Conf.Pages):∀ (n:Nat) (k:Int) (v:List Int),0<=k->(65-k).toNat<n->v.length=h0.Words.length->Ok (QbZ N w v4 p5 i c n k v) λ r=>r.length=h0.Words.length
 | 0,k,v,_,hn,_=>by omega
 | n+1,k,v,k0,hn,hv=>by
  have hvc:=Xi.1 hp.conf
  have hm:=X1 hp.conf g0 g1
  have hw:=hp.words
  rw[QbZ,hc]
  refine Wo (λ h1=>?_) λ _=>Wg hv
  have h1:k<h0.Conf.PageWords:=Wr h1
  rw[Xc (n:=k+1) (by omega) (by omega),Xc (n:=i*h0.Conf.PageWords) (by omega) (by omega),Xc (n:=i*h0.Conf.PageWords+k) (by omega) (by omega)]
  refine Ok.get (by omega) (by omega) λ p _=>XgX v4 p5 i c hp hc g0 g1 n (k+1) _ (by omega) (by omega) (by rw[Wx];exact hv)
theorem XaX (hN:NB N) {w:WY} (hb:HB h0) (hp:UI h0\/h0.Pages=[]) (hc:w.Heap.Conf=h0.Conf):∀ (n:Nat) (i c:Int) (v:List Int) (ps:List Wv),0<=i->i<=h0.Pages.length->(h0.Pages.length-i).toNat<n->v.length=h0.Words.length->ps.length=h0.Pages.length->Ok (Qbe N w n i c v ps) λ r=>r.2.1.length=h0.Words.length/\r.2.2.length=h0.Pages.length
 | 0,i,c,v,ps,_,_,hn,_,_=>by omega
 | n+1,i,c,v,ps,g0,gi,hn,hv,hps=>by
  have hN':=hN
  unfold NB at hN'
  have hb2:=hb.2
  rw[Qbe]
  refine WS (by omega) (Wo (λ h1=>?_) λ _=>Wg ⟨hv,hps⟩)
  have h1:i<ps.length:=Wr h1
  rw[Xc (n:=i+1) (by omega) (by omega)]
  have next:=XaX hN (w:=w) hb hp hc n (i+1) c v ps (by omega) (by omega) (by omega) hv hps
  refine Ok.get g0 h1 λ p _=>Wo (λ _=>next) λ _=>Wo (λ _=>next) λ _=>Ok.get g0 h1 λ p6 _=>?_
  rcases hp with hp | hp
  ·have hpp:=hp.pages
   refine WH (XgX ps p i c hp hc g0 (by omega) N 0 v (by omega) (by omega) hv) λ r _ hr=>?_
   exact XaX hN hb (.inl hp) hc n (i+1) _ r _ (by omega) (by omega) (by omega) hr (by rw[Wx];exact hps)
  ·rw[hp] at hps;simp at hps;rw[hps] at h1;simp at h1;omega
theorem Xmi (hN:NB N) {w:WY} (hb:HB h0) (hp:UI h0\/h0.Pages=[]) (hc:w.Heap.Conf=h0.Conf) (hw:w.Heap.Words.length=h0.Words.length) (hpl:w.Heap.Pages.length=h0.Pages.length):Ok (QdJ N w) λ r=>HB r.Heap/\r.Taken=w.Taken:=by
 have hN':=hN
 unfold NB at hN'
 have hb1:=hb.1
 have hb2:=hb.2
 rw[QdJ]
 refine WS (by omega) (WS (by omega) (WH (XaX hN hb hp hc N 0 _ _ _ (by omega) (by omega) (by omega) hw hpl) λ r _ hr=>Wg ⟨⟨?_,?_⟩,rfl⟩))
 ·show r.2.1.length<=_;omega
 ·show r.2.2.length<=_;omega
theorem Xdw (hN:NB N) (hs:Start N h0 l) (ws:List Int) (hl:ws.length<=1000000) (y5:WY×List Int×Int) (y6:WY×Int) (hc:CI h0 l y6.1):∀ (n:Nat) (i c:Int) (out:List Int),0<=i->i<=ws.length->(ws.length-i).toNat<n->(out.length:Int)=i->Ok (Qa4 N ws y5 y6 n i c out) λ r=>r.2.length=ws.length
 | 0,i,c,out,_,_,hn,_=>by omega
 | n+1,i,c,out,g0,gi,hn,ho=>by
  rw[Qa4]
  refine Wo (λ h1=>?_) λ h1=>Wg (by have:=WI h1;show out.length=ws.length;omega)
  have h1:i<ws.length:=Wr h1
  rw[Xc (n:=i+1) (by omega) (by omega)]
  have next:=λ c' x=>Xdw hN hs ws hl y5 y6 hc n (i+1) c' (out++[x]) (by omega) (by omega) (by omega) (by rw[Wq];simp;omega)
  refine Ok.get g0 h1 λ p _=>In (Wo (λ _=>Ok.get g0 h1 λ p _=>?_) λ _=>WS (by omega) (next _ _))
  refine WH (Xj0 hN hs (w:=⟨_,_,_,_,_,_⟩) (hc.ql hs.hb) (hc.wl hs.hb) p) λ y _ _=>In (Wo (λ _=>WS (by omega) (next _ _)) λ _=>WS (by omega) (next _ _))
structure OB (rs ws:List Int) (r:Wn×List Int×List Int×Us×Int):Prop where
 hb:HB r.1
 len:r.2.2.2.2=0->r.2.1.length=rs.length/\r.2.2.1.length=ws.length
 no:r.2.2.2.2≠0->r.2.1=[]/\r.2.2.1=[]
theorem Xf0 (hN:NB N) {h:Wn} (hb:HB h) {rs ws:List Int} (hr:rs.length<=1000000) (hw:ws.length<=1000000):Ok (Qcu N h rs ws) (OB rs ws):=by
 have hN':=hN
 unfold NB at hN'
 have bad:∀ e:Int,e≠0->OB rs ws (zH,[],[],⟨0,0,0,0,0,0⟩,e):=λ e he=>⟨ZE,λ h=>absurd h he,λ _=>⟨rfl,rfl⟩⟩
 rw[Qcu]
 refine WH (Yn (N:=N) (by omega) hb.1 hb.2) λ b _ _=>Wo (λ _=>Wg (bad 1 (by decide))) λ _=>In ?_
 refine WH (KY hN hb hr) λ b _ _=>Wo (λ _=>Wg (bad 19 (by decide))) λ _=>?_
 refine WH (KY hN hb hw) λ b _ _=>Wo (λ _=>Wg (bad 19 (by decide))) λ _=>?_
 refine WH (XjX hN hb) λ y4 _ hy4=>?_
 obtain ⟨h',l,bq⟩:=hy4
 have hs:=bq.st
 refine WH (XeT hN hs hr bq.ci) λ y5 _ hy5=>Wo (λ he=>Wg (bad _ (by simpa using he))) λ he=>?_
 obtain ⟨c1,c2,c3⟩:=hy5 (by simpa using he)
 have hsc:=bq.sc
 refine WH (XjZ hN hs c1 (by omega) (by omega)) λ y6 _ hy6=>Wo (λ he=>Wg (bad _ (by simpa using he))) λ he=>?_
 have d1:=hy6 (by simpa using he)
 refine WH (Xdw hN hs ws hw y5 y6 d1 N 0 _ [] (by omega) (by omega) (by omega) rfl) λ y16 _ hy16=>?_
 have d2:CI h' l (WY.mk y6.1.Heap y6.1.Old y6.1.Taken y6.1.Queue y6.1.Scanned (Us.mk y6.1.Report.Copied y6.1.Report.Kept y6.1.Report.Filled y6.1.Report.Freed y16.1 y6.1.Report.Steps)):=by
  obtain ⟨O,s,ho⟩:=d1.obj
  exact ⟨d1.conf,d1.wlen,d1.plen,d1.spc,d1.old,d1.tk,d1.tnd,d1.knd,d1.qnd,⟨O,s,⟨ho.old,ho.queue,ho.fit,ho.apart,ho.taken,ho.free⟩⟩⟩
 refine WH (XgW hN hs d2) λ y17 _ ⟨f1,f2,f3,f4,f5⟩=>?_
 refine WH (Xmi hN (h0:=h') hs.hb bq.pr f1 f2 f4) λ y18 _ ⟨g1,g2⟩=>?_
 have fin:∀ x:Int,OB rs ws ((Wn.mk y18.Heap.Conf y18.Heap.Words y18.Heap.Pages (wI (1-y18.Heap.Space)) x),y5.2.1,y16.2,y18.Report,0):=λ x=>⟨g1,λ _=>⟨c3,hy16⟩,λ h=>absurd rfl h⟩
 refine In (Wo (λ ht=>?_) λ _=>Wg (fin _))
 have ht:0<(y18.Taken.length:Int):=Wr ht
 rw[g2] at ht ⊢
 rw[Xc (by omega) (by omega)]
 exact Ok.get (by omega) (by omega) λ p _=>Wg (fin _)
end
end Go.Sx
namespace Go.Sx
def Y8 {α σ:Type} (q:σ->Nat->α->Bool) (nxp:σ->α->σ):σ->Nat->List α->Bool
 | _,_,[]=>true
 | s,k,x::l=>q s k x&&Y8 q nxp (nxp s x) (k+1) l
theorem Zq {α:Type} (q:α->Bool):∀ (k:Nat) (l:List α),Y8 (λ (_:Unit) _ x=>q x) (λ s _=>s) () k l=l.all q
 | _,[]=>rfl
 | k,x::l=>by rw[Y8,Zq q (k+1) l,I9]
theorem KZ {α σ:Type} {l:List α} {F:Nat->σ->Int->Option (Ex Bool Unit)} {q:σ->Nat->α->Bool} {nxp:σ->α->σ} {I:σ->Prop}
 (hstep:∀ (n:Nat) (s:σ) (k:Nat) (p:α),I s->l[k]? = some p->F (n+1) s (k:Int)=bif q s k p then F n (nxp s p) ((k+1:Nat):Int) else some (.ret false))
 (hstop:∀ (n:Nat) (s:σ),F (n+1) s (l.length:Int)=some (.nxt ()))
 (hI:∀ s k p,I s->l[k]? = some p->q s k p=true->I (nxp s p)):∀ (n:Nat) (s:σ) (k:Nat),I s->k<=l.length->l.length-k<n->F n s (k:Int)=some (bif Y8 q nxp s k (l.drop k) then .nxt () else .ret false)
 | 0,s,k,_,_,hn=>by omega
 | n+1,s,k,hs,hk,hn=>by
  by_cases h:k<l.length
  ·have e:=Wd h
   rw[hstep n s k _ hs e,Wu h,Y8]
   cases hq:q s k l[k] with
   | false=>rfl
   | true =>
    rw[WR,Wc]
    exact KZ hstep hstop hI n _ (k+1) (hI s k _ hs e hq) (by omega) (by omega)
  ·obtain rfl:k=l.length:=by omega
   rw[hstop,WL (Uf _)]
   rfl
theorem Kz {α:Type} {l:List α} {F:Nat->Int->Option (Ex Bool Unit)} {q:Nat->α->Bool}
 (hstep:∀ (n:Nat) (k:Nat) (p:α),l[k]? = some p->F (n+1) (k:Int)=bif q k p then F n ((k+1:Nat):Int) else some (.ret false))
 (hstop:∀ (n:Nat),F (n+1) (l.length:Int)=some (.nxt ())) {n:Nat} (hn:l.length<n):F n 0=some (bif Y8 (λ (_:Unit)=>q) (λ s _=>s) () 0 l then .nxt () else .ret false):=by
 have h:=KZ (F:=λ n (_:Unit) i=>F n i) (q:=λ _=>q) (nxp:=λ s _=>s) (I:=λ _=>True) (l:=l) (λ n s k p _ e=>hstep n k p e) (λ n _=>hstop n) (λ _ _ _ _ _ _=>trivial) n () 0 trivial (by omega) (by omega)
 rw[WT] at h
 exact h
theorem XE {k:Nat} {n:Nat} (h:k<n):decide ((k:Int)<((n:Nat):Int))=true:=Wh (by omega)
theorem Xu (n:Nat):decide (((n:Nat):Int)<((n:Nat):Int))=false:=Wj (by omega)
theorem Xy {α:Type} {l:List α} {k:Nat} {p:α} (h:l[k]? = some p):k<l.length:=(List.getElem?_eq_some_iff.1 h).1
theorem Xh {k:Nat} (h:k<=140737488355328):wI ((k:Int)+1)=((k+1:Nat):Int):=by rw[Xc (by omega) (by omega)];omega
def VN (e:Ua):Bool:=!decide (e.Gen<1)&&(!decide (e.Gen>4294967295)&&(e.Live||!(e.Ref != 0)))
def YL (l:List Ua):Bool:=l.all VN&&decide (l.length<=64)
def XZ (l:List Ua):List Int:=(l.filter (·.Live)).map (·.Ref)
theorem Zy {N:Nat} {t:WG} (hl:t.Entries.length<=1000000) (hN:1000000<N):QbW N t=some (YL t.Entries):=by
 have h:=Kz (l:=t.Entries) (F:=QcF N t) (q:=λ _=>VN) (λ n k p e=>?_) (λ n=>?_) (n:=N) (by omega)
 ·rw[QbW,h,Xa,Zq,YL]
  cases t.Entries.all VN
  ·rw[Wa,XC];rfl
  ·rw[Wc,Xo,WR]
   congr 1
   exact decide_eq_decide.2 (by omega)
 ·have hk:=Xy e
  rw[QcF,XE hk,Wc,Xd,e,Xa,Xh (by omega)]
  unfold VN
  cases decide (p.Gen<1)<;>cases decide (p.Gen>4294967295)<;>cases p.Live<;>cases (p.Ref != 0)<;>rfl
 ·rw[QcF,Xu,Wa]
theorem XbC {N:Nat} {t:WG} (hl:t.Entries.length<=1000000) (hN:1000000<N) (hv:YL t.Entries=true):∀ (n k:Nat) (v:List Int),k<=t.Entries.length->t.Entries.length-k<n->v.length<=k ->
 Qbc N t n (k:Int) v=some (v++XZ (t.Entries.drop k))
 | 0,k,v,_,hn,_=>by omega
 | n+1,k,v,hk,hn,hlv=>by
  rw[Qbc]
  by_cases h:k<t.Entries.length
  ·rw[XE h,Wc,Zy hl hN,Xa,hv,Wc,Xd,Wd h,Xa,Xa,Xh (by omega),Wu h,XZ]
   cases hL:t.Entries[k].Live
   ·rw[Wa,XbC hl hN hv n (k+1) v (by omega) (by omega) (by omega),UF (by rw[hL];simp)]
    rfl
   ·rw[Wc,Xe (by omega),XbC hl hN hv n (k+1) _ (by omega) (by omega) (by rw[Wq];simp;omega),UR (by rw[hL])]
    simp[XZ]
  ·obtain rfl:k=t.Entries.length:=by omega
   rw[Xu,Wa,WL (Uf _)]
   simp[XZ]
theorem Yy {N:Nat} {t:WG} (hl:t.Entries.length<=1000000) (hN:1000000<N):Qa8 N t=some (bif YL t.Entries then XZ t.Entries else []):=by
 rw[Qa8]
 cases hv:YL t.Entries
 ·obtain ⟨m,rfl⟩:∃ m,N=m+1:=⟨N-1,by omega⟩
  rw[Qbc,Zy hl hN,hv]
  by_cases h:0<t.Entries.length
  ·rw[show decide ((0:Int)<((t.Entries.length:Nat):Int))=true from Wh (by omega),Wc,Xa,Wa,Xa];rfl
  ·rw[show decide ((0:Int)<((t.Entries.length:Nat):Int))=false from Wj (by omega),Wa,Xa];rfl
 ·have h:=XbC hl hN hv N 0 [] (by omega) (by omega) (by simp)
  rw[show ((0:Nat):Int)=0 from rfl,WT,Uw] at h
  rw[h,Xa];rfl
theorem Xag (l:List Ua):(XZ l).length<=l.length:=by unfold XZ;rw[W3];exact List.length_filter_le _ _
theorem VO {l:List Ua} (h:YL l=true):l.length<=64:=by
 unfold YL at h
 rw[WE] at h
 exact Wr h.2
theorem Xj1 {l:List Ua} (h:YL l=true) {e:Ua} (he:e∈l):1<=e.Gen/\e.Gen<=4294967295/\(e.Live=false->e.Ref=0):=by
 unfold YL at h
 rw[WE,Ue] at h
 have:=h.1 e he
 unfold VN at this
 simp only[WE,Uv,Ud,Ij,bne_eq_false_iff_eq] at this
 refine ⟨by omega,by omega,λ hL=>?_⟩
 rcases this.2.2 with h | h
 ·rw[hL] at h;cases h
 ·exact h
def Zf (l:List Ua) (i g:Int):Int×Int :=
 if YL l=false then (0,1) else if i<0\/(l.length:Int)<=i\/g<1 then (0,6) else
 match l[i.toNat]? with
 | none=>(0,6)
 | some e=>if g>e.Gen then (0,6) else if g<e.Gen then (0,8) else if e.Live then (e.Ref,0) else (0,8)
theorem VP {N:Nat} {t:WG} (hl:t.Entries.length<=1000000) (hN:1000000<N) (i g:Int):Qdt N t i g=some (Zf t.Entries i g):=by
 rw[Qdt,Zy hl hN,Xa,Zf]
 cases hv:YL t.Entries
 ·rfl
 ·simp only[Ws,Wa,Uy,Bool.true_eq_false,if_false]
  by_cases h0:i<0
  ·rw[Wm h0,Wm (.inl h0)]
  ·rw[Wk h0]
   by_cases h1:i>=((t.Entries.length:Nat):Int)
   ·rw[Wm h1,Wm (.inr (.inl h1))]
   ·rw[Wk h1]
    by_cases h2:g<1
    ·rw[Wm h2,Wm (.inr (.inr h2))]
    ·have hlt:i.toNat<t.Entries.length:=by omega
     rw[Wk h2,Wk (by omega),Yj (by omega) (by omega),Xa,Wd hlt]
     simp only[Xa]
     by_cases h3:g>t.Entries[i.toNat].Gen
     ·rw[Wm h3,Wm h3]
     ·rw[Wk h3,Wk h3]
      by_cases h4:g<t.Entries[i.toNat].Gen
      ·rw[Wm h4,Wm h4]
      ·rw[Wk h4,Wk h4]
       cases t.Entries[i.toNat].Live<;>rfl
end Go.Sx
namespace Go.Sx
theorem KA {α σ:Type} {q:σ->Nat->α->Bool} {nxp:σ->α->σ}:∀ (l:List α) (s:σ) (k:Nat),Y8 q nxp s k l=true↔∀ i p,l[i]? = some p->q ((l.take i).foldl nxp s) (k+i) p=true
 | [],s,k=>by simp[Y8]
 | x::l,s,k=>by
  rw[Y8,WE,KA l (nxp s x) (k+1)]
  constructor
  ·rintro ⟨h1,h2⟩ i p hp
   cases i with
   | zero=>simp at hp;subst hp;exact h1
   | succ i =>
    have:=h2 i p (by simpa using hp)
    rw[Il,IQ,show k+(i+1)=k+1+i by omega]
    exact this
  ·intro h
   refine ⟨h 0 x rfl,λ i p hp=>?_⟩
   have:=h (i+1) p (by simpa using hp)
   rw[Il,IQ,show k+(i+1)=k+1+i by omega] at this
   exact this
def Xmj (l:List Int):Bool:=l.all λ p=>!decide (p<0)&&!decide (p>4095)
def stQ (iss:List Int) (s:Int) (i:Nat) (p:UX):Bool:=!decide (p.Stamp<=s)&&(!decide (p.Stamp>((iss.length:Nat):Int))&&(!((iss.getD (p.Stamp-1).toNat 0) != (i:Int))&&(p.Live==(p.Ref != 0))))
def stB (iss:List Int) (l:List UX):Bool:=Y8 (stQ iss) (λ _ p=>p.Stamp) 0 0 l
def neQ (n:Nat) (s:Int) (i:Nat) (p:U0):Bool:=(!((i:Int)==0)||(!(p.From != 0)&&p.Base))&&(!decide (p.From<s)&&(!decide (p.From>((n:Nat):Int))&&(!decide (p.Cap<0)&&!decide (p.Cap>64))))
def neB (n:Nat) (l:List U0):Bool:=Y8 (neQ n) (λ _ p=>p.From) 0 0 l
def KB (l:List UX) (f t:Nat):Nat:=((l.drop f).take (t-f)).countP (·.Live)
def toL (a:Ww) (i:Nat):Int:=match a.Scopes[i+1]? with | some p=>p.From | none=>a.Slots.length
def Xj2 (a:Ww) (_:Unit) (i:Nat) (p:U0):Bool:=!decide (((KB a.Slots p.From.toNat (toL a i).toNat:Nat):Int)>p.Cap)
def Xf1 (a:Ww):Bool:=Y8 (Xj2 a) (λ s _=>s) () 0 a.Scopes
def YV (a:Ww):Bool:=!decide (((a.Issued.length:Nat):Int)>4096)&&(!decide (((a.Scopes.length:Nat):Int)>64)&&((!(((a.Scopes.length:Nat):Int)==0)||!decide (((a.Slots.length:Nat):Int)>0))&&(Xmj a.Issued&&(stB a.Issued a.Slots&&(neB a.Slots.length a.Scopes&&Xf1 a)))))
def LBp (a:Ww):Prop:=a.Slots.length<=1000000/\a.Scopes.length<=1000000/\a.Issued.length<=1000000
theorem JD {n:Nat} {l:List U0} (h:neB n l=true) {i:Nat} {p:U0} (hp:l[i]? = some p):0<=p.From/\p.From<=n/\0<=p.Cap/\p.Cap<=64/\(i=0->p.From=0/\p.Base=true)/\∀ p',l[i+1]? = some p'->p.From<=p'.From:=by
 have hi:=(KA l (0:Int) 0).1 h
 have inv:∀ (k:Nat) (p:U0),l[k]? = some p->0<=p.From:=by
  intro k
  induction k with
  | zero =>
   intro p hp
   have:=hi 0 p hp
   unfold neQ at this
   simp at this
   omega
  | succ k ih =>
   intro p hp
   have hk:k<l.length:=by have:=Xy hp;omega
   have e:=Wd hk
   have h1:=ih _ e
   have h2:=hi (k+1) p hp
   rw[List.take_add_one,e] at h2
   simp only[List.foldl_append,Option.toList,IQ,List.foldl_nil] at h2
   unfold neQ at h2
   simp only[WE,Uv,Ud] at h2
   have:=h2.2.1
   omega
 have h0:=hi i p hp
 unfold neQ at h0
 simp only[WE,Uv,Ud,Ij,Ux,bne_eq_false_iff_eq] at h0
 refine ⟨inv i p hp,by omega,by omega,by omega,λ hz=>?_,λ p' hp'=>?_⟩
 ·subst hz
  rcases h0.1 with h | h
  ·cases h
  ·exact h
 ·have h2:=hi (i+1) p' hp'
  rw[List.take_add_one,hp] at h2
  simp only[List.foldl_append,Option.toList,IQ,List.foldl_nil] at h2
  unfold neQ at h2
  simp only[WE,Uv,Ud] at h2
  have:=h2.2.1
  omega
theorem Xh0 {iss:List Int} {l:List UX} (h:stB iss l=true) {i:Nat} {p:UX} (hp:l[i]? = some p):(i:Int)+1<=p.Stamp/\p.Stamp<=iss.length/\iss.getD (p.Stamp-1).toNat 0=i/\(p.Live=true↔p.Ref≠0):=by
 have hi:=(KA l (0:Int) 0).1 h
 have inv:∀ (k:Nat) (p:UX),l[k]? = some p->(k:Int)+1<=p.Stamp:=by
  intro k
  induction k with
  | zero =>
   intro p hp
   have:=hi 0 p hp
   unfold stQ at this
   simp only[WE,Uv,Ud,List.take_zero,List.foldl_nil] at this
   have:=WI this.1
   omega
  | succ k ih =>
   intro p hp
   have hk:k<l.length:=by have:=Xy hp;omega
   have e:=Wd hk
   have h1:=ih _ e
   have h2:=hi (k+1) p hp
   rw[List.take_add_one,e] at h2
   simp only[List.foldl_append,Option.toList,IQ,List.foldl_nil] at h2
   unfold stQ at h2
   simp only[WE,Uv,Ud] at h2
   have:=h2.1
   omega
 have h0:=hi i p hp
 unfold stQ at h0
 simp only[WE,Uv,Ud,Ux,bne_eq_false_iff_eq,beq_iff_eq] at h0
 refine ⟨inv i p hp,by omega,h0.2.2.1,?_⟩
 rw[h0.2.2.2]
 simp
structure OD (a:Ww):Prop where
 iss:a.Issued.length<=4096
 sc:a.Scopes.length<=64
 none:a.Scopes.length=0->a.Slots.length=0
 issr:∀ x∈a.Issued,0<=x/\x<=4095
 st:stB a.Issued a.Slots=true
 ne:neB a.Slots.length a.Scopes=true
 cap:Xf1 a=true
theorem ZW {a:Ww}:YV a=true↔OD a:=by
 unfold YV Xmj
 simp only[WE,Uv,Ud,Ij,Ue,IF]
 constructor
 ·rintro ⟨h1,h2,h3,h4,h5,h6,h7⟩
  exact ⟨by omega,by omega,λ e=>by omega,λ x hx=>by have:=h4 x hx;omega,h5,h6,h7⟩
 ·intro h
  exact ⟨by have:=h.iss;omega,by have:=h.sc;omega,by have:=h.none;omega,λ x hx=>by have:=h.issr x hx;omega,h.st,h.ne,h.cap⟩
theorem OD.slots {a:Ww} (h:OD a):a.Slots.length<=a.Issued.length:=by
 by_cases hz:a.Slots.length=0
 ·omega
 ·have e:=Wd (show a.Slots.length-1<a.Slots.length by omega)
  have:=Xh0 h.st e
  omega
theorem Xdx {N:Nat} {a:Ww} (hl:a.Slots.length<=1000000) (t:Nat) (ht:t<=a.Slots.length):∀ (n f c:Nat),t-f<n->c<=f->f<=1000000->Qc0 N a (t:Int) n (c:Int) (f:Int)=some (((c+KB a.Slots f t:Nat):Int))
 | 0,f,c,hn,_,_=>by omega
 | n+1,f,c,hn,hc,hf=>by
  rw[Qc0]
  by_cases h:f<t
  ·have hlt:f<a.Slots.length:=by omega
   rw[show decide ((f:Int)<(t:Int))=true from Wh (by omega),Wc,Xd,Wd hlt,Xa,Xh (by omega),Xh (by omega)]
   have e:KB a.Slots f t=(if a.Slots[f].Live then 1 else 0)+KB a.Slots (f+1) t:=by
    unfold KB
    rw[Wu hlt,show t-f=(t-(f+1))+1 by omega,Il,List.countP_cons]
    omega
   cases hL:a.Slots[f].Live
   ·rw[Wa,Xdx hl t ht n (f+1) c (by omega) (by omega) (by omega),e,hL]
    simp
   ·rw[Wc,Xdx hl t ht n (f+1) (c+1) (by omega) (by omega) (by omega),e,hL]
    simp;omega
  ·rw[show decide ((f:Int)<(t:Int))=false from Wj (by omega),Wa]
   unfold KB
   rw[show t-f=0 by omega]
   simp
theorem XgY {N:Nat} {a:Ww} (hl:a.Slots.length<=1000000) (hN:1000000<N) {f t:Int} (f0:0<=f) (f1:f<=1000000) (t0:0<=t) (t1:t<=a.Slots.length):QfH N a f t=some ((KB a.Slots f.toNat t.toNat:Nat):Int):=by
 obtain ⟨f,rfl⟩:=UE f0
 obtain ⟨t,rfl⟩:=UE t0
 rw[QfH]
 have:=Xdx (N:=N) hl t (by omega) N f 0 (by omega) (by omega) (by omega)
 rw[show ((0:Nat):Int)=0 from rfl] at this
 show bnd (Qc0 N a (t:Int) N 0 (f:Int)) _=_
 rw[this,Xa]
 simp
theorem Xo3 {N:Nat} {a:Ww} {i:Nat} (hi:i<=1000000):QgY N a (i:Int)=some (toL a i):=by
 rw[QgY,Xh (by omega),toL]
 by_cases h:i+1<a.Scopes.length
 ·rw[XE h,Wc,Xd,Wd h,Xa]
 ·rw[show decide (((i+1:Nat):Int)<((a.Scopes.length:Nat):Int))=false from Wj (by omega),Wa,WP (by omega)]
theorem Xo4 {a:Ww} (h:neB a.Slots.length a.Scopes=true) (i:Nat):0<=toL a i/\toL a i<=a.Slots.length:=by
 unfold toL
 cases e:a.Scopes[i+1]? with
 | none=>simp
 | some p=>have:=JD h e;simp only;omega
theorem ZQ {N:Nat} {a:Ww} (hl:LBp a) (hN:1000000<N):QbV N a=some (YV a):=by
 obtain ⟨hl1,hl2,hl3⟩:=hl
 have h1:=Kz (l:=a.Issued) (F:=Qdc N a) (q:=λ _ p=>!decide (p<0)&&!decide (p>4095)) (λ n k p e=>by
  have hk:=Xy e
  rw[Qdc,XE hk,Wc,Xd,e,Xa,Xa,Xh (by omega)]
  cases decide (p<0)<;>cases decide (p>4095)<;>rfl) (λ n=>by rw[Qdc,Xu,Wa]) (n:=N) (by omega)
 have h2:=KZ (l:=a.Slots) (F:=λ n s i=>Qaj N a n s i) (q:=stQ a.Issued) (nxp:=λ _ p=>p.Stamp) (I:=λ s=>0<=s) (λ n s k p hs e=>by
  have hk:=Xy e
  show Qaj N a (n+1) s (k:Int)=_
  rw[Qaj,XE hk,Wc,Xd,e,Xa,Xh (by omega)]
  unfold stQ
  cases g1:decide (p.Stamp<=s)
  ·cases g2:decide (p.Stamp>((a.Issued.length:Nat):Int))
   ·have g1:=WI g1
    have g2:=WI g2
    rw[Wa,Wa,Xc (by omega) (by omega),Yj (by omega) (by omega),Xa]
    have ge:a.Issued[(p.Stamp-1).toNat]'(by omega)=a.Issued.getD (p.Stamp-1).toNat 0:=by
     rw[Wp,Wd (by omega)];rfl
    rw[ge]
    cases (a.Issued.getD (p.Stamp-1).toNat 0 != (k:Int))<;>cases (p.Live==(p.Ref != 0))<;>rfl
   ·rfl
  ·rfl) (λ n s=>by show Qaj N a (n+1) s _=_;rw[Qaj,Xu,Wa]) (λ s k p hs e hq=>by
   unfold stQ at hq
   simp only[WE,Uv,Ud] at hq
   have:=hq.1
   omega) N 0 0 (by omega) (by omega) (by omega)
 have h3:=KZ (l:=a.Scopes) (F:=λ n s i=>Qah N a n s i) (q:=neQ a.Slots.length) (nxp:=λ _ p=>p.From) (I:=λ _=>True) (λ n s k p hs e=>by
  have hk:=Xy e
  show Qah N a (n+1) s (k:Int)=_
  rw[Qah,XE hk,Wc,Xd,e,Xa,Xh (by omega)]
  unfold neQ
  cases ((k:Int)==0)<;>cases (p.From != 0)<;>cases p.Base<;>cases decide (p.From<s)<;>cases decide (p.From>((a.Slots.length:Nat):Int))<;>cases decide (p.Cap<0)<;>cases decide (p.Cap>64)<;>rfl) (λ n s=>by show Qah N a (n+1) s _=_;rw[Qah,Xu,Wa]) (λ _ _ _ _ _ _=>trivial) N 0 0 trivial (by omega) (by omega)
 rw[WT] at h2 h3
 rw[Zq] at h1
 rw[QbV,XV,h1,Xa]
 have e2:Qaj N a N 0 0=some (bif stB a.Issued a.Slots then .nxt () else .ret false):=h2
 have e3:Qah N a N 0 0=some (bif neB a.Slots.length a.Scopes then .nxt () else .ret false):=h3
 unfold YV Xmj
 have main:(exK (bif (a.Issued.all λ p=>!decide (p<0)&&!decide (p>4095)) then Ex.nxt () else Ex.ret false) (λ r=>some r) λ y4 =>
  bnd (Qaj N a N 0 0) λ e=>exK e (λ r=>some r) λ y9 =>
  bnd (Qah N a N 0 0) λ e=>exK e (λ r=>some r) λ y13 =>
  bnd (QcE N a N 0) λ e=>exK e (λ r=>some r) λ y19=>some true)=some ((a.Issued.all λ p=>!decide (p<0)&&!decide (p>4095))&&(stB a.Issued a.Slots&&(neB a.Slots.length a.Scopes&&Xf1 a))):=by
  cases (a.Issued.all λ p=>!decide (p<0)&&!decide (p>4095))
  ·rw[Wa,XC];rfl
  rw[Wc,Xo,WR,e2,Xa]
  cases stB a.Issued a.Slots
  ·rw[Wa,XC];rfl
  rw[Wc,Xo,WR,e3,Xa]
  cases hne:neB a.Slots.length a.Scopes
  ·rw[Wa,XC];rfl
  rw[Wc,Xo,WR]
  have h4:=Kz (l:=a.Scopes) (F:=QcE N a) (q:=Xj2 a ()) (λ n k p e=>by
   have hk:=Xy e
   have hf:=JD hne e
   have ht:=Xo4 hne k
   rw[QcE,XE hk,Wc,Xd,e,Xa,Xo3 (by omega),Xa,XgY hl1 hN hf.1 (by omega) ht.1 ht.2,Xa,Xa,Xh (by omega)]
   unfold Xj2
   cases decide (((KB a.Slots p.From.toNat (toL a k).toNat:Nat):Int)>p.Cap)<;>rfl) (λ n=>by rw[QcE,Xu,Wa]) (n:=N) (by omega)
  rw[h4,Xa]
  show exK (bif Xf1 a then Ex.nxt () else Ex.ret false) _ _=_
  cases Xf1 a
  ·rw[Wa,XC]
  ·rw[Wc,Xo]
 rw[main]
 cases decide (((a.Issued.length:Nat):Int)>4096)<;>cases decide (((a.Scopes.length:Nat):Int)>64)<;>cases (((a.Scopes.length:Nat):Int)==0)<;>cases decide (((a.Slots.length:Nat):Int)>0)<;>rfl
end Go.Sx
namespace Go.Sx
def zL:Ww:=⟨[],[],[]⟩
def Ym (l:List UX):List Int:=(l.filter (·.Live)).map (·.Ref)
theorem XcG (l:List UX):(Ym l).length<=l.length:=by unfold Ym;rw[W3];exact List.length_filter_le _ _
section
variable {N:Nat} {a:Ww}
theorem XbD (hl:LBp a) (hN:1000000<N) (hv:YV a=true):∀ (n k:Nat) (v:List Int),k<=a.Slots.length->a.Slots.length-k<n->v.length<=k ->
 Qbd N a n (k:Int) v=some (v++Ym (a.Slots.drop k))
 | 0,k,v,_,hn,_=>by omega
 | n+1,k,v,hk,hn,hlv=>by
  have hl1:=hl.1
  rw[Qbd]
  by_cases h:k<a.Slots.length
  ·rw[XE h,Wc,ZQ hl hN,Xa,hv,Wc,Xd,Wd h,Xa,Xa,Xh (by omega),Wu h,Ym]
   cases hL:a.Slots[k].Live
   ·rw[Wa,XbD hl hN hv n (k+1) v (by omega) (by omega) (by omega),UF (by rw[hL];simp)]
    rfl
   ·rw[Wc,Xe (by omega),XbD hl hN hv n (k+1) _ (by omega) (by omega) (by rw[Wq];simp;omega),UR (by rw[hL])]
    simp[Ym]
  ·obtain rfl:k=a.Slots.length:=by omega
   rw[Xu,Wa,WL (Uf _)]
   simp[Ym]
theorem ZX (hl:LBp a) (hN:1000000<N):Qcs N a=some (bif YV a then Ym a.Slots else []):=by
 rw[Qcs]
 cases hv:YV a
 ·obtain ⟨m,rfl⟩:∃ m,N=m+1:=⟨N-1,by omega⟩
  rw[Qbd,ZQ hl hN,hv]
  by_cases h:0<a.Slots.length
  ·rw[show decide ((0:Int)<((a.Slots.length:Nat):Int))=true from Wh (by omega),Wc,Xa,Wa,Xa];rfl
  ·rw[show decide ((0:Int)<((a.Slots.length:Nat):Int))=false from Wj (by omega),Wa,Xa];rfl
 ·have h:=XbD hl hN hv N 0 [] (by omega) (by have:=hl.1;omega) (by simp)
  rw[show ((0:Nat):Int)=0 from rfl,WT,Uw] at h
  rw[h,Xa];rfl
def Vp (a:Ww):U0:=a.Scopes.getD (a.Scopes.length-1) ⟨0,0,false⟩
theorem XbE (h:a.Scopes.length≠0) (hl:a.Scopes.length<=1000000):Xb a.Scopes (wI (((a.Scopes.length:Nat):Int)-1))=some (Vp a):=by
 rw[Xc (by omega) (by omega),show ((a.Scopes.length:Nat):Int)-1=((a.Scopes.length-1:Nat):Int) by omega,Xd,Vp,Wp,Wd (by omega)]
 rfl
def Vq (a:Ww) (id:Int):Ww×Int×Int×Int :=
 if YV a=false then (zL,0,0,1) else if id=0 then (zL,0,0,1) else if a.Scopes.length=0 then (zL,0,0,9)
 else if (Vp a).Cap<=((KB a.Slots (Vp a).From.toNat a.Slots.length:Nat):Int) then (zL,0,0,10)
 else if a.Issued.length=4096 then (zL,0,0,18)
 else (⟨a.Slots++[⟨(a.Issued.length:Int)+1,id,true⟩],a.Scopes,a.Issued++[(a.Slots.length:Int)]⟩,(a.Slots.length:Int),(a.Issued.length:Int)+1,0)
theorem XeU (hv:YV a=true) (h:a.Scopes.length≠0):0<=(Vp a).From/\(Vp a).From<=a.Slots.length:=by
 have hf:=ZW.1 hv
 have e:=Wd (show a.Scopes.length-1<a.Scopes.length by omega)
 have:=JD hf.ne e
 have e2:Vp a=a.Scopes[a.Scopes.length-1]:=by unfold Vp;rw[Wp,e];rfl
 rw[e2];omega
theorem VQ (hl:LBp a) (hN:1000000<N) (id:Int):QdS N a id=some (Vq a id):=by
 obtain ⟨hl1,hl2,hl3⟩:=hl
 rw[QdS,ZQ ⟨hl1,hl2,hl3⟩ hN,Xa,Vq]
 cases hv:YV a
 ·rfl
 rw[Ws,Wa,Wk (by simp)]
 by_cases h1:id=0
 ·subst h1;rfl
 rw[Wk h1,show (id==0)=false by simpa using h1,Wa]
 by_cases h2:a.Scopes.length=0
 ·rw[Wm h2,h2];rfl
 rw[Wk h2,show (((a.Scopes.length:Nat):Int)==0)=false by simpa using h2,Wa,XbE h2 hl2,Xa]
 have ht:=XeU hv h2
 rw[XgY hl1 hN ht.1 (by omega) (by omega) (by omega),Xa,Xa,IB]
 by_cases h3:(Vp a).Cap<=((KB a.Slots (Vp a).From.toNat a.Slots.length:Nat):Int)
 ·rw[Wm h3,Wh (show ((KB a.Slots (Vp a).From.toNat a.Slots.length:Nat):Int)>=_ from h3),Wc];rfl
 rw[Wk h3,Wj (show ¬ ((KB a.Slots (Vp a).From.toNat a.Slots.length:Nat):Int)>=_ from h3),Wa]
 by_cases h4:a.Issued.length=4096
 ·rw[Wm h4,h4];rfl
 rw[Wk h4,show (((a.Issued.length:Nat):Int)==4096)=false by simp;omega,Wa,Xe (by omega),Xe (by omega),Xe (by omega),Xe (by omega),Xc (by omega) (by omega)]
theorem Zj:LBp zL:=⟨by simp[zL],by simp[zL],by simp[zL]⟩
theorem XgZ (hl:LBp a) (id:Int):LBp (Vq a id).1:=by
 obtain ⟨hl1,hl2,hl3⟩:=hl
 unfold Vq
 cases hv:YV a
 ·exact Zj
 have hf:=ZW.1 hv
 have hs:=hf.slots
 have hi:=hf.iss
 split
 ·exact Zj
 split
 ·exact Zj
 split
 ·exact Zj
 split
 ·exact Zj
 split
 ·exact Zj
 refine ⟨?_,hl2,?_⟩
 ·show (a.Slots++[_]).length<=_
  rw[Wq];simp;omega
 ·show (a.Issued++[_]).length<=_
  rw[Wq];simp;omega
def Zo (a:Ww) (i g:Int):Int×Int :=
 if YV a=false then (0,1) else if g<1\/(a.Issued.length:Int)<g then (0,6) else
 if a.Issued.getD (g-1).toNat 0≠i then (0,6) else if (a.Slots.length:Int)<=i then (0,7) else
 match a.Slots[i.toNat]? with
 | none=>(0,7)
 | some p=>if p.Stamp≠g then (0,7) else if p.Live then (p.Ref,0) else (0,8)
theorem Xdy (hl:LBp a) (hN:1000000<N) (i g:Int):Qen N a i g=some (Zo a i g):=by
 have hl':=hl
 obtain ⟨hl1,hl2,hl3⟩:=hl
 rw[Qen,ZQ hl' hN,Xa,Zo]
 cases hv:YV a
 ·rfl
 have hf:=ZW.1 hv
 rw[Ws,Wa,Wk (by simp)]
 by_cases h1:g<1
 ·rw[Wh h1,Wc,Wm (.inl h1)]
 rw[Wj h1,Wa]
 by_cases h2:g>((a.Issued.length:Nat):Int)
 ·rw[Wh h2,Wc,Wm (.inr h2)]
 have hlt:(g-1).toNat<a.Issued.length:=by omega
 rw[Wj h2,Wa,Wk (by omega),Xc (by omega) (by omega),Yj (by omega) (by omega),Xa]
 have ge:a.Issued[(g-1).toNat]=a.Issued.getD (g-1).toNat 0:=by rw[Wp,Wd hlt];rfl
 have hm:=hf.issr _ (WU hlt)
 rw[ge] at hm ⊢
 by_cases h3:a.Issued.getD (g-1).toNat 0=i
 ·rw[h3] at hm ⊢
  rw[show (i != i)=false by simp,Wa,Wk (by simp)]
  by_cases h4:i>=((a.Slots.length:Nat):Int)
  ·rw[Wh h4,Wc,Wm h4]
  ·have hlt2:i.toNat<a.Slots.length:=by omega
   rw[Wj h4,Wa,Wk (by omega),Yj (by omega) (by omega),Xa,Wd hlt2]
   simp only[Xa]
   by_cases h5:a.Slots[i.toNat].Stamp=g
   ·rw[h5,show (g != g)=false by simp,Wa,Wk (by simp)]
    cases a.Slots[i.toNat].Live<;>rfl
   ·rw[show (a.Slots[i.toNat].Stamp != g)=true by simpa using h5,Wc,Wm h5]
 ·rw[show (a.Issued.getD (g-1).toNat 0 != i)=true by simpa using h3,Wc,Wm h3]
theorem XcH {i g:Int} (h:(Zo a i g).2=0):YV a=true/\0<=i/\∃ p,a.Slots[i.toNat]? = some p/\p.Stamp=g/\p.Live=true/\(Zo a i g).1=p.Ref:=by
 unfold Zo at h ⊢
 cases hv:YV a
 ·rw[hv] at h;cases h
 have hf:=ZW.1 hv
 rw[hv] at h
 rw[Wk (by simp)] at h ⊢
 by_cases h1:g<1\/(a.Issued.length:Int)<g
 ·rw[Wm h1] at h;cases h
 rw[Wk h1] at h ⊢
 have hlt:(g-1).toNat<a.Issued.length:=by omega
 have ge:a.Issued[(g-1).toNat]=a.Issued.getD (g-1).toNat 0:=by rw[Wp,Wd hlt];rfl
 have hm:=hf.issr _ (WU hlt)
 rw[ge] at hm
 by_cases h2:a.Issued.getD (g-1).toNat 0≠i
 ·rw[Wm h2] at h;cases h
 rw[Wk h2] at h ⊢
 by_cases h3:(a.Slots.length:Int)<=i
 ·rw[Wm h3] at h;cases h
 rw[Wk h3] at h ⊢
 have hi:0<=i:=by have:a.Issued.getD (g-1).toNat 0=i:=Classical.not_not.1 h2;omega
 have e:=Wd (show i.toNat<a.Slots.length by omega)
 rw[e] at h ⊢
 simp only at h ⊢
 by_cases h4:a.Slots[i.toNat].Stamp≠g
 ·rw[Wm h4] at h;cases h
 rw[Wk h4] at h ⊢
 cases hL:a.Slots[i.toNat].Live
 ·rw[hL] at h;cases h
 ·exact ⟨trivial,hi,_,rfl,Classical.not_not.1 h4,hL,rfl⟩
def Xah (a:Ww) (i g:Int):Ww×Int :=
 if (Zo a i g).2≠0 then (zL,(Zo a i g).2) else (⟨a.Slots.set i.toNat ⟨g,0,false⟩,a.Scopes,a.Issued⟩,0)
theorem Xdz (hl:LBp a) (hN:1000000<N) (i g:Int):Qdu N a i g=some (Xah a i g):=by
 rw[Qdu,Xdy hl hN,Xa,Xah]
 by_cases h:(Zo a i g).2=0
 ·obtain ⟨_,h0,p,hp,_⟩:=XcH h
  have:=Xy hp
  have hl1:=hl.1
  rw[h,show ((0:Int) != 0)=false from rfl,Wa,Wk (by simp),Xe (by omega),Yj h0 (by omega),Xa]
 ·rw[show ((Zo a i g).2 != 0)=true by simpa using h,Wc,Wm h];rfl
theorem Xg0 (hl:LBp a) (i g:Int):LBp (Xah a i g).1:=by
 unfold Xah
 split
 ·exact Zj
 ·exact ⟨by show (a.Slots.set _ _).length<=_;rw[Wx];exact hl.1,hl.2⟩
def Jf (a:Ww) (c:Int):Ww×Int :=
 if YV a=false\/c<0\/64<c then (zL,1) else if a.Scopes.length=0 then (zL,9) else if a.Scopes.length=64 then (zL,17) else (⟨a.Slots,a.Scopes++[⟨(a.Slots.length:Int),c,false⟩],a.Issued⟩,0)
theorem VR (hl:LBp a) (hN:1000000<N) (c:Int):QdL N a c=some (Jf a c):=by
 have hl2:=hl.2.1
 rw[QdL,QfK,ZQ hl hN,Xa,Jf]
 cases hv:YV a
 ·rw[W0,Wc,Xa,Wm (.inl rfl)];rfl
 rw[Ws,Wa]
 by_cases h1:c<0
 ·rw[Wh h1,Wc,Xa,Wm (.inr (.inl h1))];rfl
 by_cases h2:c>64
 ·rw[Wj h1,Wa,Wh h2,Wc,Xa,Wm (.inr (.inr h2))];rfl
 rw[Wj h1,Wa,Wj h2,Wa,XV,W0,Wc,Wk (by rintro (h | h | h);cases h;exact h1 h;exact h2 h)]
 by_cases h3:a.Scopes.length=0
 ·rw[Wm h3,h3];rw[show (((0:Nat):Int)==0)=true from rfl,Wc,Xa];rfl
 rw[Wk h3,show (((a.Scopes.length:Nat):Int)==0)=false by simpa using h3,Wa]
 by_cases h4:a.Scopes.length=64
 ·rw[Wm h4,h4];rw[show (((64:Nat):Int)==64)=true from rfl,Wc,Xa];rfl
 rw[Wk h4,show (((a.Scopes.length:Nat):Int)==64)=false by simp;omega,Wa,Xe (by omega),Xe (by omega),Xa]
theorem XeV (hl:LBp a) (c:Int):LBp (Jf a c).1:=by
 unfold Jf
 cases hv:YV a
 ·exact Zj
 have:=(ZW.1 hv).sc
 split
 ·exact Zj
 split
 ·exact Zj
 split
 ·exact Zj
 ·exact ⟨hl.1,by show (a.Scopes++[_]).length<=_;rw[Wq];simp;omega,hl.2.2⟩
def Zz (a:Ww):Ww×Int :=
 if YV a=false then (zL,1) else if a.Scopes.length=0 then (zL,9) else if (Vp a).Base then (zL,9) else (⟨a.Slots.take (Vp a).From.toNat,a.Scopes.take (a.Scopes.length-1),a.Issued⟩,0)
theorem XaY (hl:LBp a) (hN:1000000<N):Qeo N a=some (Zz a):=by
 obtain ⟨hl1,hl2,hl3⟩:=hl
 rw[Qeo,ZQ ⟨hl1,hl2,hl3⟩ hN,Xa,Zz]
 cases hv:YV a
 ·rfl
 rw[Ws,Wa,Wk (by simp)]
 by_cases h2:a.Scopes.length=0
 ·rw[Wm h2,h2];rfl
 have ht:=XeU hv h2
 rw[Wk h2,show (((a.Scopes.length:Nat):Int)==0)=false by simpa using h2,Wa,XbE h2 hl2,Xa]
 cases hB:(Vp a).Base
 ·rw[Wa,Qgd,XbE h2 hl2,Xa,Xc (by omega) (by omega),Xe (by omega),Xe (by omega),Xe (by omega),Xe (by omega),Xa]
  rw[show (((a.Scopes.length:Nat):Int)-1).toNat=a.Scopes.length-1 by omega]
  rfl
 ·rw[Wc];rfl
theorem XaZ (hl:LBp a):LBp (Zz a).1:=by
 unfold Zz
 split
 ·exact Zj
 split
 ·exact Zj
 split
 ·exact Zj
 ·obtain ⟨hl1,hl2,hl3⟩:=hl
  exact ⟨by show (a.Slots.take _).length<=_;rw[Wy];omega,by show (a.Scopes.take _).length<=_;rw[Wy];omega,hl3⟩
theorem XbF (rs:List Int) (hl:a.Slots.length<=1000000):∀ (n k:Nat) (c:Int) (v:List UX),k<=a.Slots.length->a.Slots.length-k<n->v.length=a.Slots.length->v.drop k=a.Slots.drop k->0<=c->c+(Ym (a.Slots.drop k)).length=rs.length->rs.length<=1000000 ->
 Ok (QaY N a rs n c (k:Int) v) λ e=>match e with | .ret r=>r=(zL,1) | .nxt v=>v.length=a.Slots.length
 | 0,k,c,v,_,hn,_,_,_,_,_=>by omega
 | n+1,k,c,v,hk,hn,hv,hd,hc,hr,hrl=>by
  rw[QaY]
  refine WS (by omega) (Wo (λ h=>?_) λ h=>Wg hv)
  have h:k<a.Slots.length:=by have:=Wr h;omega
  have hkv:(k:Int)<v.length:=by omega
  rw[Xh (by omega)]
  have hdv:=Wu (show k<v.length by omega)
  have hda:=Wu h
  rw[hd,hda] at hdv
  have e1:a.Slots[k]=v[k]:=(Oa hdv).1
  have e2:a.Slots.drop (k+1)=v.drop (k+1):=(Oa hdv).2
  refine Ok.get (by omega) hkv λ p hp=>?_
  have hpe:p=a.Slots[k]:=by
   rw[Xd,Wd (by omega),← e1] at hp
   exact (WV hp).symm
  rw[hda] at hr
  refine Wo (λ hL=>?_) λ hL=>?_
  ·have hL:a.Slots[k].Live=false:=by rw[← hpe];simpa using hL
   refine XbF rs hl n (k+1) c v (by omega) (by omega) hv e2.symm hc ?_ hrl
   rw[← hr];unfold Ym;rw[UF (by rw[hL];simp)]
  ·have hL:a.Slots[k].Live=true:=by rw[← hpe];simpa using hL
   have hr2:c+1+(Ym (a.Slots.drop (k+1))).length=rs.length:=by
    rw[← hr];unfold Ym;rw[UR (by rw[hL]),W7,Ub];omega
   refine Ok.get hc (by omega) λ q _=>Wo (λ _=>Wg rfl) λ _=>Ok.get hc (by omega) λ q _=>Ok.get (by omega) hkv λ p' _=>?_
   rw[Xc (n:=c+1) (by omega) (by omega)]
   refine XbF rs hl n (k+1) (c+1) _ (by omega) (by omega) (by rw[Wx];exact hv) ?_ (by omega) hr2 hrl
   rw[List.drop_set_of_lt (by omega)]
   exact e2.symm
theorem Xj3 (hl:LBp a) (hN:1000000<N) {rs:List Int} (hr:rs.length<=1000000):Ok (QdK N a rs) λ r=>LBp r.1:=by
 have hl':=hl
 obtain ⟨hl1,hl2,hl3⟩:=hl
 rw[QdK,ZQ hl' hN,Xa]
 refine Wo (λ _=>Wg Zj) λ hv=>?_
 have hv:YV a=true:=by simpa using hv
 rw[ZX hl' hN,Xa,hv,Wc]
 refine Wo (λ _=>Wg Zj) λ he=>WS (by omega) ?_
 have he:((rs.length:Nat):Int)=(((Ym a.Slots).length:Nat):Int):=by simpa using he
 refine IT (XbF rs hl1 N 0 0 a.Slots (by omega) (by omega) rfl rfl (by omega) (by rw[WT];omega) hr) (λ r q=>Wg (by have q:r=(zL,1):=q;rw[q];exact Zj)) λ v q=>Wg ⟨?_,hl2,hl3⟩
 have q:v.length=a.Slots.length:=q
 show v.length<=_
 omega
end
end Go.Sx
namespace Go.Sx
def TB (t:WG):Prop:=t.Entries.length<=1000000
def zT:WG:=⟨[]⟩
theorem XbG:TB zT:=by simp[TB,zT]
section
variable {N:Nat} {t:WG}
def Xg1 (l:List Ua):Option Nat:=l.findIdx? λ e=>!e.Live&&decide (e.Gen<4294967295)
def JE (t:WG) (id:Int):WG×Int×Int×Int :=
 if YL t.Entries=false then (zT,0,0,1) else
 match Xg1 t.Entries with
 | some k=>(⟨t.Entries.set k ⟨(t.Entries.getD k ⟨0,0,false⟩).Gen+1,id,true⟩⟩,(k:Int),(t.Entries.getD k ⟨0,0,false⟩).Gen+1,0)
 | none=>if t.Entries.length=64 then (zT,0,0,18) else (⟨t.Entries++[⟨1,id,true⟩]⟩,(t.Entries.length:Int),1,0)
theorem Xg2 (hl:TB t) (hv:YL t.Entries=true) (id:Int):∀ (n k:Nat),k<=t.Entries.length->t.Entries.length-k<n->Qbs N t id n (k:Int)=some (match (t.Entries.drop k).findIdx? (λ e=>!e.Live&&decide (e.Gen<4294967295)) with
 | some j=>.ret (⟨t.Entries.set (k+j) ⟨(t.Entries.getD (k+j) ⟨0,0,false⟩).Gen+1,id,true⟩⟩,((k+j:Nat):Int),(t.Entries.getD (k+j) ⟨0,0,false⟩).Gen+1,0)
 | none=>.nxt ())
 | 0,k,_,hn=>by omega
 | n+1,k,hk,hn=>by
  unfold TB at hl
  rw[Qbs,Xe (by omega)]
  by_cases h:k<t.Entries.length
  ·have e:=Wd h
   have gd:t.Entries.getD k ⟨0,0,false⟩=t.Entries[k]:=by rw[Wp,e];rfl
   have hg:=Xj1 hv (WU h)
   rw[XE h,Wc,Xd,e]
   simp only[Xa]
   rw[Xh (by omega),Wu h,List.findIdx?_cons]
   have next:=Xg2 hl hv id n (k+1) (by omega) (by omega)
   have go:Qbs N t id n ((k+1:Nat):Int)=some (match Option.map (λ i=>i+1) ((t.Entries.drop (k+1)).findIdx? (λ e=>!e.Live&&decide (e.Gen<4294967295))) with
    | some j=>.ret (⟨t.Entries.set (k+j) ⟨(t.Entries.getD (k+j) ⟨0,0,false⟩).Gen+1,id,true⟩⟩,((k+j:Nat):Int),(t.Entries.getD (k+j) ⟨0,0,false⟩).Gen+1,0)
    | none=>.nxt ()):=by
    rw[next]
    cases (t.Entries.drop (k+1)).findIdx? (λ e=>!e.Live&&decide (e.Gen<4294967295)) with
    | none=>rfl
    | some j=>simp only[Iw];rw[show k+1+j=k+(j+1) by omega]
   cases hL:t.Entries[k].Live
   ·cases hG:decide (t.Entries[k].Gen<4294967295)
    ·rw[W0,Wc,Wa,Of,Wk (by simp)]
     exact go
    ·have hG:=Wr hG
     rw[W0,Wc,Wc,Bool.and_true,Wm rfl]
     have hk2:(k:Int).toNat=k:=by omega
     rw[Xc (by omega) (by omega),hk2,Xd,Ih,Wm rfl,Wm h,Xa]
     simp only[U9]
     rw[gd]
   ·rw[Ws,Wa,Um,Wk (by simp)]
    exact go
  ·obtain rfl:k=t.Entries.length:=by omega
   rw[Xu,Wa,WL (Uf _)]
   rfl
theorem KC (hl:TB t) (hN:1000000<N) (id:Int):Qce N t id=some (JE t id):=by
 have hl':=hl
 unfold TB at hl
 rw[Qce,Zy hl hN,Xa,JE]
 cases hv:YL t.Entries
 ·rfl
 have h1:=Xg2 (N:=N) hl' hv id N 0 (by omega) (by omega)
 rw[show ((0:Nat):Int)=0 from rfl,WT] at h1
 rw[Ws,Wa,Xe (by omega),h1,Xa,Wk (by simp),Xg1]
 cases t.Entries.findIdx? (λ e=>!e.Live&&decide (e.Gen<4294967295)) with
 | some j=>simp only[XC,Ux]
 | none =>
  simp only[Xo]
  rw[Xe (by omega)]
  by_cases h:t.Entries.length=64
  ·rw[Wm h,h];rfl
  ·rw[Wk h,show (((t.Entries.length:Nat):Int)==64)=false by simp;omega,Wa,Xe (by omega),Xe (by omega)]
theorem Xg3 (hl:TB t) (id:Int):TB (JE t id).1:=by
 unfold JE
 cases hv:YL t.Entries
 ·exact XbG
 have:=VO hv
 rw[Wk (by simp)]
 cases Xg1 t.Entries with
 | some k=>show (t.Entries.set _ _).length<=_;rw[Wx];exact hl
 | none =>
  simp only
  split
  ·exact XbG
  ·show (t.Entries++[_]).length<=_
   rw[Wq];simp;omega
theorem XcI {i g:Int} (h:(Zf t.Entries i g).2=0):YL t.Entries=true/\0<=i/\∃ p,t.Entries[i.toNat]? = some p/\p.Gen=g/\p.Live=true/\(Zf t.Entries i g).1=p.Ref:=by
 unfold Zf at h ⊢
 cases hv:YL t.Entries
 ·rw[hv] at h;cases h
 rw[hv] at h
 rw[Wk (by simp)] at h ⊢
 by_cases h1:i<0\/(t.Entries.length:Int)<=i\/g<1
 ·rw[Wm h1] at h;cases h
 rw[Wk h1] at h ⊢
 have e:=Wd (show i.toNat<t.Entries.length by omega)
 rw[e] at h ⊢
 simp only at h ⊢
 by_cases h4:g>t.Entries[i.toNat].Gen
 ·rw[Wm h4] at h;cases h
 rw[Wk h4] at h ⊢
 by_cases h5:g<t.Entries[i.toNat].Gen
 ·rw[Wm h5] at h;cases h
 rw[Wk h5] at h ⊢
 cases hL:t.Entries[i.toNat].Live
 ·rw[hL] at h;cases h
 ·exact ⟨trivial,by omega,_,rfl,by omega,hL,rfl⟩
def JF (t:WG) (i g:Int):WG×Int :=
 if (Zf t.Entries i g).2≠0 then (zT,(Zf t.Entries i g).2) else (⟨t.Entries.set i.toNat ⟨g,0,false⟩⟩,0)
theorem JW (hl:TB t) (hN:1000000<N) (i g:Int):Qcl N t i g=some (JF t i g):=by
 have hl':=hl
 unfold TB at hl
 rw[Qcl,VP hl hN,Xa,JF]
 by_cases h:(Zf t.Entries i g).2=0
 ·obtain ⟨_,h0,p,hp,_⟩:=XcI h
  have:=Xy hp
  rw[h,show ((0:Int) != 0)=false from rfl,Wa,Wk (by simp),Qgc,Xe (by omega),Yj h0 (by omega),Xa,Xa]
 ·rw[show ((Zf t.Entries i g).2 != 0)=true by simpa using h,Wc,Wm h];rfl
theorem Xg4 (hl:TB t) (i g:Int):TB (JF t i g).1:=by
 unfold JF
 split
 ·exact XbG
 ·show (t.Entries.set _ _).length<=_;rw[Wx];exact hl
theorem XbH (rs:List Int) (hl:t.Entries.length<=1000000):∀ (n k:Nat) (c:Int) (v:List Ua),k<=t.Entries.length->t.Entries.length-k<n->v.length=t.Entries.length->v.drop k=t.Entries.drop k->0<=c->c+(XZ (t.Entries.drop k)).length=rs.length->rs.length<=1000000 ->
 Ok (QaZ N rs n c (k:Int) v) λ v=>v.length=t.Entries.length
 | 0,k,c,v,_,hn,_,_,_,_,_=>by omega
 | n+1,k,c,v,hk,hn,hv,hd,hc,hr,hrl=>by
  rw[QaZ]
  refine WS (by omega) (Wo (λ h=>?_) λ h=>Wg hv)
  have h:k<t.Entries.length:=by have:=Wr h;omega
  have hkv:(k:Int)<v.length:=by omega
  rw[Xh (by omega)]
  have hdv:=Wu (show k<v.length by omega)
  have hda:=Wu h
  rw[hd,hda] at hdv
  have e1:t.Entries[k]=v[k]:=(Oa hdv).1
  have e2:t.Entries.drop (k+1)=v.drop (k+1):=(Oa hdv).2
  refine Ok.get (by omega) hkv λ p hp=>?_
  have hpe:p=t.Entries[k]:=by
   rw[Xd,Wd (by omega),← e1] at hp
   exact (WV hp).symm
  rw[hda] at hr
  refine Wo (λ hL=>?_) λ hL=>?_
  ·have hL:t.Entries[k].Live=true:=by rw[← hpe];exact hL
   have hr2:c+1+(XZ (t.Entries.drop (k+1))).length=rs.length:=by
    rw[← hr];unfold XZ;rw[UR (by rw[hL]),W7,Ub];omega
   refine Ok.get hc (by omega) λ q _=>Ok.get (by omega) hkv λ p' _=>?_
   rw[Xc (n:=c+1) (by omega) (by omega)]
   refine XbH rs hl n (k+1) (c+1) _ (by omega) (by omega) (by rw[Wx];exact hv) ?_ (by omega) hr2 hrl
   rw[List.drop_set_of_lt (by omega)]
   exact e2.symm
  ·have hL:t.Entries[k].Live=false:=by rw[← hpe];exact hL
   refine XbH rs hl n (k+1) c v (by omega) (by omega) hv e2.symm hc ?_ hrl
   rw[← hr];unfold XZ;rw[UF (by rw[hL];simp)]
theorem XcJ (hl:TB t) (hN:1000000<N) {rs:List Int} (hr:rs.length<=1000000):Ok (Qcv N t rs) λ r=>r.1.Entries.length<=t.Entries.length:=by
 have hl':=hl
 unfold TB at hl
 rw[Qcv,Zy hl hN,Xa]
 refine Wo (λ _=>Wg (by simp)) λ hv=>?_
 have hv:YL t.Entries=true:=by simpa using hv
 have hll:=Xag t.Entries
 rw[Yy hl hN,Xa,hv,Wc]
 refine WS (by omega) (Wo (λ _=>Wg (by simp)) λ he=>WS (by omega) ?_)
 have he:((rs.length:Nat):Int)=(((XZ t.Entries).length:Nat):Int):=by simpa using he
 refine WH (XbH rs hl N 0 0 t.Entries (by omega) (by omega) rfl rfl (by omega) (by rw[WT];omega) hr) λ v _ q=>Wg ?_
 show v.length<=_
 omega
theorem XeW (hl:TB t) (hN:1000000<N) {rs:List Int} (hr:rs.length<=1000000):Ok (Qcv N t rs) λ r=>TB r.1:=(XcJ hl hN hr).mono λ r h=>Ur h hl
theorem XbI {k:Nat} (hl:t.Entries.length<=1000+k) (id:Int):(JE t id).1.Entries.length<=1000+k:=by
 unfold JE
 cases hv:YL t.Entries
 ·simp[zT]
 have:=VO hv
 rw[Wk (by simp)]
 cases Xg1 t.Entries with
 | some k=>show (t.Entries.set _ _).length<=_;rw[Wx];exact hl
 | none =>
  simp only
  split
  ·simp[zT]
  ·show (t.Entries++[_]).length<=_
   rw[Wq];simp;omega
theorem XeX {k:Nat} (hl:t.Entries.length<=1000+k) (i g:Int):(JF t i g).1.Entries.length<=1000+k:=by
 unfold JF
 split
 ·simp[zT]
 ·show (t.Entries.set _ _).length<=_;rw[Wx];exact hl
end
end Go.Sx
