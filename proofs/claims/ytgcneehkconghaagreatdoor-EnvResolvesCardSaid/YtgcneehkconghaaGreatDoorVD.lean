import Derived.KernelRfl
import Derived.Test.YtgcneehkconghaaGreatDoorVC
set_option linter.all false
namespace Go.Sx
def Ok {α:Type} (o:Option α) (P:α->Prop):Prop:=∃ r,o=some r/\P r
section
variable {α β γ:Type} {P:β->Prop}
theorem Xa (x:α) (f:α->Option β):bnd (some x) f=f x:=by unfold bnd;rfl
theorem Xal (f:α->Option β):bnd none f=none:=by unfold bnd;rfl
theorem Xe {p:Prop} [Decidable p] (h:p) (x:Option α):grd p x=x:=by unfold grd;rw[Wm h]
theorem XV {κ:Type} (k:κ) (f:κ->γ):jn k f=f k:=by unfold jn;rfl
theorem XC (a:α) (f:α->γ) (k:β->γ):exK (.ret a) f k=f a:=by unfold exK;rfl
theorem Xr (b:β) (f:α->γ) (k:β->γ):exK (.nxt b) f k=k b:=by unfold exK;rfl
theorem Xd (l:List α) (k:Nat):Xb l (k:Int)=l[k]?:=by unfold Xb;simp
theorem Yc {l:List α} {i:Int} (h0:0<=i) (h1:i<l.length):Xb l i=some (l[i.toNat]'(by omega)):=by
 unfold Xb;rw[Wm h0];exact Wd _
theorem Ve {l:List α} {i:Int} {p:α}:Xb l i=some p↔0<=i/\l[i.toNat]? = some p:=by
 unfold Xb
 by_cases h0:0<=i
 ·rw[Wm h0];exact ⟨λ h=>⟨h0,h⟩,λ h=>h.2⟩
 ·rw[Wk h0];exact ⟨λ h=>(by cases h),λ h=>absurd h.1 h0⟩
theorem Yp {l:List α} {i:Int} {p:α} (h:Xb l i=some p):p∈l:=Uh (Ve.1 h).2
theorem XhU {l:List α} {i:Int} (h:¬ (0<=i/\i<l.length)):Xb l i=none:=by
 unfold Xb;split
 ·exact WQ (by omega)
 ·rfl
theorem Wg {x:β} (h:P x):Ok (some x) P:=⟨x,rfl,h⟩
theorem WG {o:Option α} {f:α->Option β} {Q:α->Prop} (h:Ok o Q) (k:∀ y,o=.some y->Q y->Ok (f y) P):Ok (Sx.bnd o f) P:=by
 obtain ⟨y,rfl,hq⟩:=h;rw[Xa];exact k y rfl hq
theorem WS {p:Prop} [Decidable p] {x:Option β} (h:p) (k:Ok x P):Ok (Sx.grd p x) P:=by rw[Xe h];exact k
theorem Is {κ:Type} {k:κ} {f:κ->Option β} (h:Ok (f k) P):Ok (Sx.jn k f) P:=by rw[XV];exact h
theorem Wo {b:Bool} {x y:Option β} (h1:b=true->Ok x P) (h2:b=false->Ok y P):Ok (bif b then x else y) P:=by
 cases b
 ·exact h2 rfl
 ·exact h1 rfl
theorem Ok.get {l:List α} {i:Int} {f:α->Option β} (h0:0<=i) (h1:i<l.length) (k:∀ p,Xb l i=.some p->Ok (f p) P):Ok (Sx.bnd (Xb l i) f) P:=by
 rw[Yc h0 h1,Xa];exact k _ (Yc h0 h1)
theorem Ok.mono {o:Option β} {Q:β->Prop} (h:Ok o Q) (k:∀ x,Q x->P x):Ok o P:=by
 obtain ⟨y,rfl,hq⟩:=h;exact ⟨y,rfl,k y hq⟩
theorem OJ {o:Option β} {x:β} (h:o=.some x) (hp:P x):Ok o P:=⟨x,h,hp⟩
theorem Ok.get_eq {o:Option β} {x:β} (h:Ok o P) (e:o=.some x):P x:=by
 obtain ⟨y,h1,h2⟩:=h;rw[e] at h1;exact WP h1▸h2
theorem Ok.isSome {o:Option β} (h:Ok o P):o≠none:=by obtain ⟨y,rfl,_⟩:=h;simp
theorem IS {α':Type} {o:Option (Ex α' α)} {f:α'->Option β} {k:α->Option β} {Q:Ex α' α->Prop} (h:Ok o Q) (h1:∀ a,Q (.ret a)->Ok (f a) P) (h2:∀ b,Q (.nxt b)->Ok (k b) P):Ok (Sx.bnd o λ e=>exK e f k) P:=by
 obtain ⟨y,rfl,hq⟩:=h
 rw[Xa]
 cases y with
 | ret a=>rw[XC];exact h1 a hq
 | nxt b=>rw[Xr];exact h2 b hq
end
theorem Xc {n:Int} (h1 : -9223372036854775808<=n) (h2:n<=9223372036854775807):wI n=n:=by
 have e:wI n=if n % 18446744073709551616>=9223372036854775808 then n % 18446744073709551616-18446744073709551616 else n % 18446744073709551616:=by
  have e1:IntKind.bits .i64=64:=rfl
  have e2:IntKind.signed .i64=true:=rfl
  simp[wI,IntKind.wrap,e1,e2]
 rw[e]
 split<;>omega
theorem XbB (n:Int):wU n=n % 18446744073709551616:=by
 have e1:IntKind.bits .u64=64:=rfl
 have e2:IntKind.signed .u64=false:=rfl
 simp[wU,IntKind.wrap,e1,e2]
theorem Xv {n:Int} (h1:0<=n) (h2:n<=18446744073709551615):wU n=n:=by rw[XbB];omega
theorem VK (n:Int):0<=wU n/\wU n<=18446744073709551615:=by rw[XbB];omega
theorem XjH (n:Int):wW n=n % 4294967296:=by
 have e1:IntKind.bits .u32=32:=rfl
 have e2:IntKind.signed .u32=false:=rfl
 simp[wW,IntKind.wrap,e1,e2]
theorem Xnn {n:Int} (h1:0<=n) (h2:n<=4294967295):wW n=n:=by rw[XjH];omega
theorem XjI {n:Int} (h0:0<=n) (h1:n<=63):ZM .u64 1 n=2 ^ n.toNat:=by
 have e1:IntKind.bits .u64=64:=rfl
 have h:min n.toNat 64=n.toNat:=by omega
 have hp:(2:Int) ^ n.toNat<=2 ^ 63:=by
  have:2 ^ n.toNat<=2 ^ 63:=IW (by omega) (by omega)
  exact_mod_cast this
 have hq:(0:Int)<=2 ^ n.toNat:=Int.pow_nonneg (by decide)
 show IntKind.wrap .u64 (1*2 ^ min n.toNat (IntKind.bits .u64))=_
 rw[e1,h,Od]
 exact Xv hq (by omega)
theorem YF (a:Int) (k:Nat) (hk:k<=64) (h0:0<=a):X5 .u64 a k=a / 2 ^ k:=by
 have e1:IntKind.bits .u64=64:=rfl
 show a.fdiv (2 ^ min (k:Int).toNat (IntKind.bits .u64))=_
 rw[e1,IC,Nat.min_eq_left hk]
 exact Int.fdiv_eq_ediv_of_nonneg _ (Int.pow_nonneg (by decide))
theorem Yu (a:Int) (k:Nat) (hk:k<=63) (h0:0<=a) (h1:a<=18446744073709551615):Yv .u64 a (2 ^ k-1)=a % 2 ^ k:=by
 obtain ⟨n,rfl⟩:=UF h0
 have hb:IntKind.u64.bits=64:=rfl
 show IntKind.u64.wrap ((BitVec.ofInt IntKind.u64.bits n &&& BitVec.ofInt IntKind.u64.bits (2 ^ k-1)).toNat:Int)=_
 rw[hb]
 have hk2:(2:Int) ^ k-1=((2 ^ k-1:Nat):Int):=by
  have h1:=Nat.one_le_two_pow (n:=k)
  have h2:(2:Int) ^ k=((2 ^ k:Nat):Int):=by simp
  rw[h2];omega
 have e1:BitVec.ofInt 64 (n:Int)=BitVec.ofNat 64 n:=by simp
 have e2:BitVec.ofInt 64 ((2 ^ k-1:Nat):Int)=BitVec.ofNat 64 (2 ^ k-1):=by simp
 rw[hk2,e1,e2,BitVec.toNat_and,Iw,Iw]
 have hn:n % 2 ^ 64=n:=I5 (by omega)
 have hp:2 ^ k<=2 ^ 63:=IW (by omega) hk
 have hm:(2 ^ k-1) % 2 ^ 64=2 ^ k-1:=I5 (by omega)
 rw[hn,hm,Nat.and_two_pow_sub_one_eq_mod]
 have hlt:n % 2 ^ k<2 ^ k:=Oi _ (Nat.two_pow_pos k)
 show wU _=_
 rw[Xv (by omega) (by omega)]
 simp
end Go.Sx
namespace Go.Sx
def PT {α:Type} (o:Option α) (P:α->Prop):Prop:=∀ r,o=some r->P r
def tU (n:Int):Prop:=0<=n/\n<=18446744073709551615
def tW (n:Int):Prop:=0<=n/\n<=4294967295
def tL {α:Type} (T:α->Prop) (l:List α):Prop:=∀ x∈l,T x
def tE {α β:Type} (A:α->Prop) (B:β->Prop):Ex α β->Prop
 | .ret a=>A a
 | .nxt b=>B b
section
variable {α β γ:Type} {P:β->Prop} {T:α->Prop}
theorem We {x:β} (h:P x):PT (some x) P:=λ r e=>WP e▸h
theorem IJ:PT none P:=λ r e=>by cases e
theorem Wt {o:Option α} {f:α->Option β} {Q:α->Prop} (h:PT o Q) (k:∀ y,Q y->PT (f y) P):PT (Sx.bnd o f) P:=by
 cases o with
 | none=>rw[Xal];exact IJ
 | some y=>rw[Xa];exact k y (h y rfl)
theorem WA {o:Option α} {f:α->Option β} (k:∀ y,PT (f y) P):PT (Sx.bnd o f) P:=by
 cases o with
 | none=>rw[Xal];exact IJ
 | some y=>rw[Xa];exact k y
theorem WN {p:Prop} [Decidable p] {x:Option β} (k:PT x P):PT (Sx.grd p x) P:=by
 unfold Sx.grd
 split
 ·exact k
 ·exact IJ
theorem UW {κ:Type} {k:κ} {f:κ->Option β} {Q:κ->Prop} (h:Q k) (g:∀ j,Q j->PT (f j) P):PT (Sx.jn k f) P:=by rw[XV];exact g k h
theorem Wl {b:Bool} {x y:Option β} (h1:PT x P) (h2:PT y P):PT (bif b then x else y) P:=by cases b;exact h2;exact h1
theorem PT.get {l:List α} {i:Int} {f:α->Option β} (h:tL T l) (k:∀ p,T p->PT (f p) P):PT (Sx.bnd (Xb l i) f) P :=
 Wt (Q:=T) (λ r e=>h r (Yp e)) k
theorem Oq {α':Type} {o:Option (Ex α' α)} {f:α'->Option β} {k:α->Option β} {A:α'->Prop} (h:PT o (tE A T)) (h1:∀ a,A a->PT (f a) P) (h2:∀ b,T b->PT (k b) P):PT (Sx.bnd o λ e=>exK e f k) P:=by
 refine Wt h λ y hy=>?_
 cases y with
 | ret a=>rw[XC];exact h1 a hy
 | nxt b=>rw[Xr];exact h2 b hy
theorem OO {o:Option β} {r:β} (h:PT o P) (e:o=.some r):P r:=h r e
end
@[simp] theorem XqF {α β:Type} (A:α->Prop) (B:β->Prop) (a:α):tE A B (.ret a)=A a:=rfl
@[simp] theorem XqG {α β:Type} (A:α->Prop) (B:β->Prop) (b:β):tE A B (.nxt b)=B b:=rfl
@[simp] theorem XqH (n:Nat):tU (no_index (OfNat.ofNat n):Int)=((OfNat.ofNat n:Nat)<=18446744073709551615):=by
 have:(no_index (OfNat.ofNat n):Int)=((n:Nat):Int):=rfl
 unfold tU
 rw[this]
 simp only[eq_iff_iff]
 show (0:Int)<=n/\(n:Int)<=18446744073709551615↔n<=18446744073709551615
 omega
@[simp] theorem XqI (n:Nat):tW (no_index (OfNat.ofNat n):Int)=((OfNat.ofNat n:Nat)<=4294967295):=by
 have:(no_index (OfNat.ofNat n):Int)=((n:Nat):Int):=rfl
 unfold tW
 rw[this]
 simp only[eq_iff_iff]
 show (0:Int)<=n/\(n:Int)<=4294967295↔n<=4294967295
 omega
@[simp] theorem Xq6 (n:Int):tU (wU n):=VK n
@[simp] theorem Xpc (n:Int):tW (wW n):=by unfold tW;rw[XjH];omega
theorem VL (n:Int):tU (IntKind.wrap .u64 n):=VK n
theorem XjJ (n:Int):tW (IntKind.wrap .u32 n):=Xpc n
@[simp] theorem Xqn (a b:Int):tU (Yv .u64 a b):=VL _
@[simp] theorem XqJ (a b:Int):tU (bOr .u64 a b):=VL _
@[simp] theorem Xqo (a b:Int):tU (Xle .u64 a b):=VL _
@[simp] theorem Xqp (a b:Int):tU (ZM .u64 a b):=VL _
@[simp] theorem Xqq (a b:Int):tW (Yv .u32 a b):=XjJ _
theorem Xno {a b:Int} (h:0<=a) (k:IntKind):0<=X5 k a b/\X5 k a b<=a:=by
 show 0<=a.fdiv _/\a.fdiv _<=a
 have hp:(0:Int)<2 ^ min b.toNat (IntKind.bits k):=Int.pow_pos (by decide)
 rw[Int.fdiv_eq_ediv_of_nonneg _ (by omega)]
 exact ⟨Int.ediv_nonneg h (by omega),Int.ediv_le_self _ h⟩
@[simp] theorem Xqr {a b:Int} (h:tU a):tU (X5 .u64 a b):=by
 have:=Xno (b:=b) h.1 .u64
 unfold tU at *;omega
@[simp] theorem Xqs {a b:Int} (h:tW a):tW (X5 .u32 a b):=by
 have:=Xno (b:=b) h.1 .u32
 unfold tW at *;omega
@[simp] theorem Xqt {a b:Int} (h:tU a):tU (a.tmod b):=by
 unfold tU at *
 rw[Ix h.1]
 by_cases hb:b=0
 ·subst hb;rw[Int.emod_zero];exact h
 ·have h1:=Int.emod_nonneg a hb
  have h2:a % b<=a:=by
   obtain ⟨n,rfl⟩:=UF h.1
   rcases Int.natAbs_eq b with e | e
   ·rw[e,← Int.natCast_emod]
    have:=Nat.mod_le n b.natAbs
    omega
   ·rw[e,Int.emod_neg,← Int.natCast_emod]
    have:=Nat.mod_le n b.natAbs
    omega
  omega
section
variable {α:Type} {T:α->Prop}
@[simp] theorem XqK:tL T ([]:List α):=λ x h=>by cases h
@[simp] theorem Xqu {x:α} {l:List α}:tL T (x::l)↔T x/\tL T l:=by unfold tL;simp
@[simp] theorem XoM {a b:List α}:tL T (a++b)↔tL T a/\tL T b:=by
 unfold tL;simp only[WJ];exact ⟨λ h=>⟨λ x hx=>h x (.inl hx),λ x hx=>h x (.inr hx)⟩,λ h x hx=>hx.elim (h.1 x) (h.2 x)⟩
@[simp] theorem XbC {l:List α} {i:Nat} {x:α} (h:tL T l) (hx:T x):tL T (l.set i x):=λ y hy=>by
 rcases UK hy with h1 | h1
 ·exact h y h1
 ·rw[h1];exact hx
@[simp] theorem Xqv {l:List α} {i:Nat} (h:tL T l):tL T (l.take i):=λ y hy=>h y (W7 hy)
@[simp] theorem Xqw {l:List α} {i:Nat} (h:tL T l):tL T (l.drop i):=λ y hy=>h y (W8 hy)
@[simp] theorem XqL {n:Nat} {x:α} (h:T x):tL T (List.replicate n x):=λ y hy=>by rw[List.eq_of_mem_replicate hy];exact h
end
@[simp] theorem XqM {p:Prop} [Decidable p] {a b:Int} (ha:tU a) (hb:tU b):tU (if p then a else b):=by split;exact ha;exact hb
end Go.Sx
namespace Go.Sx
set_option maxHeartbeats 1000000
def XL (s:Wn):Prop:=(tL tU) s.Words
def X7 (s:UX):Prop:=tU s.Ref
def XJ (s:Ww):Prop:=(tL X7) s.Slots
def Xw (s:Ub):Prop:=tU s.Ref
def XW (s:WI):Prop:=(tL Xw) s.Entries
def YG (s:UN):Prop:=tU s.Ref
def XY (s:W6):Prop:=XL s.Heap/\XJ s.Locals/\XW s.Globals/\XW s.Weaks/\(tL YG) s.Pins/\(tL tU) s.Roots
def YU (s:Wy):Prop:=tW s.Map
def Zd (s:Il):Prop:=YU s.Header/\(tL tU) s.Fields
def ZR (s:IA):Prop:=tU s.Id/\tU s.Base
def XS (s:WM):Prop:=(tL Zd) s.Things/\XJ s.Locals/\XW s.Globals/\XW s.Weaks/\(tL ZR) s.Marks/\(tL tU) s.Roots
def Vn (s:Ig):Prop:=XY s.Env/\XS s.World/\(tL tU) s.Words
def XbD (s:Oj):Prop:=tU s.A/\tU s.B/\tU s.C
def XfX (s:Ol):Prop:=tU s.Base
def XbE (s:Ii):Prop:=XL s.Heap/\(tL tU) s.Strong/\(tL tU) s.Weak
def XjK (s:Iz):Prop:=XJ s.Locals
def Xl9 (s:Iq):Prop:=tU s.Value
def XT (s:W0):Prop:=XL s.Heap/\(tL tU) s.Old/\(tL tU) s.Queue
def XhV (s:Ul):Prop:=tU s.Addr
def Xma (s:UI):Prop:=tU s.addr/\YU s.hd
@[simp] theorem Xmb {l:List UX} {i:Nat} {x:UX} (h:tL X7 l) (hx:tU x.Ref):tL X7 (l.set i x):=XbC h hx
@[simp] theorem Xlc {l:List Ub} {i:Nat} {x:Ub} (h:tL Xw l) (hx:tU x.Ref):tL Xw (l.set i x):=XbC h hx
@[simp] theorem Xnp {l:List UN} {i:Nat} {x:UN} (h:tL YG l) (hx:tU x.Ref):tL YG (l.set i x):=XbC h hx
@[simp] theorem Xmc {l:List IA} {i:Nat} {x:IA} (h:tL ZR l) (hx:tU x.Id/\tU x.Base):tL ZR (l.set i x):=XbC h hx
@[simp] theorem Xld {l:List Il} {i:Nat} {x:Il} (h:tL Zd l) (hx:tW x.Header.Map/\(tL tU) x.Fields):tL Zd (l.set i x):=XbC h hx
attribute [local simp] XL X7 XJ Xw XW YG XY YU Zd ZR XS Vn XbD XfX XbE XjK Xl9 XT XhV Xma
theorem Qkd {N a0}:PT (Qfl N a0) (λ r=>XL r.1):=by
 rw[Qfl]
 refine (WA λ y1=>(Wl (We ?_) (WN (WN (We ?_)))))
 all_goals simp_all (maxDischargeDepth:=9)
theorem Qke {N a0}:PT (Qeg N a0) (λ r=>XY r.1):=by
 rw[Qeg]
 refine (Wt (Qkd) λ y1 h1=>(We ?_))
 all_goals simp_all (maxDischargeDepth:=9)
theorem Qkf {N a0}:PT (Qfm N a0) (λ r=>XS r.1):=by
 rw[Qfm]
 refine (WA λ y1=>(Wl (We ?_) (We ?_)))
 all_goals simp_all (maxDischargeDepth:=9)
theorem QhJ {N a0}:PT (Qbo N a0) (λ r=>Vn r.1):=by
 rw[Qbo]
 refine (WA λ y1=>(Wt (Qke) λ y2 h1=>(Wt (Qkf) λ y3 h2=>(WA λ y4=>(We ?_)))))
 all_goals simp_all (maxDischargeDepth:=9)
theorem Qef {N a0 a1} (ka0:(tL tU) a0) (ka1:tU a1):PT (Qa5 N a0 a1) (λ r=>tU r.1):=by
 rw[Qa5]
 refine (WA λ y1=>(Wl (We ?_) (PT.get (T:=tU) ?_ λ p2 h1=>(We ?_))))
 all_goals simp_all (maxDischargeDepth:=9) []
theorem Qgl {N a0} (ka0:YU a0):PT (Qcg N a0) (λ r=>tU r.1):=by
 rw[Qcg]
 refine (WA λ y1=>(Wl (We ?_) (We ?_)))
 all_goals simp_all (maxDischargeDepth:=9)
theorem Qgm {N a0} (ka0:tU a0):PT (QbK N a0) (λ r=>YU r.1):=by
 rw[QbK]
 refine (Wt (Qgl ?_) λ y1 h1=>(Wl (We ?_) (Wl (We ?_) (We ?_))))
 all_goals simp_all (maxDischargeDepth:=9)
theorem Qhg {N a0 a1} (ka0:XL a0) (ka1:tU a1):PT (Qat N a0 a1) (λ r=>YU r.1):=by
 rw[Qat]
 refine (WA λ y1=>(Wl (We ?_) (WA λ y2=>(Wl (We ?_) (WA λ p3=>(Wt (Qef ?_ ?_) λ y4 h1=>(Wt (Qgm ?_) λ y5 h2=>(UW (Q:=λ k=>∀ _,PT (k ()) _) (λ _=>(WA λ y6=>(Wl (Wl (We ?_) (Wl (Wl (We ?_) (Wl (We ?_) (We ?_))) (We ?_))) (Wl (Wl (We ?_) (Wl (We ?_) (We ?_))) (We ?_))))) λ j1 hj1=>(Wl (Wl (We ?_) (Wl (We ?_) (Wl (We ?_) (hj1 ())))) (Wl (We ?_) (Wl (We ?_) (hj1 ()))))))))))))
 all_goals simp_all (maxDischargeDepth:=9)
theorem Qie {N a0 a1 a2}:PT (Qbu N a0 a1 a2) (λ r=>tU r.1):=by
 rw[Qbu]
 refine (WA λ y1=>(Wl (We ?_) (Wl (We ?_) (Wl (We ?_) (Wl (We ?_) (Wl (We ?_) (We ?_)))))))
 all_goals simp_all (maxDischargeDepth:=9) []
theorem QgR {N a0 a1 p2} (ka0:XL a0):∀ n v3 v4,(tL tU) v4->PT (QaW N a0 a1 p2 n v3 v4) (tE (λ r=>(tL tU) r.1) (tL tU))
 | 0,_,_,_=>by rw[QaW];exact IJ
 | n+1,v3,v4,kv4=>by
  have ih:=QgR (N:=N) (a0:=a0) (a1:=a1) (p2:=p2) ka0 n
  rw[QaW]
  refine (Wl (Wt (Qie) λ y5 h1=>(Wt (Qhg ?_ ?_) λ y6 h2=>(Wl (We ?_) (WN (Wl (We ?_) (WA λ y7=>(ih _ _ ?_))))))) (We ?_))
  all_goals (clear ih;simp_all (maxDischargeDepth:=9))
theorem Qif {N a0 a1 p2 n v3 v4} (ka0:XL a0) (kv4:(tL tU) v4):PT (QaW N a0 a1 p2 n v3 v4) (tE (λ r=>(tL tU) r.1) (tL tU)):=QgR ka0 n _ _ kv4
theorem QjY {N a0 a1} (ka0:XL a0):PT (Qau N a0 a1) (λ r=>(tL tU) r.1):=by
 rw[Qau]
 refine (WA λ y1=>(Wl (We ?_) (Wl (We ?_) (Wl (We ?_) (WA λ p2=>(Wl (We ?_) (Wl (We ?_) (Oq (Qif ?_ ?_) (λ r h1=>(We ?_)) λ y8 h2=>(We ?_)))))))))
 all_goals simp_all (maxDischargeDepth:=9)
theorem QgE {N a0} (ka0:XL a0):∀ n v2 v3,(tL tU) v3->PT (QaR N a0 n v2 v3) (tE (λ r=>(tL tU) r.1) (tL tU))
 | 0,_,_,_=>by rw[QaR];exact IJ
 | n+1,v2,v3,kv3=>by
  have ih:=QgE (N:=N) (a0:=a0) ka0 n
  rw[QaR]
  refine (Wl (Wt (QjY ?_) λ y4 h1=>(Wl (We ?_) (WN (ih _ _ ?_)))) (We ?_))
  all_goals (clear ih;simp_all (maxDischargeDepth:=9))
theorem QhK {N a0 n v2 v3} (ka0:XL a0) (kv3:(tL tU) v3):PT (QaR N a0 n v2 v3) (tE (λ r=>(tL tU) r.1) (tL tU)):=QgE ka0 n _ _ kv3
theorem Qi0 {N a0} (ka0:XL a0):PT (QcL N a0) (λ r=>(tL tU) r.1):=by
 rw[QcL]
 refine (WA λ y1=>(Wl (We ?_) (Oq (QhK ?_ ?_) (λ r h1=>(We ?_)) λ y5 h2=>(We ?_))))
 all_goals simp_all (maxDischargeDepth:=9)
theorem Qgn {N a0 y1} (ka0:XL a0) (ky1:(λ r=>(tL tU) r.1) y1):∀ n v2 v3,(tL tU) v3->PT (QaA N a0 y1 n v2 v3) (tL tU)
 | 0,_,_,_=>by rw[QaA];exact IJ
 | n+1,v2,v3,kv3=>by
  have ih:=Qgn (N:=N) (a0:=a0) (y1:=y1) ka0 ky1 n
  rw[QaA]
  refine (Wl (PT.get (T:=tU) ?_ λ p4 h1=>(Wt (Qhg ?_ ?_) λ y5 h2=>(Wl (PT.get (T:=tU) ?_ λ p6 h3=>(WN (ih _ _ ?_))) (ih _ _ ?_)))) (We ?_))
  all_goals (clear ih;simp_all (maxDischargeDepth:=9))
theorem Qhv {N a0 y1 n v2 v3} (ka0:XL a0) (ky1:(λ r=>(tL tU) r.1) y1) (kv3:(tL tU) v3):PT (QaA N a0 y1 n v2 v3) (tL tU):=Qgn ka0 ky1 n _ _ kv3
theorem Qig {N a0} (ka0:XL a0):PT (Qav N a0) (λ r=>(tL tU) r.1):=by
 rw[Qav]
 refine (Wt (Qi0 ?_) λ y1 h1=>(Wt (Qhv ?_ ?_ ?_) λ y7 h2=>(We ?_)))
 all_goals simp_all (maxDischargeDepth:=9)
theorem QgS {N a0 a1} (ka0:XL a0) (ka1:tU a1):PT (Qbq N a0 a1) (λ r=>YU r.1):=by
 rw[Qbq]
 refine (WA λ y1=>(Wl (We ?_) (Wl (We ?_) (Wt (Qhg ?_ ?_) λ y2 h1=>(Wl (Wl (We ?_) (We ?_)) (We ?_))))))
 all_goals simp_all (maxDischargeDepth:=9)
theorem QjZ {N a0 a1 a2} (ka0:(tL tU) a0) (ka1:tU a1):PT (QcM N a0 a1 a2) (λ r=>(tL tU) r.1):=by
 rw[QcM]
 refine (Wl (We ?_) (WA λ y1=>(Wl (We ?_) (WN (WN (We ?_))))))
 all_goals simp_all (maxDischargeDepth:=9) []
theorem QgT {N a0} (ka0:XW a0):∀ n v1 v2,(tL tU) v2->PT (Qbf N a0 n v1 v2) (tL tU)
 | 0,_,_,_=>by rw[Qbf];exact IJ
 | n+1,v1,v2,kv2=>by
  have ih:=QgT (N:=N) (a0:=a0) ka0 n
  rw[Qbf]
  refine (Wl (WA λ y3=>(Wl (PT.get (T:=Xw) ?_ λ p4 h1=>(Wl (PT.get (T:=Xw) ?_ λ p5 h2=>(WN (ih _ _ ?_))) (ih _ _ ?_))) (We ?_))) (We ?_))
  all_goals (clear ih;simp_all (maxDischargeDepth:=9))
theorem Qih {N a0 n v1 v2} (ka0:XW a0) (kv2:(tL tU) v2):PT (Qbf N a0 n v1 v2) (tL tU):=QgT ka0 n _ _ kv2
theorem Qe9 {N a0} (ka0:XW a0):PT (Qbc N a0) (tL tU):=by
 rw[Qbc]
 refine (Wt (Qih ?_ ?_) λ y6 h1=>(We ?_))
 all_goals simp_all (maxDischargeDepth:=9)
theorem QgU {N a0} (ka0:XJ a0):∀ n v1 v2,(tL tU) v2->PT (Qbg N a0 n v1 v2) (tL tU)
 | 0,_,_,_=>by rw[Qbg];exact IJ
 | n+1,v1,v2,kv2=>by
  have ih:=QgU (N:=N) (a0:=a0) ka0 n
  rw[Qbg]
  refine (Wl (WA λ y3=>(Wl (PT.get (T:=X7) ?_ λ p4 h1=>(Wl (PT.get (T:=X7) ?_ λ p5 h2=>(WN (ih _ _ ?_))) (ih _ _ ?_))) (We ?_))) (We ?_))
  all_goals (clear ih;simp_all (maxDischargeDepth:=9))
theorem Qii {N a0 n v1 v2} (ka0:XJ a0) (kv2:(tL tU) v2):PT (Qbg N a0 n v1 v2) (tL tU):=QgU ka0 n _ _ kv2
theorem QgH {N a0} (ka0:XJ a0):PT (Qcq N a0) (tL tU):=by
 rw[Qcq]
 refine (Wt (Qii ?_ ?_) λ y6 h1=>(We ?_))
 all_goals simp_all (maxDischargeDepth:=9)
theorem QjD {N a0} (ka0:XL a0):PT (Qdl N a0) (λ r=>XT r.1):=by
 rw[Qdl]
 refine (WA λ y1=>(Wl (We ?_) (WA λ y2=>(Wl (We ?_) (Wt (Qig ?_) λ y3 h1=>(WN (WA λ y8=>(We ?_))))))))
 all_goals simp_all (maxDischargeDepth:=9)
theorem Qha {N a0} (ka0:tU a0):PT (Qdr N a0) (λ r=>tU r.1):=by
 rw[Qdr]
 refine (Wl (We ?_) (Wl (We ?_) (We ?_)))
 all_goals simp_all (maxDischargeDepth:=9) []
theorem QgJ {N a2 y1} (ka2:(tL tU) a2):∀ n v2 v3,(tL tU) v3->PT (Qbz N a2 y1 n v2 v3) (tL tU)
 | 0,_,_,_=>by rw[Qbz];exact IJ
 | n+1,v2,v3,kv3=>by
  have ih:=QgJ (N:=N) (a2:=a2) (y1:=y1) ka2 n
  rw[Qbz]
  refine (Wl (PT.get (T:=tU) ?_ λ p4 h1=>(PT.get (T:=tU) ?_ λ p5 h2=>(ih _ _ ?_))) (We ?_))
  all_goals (clear ih;simp_all (maxDischargeDepth:=9) [])
theorem QhZ {N a2 y1 n v2 v3} (ka2:(tL tU) a2) (kv3:(tL tU) v3):PT (Qbz N a2 y1 n v2 v3) (tL tU):=QgJ ka2 n _ _ kv3
theorem QfO {N a0 a1 a2} (ka0:(tL tU) a0) (ka1:tU a1) (ka2:(tL tU) a2):PT (QbY N a0 a1 a2) (λ r=>(tL tU) r.1):=by
 rw[QbY]
 refine (WA λ y1=>(Wl (We ?_) (WN (Wt (QhZ ?_ ?_) λ y6 h1=>(We ?_)))))
 all_goals simp_all (maxDischargeDepth:=9) []
theorem Qgr {N a0 a1 a2} (ka0:(tL tU) a0) (ka1:tU a1) (ka2:tU a2):PT (Qdm N a0 a1 a2) (λ r=>(tL tU) r.1):=by
 rw[Qdm]
 refine (Wt (QfO ?_ ?_ ?_) λ y1 h1=>(We ?_))
 all_goals simp_all (maxDischargeDepth:=9) []
theorem Qht {N a0 a1} (ka0:XT a0) (ka1:tU a1):PT (Qel N a0 a1) XT:=by
 rw[Qel]
 refine (WN (WN (We ?_)))
 all_goals simp_all (maxDischargeDepth:=9)
theorem QjE {N a0 a1} (ka0:XT a0):PT (QdO N a0 a1) (λ r=>XT r.1/\tU r.2.1):=by
 rw[QdO]
 refine (WN (UW (Q:=λ k=>∀ _,PT (k ()) _) (λ _=>(WA λ y4=>(Wl (We ?_) (WA λ y5=>(WN (WN (WA λ p13=>(WA λ p14=>(WA λ p15=>(We ?_)))))))))) λ j1 hj1=>(Wl (WA λ p1=>(WA λ p2=>(Wl (WA λ p3=>(WA λ p10=>(WA λ p11=>(WA λ p12=>(We ?_))))) (hj1 ())))) (hj1 ()))))
 all_goals simp_all (maxDischargeDepth:=9)
theorem Qj0 {N a0 a1 a2 a3} (ka0:(tL tU) a0) (ka1:tU a1) (ka2:tU a2):PT (QeO N a0 a1 a2 a3) (λ r=>(tL tU) r.1):=by
 rw[QeO]
 refine (Wt (QjZ ?_ ?_) λ y1 h1=>(Wl (We ?_) (Wt (QfO ?_ ?_ ?_) λ y2 h2=>(We ?_))))
 all_goals simp_all (maxDischargeDepth:=9) []
theorem Qij {N a0} (ka0:tU a0):PT (Qdw N a0) (λ r=>tU r.1):=by
 rw[Qdw]
 refine (Wl (We ?_) (We ?_))
 all_goals simp_all (maxDischargeDepth:=9) []
theorem QgV {N a0 a1} (ka0:XT a0) (ka1:tU a1):PT (Qc1 N a0 a1) (λ r=>XT r.1/\tU r.2.1):=by
 rw[Qc1]
 refine (Wl (We ?_) (WA λ y1=>(Wl (We ?_) (WA λ y2=>(Wl (We ?_) (Wt (Qef ?_ ?_) λ y3 h1=>(Wt (Qha ?_) λ y4 h2=>(Wl (We ?_) (WA λ y5=>(Wl (We ?_) (Wl (We ?_) (WA λ y6=>(Wl (Wt (Qht ?_ ?_) λ y7 h3=>(We ?_)) (WA λ p8=>(Wl (WN (WA λ p9=>(WA λ y14=>(Wt (Qht ?_ ?_) λ y15 h4=>(We ?_))))) (Wt (Qgm ?_) λ y16 h5=>(WA λ y17=>(Wt (QjE ?_) λ y18 h6=>(Wl (We ?_) (Wt (Qj0 ?_ ?_ ?_) λ y19 h7=>(Wt (Qij ?_) λ y20 h8=>(Wt (Qgr ?_ ?_ ?_) λ y21 h9=>(WN (WN (We ?_)))))))))))))))))))))))))
 all_goals simp_all (maxDischargeDepth:=9)
theorem QgK {N a1} (ka1:(tL tU) a1):∀ n v1 v2 v3 v4 v5 v6 v7 v8 v9 v10 v11 v12 v13 v14 v15 v16 v17 v18,(tL tU) v4->(tL tU) v8->(tL tU) v10->(tL tU) v18->PT (QbC N a1 n v1 v2 v3 v4 v5 v6 v7 v8 v9 v10 v11 v12 v13 v14 v15 v16 v17 v18) (tE (λ r=>XT r.1/\(tL tU) r.2.1) (λ r=>(tL tU) r.2.2.1/\(tL tU) r.2.2.2.2.2.2.1/\(tL tU) r.2.2.2.2.2.2.2.2.1/\(tL tU) r.2.2.2.2.2.2.2.2.2.2.2.2.2.2.2.2))
 | 0,_,_,_,_,_,_,_,_,_,_,_,_,_,_,_,_,_,_,_,_,_,_=>by rw[QbC];exact IJ
 | n+1,v1,v2,v3,v4,v5,v6,v7,v8,v9,v10,v11,v12,v13,v14,v15,v16,v17,v18,kv4,kv8,kv10,kv18=>by
  have ih:=QgK (N:=N) (a1:=a1) ka1 n
  rw[QbC]
  refine (Wl (PT.get (T:=tU) ?_ λ p19 h1=>(Wt (QgV ?_ ?_) λ y20 h2=>(Wl (We ?_) (WN (ih _ _ _ _ _ _ _ _ _ _ _ _ _ _ _ _ _ _ ?_ ?_ ?_ ?_))))) (We ?_))
  all_goals (clear ih;simp_all (maxDischargeDepth:=9))
theorem Qh0 {N a1 n v1 v2 v3 v4 v5 v6 v7 v8 v9 v10 v11 v12 v13 v14 v15 v16 v17 v18} (ka1:(tL tU) a1) (kv4:(tL tU) v4) (kv8:(tL tU) v8) (kv10:(tL tU) v10) (kv18:(tL tU) v18):PT (QbC N a1 n v1 v2 v3 v4 v5 v6 v7 v8 v9 v10 v11 v12 v13 v14 v15 v16 v17 v18) (tE (λ r=>XT r.1/\(tL tU) r.2.1) (λ r=>(tL tU) r.2.2.1/\(tL tU) r.2.2.2.2.2.2.1/\(tL tU) r.2.2.2.2.2.2.2.2.1/\(tL tU) r.2.2.2.2.2.2.2.2.2.2.2.2.2.2.2.2)):=QgK ka1 n _ _ _ _ _ _ _ _ _ _ _ _ _ _ _ _ _ _ kv4 kv8 kv10 kv18
theorem QjF {N a0 a1} (ka0:XT a0) (ka1:(tL tU) a1):PT (Qer N a0 a1) (λ r=>XT r.1/\(tL tU) r.2.1):=by
 rw[Qer]
 refine (Oq (Qh0 ?_ ?_ ?_ ?_ ?_) (λ r h1=>(We ?_)) λ y21 h2=>(We ?_))
 all_goals simp_all (maxDischargeDepth:=9)
theorem QhL {N a0 a1} (ka0:XT a0) (ka1:tU a1):PT (QeI N a0 a1) YU:=by
 rw[QeI]
 refine (Wt (Qef ?_ ?_) λ y1 h1=>(Wt (Qgm ?_) λ y2 h2=>(We ?_)))
 all_goals simp_all (maxDischargeDepth:=9)
theorem QgW {N p1 y3} (kp1:tU p1):∀ n v4 v5 v6 v7 v8 v9 v10 v11 v12 v13 v14 v15 v16 v17 v18 v19 v20,(tL tU) v7->(tL tU) v11->(tL tU) v13->PT (QbZ N p1 y3 n v4 v5 v6 v7 v8 v9 v10 v11 v12 v13 v14 v15 v16 v17 v18 v19 v20) (tE (λ r=>XT r.1) (λ r=>(tL tU) r.2.2.1/\(tL tU) r.2.2.2.2.2.2.1/\(tL tU) r.2.2.2.2.2.2.2.2.1))
 | 0,_,_,_,_,_,_,_,_,_,_,_,_,_,_,_,_,_,_,_,_=>by rw[QbZ];exact IJ
 | n+1,v4,v5,v6,v7,v8,v9,v10,v11,v12,v13,v14,v15,v16,v17,v18,v19,v20,kv7,kv11,kv13=>by
  have ih:=QgW (N:=N) (p1:=p1) (y3:=y3) kp1 n
  rw[QbZ]
  refine (Wl (WA λ p21=>(Wt (Qef ?_ ?_) λ y22 h1=>(Wt (QgV ?_ ?_) λ y23 h2=>(Wl (We ?_) (Wt (Qgr ?_ ?_ ?_) λ y24 h3=>(ih _ _ _ _ _ _ _ _ _ _ _ _ _ _ _ _ _ ?_ ?_ ?_)))))) (We ?_))
  all_goals (clear ih;simp_all (maxDischargeDepth:=9))
theorem Qik {N p1 y3 n v4 v5 v6 v7 v8 v9 v10 v11 v12 v13 v14 v15 v16 v17 v18 v19 v20} (kp1:tU p1) (kv7:(tL tU) v7) (kv11:(tL tU) v11) (kv13:(tL tU) v13):PT (QbZ N p1 y3 n v4 v5 v6 v7 v8 v9 v10 v11 v12 v13 v14 v15 v16 v17 v18 v19 v20) (tE (λ r=>XT r.1) (λ r=>(tL tU) r.2.2.1/\(tL tU) r.2.2.2.2.2.2.1/\(tL tU) r.2.2.2.2.2.2.2.2.1)):=QgW kp1 n _ _ _ _ _ _ _ _ _ _ _ _ _ _ _ _ _ kv7 kv11 kv13
theorem Qj1 {N a0} (ka0:XT a0):PT (QeP N a0) (λ r=>XT r.1):=by
 rw[QeP]
 refine (Wl (We ?_) (PT.get (T:=tU) ?_ λ p1 h1=>(Wt (QhL ?_ ?_) λ y2 h2=>(WA λ y3=>(Oq (Qik ?_ ?_ ?_ ?_) (λ r h3=>(We ?_)) λ y25 h4=>(We ?_))))))
 all_goals simp_all (maxDischargeDepth:=9)
theorem Qhb {N}:∀ n v1 v2 v3 v4 v5 v6 v7 v8 v9 v10 v11 v12 v13 v14 v15 v16,(tL tU) v3->(tL tU) v7->(tL tU) v9->PT (Qch N n v1 v2 v3 v4 v5 v6 v7 v8 v9 v10 v11 v12 v13 v14 v15 v16) (λ r=>XT r.1)
 | 0,_,_,_,_,_,_,_,_,_,_,_,_,_,_,_,_,_,_,_=>by rw[Qch];exact IJ
 | n+1,v1,v2,v3,v4,v5,v6,v7,v8,v9,v10,v11,v12,v13,v14,v15,v16,kv3,kv7,kv9=>by
  have ih:=Qhb (N:=N) n
  rw[Qch]
  refine (Wt (Qj1 ?_) λ y17 h1=>(Wl (We ?_) (Wl (We ?_) (ih _ _ _ _ _ _ _ _ _ _ _ _ _ _ _ _ ?_ ?_ ?_))))
  all_goals (clear ih;simp_all (maxDischargeDepth:=9))
theorem Qi1 {N n v1 v2 v3 v4 v5 v6 v7 v8 v9 v10 v11 v12 v13 v14 v15 v16} (kv3:(tL tU) v3) (kv7:(tL tU) v7) (kv9:(tL tU) v9):PT (Qch N n v1 v2 v3 v4 v5 v6 v7 v8 v9 v10 v11 v12 v13 v14 v15 v16) (λ r=>XT r.1):=Qhb n _ _ _ _ _ _ _ _ _ _ _ _ _ _ _ _ kv3 kv7 kv9
theorem Qkg {N a0} (ka0:XT a0):PT (Qfn N a0) (λ r=>XT r.1):=by
 rw[Qfn]
 refine (Wt (Qi1 ?_ ?_ ?_) λ r h1=>(We ?_))
 all_goals simp_all (maxDischargeDepth:=9)
theorem QjG {N a0 a1} (ka0:XT a0) (ka1:tU a1):PT (Qes N a0 a1) tU:=by
 rw[Qes]
 refine (WA λ y1=>(Wl (We ?_) (Wt (Qef ?_ ?_) λ y2 h1=>(Wt (Qha ?_) λ y3 h2=>(We ?_)))))
 all_goals simp_all (maxDischargeDepth:=9)
theorem QgX {N a0 v4 p5 v1 v2} (ka0:XT a0):∀ n v7 v8,(tL tU) v8->PT (Qb0 N a0 v4 p5 v1 v2 n v7 v8) (tL tU)
 | 0,_,_,_=>by rw[Qb0];exact IJ
 | n+1,v7,v8,kv8=>by
  have ih:=QgX (N:=N) (a0:=a0) (v4:=v4) (p5:=p5) (v1:=v1) (v2:=v2) ka0 n
  rw[Qb0]
  refine (Wl (PT.get (T:=tU) ?_ λ p9 h1=>(ih _ _ ?_)) (We ?_))
  all_goals (clear ih;simp_all (maxDischargeDepth:=9))
theorem Qil {N a0 v4 p5 v1 v2 n v7 v8} (ka0:XT a0) (kv8:(tL tU) v8):PT (Qb0 N a0 v4 p5 v1 v2 n v7 v8) (tL tU):=QgX ka0 n _ _ kv8
theorem QgY {N a0} (ka0:XT a0):∀ n v1 v2 v3 v4,(tL tU) v3->PT (Qbh N a0 n v1 v2 v3 v4) (λ r=>(tL tU) r.2.1)
 | 0,_,_,_,_,_=>by rw[Qbh];exact IJ
 | n+1,v1,v2,v3,v4,kv3=>by
  have ih:=QgY (N:=N) (a0:=a0) ka0 n
  rw[Qbh]
  refine (WN (Wl (WA λ p5=>(Wl (ih _ _ _ _ ?_) (Wl (ih _ _ _ _ ?_) (WA λ p6=>(Wt (Qil ?_ ?_) λ y10 h1=>(ih _ _ _ _ ?_)))))) (We ?_)))
  all_goals (clear ih;simp_all (maxDischargeDepth:=9))
theorem Qim {N a0 n v1 v2 v3 v4} (ka0:XT a0) (kv3:(tL tU) v3):PT (Qbh N a0 n v1 v2 v3 v4) (λ r=>(tL tU) r.2.1):=QgY ka0 n _ _ _ _ kv3
theorem Qj2 {N a0} (ka0:XT a0):PT (QdH N a0) XT:=by
 rw[QdH]
 refine (WN (WN (Wt (Qim ?_ ?_) λ y11 h1=>(We ?_))))
 all_goals simp_all (maxDischargeDepth:=9)
theorem QgZ {N a0} (ka0:XT a0):∀ n v1 v2 v3,(tL tU) v2->PT (QaZ N a0 n v1 v2 v3) (λ r=>(tL tU) r.1)
 | 0,_,_,_,_=>by rw[QaZ];exact IJ
 | n+1,v1,v2,v3,kv2=>by
  have ih:=QgZ (N:=N) (a0:=a0) ka0 n
  rw[QaZ]
  refine (Wl (PT.get (T:=tU) ?_ λ p4 h1=>(WA λ y5=>(WA λ y6=>(Wl (ih _ _ _ ?_) (PT.get (T:=tU) ?_ λ p7 h2=>(WA λ y8=>(Wl (ih _ _ _ ?_) (PT.get (T:=tU) ?_ λ p9 h3=>(Wt (QhL ?_ ?_) λ y10 h4=>(Wt (Qgl ?_) λ y11 h5=>(PT.get (T:=tU) ?_ λ p12 h6=>(WN (WN (Wt (QfO ?_ ?_ ?_) λ y13 h7=>(ih _ _ _ ?_))))))))))))))) (We ?_))
  all_goals (clear ih;simp_all (maxDischargeDepth:=9))
theorem Qin {N a0 n v1 v2 v3} (ka0:XT a0) (kv2:(tL tU) v2):PT (QaZ N a0 n v1 v2 v3) (λ r=>(tL tU) r.1):=QgZ ka0 n _ _ _ kv2
theorem Qj3 {N a0} (ka0:XT a0):PT (QeQ N a0) XT:=by
 rw[QeQ]
 refine (Wt (Qin ?_ ?_) λ y14 h1=>(We ?_))
 all_goals simp_all (maxDischargeDepth:=9)
theorem Qgo {N a2 y5 y6} (ka2:(tL tU) a2) (ky5:(λ r=>XT r.1/\(tL tU) r.2.1) y5) (ky6:(λ r=>XT r.1) y6):∀ n v7 v8 v9,(tL tU) v9->PT (Qa8 N a2 y5 y6 n v7 v8 v9) (λ r=>(tL tU) r.2)
 | 0,_,_,_,_=>by rw[Qa8];exact IJ
 | n+1,v7,v8,v9,kv9=>by
  have ih:=Qgo (N:=N) (a2:=a2) (y5:=y5) (y6:=y6) ka2 ky5 ky6 n
  rw[Qa8]
  refine (Wl (PT.get (T:=tU) ?_ λ p10 h1=>(UW (Q:=λ k=>∀ x14 x15,tU x14->PT (k x14 x15) _) (λ x14 x15 h2=>(WN (ih _ _ _ ?_))) λ j3 hj3=>(Wl (PT.get (T:=tU) ?_ λ p11 h3=>(Wt (QjG ?_ ?_) λ y12 h4=>(UW (Q:=λ k=>∀ x13,PT (k x13) _) (λ x13=>(hj3 _ _ ?_)) λ j2 hj2=>(Wl (hj2 _) (hj2 _))))) (hj3 _ _ ?_)))) (We ?_))
  all_goals (clear ih;simp_all (maxDischargeDepth:=9))
theorem Qhw {N a2 y5 y6 n v7 v8 v9} (ka2:(tL tU) a2) (ky5:(λ r=>XT r.1/\(tL tU) r.2.1) y5) (ky6:(λ r=>XT r.1) y6) (kv9:(tL tU) v9):PT (Qa8 N a2 y5 y6 n v7 v8 v9) (λ r=>(tL tU) r.2):=Qgo ka2 ky5 ky6 n _ _ _ kv9
theorem Qio {N a0 a1 a2} (ka0:XL a0) (ka1:(tL tU) a1) (ka2:(tL tU) a2):PT (Qcs N a0 a1 a2) (λ r=>XL r.1/\(tL tU) r.2.1/\(tL tU) r.2.2.1):=by
 rw[Qcs]
 refine (WA λ y1=>(Wl (We ?_) (UW (Q:=λ k=>∀ _,PT (k ()) _) (λ _=>(We ?_)) λ j1 hj1=>(WA λ y2=>(Wl (hj1 ()) (WA λ y3=>(Wl (hj1 ()) (Wt (QjD ?_) λ y4 h1=>(Wt (QjF ?_ ?_) λ y5 h2=>(Wl (We ?_) (Wt (Qkg ?_) λ y6 h3=>(Wl (We ?_) (Wt (Qhw ?_ ?_ ?_ ?_) λ y16 h4=>(Wt (Qj3 ?_) λ y17 h5=>(Wt (Qj2 ?_) λ y18 h6=>(UW (Q:=λ k=>∀ x20,PT (k x20) _) (λ x20=>(We ?_)) λ j4 hj4=>(Wl (WA λ p19=>(hj4 _)) (hj4 _))))))))))))))))))
 all_goals simp_all (maxDischargeDepth:=9)
theorem QgF {N a0} (ka0:XY a0):∀ n v3 v4,(tL tU) v4->PT (QaT N a0 n v3 v4) (tL tU)
 | 0,_,_,_=>by rw[QaT];exact IJ
 | n+1,v3,v4,kv4=>by
  have ih:=QgF (N:=N) (a0:=a0) ka0 n
  rw[QaT]
  refine (Wl (PT.get (T:=YG) ?_ λ p5 h1=>(WN (ih _ _ ?_))) (We ?_))
  all_goals (clear ih;simp_all (maxDischargeDepth:=9))
theorem QhM {N a0 n v3 v4} (ka0:XY a0) (kv4:(tL tU) v4):PT (QaT N a0 n v3 v4) (tL tU):=QgF ka0 n _ _ kv4
theorem Qi2 {N a0} (ka0:XY a0):PT (Qd3 N a0) (tL tU):=by
 rw[Qd3]
 refine (WN (Wt (QgH ?_) λ y1 h1=>(WN (Wt (Qe9 ?_) λ y2 h2=>(WN (Wt (QhM ?_ ?_) λ y6 h3=>(We ?_)))))))
 all_goals simp_all (maxDischargeDepth:=9)
theorem Qg0 {N a0 a1} (ka0:XJ a0) (ka1:(tL tU) a1):∀ n v3 v4 v5,(tL X7) v5->PT (Qa0 N a0 a1 n v3 v4 v5) (tE (λ r=>XJ r.1) (tL X7))
 | 0,_,_,_,_=>by rw[Qa0];exact IJ
 | n+1,v3,v4,v5,kv5=>by
  have ih:=Qg0 (N:=N) (a0:=a0) (a1:=a1) ka0 ka1 n
  rw[Qa0]
  refine (WN (Wl (PT.get (T:=X7) ?_ λ p6 h1=>(Wl (ih _ _ _ ?_) (PT.get (T:=tU) ?_ λ p7 h2=>(Wl (We ?_) (PT.get (T:=tU) ?_ λ p8 h3=>(PT.get (T:=X7) ?_ λ p9 h4=>(ih _ _ _ ?_))))))) (We ?_)))
  all_goals (clear ih;simp_all (maxDischargeDepth:=9))
theorem Qip {N a0 a1 n v3 v4 v5} (ka0:XJ a0) (ka1:(tL tU) a1) (kv5:(tL X7) v5):PT (Qa0 N a0 a1 n v3 v4 v5) (tE (λ r=>XJ r.1) (tL X7)):=Qg0 ka0 ka1 n _ _ _ kv5
theorem Qj4 {N a0 a1} (ka0:XJ a0) (ka1:(tL tU) a1):PT (QdI N a0 a1) (λ r=>XJ r.1):=by
 rw[QdI]
 refine (WA λ y1=>(Wl (We ?_) (Wt (QgH ?_) λ y2 h1=>(Wl (We ?_) (WN (Oq (Qip ?_ ?_ ?_) (λ r h2=>(We ?_)) λ y10 h3=>(We ?_)))))))
 all_goals simp_all (maxDischargeDepth:=9)
theorem Qg1 {N a1} (ka1:(tL tU) a1):∀ n v3 v4 v5,(tL Xw) v5->PT (Qa1 N a1 n v3 v4 v5) (tL Xw)
 | 0,_,_,_,_=>by rw[Qa1];exact IJ
 | n+1,v3,v4,v5,kv5=>by
  have ih:=Qg1 (N:=N) (a1:=a1) ka1 n
  rw[Qa1]
  refine (WN (Wl (PT.get (T:=Xw) ?_ λ p6 h1=>(Wl (PT.get (T:=tU) ?_ λ p7 h2=>(PT.get (T:=Xw) ?_ λ p8 h3=>(ih _ _ _ ?_))) (ih _ _ _ ?_))) (We ?_)))
  all_goals (clear ih;simp_all (maxDischargeDepth:=9))
theorem Qiq {N a1 n v3 v4 v5} (ka1:(tL tU) a1) (kv5:(tL Xw) v5):PT (Qa1 N a1 n v3 v4 v5) (tL Xw):=Qg1 ka1 n _ _ _ kv5
theorem QgI {N a0 a1} (ka0:XW a0) (ka1:(tL tU) a1):PT (Qct N a0 a1) (λ r=>XW r.1):=by
 rw[Qct]
 refine (WA λ y1=>(Wl (We ?_) (Wt (Qe9 ?_) λ y2 h1=>(WN (Wl (We ?_) (WN (Wt (Qiq ?_ ?_) λ y9 h2=>(We ?_))))))))
 all_goals simp_all (maxDischargeDepth:=9)
theorem Qgp {N a0 y4 y5 y6 y7 y8 y9} (ka0:XY a0) (ky4:(λ r=>XL r.1/\(tL tU) r.2.1/\(tL tU) r.2.2.1) y4) (ky5:(tL tU) y5) (ky6:(tL tU) y6) (ky7:(λ r=>XJ r.1) y7) (ky8:(λ r=>XW r.1) y8) (ky9:(λ r=>XW r.1) y9):∀ n v10 v11,(tL YG) v11->PT (QaL N a0 y4 y5 y6 y7 y8 y9 n v10 v11) (tL YG)
 | 0,_,_,_=>by rw[QaL];exact IJ
 | n+1,v10,v11,kv11=>by
  have ih:=Qgp (N:=N) (a0:=a0) (y4:=y4) (y5:=y5) (y6:=y6) (y7:=y7) (y8:=y8) (y9:=y9) ka0 ky4 ky5 ky6 ky7 ky8 ky9 n
  rw[QaL]
  refine (Wl (PT.get (T:=tU) ?_ λ p12 h1=>(PT.get (T:=YG) ?_ λ p13 h2=>(WN (ih _ _ ?_)))) (We ?_))
  all_goals (clear ih;simp_all (maxDischargeDepth:=9))
theorem Qhx {N a0 y4 y5 y6 y7 y8 y9 n v10 v11} (ka0:XY a0) (ky4:(λ r=>XL r.1/\(tL tU) r.2.1/\(tL tU) r.2.2.1) y4) (ky5:(tL tU) y5) (ky6:(tL tU) y6) (ky7:(λ r=>XJ r.1) y7) (ky8:(λ r=>XW r.1) y8) (ky9:(λ r=>XW r.1) y9) (kv11:(tL YG) v11):PT (QaL N a0 y4 y5 y6 y7 y8 y9 n v10 v11) (tL YG):=Qgp ka0 ky4 ky5 ky6 ky7 ky8 ky9 n _ _ kv11
theorem Qg2 {N a0} (ka0:XY a0):PT (Qa2 N a0) (λ r=>XY r.1):=by
 rw[Qa2]
 refine (WA λ y1=>(Wl (We ?_) (Wt (Qi2 ?_) λ y2 h1=>(Wt (Qe9 ?_) λ y3 h2=>(Wt (Qio ?_ ?_ ?_) λ y4 h3=>(Wl (We ?_) (Wt (QgH ?_) λ y5 h4=>(Wt (Qe9 ?_) λ y6 h5=>(WN (WN (WN (WN (Wt (Qj4 ?_ ?_) λ y7 h6=>(WN (Wt (QgI ?_ ?_) λ y8 h7=>(Wt (QgI ?_ ?_) λ y9 h8=>(Wt (Qhx ?_ ?_ ?_ ?_ ?_ ?_ ?_ ?_) λ y14 h9=>(We ?_))))))))))))))))))
 all_goals simp_all (maxDischargeDepth:=9)
theorem Qgq {N a0 y2} (ka0:XS a0):∀ n v4 v5,(tL tU) v5->PT (QaM N a0 y2 n v4 v5) (tL tU)
 | 0,_,_,_=>by rw[QaM];exact IJ
 | n+1,v4,v5,kv5=>by
  have ih:=Qgq (N:=N) (a0:=a0) (y2:=y2) ka0 n
  rw[QaM]
  refine (WN (Wl (PT.get (T:=tU) ?_ λ p6 h1=>(Wl (PT.get (T:=tU) ?_ λ p7 h2=>(WA λ p8=>(Wl (PT.get (T:=tU) ?_ λ p9 h3=>(ih _ _ ?_)) (ih _ _ ?_)))) (ih _ _ ?_))) (We ?_)))
  all_goals (clear ih;simp_all (maxDischargeDepth:=9))
theorem Qhy {N a0 y2 n v4 v5} (ka0:XS a0) (kv5:(tL tU) v5):PT (QaM N a0 y2 n v4 v5) (tL tU):=Qgq ka0 n _ _ kv5
theorem Qg3 {N a0} (ka0:XS a0):PT (Qc2 N a0) (λ r=>XS r.1):=by
 rw[Qc2]
 refine (WA λ y1=>(Wl (We ?_) (WA λ y2=>(Wt (Qe9 ?_) λ y3 h1=>(Wt (Qhy ?_ ?_) λ y10 h2=>(Wt (QgI ?_ ?_) λ y11 h3=>(We ?_)))))))
 all_goals simp_all (maxDischargeDepth:=9)
theorem Qad {N a0}:PT (Qac N a0) (λ r=>XY r.1/\tU r.2.1):=by
 rw[Qac]
 refine (We ?_)
 all_goals simp_all (maxDischargeDepth:=9)
theorem Qgs {N a0 a1 a2} (ka1:tU a1) (ka2:tU a2):PT (Qb1 N a0 a1 a2) (λ r=>YU r.1):=by
 rw[Qb1]
 refine (Wl (Wl (We ?_) (We ?_)) (We ?_))
 all_goals simp_all (maxDischargeDepth:=9)
theorem Qg4 {N a0 a1} (ka0:XJ a0) (ka1:tU a1):PT (QdQ N a0 a1) (λ r=>XJ r.1):=by
 rw[QdQ]
 refine (WA λ y1=>(Wl (We ?_) (Wl (We ?_) (Wl (We ?_) (WA λ p2=>(WA λ y3=>(WA λ p4=>(Wl (We ?_) (Wl (We ?_) (WN (WN (WN (WN (We ?_))))))))))))))
 all_goals simp_all (maxDischargeDepth:=9)
theorem QjH {N a0 a1} (ka0:XL a0):PT (Qdn N a0 a1) (λ r=>XL r.1/\tU r.2.1):=by
 rw[Qdn]
 refine (WN (WA λ y1=>(WA λ y2=>(UW (Q:=λ k=>∀ _,PT (k ()) _) (λ _=>(WA λ y5=>(Wl (We ?_) (Wl (We ?_) (WA λ y6=>(WA λ p11=>(WA λ p12=>(WA λ p13=>(We ?_))))))))) λ j1 hj1=>(Wl (hj1 ()) (WA λ p3=>(Wl (hj1 ()) (WA λ p4=>(Wl (hj1 ()) (Wl (hj1 ()) (WA λ p14=>(WA λ p15=>(WA λ p16=>(We ?_))))))))))))))
 all_goals simp_all (maxDischargeDepth:=9)
theorem QjI {N a0 a1 a2} (ka0:XL a0):PT (QdS N a0 a1 a2) (λ r=>XL r.1/\tU r.2.1):=by
 rw[QdS]
 refine (WA λ y1=>(Wl (We ?_) (WA λ y2=>(WA λ y3=>(Wl (We ?_) (WA λ y4=>(We ?_)))))))
 all_goals simp_all (maxDischargeDepth:=9)
theorem Qj5 {N a0 a1 a2} (ka0:XL a0) (ka1:tU a1) (ka2:YU a2):PT (QbI N a0 a1 a2) (λ r=>XL r.1):=by
 rw[QbI]
 refine (Wt (Qgl ?_) λ y1 h1=>(WA λ y2=>(Wl (We ?_) (Wl (We ?_) (WN (WN (Wt (QfO ?_ ?_ ?_) λ y3 h2=>(Wl (We ?_) (We ?_)))))))))
 all_goals simp_all (maxDischargeDepth:=9)
theorem QhN {N a0 a1} (ka0:XL a0) (ka1:YU a1):PT (QbM N a0 a1) (λ r=>XL r.1/\tU r.2.1):=by
 rw[QbM]
 refine (WA λ y1=>(Wl (We ?_) (WA λ y2=>(Wl (We ?_) (WA λ y3=>(WA λ y4=>(Wt (QjH ?_) λ y5 h1=>(UW (Q:=λ k=>∀ x7 x8 x9 x10 x11 x12 x13 x14,tU x7->(tL tU) x11->PT (k x7 x8 x9 x10 x11 x12 x13 x14) _) (λ x7 x8 x9 x10 x11 x12 x13 x14 h2 h3=>(Wl (We ?_) (Wt (Qj5 ?_ ?_ ?_) λ y15 h4=>(We ?_)))) λ j1 hj1=>(Wl (Wt (QjI ?_) λ y6 h5=>(hj1 _ _ _ _ _ _ _ _ ?_ ?_)) (hj1 _ _ _ _ _ _ _ _ ?_ ?_))))))))))
 all_goals simp_all (maxDischargeDepth:=9)
theorem QjJ {N a0 a1} (ka0:XY a0) (ka1:YU a1):PT (Qb2 N a0 a1) (λ r=>XY r.1/\tU r.2.1):=by
 rw[Qb2]
 refine (WA λ y1=>(Wl (We ?_) (Wt (QhN ?_ ?_) λ y2 h1=>(UW (Q:=λ k=>∀ x5 x6 x7 x8 x9 x10 x11 x12 x13 x14 x15 x16 x17 x18 x19 x20 x21 x22 x23 x24 x25,tU x5->(tL tU) x9->(tL X7) x13->(tL Xw) x16->(tL Xw) x17->(tL YG) x18->(tL tU) x19->(tL tU) x22->PT (k x5 x6 x7 x8 x9 x10 x11 x12 x13 x14 x15 x16 x17 x18 x19 x20 x21 x22 x23 x24 x25) _) (λ x5 x6 x7 x8 x9 x10 x11 x12 x13 x14 x15 x16 x17 x18 x19 x20 x21 x22 x23 x24 x25 h2 h3 h4 h5 h6 h7 h8 h9=>(Wl (We ?_) (We ?_))) λ j1 hj1=>(Wl (Wt (Qg2 ?_) λ y3 h10=>(Wl (We ?_) (Wt (QhN ?_ ?_) λ y4 h11=>(hj1 _ _ _ _ _ _ _ _ _ _ _ _ _ _ _ _ _ _ _ _ _ ?_ ?_ ?_ ?_ ?_ ?_ ?_ ?_)))) (hj1 _ _ _ _ _ _ _ _ _ _ _ _ _ _ _ _ _ _ _ _ _ ?_ ?_ ?_ ?_ ?_ ?_ ?_ ?_))))))
 all_goals simp_all (maxDischargeDepth:=9)
theorem Qfj {N a0}:PT (Qbv N a0) (λ r=>tU r.1):=by
 rw[Qbv]
 refine (WA λ y1=>(Wl (We ?_) (We ?_)))
 all_goals simp_all (maxDischargeDepth:=9) []
theorem QfP {N a0 a1} (ka0:XY a0) (ka1:tU a1):PT (Qb3 N a0 a1) (λ r=>XY r.1/\tU r.2.1):=by
 rw[Qb3]
 refine (Wl (We ?_) (Wt (Qg4 ?_ ?_) λ y1 h1=>(Wl (Wt (Qad) λ y2 h2=>(We ?_)) (Wt (Qfj) λ y3 h3=>(We ?_)))))
 all_goals simp_all (maxDischargeDepth:=9)
theorem Qi3 {N a0 a1 a2 a3} (ka0:XY a0) (ka2:tU a2) (ka3:tU a3):PT (QcP N a0 a1 a2 a3) (λ r=>XY r.1/\tU r.2.1):=by
 rw[QcP]
 refine (Wl (Wt (Qad) λ y1 h1=>(We ?_)) (Wt (Qgs ?_ ?_) λ y2 h2=>(UW (Q:=λ k=>∀ _,PT (k ()) _) (λ _=>(Wt (Qad) λ y4 h3=>(We ?_))) λ j1 hj1=>(Wl (hj1 ()) (WA λ y3=>(Wl (hj1 ()) (Wt (Qg4 ?_ ?_) λ y5 h4=>(Wl (Wt (Qad) λ y6 h5=>(We ?_)) (Wt (QjJ ?_ ?_) λ y7 h6=>(Wl (Wt (Qad) λ y8 h7=>(We ?_)) (Wt (QfP ?_ ?_) λ y9 h8=>(We ?_))))))))))))
 all_goals simp_all (maxDischargeDepth:=9)
theorem Qg5 {N a0 a1 a2} (ka0:XJ a0):PT (QdT N a0 a1 a2) (λ r=>tU r.1):=by
 rw[QdT]
 refine (WA λ y1=>(Wl (We ?_) (Wl (We ?_) (Wl (We ?_) (WA λ p2=>(Wl (We ?_) (Wl (We ?_) (PT.get (T:=X7) ?_ λ p3 h1=>(Wl (We ?_) (PT.get (T:=X7) ?_ λ p4 h2=>(Wl (We ?_) (PT.get (T:=X7) ?_ λ p5 h3=>(We ?_)))))))))))))
 all_goals simp_all (maxDischargeDepth:=9)
theorem Qfv {N a0 a1 a2} (ka0:XW a0):PT (Qds N a0 a1 a2) (λ r=>tU r.1):=by
 rw[Qds]
 refine (WA λ y1=>(Wl (We ?_) (Wl (We ?_) (Wl (We ?_) (Wl (We ?_) (PT.get (T:=Xw) ?_ λ p2 h1=>(Wl (We ?_) (PT.get (T:=Xw) ?_ λ p3 h2=>(Wl (We ?_) (PT.get (T:=Xw) ?_ λ p4 h3=>(Wl (We ?_) (PT.get (T:=Xw) ?_ λ p5 h4=>(We ?_)))))))))))))
 all_goals simp_all (maxDischargeDepth:=9)
theorem Qcz {N a0 a1} (ka0:XY a0) (ka1:tU a1):PT (QaD N a0 a1) (λ r=>tU r.1):=by
 rw[QaD]
 refine (WA λ y1=>(Wl (We ?_) (Wl (We ?_) (WA λ y2=>(Wl (We ?_) (Wl (Wt (Qg5 ?_) λ y3 h1=>(We ?_)) (Wl (Wt (Qfv ?_) λ y4 h2=>(We ?_)) (Wt (Qfv ?_) λ y5 h3=>(We ?_)))))))))
 all_goals simp_all (maxDischargeDepth:=9)
theorem QfQ {N a0 a1} (ka0:XY a0) (ka1:tU a1):PT (QcI N a0 a1) (λ r=>tU r.1):=by
 rw[QcI]
 refine (Wt (Qcz ?_ ?_) λ y1 h1=>(Wl (Wl (We ?_) (We ?_)) (We ?_)))
 all_goals simp_all (maxDischargeDepth:=9)
theorem Qhl {N a0 a1 a2 a3} (ka0:XY a0) (ka1:tU a1) (ka2:tU a2):PT (QcJ N a0 a1 a2 a3) (λ r=>tU r.1):=by
 rw[QcJ]
 refine (Wt (QfQ ?_ ?_) λ y1 h1=>(Wl (We ?_) (Wt (QgS ?_ ?_) λ y2 h2=>(Wl (We ?_) (WA λ y3=>(Wl (We ?_) (We ?_)))))))
 all_goals simp_all (maxDischargeDepth:=9)
theorem Qhm {N a0 a1 a2} (ka0:XL a0) (ka1:tU a1):PT (Qbp N a0 a1 a2) (λ r=>tU r.1):=by
 rw[Qbp]
 refine (Wt (QgS ?_ ?_) λ y1 h1=>(Wl (We ?_) (Wl (We ?_) (Wl (We ?_) (Wt (Qef ?_ ?_) λ y2 h2=>(We ?_))))))
 all_goals simp_all (maxDischargeDepth:=9)
theorem Qh1 {N a0 a1 a2 a3} (ka0:XL a0) (ka1:tU a1) (ka3:tU a3):PT (Qbm N a0 a1 a2 a3) (λ r=>XL r.1):=by
 rw[Qbm]
 refine (Wt (Qhm ?_ ?_) λ y1 h1=>(Wl (We ?_) (Wt (Qgr ?_ ?_ ?_) λ y2 h2=>(We ?_))))
 all_goals simp_all (maxDischargeDepth:=9)
theorem QjK {N a0 a1 a2 a3 a4} (ka0:XY a0) (ka2:tU a2) (ka3:tU a3) (ka4:tU a4):PT (Qdp N a0 a1 a2 a3 a4) (λ r=>XY r.1/\tU r.2.1):=by
 rw[Qdp]
 refine (UW (Q:=λ k=>∀ x3 x4 x5,tU x3->PT (k x3 x4 x5) _) (λ x3 x4 x5 h1=>(Wl (Wt (Qad) λ y6 h2=>(We ?_)) (Wt (Qhm ?_ ?_) λ y7 h3=>(Wl (We ?_) (Wl (Wt (QfP ?_ ?_) λ y8 h4=>(We ?_)) (UW (Q:=λ k=>∀ x11,tU x11->PT (k x11) _) (λ x11 h5=>(Wt (Qh1 ?_ ?_ ?_) λ y12 h6=>(We ?_))) λ j2 hj2=>(Wl (Wt (Qcz ?_ ?_) λ y9 h7=>(Wl (Wt (Qad) λ y10 h8=>(We ?_)) (hj2 _ ?_))) (hj2 _ ?_)))))))) λ j1 hj1=>(Wl (Wt (Qhl ?_ ?_ ?_) λ y1 h9=>(hj1 _ _ _ ?_)) (Wt (Qhl ?_ ?_ ?_) λ y2 h10=>(hj1 _ _ _ ?_))))
 all_goals simp_all (maxDischargeDepth:=9)
theorem QjL {N a0 a1 a2 a3} (ka0:XY a0) (ka2:tU a2) (ka3:tU a3):PT (Qdq N a0 a1 a2 a3) (λ r=>XY r.1/\tU r.2.1):=by
 rw[Qdq]
 refine (UW (Q:=λ k=>∀ x1,PT (k x1) _) (λ x1=>(Wl (Wt (QfQ ?_ ?_) λ y2 h1=>(Wl (Wt (Qad) λ y3 h2=>(We ?_)) (Wt (QgS ?_ ?_) λ y4 h3=>(Wl (We ?_) (We ?_))))) (Wl (Wt (Qcz ?_ ?_) λ y5 h4=>(Wl (Wt (Qad) λ y6 h5=>(We ?_)) (Wt (Qcz ?_ ?_) λ y7 h6=>(Wl (Wt (Qad) λ y8 h7=>(We ?_)) (Wl (We ?_) (We ?_)))))) (Wt (Qcz ?_ ?_) λ y9 h8=>(Wl (Wt (Qad) λ y10 h9=>(We ?_)) (Wt (QfP ?_ ?_) λ y11 h10=>(We ?_))))))) λ j1 hj1=>(Wl (hj1 _) (hj1 _)))
 all_goals simp_all (maxDischargeDepth:=9)
theorem Qhc {N a0 a1} (ka0:XW a0) (ka1:tU a1):∀ n v2,PT (Qbw N a0 a1 n v2) (tE (λ r=>XW r.1) (λ _=>True))
 | 0,_=>by rw[Qbw];exact IJ
 | n+1,v2=>by
  have ih:=Qhc (N:=N) (a0:=a0) (a1:=a1) ka0 ka1 n
  rw[Qbw]
  refine (WN (Wl (PT.get (T:=Xw) ?_ λ p3 h1=>(Wl (PT.get (T:=Xw) ?_ λ p4 h2=>(Wl (PT.get (T:=Xw) ?_ λ p5 h3=>(PT.get (T:=Xw) ?_ λ p6 h4=>(PT.get (T:=Xw) ?_ λ p7 h5=>(We ?_)))) (ih _))) (ih _))) (We ?_)))
  all_goals (clear ih;simp_all (maxDischargeDepth:=9))
theorem Qi4 {N a0 a1 n v2} (ka0:XW a0) (ka1:tU a1):PT (Qbw N a0 a1 n v2) (tE (λ r=>XW r.1) (λ _=>True)):=Qhc ka0 ka1 n _
theorem Qg6 {N a0 a1} (ka0:XW a0) (ka1:tU a1):PT (Qce N a0 a1) (λ r=>XW r.1):=by
 rw[Qce]
 refine (WA λ y1=>(Wl (We ?_) (WN (Oq (Qi4 ?_ ?_) (λ r h1=>(We ?_)) λ y8 h2=>(WN (Wl (We ?_) (WN (WN (We ?_)))))))))
 all_goals simp_all (maxDischargeDepth:=9)
theorem Qir {N a0 a1 a2} (ka0:XY a0) (ka2:tU a2):PT (Qcu N a0 a1 a2) (λ r=>XY r.1/\tU r.2.1):=by
 rw[Qcu]
 refine (Wt (QfQ ?_ ?_) λ y1 h1=>(Wl (Wt (Qad) λ y2 h2=>(We ?_)) (UW (Q:=λ k=>∀ x3 x4,(tL Xw) x4->PT (k x3 x4) _) (λ x3 x4 h3=>(Wt (Qg6 ?_ ?_) λ y5 h4=>(Wl (Wt (Qad) λ y6 h5=>(We ?_)) (UW (Q:=λ k=>∀ x7 x8,(tL Xw) x7->(tL Xw) x8->PT (k x7 x8) _) (λ x7 x8 h6 h7=>(Wt (Qfj) λ y9 h8=>(We ?_))) λ j2 hj2=>(Wl (hj2 _ _ ?_ ?_) (hj2 _ _ ?_ ?_)))))) λ j1 hj1=>(Wl (hj1 _ _ ?_) (hj1 _ _ ?_)))))
 all_goals simp_all (maxDischargeDepth:=9)
theorem Qhd {N a0 a1 a2} (ka0:XJ a0):PT (Qdt N a0 a1 a2) (λ r=>XJ r.1):=by
 rw[Qdt]
 refine (Wt (Qg5 ?_) λ y1 h1=>(Wl (We ?_) (WN (PT.get (T:=X7) ?_ λ p2 h2=>(We ?_)))))
 all_goals simp_all (maxDischargeDepth:=9)
theorem Qkh {N a0 a1 a2} (ka0:XW a0) (ka2:Xw a2):PT (Qf2 N a0 a1 a2) XW:=by
 rw[Qf2]
 refine (WN (PT.get (T:=Xw) ?_ λ p1 h1=>(We ?_)))
 all_goals simp_all (maxDischargeDepth:=9)
theorem Qfk {N a0 a1 a2} (ka0:XW a0):PT (Qcj N a0 a1 a2) (λ r=>XW r.1):=by
 rw[Qcj]
 refine (Wt (Qfv ?_) λ y1 h1=>(Wl (We ?_) (Wt (Qkh ?_ ?_) λ y2 h2=>(We ?_))))
 all_goals simp_all (maxDischargeDepth:=9)
theorem Qi5 {N a0 a1 a2} (ka0:XY a0) (ka2:tU a2):PT (QcQ N a0 a1 a2) (λ r=>XY r.1/\tU r.2.1):=by
 rw[QcQ]
 refine (Wl (Wt (Qad) λ y1 h1=>(We ?_)) (Wt (Qcz ?_ ?_) λ y2 h2=>(Wl (Wt (Qad) λ y3 h3=>(We ?_)) (WA λ y4=>(UW (Q:=λ k=>∀ _,PT (k ()) _) (λ _=>(Wl (Wt (Qhd ?_) λ y6 h4=>(We ?_)) (Wl (Wt (Qfk ?_) λ y7 h5=>(We ?_)) (Wt (Qfk ?_) λ y8 h6=>(We ?_))))) λ j2 hj2=>(UW (Q:=λ k=>∀ _,PT (k ()) _) (λ _=>(Wt (Qad) λ y5 h7=>(We ?_))) λ j1 hj1=>(Wl (Wl (hj1 ()) (Wl (Wl (hj1 ()) (Wl (Wl (hj1 ()) (hj2 ())) (hj2 ()))) (Wl (Wl (hj1 ()) (hj2 ())) (hj2 ())))) (Wl (Wl (hj1 ()) (Wl (Wl (hj1 ()) (hj2 ())) (hj2 ()))) (Wl (Wl (hj1 ()) (hj2 ())) (hj2 ()))))))))))
 all_goals simp_all (maxDischargeDepth:=9)
theorem Qj6 {N a0 a1 a2} (ka0:XJ a0):PT (QfC N a0 a1 a2) (λ r=>XJ r.1):=by
 rw[QfC]
 refine (WA λ y1=>(Wl (We ?_) (Wl (We ?_) (Wl (We ?_) (UW (Q:=λ k=>∀ _,PT (k ()) _) (λ _=>(Wl (We ?_) (WN (WN (We ?_))))) λ j1 hj1=>(Wl (Wl (We ?_) (hj1 ())) (hj1 ())))))))
 all_goals simp_all (maxDischargeDepth:=9)
theorem Qhu {N a0 a1} (ka0:XJ a0):PT (QdJ N a0 a1) (λ r=>XJ r.1):=by
 rw[QdJ]
 refine (Wt (Qj6 ?_) λ y1 h1=>(We ?_))
 all_goals simp_all (maxDischargeDepth:=9)
theorem Qki {N a0 a1} (ka0:XJ a0):PT (Qf3 N a0 a1) XJ:=by
 rw[Qf3]
 refine (WA λ p1=>(WN (WN (WN (WN (We ?_))))))
 all_goals simp_all (maxDischargeDepth:=9)
theorem QhO {N a0} (ka0:XJ a0):PT (Qem N a0) (λ r=>XJ r.1):=by
 rw[Qem]
 refine (WA λ y1=>(Wl (We ?_) (Wl (We ?_) (WA λ p2=>(Wl (We ?_) (Wt (Qki ?_) λ y3 h1=>(We ?_)))))))
 all_goals simp_all (maxDischargeDepth:=9)
theorem Qi6 {N a0 a1 a2} (ka0:XY a0) (ka2:tU a2):PT (QcR N a0 a1 a2) (λ r=>XY r.1/\tU r.2.1):=by
 rw[QcR]
 refine (Wl (Wl (Wt (Qad) λ y1 h1=>(We ?_)) (Wt (Qhu ?_) λ y2 h2=>(Wl (Wt (Qad) λ y3 h3=>(We ?_)) (We ?_)))) (Wt (Qcz ?_ ?_) λ y4 h4=>(Wl (Wt (Qad) λ y5 h5=>(We ?_)) (Wt (QhO ?_) λ y6 h6=>(Wl (Wt (Qad) λ y7 h7=>(We ?_)) (Wt (QfP ?_ ?_) λ y8 h8=>(We ?_)))))))
 all_goals simp_all (maxDischargeDepth:=9)
theorem Qgt {N a0 a1 a2} (ka0:XL a0) (ka1:tU a1):PT (Qb4 N a0 a1 a2) XL:=by
 rw[Qb4]
 refine (WN (WA λ y1=>(WA λ p2=>(WA λ p3=>(We ?_)))))
 all_goals simp_all (maxDischargeDepth:=9)
theorem Qis {N a0 a1 a2} (ka0:XL a0) (ka1:(tL YG) a1) (ka2:tU a2):PT (Qbi N a0 a1 a2) (λ r=>XL r.1/\(tL YG) r.2.1):=by
 rw[Qbi]
 refine (WA λ y1=>(Wl (We ?_) (Wl (We ?_) (WA λ y2=>(Wl (We ?_) (WN (PT.get (T:=YG) ?_ λ p3 h1=>(PT.get (T:=YG) ?_ λ p4 h2=>(PT.get (T:=YG) ?_ λ p5 h3=>(Wl (WN (WN (WN (Wt (Qgt ?_ ?_) λ y7 h4=>(We ?_))))) (Wt (Qgt ?_ ?_) λ y8 h5=>(We ?_))))))))))))
 all_goals simp_all (maxDischargeDepth:=9)
theorem Qkj {N a0 a1 a2} (ka0:XL a0) (ka1:(tL YG) a1) (ka2:tU a2):PT (Qc4 N a0 a1 a2) (λ r=>XL r.1/\(tL YG) r.2.1/\tU r.2.2.1):=by
 rw[Qc4]
 refine (WA λ y1=>(Wl (We ?_) (Wl (We ?_) (WA λ y2=>(Wl (We ?_) (WA λ y3=>(UW (Q:=λ k=>∀ _,PT (k ()) _) (λ _=>(WN (UW (Q:=λ k=>∀ x11,(tL YG) x11->PT (k x11) _) (λ x11 h1=>(Wt (Qgt ?_ ?_) λ y12 h2=>(We ?_))) λ j2 hj2=>(Wl (PT.get (T:=YG) ?_ λ p9 h3=>(PT.get (T:=YG) ?_ λ p10 h4=>(hj2 _ ?_))) (WN (hj2 _ ?_)))))) λ j1 hj1=>(Wl (PT.get (T:=YG) ?_ λ p4 h5=>(Wl (We ?_) (Wl (Wl (We ?_) (WA λ y5=>(Wl (We ?_) (hj1 ())))) (WA λ y6=>(Wl (We ?_) (hj1 ())))))) (Wl (Wl (We ?_) (WA λ y7=>(Wl (We ?_) (hj1 ())))) (WA λ y8=>(Wl (We ?_) (hj1 ()))))))))))))
 all_goals simp_all (maxDischargeDepth:=9)
theorem Qj7 {N a0 a1 a2} (ka0:XY a0) (ka2:tU a2):PT (QdK N a0 a1 a2) (λ r=>XY r.1/\tU r.2.1):=by
 rw[QdK]
 refine (Wt (QfQ ?_ ?_) λ y1 h1=>(Wl (Wt (Qad) λ y2 h2=>(We ?_)) (Wl (Wt (Qis ?_ ?_ ?_) λ y3 h3=>(Wl (Wt (Qad) λ y4 h4=>(We ?_)) (We ?_))) (Wt (Qkj ?_ ?_ ?_) λ y5 h5=>(Wl (Wt (Qad) λ y6 h6=>(We ?_)) (We ?_))))))
 all_goals simp_all (maxDischargeDepth:=9)
theorem Qj8 {N a0 a1 a2 a3 a4} (ka0:XY a0) (ka2:tU a2) (ka3:tU a3) (ka4:tU a4):PT (QdL N a0 a1 a2 a3 a4) (λ r=>XY r.1/\tU r.2.1):=by
 rw[QdL]
 refine (WA λ y1=>(Wl (Wt (Qad) λ y2 h1=>(We ?_)) (UW (Q:=λ k=>∀ x4,PT (k x4) _) (λ x4=>(Wl (Wt (Qi3 ?_ ?_ ?_) λ y5 h2=>(We ?_)) (UW (Q:=λ k=>∀ x8,PT (k x8) _) (λ x8=>(Wl (Wt (QjK ?_ ?_ ?_ ?_) λ y9 h3=>(We ?_)) (UW (Q:=λ k=>∀ x12,PT (k x12) _) (λ x12=>(Wl (Wt (QjL ?_ ?_ ?_) λ y13 h4=>(We ?_)) (UW (Q:=λ k=>∀ x14,PT (k x14) _) (λ x14=>(Wl (Wt (Qir ?_ ?_) λ y15 h5=>(We ?_)) (UW (Q:=λ k=>∀ x17,PT (k x17) _) (λ x17=>(Wl (Wt (Qi5 ?_ ?_) λ y18 h6=>(We ?_)) (UW (Q:=λ k=>∀ x19,PT (k x19) _) (λ x19=>(Wl (Wt (Qi6 ?_ ?_) λ y20 h7=>(We ?_)) (UW (Q:=λ k=>∀ x21,PT (k x21) _) (λ x21=>(Wl (Wt (Qj7 ?_ ?_) λ y22 h8=>(We ?_)) (Wt (Qad) λ y23 h9=>(We ?_)))) λ j13 hj13=>(Wl (hj13 _) (hj13 _))))) λ j12 hj12=>(Wl (hj12 _) (hj12 _))))) λ j11 hj11=>(Wl (hj11 _) (UW (Q:=λ k=>∀ x16,PT (k x16) _) (λ x16=>(hj11 _)) λ j10 hj10=>(Wl (hj10 _) (hj10 _))))))) λ j9 hj9=>(Wl (hj9 _) (hj9 _))))) λ j8 hj8=>(Wl (hj8 _) (UW (Q:=λ k=>∀ x11,PT (k x11) _) (λ x11=>(hj8 _)) λ j7 hj7=>(Wl (hj7 _) (UW (Q:=λ k=>∀ x10,PT (k x10) _) (λ x10=>(hj7 _)) λ j6 hj6=>(Wl (hj6 _) (hj6 _))))))))) λ j5 hj5=>(Wl (hj5 _) (UW (Q:=λ k=>∀ x7,PT (k x7) _) (λ x7=>(hj5 _)) λ j4 hj4=>(Wl (hj4 _) (UW (Q:=λ k=>∀ x6,PT (k x6) _) (λ x6=>(hj4 _)) λ j3 hj3=>(Wl (hj3 _) (hj3 _))))))))) λ j2 hj2=>(Wl (hj2 _) (UW (Q:=λ k=>∀ x3,PT (k x3) _) (λ x3=>(hj2 _)) λ j1 hj1=>(Wl (hj1 _) (hj1 _)))))))
 all_goals simp_all (maxDischargeDepth:=9)
theorem Qit {N a0 a1 a2 a3 a4} (ka0:XY a0) (ka1:XY a1) (ka3:tU a3):PT (Qdy N a0 a1 a2 a3 a4) XfX:=by
 rw[Qdy]
 refine (UW (Q:=λ k=>∀ x1,PT (k x1) _) (λ x1=>(UW (Q:=λ k=>∀ x2,PT (k x2) _) (λ x2=>(Wl (Wl (We ?_) (We ?_)) (We ?_))) λ j2 hj2=>(Wl (hj2 _) (hj2 _)))) λ j1 hj1=>(Wl (hj1 _) (Wl (hj1 _) (hj1 _))))
 all_goals simp_all (maxDischargeDepth:=9)
theorem QeW {N a0 a1} (ka0:XS a0) (ka1:tU a1):PT (QaE N a0 a1) (λ r=>tU r.1):=by
 rw[QaE]
 refine (WA λ y1=>(Wl (We ?_) (Wl (We ?_) (WA λ y2=>(Wl (We ?_) (Wl (Wt (Qg5 ?_) λ y3 h1=>(We ?_)) (Wl (Wt (Qfv ?_) λ y4 h2=>(We ?_)) (Wt (Qfv ?_) λ y5 h3=>(We ?_)))))))))
 all_goals simp_all (maxDischargeDepth:=9)
theorem QfR {N a0 a1} (ka0:XS a0) (ka1:tU a1):PT (Qck N a0 a1) (λ r=>XS r.1/\tU r.2):=by
 rw[Qck]
 refine (Wl (We ?_) (Wt (Qg4 ?_ ?_) λ y1 h1=>(Wt (Qfj) λ y2 h2=>(We ?_))))
 all_goals simp_all (maxDischargeDepth:=9)
theorem QhP {N a0 a1 a2 a3} (ka0:XS a0) (ka1:tU a1) (ka3:tU a3):PT (QeJ N a0 a1 a2 a3) XS:=by
 rw[QeJ]
 refine (WN (PT.get (T:=Zd) ?_ λ p1 h1=>(WN (PT.get (T:=tU) ?_ λ p2 h2=>(PT.get (T:=Zd) ?_ λ p3 h3=>(We ?_))))))
 all_goals simp_all (maxDischargeDepth:=9)
theorem Qiu {N a0 a1 a2} (ka0:XS a0) (ka2:tU a2):PT (Qdz N a0 a1 a2) (λ r=>XS r.1/\tU r.2):=by
 rw[Qdz]
 refine (UW (Q:=λ k=>∀ x3 x4 x5 x6 x7,(tL Xw) x3->(tL Xw) x4->PT (k x3 x4 x5 x6 x7) _) (λ x3 x4 x5 x6 x7 h1 h2=>(Wt (Qfj) λ y8 h3=>(We ?_))) λ j1 hj1=>(Wl (Wt (Qg6 ?_ ?_) λ y1 h4=>(hj1 _ _ _ _ _ ?_ ?_)) (Wt (Qg6 ?_ ?_) λ y2 h5=>(hj1 _ _ _ _ _ ?_ ?_))))
 all_goals simp_all (maxDischargeDepth:=9)
theorem Qi7 {N a0 a1} (ka0:XS a0) (ka1:tU a1):PT (Qd4 N a0 a1) XS:=by
 rw[Qd4]
 refine (WA λ y1=>(Wl (Wt (Qhd ?_) λ y2 h1=>(We ?_)) (Wl (Wt (Qfk ?_) λ y3 h2=>(We ?_)) (Wt (Qfk ?_) λ y4 h3=>(We ?_)))))
 all_goals simp_all (maxDischargeDepth:=9)
theorem Qj9 {N a0 a1 a2 a3} (ka0:XS a0) (ka2:tU a2) (ka3:tU a3):PT (QeS N a0 a1 a2 a3) (λ r=>XS r.1/\tU r.2):=by
 rw[QeS]
 refine (WA λ y1=>(WN (Wl (PT.get (T:=ZR) ?_ λ p2 h1=>(PT.get (T:=ZR) ?_ λ p3 h2=>(PT.get (T:=ZR) ?_ λ p4 h3=>(Wl (WN (WN (WN (We ?_)))) (We ?_))))) (Wl (PT.get (T:=ZR) ?_ λ p7 h4=>(PT.get (T:=ZR) ?_ λ p8 h5=>(PT.get (T:=ZR) ?_ λ p9 h6=>(We ?_)))) (WN (We ?_))))))
 all_goals simp_all (maxDischargeDepth:=9)
theorem Qka {N a0 a1 a2 a3 a4 a5} (ka0:XS a0) (ka2:tU a2) (ka3:tU a3) (ka4:tU a4) (ka5:XfX a5):PT (QeT N a0 a1 a2 a3 a4 a5) (λ r=>XS r.1/\tU r.2.1):=by
 rw[QeT]
 refine (WA λ y1=>(Wl (We ?_) (UW (Q:=λ k=>∀ x3,tU x3->PT (k x3) _) (λ x3 h1=>(UW (Q:=λ k=>∀ x5,PT (k x5) _) (λ x5=>(Wl (UW (Q:=λ k=>∀ x7 x8 x9 x10 x11 x12 x13 x14 x15 x16,(tL Zd) x9->(tL X7) x10->(tL Xw) x13->(tL Xw) x14->(tL ZR) x15->(tL tU) x16->PT (k x7 x8 x9 x10 x11 x12 x13 x14 x15 x16) _) (λ x7 x8 x9 x10 x11 x12 x13 x14 x15 x16 h2 h3 h4 h5 h6 h7=>(Wt (Qgs ?_ ?_) λ y17 h8=>(WN (WN (WN (WN (Wt (QfR ?_ ?_) λ y18 h9=>(We ?_)))))))) λ j4 hj4=>(Wl (Wt (Qg3 ?_) λ y6 h10=>(hj4 _ _ _ _ _ _ _ _ _ _ ?_ ?_ ?_ ?_ ?_ ?_)) (hj4 _ _ _ _ _ _ _ _ _ _ ?_ ?_ ?_ ?_ ?_ ?_))) (Wl (PT.get (T:=Zd) ?_ λ p19 h11=>(We ?_)) (Wl (PT.get (T:=Zd) ?_ λ p20 h12=>(We ?_)) (Wl (PT.get (T:=Zd) ?_ λ p21 h13=>(PT.get (T:=tU) ?_ λ p22 h14=>(We ?_))) (Wl (Wt (QhP ?_ ?_ ?_) λ y23 h15=>(We ?_)) (Wl (PT.get (T:=Zd) ?_ λ p24 h16=>(PT.get (T:=tU) ?_ λ p25 h17=>(Wt (QfR ?_ ?_) λ y26 h18=>(We ?_)))) (Wl (Wt (QeW ?_ ?_) λ y27 h19=>(Wt (QhP ?_ ?_ ?_) λ y28 h20=>(We ?_))) (Wl (Wt (QeW ?_ ?_) λ y29 h21=>(Wl (We ?_) (We ?_))) (Wl (Wt (QfR ?_ ?_) λ y30 h22=>(We ?_)) (UW (Q:=λ k=>∀ x31,PT (k x31) _) (λ x31=>(Wl (Wt (Qiu ?_ ?_) λ y32 h23=>(We ?_)) (UW (Q:=λ k=>∀ x34,PT (k x34) _) (λ x34=>(Wl (Wt (Qi7 ?_ ?_) λ y35 h24=>(We ?_)) (Wl (Wt (Qhu ?_) λ y36 h25=>(We ?_)) (Wl (Wt (QhO ?_) λ y37 h26=>(Wt (QfR ?_ ?_) λ y38 h27=>(We ?_))) (Wt (Qj9 ?_ ?_ ?_) λ y39 h28=>(We ?_)))))) λ j7 hj7=>(Wl (hj7 _) (UW (Q:=λ k=>∀ x33,PT (k x33) _) (λ x33=>(hj7 _)) λ j6 hj6=>(Wl (hj6 _) (hj6 _))))))) λ j5 hj5=>(Wl (hj5 _) (hj5 _))))))))))))) λ j3 hj3=>(Wl (hj3 _) (UW (Q:=λ k=>∀ x4,PT (k x4) _) (λ x4=>(hj3 _)) λ j2 hj2=>(Wl (hj2 _) (hj2 _)))))) λ j1 hj1=>(Wl (Wl (Wt (QeW ?_ ?_) λ y2 h29=>(hj1 _ ?_)) (hj1 _ ?_)) (hj1 _ ?_)))))
 all_goals simp_all (maxDischargeDepth:=9)
theorem Qi8 {N a0 a1} (ka0:Vn a0) (ka1:XbD a1):PT (QbP N a0 a1) (λ r=>Vn r.1/\tU r.2.1):=by
 rw[QbP]
 refine (Wl (Wt (Qg2 ?_) λ y1 h1=>(UW (Q:=λ k=>∀ x3 x4 x5 x6 x7 x8 x9 x10 x11 x12 x13 x14 x15 x16 x17 x18 x19 x20 x21 x22 x23 x24 x25,(tL tU) x5->(tL X7) x9->(tL Xw) x12->(tL Xw) x13->(tL YG) x14->(tL tU) x15->(tL Zd) x18->(tL X7) x19->(tL Xw) x22->(tL Xw) x23->(tL ZR) x24->(tL tU) x25->PT (k x3 x4 x5 x6 x7 x8 x9 x10 x11 x12 x13 x14 x15 x16 x17 x18 x19 x20 x21 x22 x23 x24 x25) _) (λ x3 x4 x5 x6 x7 x8 x9 x10 x11 x12 x13 x14 x15 x16 x17 x18 x19 x20 x21 x22 x23 x24 x25 h2 h3 h4 h5 h6 h7 h8 h9 h10 h11 h12 h13=>(We ?_)) λ j1 hj1=>(Wl (Wt (Qg3 ?_) λ y2 h14=>(hj1 _ _ _ _ _ _ _ _ _ _ _ _ _ _ _ _ _ _ _ _ _ _ _ ?_ ?_ ?_ ?_ ?_ ?_ ?_ ?_ ?_ ?_ ?_ ?_)) (hj1 _ _ _ _ _ _ _ _ _ _ _ _ _ _ _ _ _ _ _ _ _ _ _ ?_ ?_ ?_ ?_ ?_ ?_ ?_ ?_ ?_ ?_ ?_ ?_)))) (Wt (Qj8 ?_ ?_ ?_ ?_) λ y26 h15=>(Wt (Qit ?_ ?_ ?_) λ y27 h16=>(Wt (Qka ?_ ?_ ?_ ?_ ?_) λ y28 h17=>(UW (Q:=λ k=>∀ x29 x30 x31 x32 x33 x34 x35 x36 x37 x38,(tL Zd) x31->(tL X7) x32->(tL Xw) x35->(tL Xw) x36->(tL ZR) x37->(tL tU) x38->PT (k x29 x30 x31 x32 x33 x34 x35 x36 x37 x38) _) (λ x29 x30 x31 x32 x33 x34 x35 x36 x37 x38 h18 h19 h20 h21 h22 h23=>(Wl (Wl (WN (WN (We ?_))) (We ?_)) (We ?_))) λ j2 hj2=>(Wl (hj2 _ _ _ _ _ _ _ _ _ _ ?_ ?_ ?_ ?_ ?_ ?_) (hj2 _ _ _ _ _ _ _ _ _ _ ?_ ?_ ?_ ?_ ?_ ?_)))))))
 all_goals simp_all (maxDischargeDepth:=9)
theorem Qez {N a0 a1} (ka0:Vn a0):PT (Qbn N a0 a1) (λ r=>tU r.1):=by
 rw[Qbn]
 refine (WA λ y1=>(Wl (WA λ y2=>(PT.get (T:=tU) ?_ λ p3 h1=>(We ?_))) (Wl (WA λ y4=>(PT.get (T:=tU) ?_ λ p5 h2=>(WA λ y6=>(We ?_)))) (UW (Q:=λ k=>∀ x8,PT (k x8) _) (λ x8=>(Wl (WA λ y9=>(PT.get (T:=tU) ?_ λ p10 h3=>(We ?_))) (WA λ y11=>(PT.get (T:=tU) ?_ λ p12 h4=>(We ?_))))) λ j2 hj2=>(Wl (hj2 _) (UW (Q:=λ k=>∀ x7,PT (k x7) _) (λ x7=>(hj2 _)) λ j1 hj1=>(Wl (hj1 _) (hj1 _))))))))
 all_goals simp_all (maxDischargeDepth:=9)
theorem Qh2 {N a0 a1} (ka0:Vn a0):PT (QcF N a0 a1) (λ r=>XbD r.1):=by
 rw[QcF]
 refine (WA λ y1=>(WA λ p2=>(Wl (WA λ y3=>(WN (WA λ y4=>(We ?_)))) (UW (Q:=λ k=>∀ x5,PT (k x5) _) (λ x5=>(Wl (WA λ y6=>(WA λ y7=>(Wl (WA λ y8=>(We ?_)) (We ?_)))) (Wl (WA λ y9=>(We ?_)) (Wt (Qez ?_) λ y10 h1=>(WA λ y11=>(WA λ y12=>(UW (Q:=λ k=>∀ x16 x17 x18,tU x18->PT (k x16 x17 x18) _) (λ x16 x17 x18 h2=>(Wl (Wt (Qez ?_) λ y19 h3=>(We ?_)) (We ?_))) λ j2 hj2=>(Wl (Wt (Qez ?_) λ y14 h4=>(hj2 _ _ _ ?_)) (WA λ y13=>(Wl (Wt (Qez ?_) λ y15 h5=>(hj2 _ _ _ ?_)) (hj2 _ _ _ ?_))))))))))) λ j1 hj1=>(Wl (hj1 _) (hj1 _))))))
 all_goals simp_all (maxDischargeDepth:=9)
theorem Qhz {N a0 a1} (ka0:XbE a0):PT (Qcw N a0 a1) (λ r=>XbE r.1):=by
 rw[Qcw]
 refine (WN (WN (WN (WA λ y1=>(WN (WA λ y2=>(WA λ y3=>(UW (Q:=λ k=>∀ x4,PT (k x4) _) (λ x4=>(Wl (WA λ y5=>(PT.get (T:=tU) ?_ λ p6 h1=>(PT.get (T:=tU) ?_ λ p7 h2=>(We ?_)))) (Wl (PT.get (T:=tU) ?_ λ p8 h3=>(WA λ y9=>(WN (PT.get (T:=tU) ?_ λ p10 h4=>(We ?_))))) (Wl (WA λ y11=>(WA λ p12=>(We ?_))) (Wl (WA λ y13=>(WA λ p14=>(We ?_))) (Wl (WA λ p15=>(WA λ y16=>(WA λ p17=>(We ?_)))) (Wl (WA λ y18=>(WA λ p19=>(We ?_))) (Wl (WA λ y20=>(We ?_)) (Wl (WN (WA λ y21=>(We ?_))) (Wl (We ?_) (Wl (WN (We ?_)) (Wl (WA λ y26=>(We ?_)) (We ?_))))))))))))) λ j1 hj1=>(Wl (hj1 _) (hj1 _))))))))))
 all_goals simp_all (maxDischargeDepth:=9)
theorem Qkk {N a0 a1} (ka0:XY a0):PT (Qfr N a0 a1) (λ r=>XY r.1):=by
 rw[Qfr]
 refine (WA λ y1=>(Wl (Wt (Qhz ?_) λ y2 h1=>(We ?_)) (Wl (WN (WA λ y3=>(WN (We ?_)))) (Wl (Wl (WN (WA λ y4=>(PT.get (T:=X7) ?_ λ p5 h2=>(WA λ y6=>(PT.get (T:=X7) ?_ λ p7 h3=>(We ?_)))))) (We ?_)) (Wl (WN (WA λ y8=>(WA λ y9=>(WN (We ?_))))) (Wl (WN (WA λ y10=>(WA λ y11=>(WN (We ?_))))) (Wl (WN (WA λ y12=>(WA λ y13=>(WN (We ?_))))) (Wl (WN (WA λ y14=>(WA λ y15=>(WN (We ?_))))) (We ?_)))))))))
 all_goals simp_all (maxDischargeDepth:=9)
end Go.Sx
namespace Go.Sx
def BIG:Nat:=1099511627776
theorem Xa0 {ws:List Int} (hl:ws.length<=BIG) (N:Nat) (a k:Int) (hk : -1<=k/\k<=1000000000000000000):Qdk N ws a k =
 some (if 4096<=a/\a<=4096+ws.length then (a-4096,decide (a+k<=4096+ws.length)) else (0,false)):=by
 unfold BIG at hl
 simp only[Qdk,Uy]
 rw[Xv (n:=(ws.length:Int)) (by omega) (by omega),Xv (n:=4096+(ws.length:Int)) (by omega) (by omega)]
 by_cases h1:a<4096
 ·rw[Wm h1,Wk (by omega)]
 ·rw[Wk h1]
  by_cases h2:a>4096+ws.length
  ·rw[Wm h2,Wk (by omega)]
  ·rw[Wk h2,Wm (by omega),Xv (n:=a-4096) (by omega) (by omega),Xc (n:=a-4096) (by omega) (by omega),Xc (by omega) (by omega)]
   congr 2
   exact decide_eq_decide.2 (by omega)
def inW (ws:List Int) (a:Int):Prop:=4096<=a/\a<4096+ws.length
instance (ws:List Int) (a:Int):Decidable (inW ws a):=by unfold inW;infer_instance
def ix (a:Int):Nat:=(a-4096).toNat
theorem ZC {ws:List Int} (hl:ws.length<=BIG) (N:Nat) (a:Int):Qa5 N ws a=some (if inW ws a then (ws.getD (ix a) 0,0) else (0,2)):=by
 simp only[Qa5,Qfa,Xa0 hl N a 1 (by omega),Xa]
 by_cases h:4096<=a/\a<=4096+ws.length
 ·simp only[Wm h]
  by_cases h2:inW ws a
  ·have h3:a+1<=4096+ws.length:=by unfold inW at h2;omega
   simp only[Wm h2,h3,decide_true,Ws,Wa,Xa]
   have h4:(a-4096).toNat<ws.length:=by unfold inW at h2;omega
   rw[show ((0:Int) != 0)=false from rfl,Wa,Yc (by omega) (by unfold inW at h2;omega),Xa]
   simp[ix,List.getD,h4]
  ·have h3:¬ a+1<=4096+ws.length:=by unfold inW at h2;omega
   simp only[Wk h2,h3,decide_false,WU,Wc,Xa]
   rfl
 ·have h2:¬ inW ws a:=by unfold inW;omega
  simp only[Wk h,Wk h2,WU,Wc,Xa]
  rfl
def ovr (ws l:List Int) (i:Nat):List Int:=ws.take i++l++ws.drop (i+l.length)
theorem ZS {ws l:List Int} {i:Nat} (h:i+l.length<=ws.length):(ovr ws l i).length=ws.length:=by
 simp[ovr];omega
theorem XdA {ws l:List Int} {i:Nat} (h:i+l.length<=ws.length) (j:Nat):(ovr ws l i)[j]? = if i<=j/\j<i+l.length then l[j-i]? else ws[j]?:=by
 unfold ovr
 have hm:(ws.take i).length=i:=by simp only[Wz];omega
 by_cases h1:j<i
 ·rw[Wk (by omega),Ut,Uq (by omega),WW,Wm h1]
 ·by_cases h2:j<i+l.length
  ·rw[Wm (by omega),Uq (by rw[Wq];omega),UP (by omega),hm]
  ·rw[Wk (by omega),UP (by rw[Wq];omega),Un,Wq,hm]
   congr 1
   omega
theorem XeH {ws l:List Int} {i:Nat} (h:i+l.length<=ws.length) (j:Nat):(ovr ws l i).getD j 0=if i<=j/\j<i+l.length then l.getD (j-i) 0 else ws.getD j 0:=by
 simp only[Wp,XdA h]
 split<;>rfl
theorem XeI {l:List Int} (y:Int×Bool) (i:Nat) (N:Nat) (ws:List Int) (hi:y.1=i) (h:i+l.length<=ws.length) (hl:ws.length<=BIG):∀ (n k:Nat) (v:List Int),k<=l.length->l.length-k<n->v=ovr ws (l.take k) i ->
 Qbz N l y n (k:Int) v=some (ovr ws l i)
 | 0,k,v,_,hn,_=>by omega
 | n+1,k,v,hk,hn,hv=>by
  unfold BIG at hl
  rw[Qbz]
  have hlt:(l.take k).length=k:=by simp;omega
  have hvl:v.length=ws.length:=by rw[hv];exact ZS (by rw[hlt];omega)
  by_cases h1:k<l.length
  ·have e1:decide ((k:Int)<((l.length:Nat):Int))=true:=by simp;omega
   have e2:wI (y.1+(k:Int))=((i+k:Nat):Int):=by rw[hi,Xc (by omega) (by omega)];simp
   have e3:wI ((k:Int)+1)=((k+1:Nat):Int):=by rw[Xc (by omega) (by omega)];simp
   rw[e1,Wc,Yc (by omega) (by omega),Xa,e2,Yc (by omega) (by omega),Xa,e3]
   refine XeI y i N ws hi h (by unfold BIG;omega) n (k+1) _ (by omega) (by omega) ?_
   rw[hv]
   simp only[IC]
   apply List.ext_getElem?
   intro j
   have hlt2:(l.take (k+1)).length=k+1:=by simp only[Wz];omega
   rw[Ik,ZS (by omega),XdA (by omega),XdA (by omega),hlt,hlt2]
   by_cases hj:i+k=j
   ·subst hj
    rw[Wm rfl,Wm (by omega),Wm (by omega),WW,Wm (by omega),IG,Wd h1]
   ·rw[Wk hj]
    by_cases hj2:i<=j/\j<i+k
    ·rw[Wm hj2,Wm (by omega),WW,WW,Wm (by omega),Wm (by omega)]
    ·rw[Wk hj2,Wk (by omega)]
  ·have e1:decide ((k:Int)<((l.length:Nat):Int))=false:=by simp;omega
   rw[e1,Wa,hv,U3 (by omega)]
def Yb (ws:List Int) (a:Int) (k:Nat):Prop:=4096<=a/\a+k<=4096+ws.length
instance (ws:List Int) (a:Int) (k:Nat):Decidable (Yb ws a k):=by unfold Yb;infer_instance
theorem Z2 {ws l:List Int} (hl:ws.length<=BIG) (h2:l.length<=BIG) {N:Nat} (hN:l.length<N) (a:Int):QbY N ws a l=some (if Yb ws a l.length then (ovr ws l (ix a),0) else ([],2)):=by
 simp only[QbY]
 rw[Xa0 hl N a _ (by unfold BIG at h2;omega),Xa]
 by_cases h:Yb ws a l.length
 ·have h3:4096<=a/\a<=4096+ws.length:=by unfold Yb at h;omega
  have h4:a+(l.length:Int)<=4096+ws.length:=by unfold Yb at h;omega
  simp only[Wm h,Wm h3,h4,decide_true,Ws,Wa]
  rw[Xe (by unfold BIG at hl;omega)]
  have:=XeI (l:=l) (a-4096,true) (ix a) N ws (by unfold ix;simp;omega) (by unfold ix;omega) hl N 0 ws (by omega) (by omega) (by simp[ovr])
  rw[show ((0:Nat):Int)=0 from rfl] at this
  rw[this,Xa]
 ·by_cases h3:4096<=a/\a<=4096+ws.length
  ·have h4:¬ a+(l.length:Int)<=4096+ws.length:=by unfold Yb at h;omega
   simp only[Wk h,Wm h3,h4,decide_false,WU,Wc]
  ·simp only[Wk h,Wk h3,WU,Wc]
theorem VM {ws:List Int} (hl:ws.length<=BIG) {N:Nat} (hN:1<N) (a v:Int):Qdm N ws a v=some (if inW ws a then (ws.set (ix a) v,0) else ([],2)):=by
 simp only[Qdm]
 rw[Z2 (l:=[v]) hl (by unfold BIG;simp) (by simpa using hN),Xa]
 by_cases h:inW ws a
 ·have h1:Yb ws a [v].length:=by unfold inW at h;unfold Yb;simp only[W5,Uz];omega
  simp only[Wm h,Wm h1]
  congr 2
  unfold ovr
  have hlt:ix a<ws.length:=by unfold inW at h;unfold ix;omega
  simp[Ib,hlt]
 ·have h1:¬ Yb ws a [v].length:=by unfold inW at h;unfold Yb;simp only[W5,Uz];omega
  simp only[Wk h,Wk h1]
theorem Xa1 {ws:List Int} (hl:ws.length<=BIG) (N:Nat) (a:Int) (k:Nat) (hk:k<=1000000000):QcM N ws a (k:Int)=some (if Yb ws a k then ((ws.drop (ix a)).take k,0) else ([],2)):=by
 simp only[QcM]
 have e1:decide ((k:Int)<0)=false:=Wj (by omega)
 rw[e1,Wa,Xa0 hl N a _ (by omega),Xa]
 unfold BIG at hl
 by_cases h:Yb ws a k
 ·have h3:4096<=a/\a<=4096+ws.length:=by unfold Yb at h;omega
  have h4:a+(k:Int)<=4096+ws.length:=by unfold Yb at h;omega
  simp only[Wm h,Wm h3,h4,decide_true,Ws,Wa]
  rw[Xc (n:=a-4096+(k:Int)) (by omega) (by omega),Xe (by omega),Xe (by omega)]
  have e2:(a-4096+(k:Int)).toNat-(a-4096).toNat=k:=by omega
  rw[e2];rfl
 ·by_cases h3:4096<=a/\a<=4096+ws.length
  ·have h4:¬ a+(k:Int)<=4096+ws.length:=by unfold Yb at h;omega
   simp only[Wk h,Wm h3,h4,decide_false,WU,Wc]
  ·simp only[Wk h,Wk h3,WU,Wc]
theorem Xmd {ws:List Int} (hl:ws.length<=BIG) {N:Nat} (to a:Int) (k:Nat) (hk:k<=1000000000) (hN:k<N):QeO N ws to a (k:Int) =
 some (if Yb ws a k/\Yb ws to k then (ovr ws ((ws.drop (ix a)).take k) (ix to),0) else ([],2)):=by
 simp only[QeO]
 rw[Xa1 hl N a k hk,Xa]
 by_cases h:Yb ws a k
 ·have hlen:((ws.drop (ix a)).take k).length=k:=by unfold Yb at h;simp[ix];omega
  simp only[Wm h]
  rw[show ((0:Int) != 0)=false from rfl,Wa,Z2 hl (by rw[hlen];unfold BIG;omega) (by rw[hlen];exact hN),Xa,hlen]
  by_cases h2:Yb ws to k
  ·rw[Wm h2,Wm ⟨h,h2⟩]
  ·rw[Wk h2,Wk (λ h3=>h2 h3.2)]
 ·simp only[Wk h]
  rw[show ((2:Int) != 0)=true from rfl,Wc,Wk (λ h3=>h h3.1)]
end Go.Sx
namespace Go.Sx
def Xx (d:Wy):Bool:=decide (0<=d.Kind/\d.Kind<=3/\0<=d.Length/\d.Length<=255)&&(if d.Kind=1 then decide (d.Length<=32)&&decide (d.Map % 18446744073709551616<2 ^ d.Length.toNat) else decide (d.Map=0))
theorem YZ (N:Nat) (d:Wy):QcG N d=some (Xx d):=by
 simp only[QcG,Uy,Xx]
 by_cases h1:d.Kind<0
 ·rw[Wm h1,Wj (by omega),Um]
 rw[Wk h1]
 by_cases h2:d.Kind>3
 ·rw[Wm h2,Wj (by omega),Um]
 rw[Wk h2]
 by_cases h3:d.Length<0
 ·rw[Wm h3,Wj (by omega),Um]
 rw[Wk h3]
 by_cases h4:d.Length>255
 ·rw[Wm h4,Wj (by omega),Um]
 rw[Wk h4,Wh (p:=0<=d.Kind/\d.Kind<=3/\0<=d.Length/\d.Length<=255) (by omega),WR]
 by_cases h5:d.Kind=1
 ·rw[Wm h5,h5,show ((1:Int) != 1)=false from rfl,Wa]
  by_cases h6:d.Length<=32
  ·rw[Wm h6,Xv (n:=d.Length) (by omega) (by omega),Xe (by omega),XjI (by omega) (by omega),XbB,Wh h6,WR]
  ·rw[Wk h6,Wj h6,Um]
 ·have:(d.Kind != 1)=true:=by simpa using h5
  rw[Wk h5,this,Wc]
  congr 1
theorem XH {d:Wy} (h:Xx d=true):0<=d.Kind/\d.Kind<=3/\0<=d.Length/\d.Length<=255:=by
 unfold Xx at h
 simp only[WE,decide_eq_true_eq] at h
 exact h.1
def XF (d:Wy):Int:=if Xx d then d.Length+1 else 0
theorem Yf (N:Nat) (d:Wy):Qco N d=some (XF d):=by
 simp only[Qco,YZ,Xa,XF]
 cases h:Xx d with
 | false=>rfl
 | true=>have:=XH h;simp[Xc (n:=d.Length+1) (by omega) (by omega)]
theorem XeJ (d:Wy):0<=XF d/\XF d<=256:=by
 unfold XF
 split
 ·rename_i h;have:=XH h;omega
 ·omega
def Vo (d:Wy):Int:=wU (wU (wU (1+wU (4*wU d.Kind))+wU (16*wU d.Length))+ZM .u64 (wU d.Map) 16)
theorem Jg (N:Nat) (d:Wy):Qcg N d=some (if Xx d then (Vo d,0) else (0,1)):=by
 simp only[Qcg,YZ,Xa]
 cases h:Xx d<;>rfl
def Vp (w:Int):Wy:=⟨wI (Yv .u64 (X5 .u64 w 2) 3),wI (Yv .u64 (X5 .u64 w 4) 4095),wW (X5 .u64 w 16)⟩
def okH (w:Int):Bool:=Xx (Vp w)&&(Vo (Vp w)==w)
def Z3 (w:Int):Wy:=if okH w then Vp w else ⟨0,0,0⟩
theorem VN (N:Nat) (w:Int):QbK N w=some (Z3 w,okH w):=by
 show QbK N w=_
 simp only[QbK]
 rw[Jg N (Wy.mk _ _ _),Xa]
 show _=some (Z3 w,okH w)
 unfold Z3 okH Vp
 cases h:Xx (Vp w) with
 | false=>unfold Vp at h;simp only[h];rfl
 | true =>
  unfold Vp at h
  simp only[h,if_true,WR]
  rw[show ((0:Int) != 0)=false from rfl,Wa]
  by_cases h2:Vo ⟨wI (Yv .u64 (X5 .u64 w 2) 3),wI (Yv .u64 (X5 .u64 w 4) 4095),wW (X5 .u64 w 16)⟩=w
  ·simp[h2]
  ·rw[show (Vo ⟨wI (Yv .u64 (X5 .u64 w 2) 3),wI (Yv .u64 (X5 .u64 w 4) 4095),wW (X5 .u64 w 16)⟩ != w)=true by simpa using h2,show (Vo ⟨wI (Yv .u64 (X5 .u64 w 2) 3),wI (Yv .u64 (X5 .u64 w 4) 4095),wW (X5 .u64 w 16)⟩==w)=false by simpa using h2]
   rfl
theorem ZT (w:Int):Xx (Z3 w)=true:=by
 unfold Z3
 split
 ·rename_i h;unfold okH at h;simp only[WE] at h;exact h.1
 ·rfl
theorem XcL (w:Int):XF (Z3 w)=(Z3 w).Length+1/\1<=XF (Z3 w)/\XF (Z3 w)<=256:=by
 have h:=ZT w
 have:=XH h
 unfold XF
 rw[Wm h]
 omega
def KD (d:Wy) (i:Int):Bool:=Xx d&&(decide (0<=i/\i<d.Length)&&(decide (d.Kind=2)||(decide (d.Kind=1)&&(Yv .u32 (X5 .u32 d.Map (wU i)) 1==1))))
theorem J0 (N:Nat) (d:Wy) (i:Int):QbU N d i=some (KD d i):=by
 simp only[QbU,YZ,Xa,KD,Uy]
 cases h:Xx d with
 | false=>rfl
 | true =>
  simp only[Ws,Wa,WR]
  by_cases h1:i<0
  ·rw[Wm h1,Wj (by omega),Um]
  rw[Wk h1]
  by_cases h2:i>=d.Length
  ·rw[Wm h2,Wj (by omega),Um]
  rw[Wk h2,Wh (p:=0<=i/\i<d.Length) (by omega),WR,Xe (VK i).1]
  by_cases h3:d.Kind=2
  ·simp[h3]
  ·by_cases h4:d.Kind=1
   ·simp[h4]
   ·have e1:(d.Kind==2)=false:=by simpa using h3
    have e2:(d.Kind==1)=false:=by simpa using h4
    simp[e1,e2,h3,h4]
def Yg (d:Wy):Nat->Int->List Int
 | 0,_=>[]
 | k+1,i=>(if KD d i then [i] else [])++Yg d k (i+1)
def ZD (d:Wy):List Int:=if Xx d then Yg d d.Length.toNat 0 else []
theorem Jh {d:Wy}:∀ {k:Nat} {i x:Int},x∈Yg d k i->i<=x/\x<i+k/\KD d x=true
 | 0,i,x,h=>by simp[Yg] at h
 | k+1,i,x,h=>by
  simp only[Yg,WJ] at h
  rcases h with h | h
  ·split at h
   ·rename_i hp;simp at h;subst h;exact ⟨by omega,by omega,hp⟩
   ·simp at h
  ·have:=Jh h;exact ⟨by omega,by omega,this.2.2⟩
theorem Ji {d:Wy}:∀ {k:Nat} {i:Int},(Yg d k i).length<=k
 | 0,i=>by simp[Yg]
 | k+1,i=>by
  have:=Ji (d:=d) (k:=k) (i:=i+1)
  simp only[Yg,Wq]
  split<;>simp<;>omega
theorem JF (N:Nat) (d:Wy) (hv:Xx d=true):∀ (n:Nat) (i:Int) (v:List Int),0<=i->i<=d.Length->(d.Length-i).toNat<n->v.length<=1000-(d.Length-i).toNat->v.length+(d.Length-i).toNat<=1000 ->
 QbE N d n i v=some (v++Yg d (d.Length-i).toNat i)
 | 0,i,v,_,_,h,_,_=>by omega
 | n+1,i,v,h0,h1,h2,h3,h4=>by
  have hb:=XH hv
  rw[QbE]
  by_cases h:i<d.Length
  ·obtain ⟨k,hk⟩:∃ k,(d.Length-i).toNat=k+1:=⟨(d.Length-i).toNat-1,by omega⟩
   have hk2:(d.Length-(i+1)).toNat=k:=by omega
   rw[Wh h,Wc,YZ,Xa,hv,Wc,J0,Xa,hk,Xc (n:=i+1) (by omega) (by omega)]
   simp only[Yg]
   cases hp:KD d i with
   | true =>
    rw[Wc,Xe (by omega),JF N d hv n (i+1) _ (by omega) (by omega) (by omega) (by rw[Wq];simp only[W5,Uz];omega) (by rw[Wq];simp only[W5,Uz];omega),hk2]
    simp
   | false =>
    rw[Wa,JF N d hv n (i+1) _ (by omega) (by omega) (by omega) (by omega) (by omega),hk2]
    simp
  ·rw[Wj h,Wa,show (d.Length-i).toNat=0 by omega]
   simp[Yg]
theorem XjL {N:Nat} (hN:300<N) (d:Wy):QeB N d=some (ZD d):=by
 simp only[QeB,ZD]
 cases hv:Xx d with
 | true =>
  have hb:=XH hv
  rw[JF N d hv N 0 [] (by omega) (by omega) (by omega) (by simp only[Uz];omega) (by simp only[Uz];omega),Xa]
  simp
 | false =>
  obtain ⟨n,rfl⟩:∃ n,N=n+1:=⟨N-1,by omega⟩
  rw[QbE,YZ,Xa,hv,Wa]
  cases h:decide ((0:Int)<d.Length)<;>simp[Xa]
def Xnq (w:Int):Bool:=decide (w.tmod 4=2)&&decide (X5 .u64 w 2<4294967296)
theorem XcM (N:Nat) (w:Int):Qdr N w=some (if Xnq w then (X5 .u64 w 2,true) else (0,false)):=by
 simp only[Qdr,Xnq,Uy]
 by_cases h1:w.tmod 4=2
 ·by_cases h2:X5 .u64 w 2>=4294967296
  ·have h3:¬ X5 .u64 w 2<4294967296:=by omega
   simp[h1,h2,h3]
  ·have h3:X5 .u64 w 2<4294967296:=by omega
   simp[h1,h2,h3]
 ·have:(w.tmod 4 != 2)=true:=by simpa using h1
  simp[this,h1]
theorem XfY (N:Nat) (a:Int):Qdw N a=some (if a>=4294967296 then (0,1) else (wU (wU (4*a)+2),0)):=by
 simp only[Qdw,Uy]
 split<;>rfl
end Go.Sx
namespace Go.Sx
def XZ (c:WT):Bool:=decide (16<=c.PageWords/\c.PageWords<=64/\c.PageWords % 4=0/\8<=c.Pages/\c.Pages<=64)
theorem Xi {c:WT}:XZ c=true↔16<=c.PageWords/\c.PageWords<=64/\c.PageWords % 4=0/\8<=c.Pages/\c.Pages<=64:=by simp[XZ]
theorem Yy (N:Nat) (c:WT):Qaw N c=some (XZ c):=by
 simp only[Qaw,Uy,XZ]
 by_cases h1:c.PageWords>=16
 ·rw[Wm h1]
  by_cases h2:c.PageWords<=64
  ·rw[Wm h2]
   have e:c.PageWords.tmod 4=c.PageWords % 4:=Ix (by omega)
   rw[e]
   by_cases h3:c.PageWords % 4=0
   ·rw[h3,show ((0:Int)==0)=true from rfl,Wc]
    by_cases h4:c.Pages>=8
    ·rw[Wm h4]
     congr 1
     exact decide_eq_decide.2 (by omega)
    ·rw[Wk h4,Wj (by omega)]
   ·rw[show (c.PageWords % 4==0)=false by simpa using h3,Wa,Wj (by omega)]
  ·rw[Wk h2,Wj (by omega)]
 ·rw[Wk h1,Wj (by omega)]
def Y8 (c:WT):Int:=if XZ c then c.Pages / 4 else 0
theorem XbF (N:Nat) (c:WT):QdR N c=some (Y8 c):=by
 simp only[QdR,Yy,Xa,Y8]
 cases h:XZ c with
 | false=>rfl
 | true =>
  have:=Xi.1 h
  simp only[Ws,Wa,if_true]
  rw[Ic (by omega),Xc (by omega) (by omega)]
def smC (c:WT):Int:=if XZ c then c.PageWords / 4 else 0
theorem XgN (N:Nat) (c:WT):QbJ N c=some (smC c):=by
 simp only[QbJ,Yy,Xa,smC]
 cases h:XZ c with
 | false=>rfl
 | true =>
  have:=Xi.1 h
  simp only[Ws,Wa,if_true]
  rw[Ic (by omega),Xc (by omega) (by omega)]
def Xz (c:WT) (w:Int):Int :=
 if XZ c=true/\1<=w then (if w<=c.PageWords / 4 then 0 else if c.PageWords>=w then 1 else if 2*c.PageWords>=w then 2 else if 3*c.PageWords>=w then 3 else if 4*c.PageWords>=w then 4 else -1) else -1
theorem Xa2 (N:Nat) (c:WT) (w:Int) (hc:XZ c=true) (k:Int) (hk:1<=k/\k<=4) (n:Nat):Qcn N c w (n+1) k=if k*c.PageWords>=w then some (.ret k) else Qcn N c w n (k+1):=by
 have h:=Xi.1 hc
 have hm:0<=k*c.PageWords/\k*c.PageWords<=256:=by
  constructor
  ·exact Int.mul_nonneg (by omega) (by omega)
  ·have:=Int.mul_le_mul (a:=k) (b:=c.PageWords) (c:=4) (d:=64) (by omega) (by omega) (by omega) (by omega)
   omega
 rw[Qcn,Wh (by omega),Wc,Uy,Xc (n:=k*c.PageWords) (by omega) (by omega),Xc (n:=k+1) (by omega) (by omega)]
theorem Zr {N:Nat} (hN:10<=N) (c:WT) (w:Int):Qeh N c w=some (Xz c w):=by
 simp only[Qeh,Yy,XgN,Xa,Xz,smC]
 cases hc:XZ c with
 | false=>simp
 | true =>
  have h:=Xi.1 hc
  simp only[Ws,Wa,if_true,Uy]
  by_cases h1:w<1
  ·rw[Wm h1,Wk (show ¬ (True/\1<=w) from λ h=>by omega)]
  rw[Wk h1,Wm (show True/\1<=w from ⟨trivial,by omega⟩)]
  by_cases h2:w<=c.PageWords / 4
  ·rw[Wm h2,Wm h2]
  rw[Wk h2,Wk h2]
  obtain ⟨n,rfl⟩:∃ n,N=n+5:=⟨N-5,by omega⟩
  rw[Xa2 _ c w hc 1 (by omega),Xa2 _ c w hc (1+1) (by omega),Xa2 _ c w hc (1+1+1) (by omega),Xa2 _ c w hc (1+1+1+1) (by omega)]
  rw[show Qcn (n+5) c w (n+1) (1+1+1+1+1)=some (.nxt ()) by rw[Qcn,Wj (by omega),Wa]]
  simp only[Od,show (1:Int)+1=2 from rfl,show (2:Int)+1=3 from rfl,show (3:Int)+1=4 from rfl]
  by_cases h3:c.PageWords>=w
  ·simp only[Wm h3,Xa,XC]
  simp only[Wk h3]
  by_cases h4:2*c.PageWords>=w
  ·simp only[Wm h4,Xa,XC]
  simp only[Wk h4]
  by_cases h5:3*c.PageWords>=w
  ·simp only[Wm h5,Xa,XC]
  simp only[Wk h5]
  by_cases h6:4*c.PageWords>=w
  ·simp only[Wm h6,Xa,XC]
  ·simp only[Wk h6,Xa,Xr]
theorem Ze (c:WT) (w:Int) : -1<=Xz c w/\Xz c w<=4:=by
 unfold Xz;repeat' split
 all_goals omega
theorem X3 {c:WT} (hc:XZ c=true) {i:Int} (h0:0<=i) (h1:i<c.Pages):0<=i*c.PageWords/\i*c.PageWords+c.PageWords<=c.Pages*c.PageWords/\c.Pages*c.PageWords<=4096:=by
 have h:=Xi.1 hc
 refine ⟨Int.mul_nonneg h0 (by omega),?_,?_⟩
 ·have:=UE (a:=i+1) (b:=c.Pages) (c:=c.PageWords) (by omega) (by omega)
  rw[IK] at this
  omega
 ·have:=Int.mul_le_mul (a:=c.Pages) (b:=c.PageWords) (c:=64) (d:=64) (by omega) (by omega) (by omega) (by omega)
  omega
def Xg (c:WT) (p o:Int):Int:=4096+p*c.PageWords+o
theorem ZX (N:Nat) (c:WT) (p o:Int):Qbu N c p o=some (if XZ c=false then (0,1) else if 0<=p/\p<c.Pages/\0<=o/\o<c.PageWords then (Xg c p o,0) else (0,2)):=by
 simp only[Qbu,Yy,Xa,Uy]
 cases hc:XZ c with
 | false=>simp
 | true =>
  have h:=Xi.1 hc
  simp only[Ws,Wa]
  rw[Wk (show ¬ (true=false) by simp)]
  by_cases h1:p<0
  ·rw[Wm h1,Wk (by omega)]
  rw[Wk h1]
  by_cases h2:p>=c.Pages
  ·rw[Wm h2,Wk (by omega)]
  rw[Wk h2]
  by_cases h3:o<0
  ·rw[Wm h3,Wk (by omega)]
  rw[Wk h3]
  by_cases h4:o>=c.PageWords
  ·rw[Wm h4,Wk (by omega)]
  rw[Wk h4,Wm (by omega)]
  have hm:=X3 hc (i:=p) (by omega) (by omega)
  rw[Xc (n:=p*c.PageWords) (by omega) (by omega),Xc (n:=4096+p*c.PageWords) (by omega) (by omega),Xc (n:=4096+p*c.PageWords+o) (by omega) (by omega),Xv (by omega) (by omega)]
  rfl
theorem VO (N:Nat) (c:WT) (a:Int):Qc9 N c a=some (if XZ c=false then (0,0,1) else if 4096<=a/\a<4096+c.Pages*c.PageWords then ((a-4096) / c.PageWords,(a-4096) % c.PageWords,0) else (0,0,2)):=by
 simp only[Qc9,Yy,Xa,Uy]
 cases hc:XZ c with
 | false=>simp
 | true =>
  have h:=Xi.1 hc
  have hm:=X3 hc (i:=0) (by omega) (by omega)
  simp only[Ws,Wa]
  rw[Wk (show ¬ (true=false) by simp)]
  rw[Xc (n:=c.Pages*c.PageWords) (by omega) (by omega),Xc (n:=4096+c.Pages*c.PageWords) (by omega) (by omega),Xv (n:=4096+c.Pages*c.PageWords) (by omega) (by omega)]
  by_cases h1:a<4096
  ·rw[Wm h1,Wk (by omega)]
  rw[Wk h1]
  by_cases h2:a>=4096+c.Pages*c.PageWords
  ·rw[Wm h2,Wk (by omega)]
  rw[Wk h2,Wm (by omega),Xe (by omega),Xe (by omega)]
  rw[Xv (n:=a-4096) (by omega) (by omega),Xc (n:=a-4096) (by omega) (by omega),Ic (by omega),Ix (by omega)]
  have hd:0<=(a-4096) / c.PageWords:=Int.ediv_nonneg (by omega) (by omega)
  have hd2:(a-4096) / c.PageWords<=a-4096:=Int.ediv_le_self _ (by omega)
  rw[Xc (by omega) (by omega)]
theorem XdB {c:WT} (hc:XZ c=true) {a:Int} (h1:4096<=a) (h2:a<4096+c.Pages*c.PageWords) :
 0<=(a-4096) / c.PageWords/\(a-4096) / c.PageWords<c.Pages/\0<=(a-4096) % c.PageWords/\(a-4096) % c.PageWords<c.PageWords/\a=Xg c ((a-4096) / c.PageWords) ((a-4096) % c.PageWords):=by
 have h:=Xi.1 hc
 refine ⟨Int.ediv_nonneg (by omega) (by omega),Int.ediv_lt_of_lt_mul (by omega) (by omega),Int.emod_nonneg _ (by omega),Int.emod_lt_of_pos _ (by omega),?_⟩
 have:=Int.mul_ediv_add_emod (a-4096) c.PageWords
 unfold Xg
 rw[Oe] at this
 omega
theorem Xme {c:WT} (hc:XZ c=true) {p o:Int} (h0:0<=o) (h1:o<c.PageWords):(Xg c p o-4096) / c.PageWords=p/\(Xg c p o-4096) % c.PageWords=o:=by
 have h:=Xi.1 hc
 have e:Xg c p o-4096=o+c.PageWords*p:=by unfold Xg;rw[Oe p];omega
 rw[e,Int.add_mul_ediv_left _ _ (by omega),Int.add_mul_emod_self_left,Int.ediv_eq_zero_of_lt h0 h1,Int.emod_eq_of_lt h0 h1]
 exact ⟨by omega,rfl⟩
def XaJ:Wv:=⟨0,0,0,0⟩
def pg (ps:List Wv) (i:Int):Wv:=ps.getD i.toNat XaJ
theorem Yd {ps:List Wv} {i:Int} {p:Wv} (h:Xb ps i=some p):pg ps i=p:=by
 have:=(Ve.1 h).2
 simp[pg,this]
theorem YR {ps:List Wv} {i:Int} (h0:0<=i) (h1:i<ps.length):Xb ps i=some (pg ps i):=by
 rw[Yc h0 h1]
 have:i.toNat<ps.length:=by omega
 simp[pg,List.getD,this]
theorem XeK (N:Nat) (ps:List Wv) (sp:Int) (hl:ps.length<=BIG):∀ (n:Nat) (c i:Int),0<=i->0<=c->c<=BIG*2->i<=BIG*2->(ps.length:Int)+c-i<=BIG*2->(ps.length-i).toNat<n ->
 Ok (QcB N ps sp n c i) λ r=>c<=r/\∀ m,0<=m->m<r-c->i+m<ps.length/\(pg ps (i+m)).Kind=3
 | 0,c,i,_,_,_,_,_,h=>by omega
 | n+1,c,i,h0,hc,hc2,hi,hs,hn=>by
  unfold BIG at *
  rw[QcB]
  refine Wo (λ h=>?_) λ h=>Wg ⟨Int.le_refl _,λ m h1 h2=>by omega⟩
  have h1:i<ps.length:=by simpa using h
  refine Ok.get h0 h1 λ p hp=>Wo (λ hk=>?_) λ hk=>Wg ⟨Int.le_refl _,λ m h1 h2=>by omega⟩
  refine Ok.get h0 h1 λ p' hp'=>Wo (λ hk2=>?_) λ hk=>Wg ⟨Int.le_refl _,λ m h1 h2=>by omega⟩
  rw[Xc (n:=c+1) (by omega) (by omega),Xc (n:=i+1) (by omega) (by omega)]
  refine (XeK N ps sp (by unfold BIG;omega) n (c+1) (i+1) (by omega) (by omega) (by unfold BIG;omega) (by unfold BIG;omega) (by unfold BIG;omega) (by omega)).mono λ r hr=>⟨by omega,λ m h2 h3=>?_⟩
  by_cases hm:m=0
  ·subst hm;rw[Int.add_zero];exact ⟨h1,by rw[Yd hp];simpa using hk⟩
  ·have:=hr.2 (m-1) (by omega) (by omega)
   rw[show i+1+(m-1)=i+m by omega] at this
   exact this
theorem XjM {N:Nat} {ps:List Wv} (sp i:Int) (hl:ps.length<N) (hl2:ps.length<=100000000) (h0:0<=i) (hi:i<=100000000):Ok (Qeq N ps i sp) λ r=>0<=r/\∀ m,1<=m->m<=r->i+m<ps.length/\(pg ps (i+m)).Kind=3:=by
 rw[Qeq,Xc (n:=i+1) (by omega) (by omega)]
 refine WG (XeK N ps sp (by unfold BIG;omega) N 0 (i+1) (by omega) (by omega) (by unfold BIG;omega) (by unfold BIG;omega) (by unfold BIG;omega) (by omega)) λ r _ h=>Wg ⟨h.1,λ m h1 h2=>?_⟩
 have:=h.2 (m-1) (by omega) (by omega)
 rwa[show i+1+(m-1)=i+m by omega] at this
theorem Xa3 (N:Nat) (n:Int):Qf8 N n=some (decide (0<=n/\n<=2147483647)):=by
 simp only[Qf8,Uy]
 split
 ·congr 1;exact decide_eq_decide.2 (by omega)
 ·rw[Wj (by omega)]
end Go.Sx
namespace Go.Sx
structure OE (h:Wn) (i:Int):Prop where
 kind:0<=(pg h.Pages i).Kind/\(pg h.Pages i).Kind<=3
 space:0<=(pg h.Pages i).Space/\(pg h.Pages i).Space<=1
 pins:0<=(pg h.Pages i).Pins/\(pg h.Pages i).Pins<=2147483647
 free:(pg h.Pages i).Kind=0->pg h.Pages i=XaJ
 small:(pg h.Pages i).Kind=1->0<=(pg h.Pages i).Used/\(pg h.Pages i).Used<=h.Conf.PageWords
 large:(pg h.Pages i).Kind=2->1<=Xz h.Conf (pg h.Pages i).Used/\∀ m,1<=m->m<Xz h.Conf (pg h.Pages i).Used->i+m<h.Pages.length/\(pg h.Pages (i+m)).Kind=3
structure UH (h:Wn):Prop where
 conf:XZ h.Conf=true
 words:(h.Words.length:Int)=h.Conf.Pages*h.Conf.PageWords
 pages:(h.Pages.length:Int)=h.Conf.Pages
 space:0<=h.Space/\h.Space<=1
 bump:h.Bump = -1\/(0<=h.Bump/\h.Bump<h.Pages.length/\(pg h.Pages h.Bump).Kind=1)
 pgs:∀ i:Int,0<=i->i<h.Pages.length->OE h i
 first:(pg h.Pages 0).Kind≠3
def PL (h:Wn) (i:Int):Ex Bool Unit->Prop
 | .ret a=>a=false
 | .nxt _=>(∀ j,i<=j->j<h.Pages.length->OE h j)/\(i=0->(0:Int)<h.Pages.length->(pg h.Pages 0).Kind≠3)
theorem XcN {N:Nat} {h:Wn} (hc:XZ h.Conf=true) (hN:100000<N) (hl:(h.Pages.length:Int)=h.Conf.Pages):∀ (n:Nat) (due i:Int),0<=i->0<=due->due<=4->(h.Pages.length-i).toNat<n->(i=0->due=0) ->
 Ok (Qaq N h n due i) (PL h i)
 | 0,due,i,_,_,_,hn,_=>by omega
 | n+1,due,i,h0,hd,hd4,hn,hi0=>by
  have hv:=Xi.1 hc
  rw[Qaq]
  refine Wo (λ h1=>?_) λ h1=>Wg ⟨λ j hj hj2=>?_,λ hi hpos=>?_⟩
  rotate_left
  ·have:¬ i<h.Pages.length:=by simpa using h1
   omega
  ·have:¬ i<h.Pages.length:=by simpa using h1
   omega
  have hlt:i<h.Pages.length:=by simpa using h1
  refine Ok.get h0 hlt λ p hp=>?_
  have hpg:=Yd hp
  refine Wo (λ _=>Wg rfl) λ g1=>?_
  refine Wo (λ _=>Wg rfl) λ g2=>?_
  refine Wo (λ _=>Wg rfl) λ g3=>?_
  rw[Xa3,Xa]
  refine Wo (λ _=>Wg rfl) λ g4=>?_
  simp only[Bool.not_eq_false',beq_iff_eq,Ue,decide_eq_true_eq,Int.not_lt,Int.not_le] at g1 g2 g3 g4
  have hk3:p.Kind=3↔0<due:=by
   have e:(p.Kind==3)=decide (due>0):=g1
   by_cases hx:p.Kind=3
   ·have:(p.Kind==3)=true:=by simpa using hx
    rw[this] at e
    have:=Wr e.symm
    exact ⟨λ _=>this,λ _=>hx⟩
   ·have:(p.Kind==3)=false:=by simpa using hx
    rw[this] at e
    have:=WH e.symm
    exact ⟨λ h=>absurd h hx,λ h=>absurd h this⟩
  have next:∀ (due':Int),0<=due'->due'<=4->OE h i->Ok (Qaq N h n (if 0<wI (due'-1) then wI (due'-1) else 0) (wI (i+1))) (PL h i):=by
   intro due' hd1 hd2 hok
   rw[Xc (n:=i+1) (by omega) (by omega),Xc (n:=due'-1) (by omega) (by omega)]
   refine (XcN hc hN hl n _ (i+1) (by omega) (by split<;>omega) (by split<;>omega) (by omega) (by omega)).mono λ e he=>?_
   cases e with
   | ret a=>exact he
   | nxt b =>
   obtain ⟨k1,k2⟩:=he
   refine ⟨λ j hj hj2=>?_,λ hi hpos hk=>?_⟩
   ·by_cases hji:j=i
    ·subst hji;exact hok
    ·exact k1 j (by omega) hj2
   ·subst hi
    rw[hpg] at hk
    have:=hk3.1 hk
    have:=hi0 rfl
    omega
  refine Is ?_
  refine Wo (λ q0=>Wo (λ _=>Wg rfl) λ q1=>?_) λ q0=>Is (Wo (λ q1=>Wo (λ _=>Wg rfl) λ q2=>Wo (λ _=>Wg rfl) λ q3=>?_) λ q1=>Is (Wo (λ q2=>?_) λ q2=>Wo (λ q3=>Wo (λ _=>Wg rfl) λ q4=>Wo (λ _=>Wg rfl) λ q5=>?_) λ q3=>Wg rfl))
  ·refine next due hd hd4 ?_
   have hk:p.Kind=0:=by simpa using q0
   simp only[Bool.not_eq_false',WE,beq_iff_eq] at q1
   have hz:pg h.Pages i=XaJ:=by
    rw[hpg];cases p;simp only at q1;obtain ⟨rfl,rfl,rfl,rfl⟩:=q1;rfl
   refine ⟨by rw[hz];decide,by rw[hz];decide,by rw[hz];decide,λ _=>hz,λ e=>?_,λ e=>?_⟩
   ·rw[hz] at e;cases e
   ·rw[hz] at e;cases e
  ·refine next due hd hd4 ?_
   have hk:p.Kind=1:=by simpa using q1
   simp only[Ue,Int.not_lt] at q2 q3
   exact ⟨by rw[hpg];omega,by rw[hpg];omega,by rw[hpg];omega,λ e=>by rw[hpg] at e;omega,λ _=>by rw[hpg];omega,λ e=>by rw[hpg] at e;omega⟩
  ·have hk:p.Kind=2:=by simpa using q2
   rw[Zr (by omega),Xa]
   refine Wo (λ _=>Wg rfl) λ q3=>?_
   refine WG (XjM (N:=N) (ps:=h.Pages) p.Space i (by omega) (by omega) h0 (by omega)) λ t _ ht=>?_
   refine Wo (λ _=>Wg rfl) λ q4=>?_
   have hr:=Ze h.Conf p.Used
   have hn1:1<=Xz h.Conf p.Used:=by have:=WH q3;omega
   have hn2:Xz h.Conf p.Used-1<=t:=by
    have:=WH q4
    rw[Xc (by omega) (by omega)] at this
    omega
   refine next _ (by omega) (by omega) ?_
   exact ⟨by rw[hpg];omega,by rw[hpg];omega,by rw[hpg];omega,λ e=>by rw[hpg] at e;omega,λ e=>by rw[hpg] at e;omega,λ _=>by rw[hpg];exact ⟨hn1,λ m h1 h2=>ht.2 m h1 (by omega)⟩⟩
  ·refine next due hd hd4 ?_
   have hk:p.Kind=3:=by simpa using q3
   exact ⟨by rw[hpg];omega,by rw[hpg];omega,by rw[hpg];omega,λ e=>by rw[hpg] at e;omega,λ e=>by rw[hpg] at e;omega,λ e=>by rw[hpg] at e;omega⟩
theorem Yl {N:Nat} (hN:100000<N) {h:Wn} (hw:h.Words.length<=100000) (hp:h.Pages.length<=100000):Ok (Qab N h) λ b=>b=true->UH h:=by
 rw[Qab,Yy,Xa]
 refine Wo (λ _=>Wg λ e=>by cases e) λ g1=>?_
 have hc:XZ h.Conf=true:=by simpa using g1
 have hv:=Xi.1 hc
 have hm:=X3 hc (i:=0) (by omega) (by omega)
 refine Wo (λ _=>Wg λ e=>by cases e) λ g2=>?_
 refine Wo (λ _=>Wg λ e=>by cases e) λ g3=>?_
 refine Wo (λ _=>Wg λ e=>by cases e) λ g4=>?_
 refine Wo (λ _=>Wg λ e=>by cases e) λ g5=>?_
 have e2:(h.Words.length:Int)=h.Conf.Pages*h.Conf.PageWords:=by
  have:(h.Words.length:Int)=wI (h.Conf.Pages*h.Conf.PageWords):=by simpa using g2
  rwa[Xc (by omega) (by omega)] at this
 have e3:(h.Pages.length:Int)=h.Conf.Pages:=by simpa using g3
 have e4:0<=h.Space/\h.Space<=1:=⟨by simpa using g4,by simpa using g5⟩
 have main:(h.Bump = -1\/(0<=h.Bump/\h.Bump<h.Pages.length/\(pg h.Pages h.Bump).Kind=1))->Ok (bnd (Qaq N h N 0 0) λ e=>exK e (λ r=>some r) λ y12=>some true) λ b=>b=true->UH h:=by
  intro hb
  refine IS (XcN (N:=N) (h:=h) hc hN e3 N 0 0 (by omega) (by omega) (by omega) (by omega) (by omega)) (λ a hq=>?_) λ b hq=>Wg λ _=>?_
  ·have ha:a=false:=hq
   subst ha
   exact Wg λ e=>by cases e
  ·obtain ⟨k1,k2⟩:=hq
   exact ⟨hc,e2,e3,e4,hb,k1,k2 rfl (by omega)⟩
 refine Is (Wo (λ b1=>Wo (λ _=>Wg λ e=>by cases e) λ b2=>Wo (λ _=>Wg λ e=>by cases e) λ b3=>?_) λ b1=>main (.inl (by simpa using b1)))
 have h2:0<=h.Bump:=by simpa using b2
 have h3:h.Bump<h.Pages.length:=by simpa using b3
 refine Ok.get h2 h3 λ p hp=>Wo (λ _=>Wg λ e=>by cases e) λ b4=>main (.inr ⟨h2,h3,?_⟩)
 rw[Yd hp];simpa using b4
end Go.Sx
namespace Go.Sx
theorem dlt {a b:Int} (h:decide (a<b)=true):a<b:=Wr h
theorem Vq {ps:List Wv} {i j:Int} (p:Wv) (hi:0<=i) (hi2:i<ps.length) (hj:0<=j):pg (ps.set i.toNat p) j=if j=i then p else pg ps j:=by
 unfold pg
 simp only[Wp,Ik]
 by_cases h:j=i
 ·subst h;rw[Wm rfl,Wm rfl,Wm (by omega)];rfl
 ·rw[Wk (by omega),Wk h]
theorem XbG (N:Nat) (ps:List Wv) (hl:ps.length<=100000000):∀ (n:Nat) (c i:Int),0<=i->0<=c->c<=i->i<=ps.length->(ps.length-i).toNat<n->Ok (Qa3 N ps n c i) λ r=>0<=r/\r<=ps.length
 | 0,c,i,_,_,_,_,h=>by omega
 | n+1,c,i,h0,hc,hci,hi,hn=>by
  rw[Qa3]
  refine Wo (λ h=>?_) λ h=>Wg ⟨hc,by omega⟩
  have h1:i<ps.length:=dlt h
  refine Ok.get h0 h1 λ p hp=>?_
  rw[Xc (n:=c+1) (by omega) (by omega),Xc (n:=i+1) (by omega) (by omega)]
  refine Wo (λ _=>?_) λ _=>?_
  ·exact XbG N ps hl n (c+1) (i+1) (by omega) (by omega) (by omega) (by omega) (by omega)
  ·exact XbG N ps hl n c (i+1) (by omega) (by omega) (by omega) (by omega) (by omega)
theorem JG {N:Nat} {ps:List Wv} (hl:ps.length<=100000000) (hN:ps.length<N):Ok (Qci N ps) λ r=>0<=r/\r<=ps.length :=
 WG (XbG N ps hl N 0 0 (by omega) (by omega) (by omega) (by omega) (by omega)) λ r _ h=>Wg h
def RunOK (ps:List Wv) (i k:Int):Prop:=0<=i/\1<=k/\i+k<=ps.length/\∀ m,0<=m->m<k->(pg ps (i+m)).Kind=0
theorem Xa4 (N:Nat) (ps:List Wv) (hl:ps.length<=100000000):∀ (n:Nat) (i:Int) (rs:List Oh),0<=i->i<=ps.length->(ps.length-i).toNat<n->rs.length<=i->(∀ r∈rs,RunOK ps r.From r.Len) ->
 Ok (QaS N ps n i rs) λ out=>out.length<=ps.length/\∀ r∈out,RunOK ps r.From r.Len
 | 0,i,rs,_,_,h,_,_=>by omega
 | n+1,i,rs,h0,hi,hn,hlen,hrs=>by
  rw[QaS]
  refine Wo (λ h=>?_) λ h=>Wg ⟨by omega,hrs⟩
  have h1:i<ps.length:=dlt h
  refine Ok.get h0 h1 λ p hp=>?_
  have hpg:=Yd hp
  rw[Xc (n:=i+1) (by omega) (by omega)]
  refine Wo (λ _=>Xa4 N ps hl n (i+1) rs (by omega) (by omega) (by omega) (by omega) hrs) λ hk=>?_
  have hk:p.Kind=0:=by simpa using hk
  have new:Ok (grd ((rs.length+1)*16<=140737488355328) (QaS N ps n (i+1) (rs++[Oh.mk i 1]))) λ out=>out.length<=ps.length/\∀ r∈out,RunOK ps r.From r.Len:=by
   refine WS (by omega) (Xa4 N ps hl n (i+1) _ (by omega) (by omega) (by omega) (by rw[Wq];simp only[W5,Uz];omega) λ r hr=>?_)
   rcases WJ.1 hr with hr | hr
   ·exact hrs r hr
   ·have:r=Oh.mk i 1:=by simpa using hr
    subst this
    refine ⟨h0,by show (1:Int)<=1;omega,by show i+1<=_;omega,λ m h1 h2=>?_⟩
    have h2:m<1:=h2
    have:m=0:=by omega
    subst this
    show (pg ps (i+0)).Kind=0
    rw[Int.add_zero,hpg];exact hk
  refine WS (by omega) (Is (Wo (λ hp1=>?_) λ _=>new))
  have hp1:0<(rs.length:Int):=Wr hp1
  rw[Xc (n:=((rs.length:Nat):Int)-1) (by omega) (by omega)]
  refine Ok.get (by omega) (by omega) λ q hq=>Ok.get (by omega) (by omega) λ q' hq'=>?_
  obtain rfl:q=q':=WP (hq.symm.trans hq')
  have hqm:=hrs q (Yp hq)
  have hb:=hqm.2.2.1
  rw[Xc (n:=q.From+q.Len) (by have:=hqm.1;have:=hqm.2.1;omega) (by omega)]
  refine Wo (λ he=>?_) λ _=>new
  have he:q.From+q.Len=i:=by simpa using he
  refine Ok.get (by omega) (by omega) λ q2 hq2=>Ok.get (by omega) (by omega) λ q3 hq3=>?_
  obtain rfl:q=q2:=WP (hq.symm.trans hq2)
  obtain rfl:q=q3:=WP (hq.symm.trans hq3)
  have:=hqm.1
  have:=hqm.2.1
  rw[Xc (n:=q.Len+1) (by omega) (by omega)]
  refine Xa4 N ps hl n (i+1) _ (by omega) (by omega) (by omega) (by rw[Wx];omega) λ r hr=>?_
  rcases UK hr with hr | hr
  ·exact hrs r hr
  ·subst hr
   refine ⟨hqm.1,by show 1<=q.Len+1;omega,by show q.From+(q.Len+1)<=_;omega,λ m h1 h2=>?_⟩
   show (pg ps (q.From+m)).Kind=0
   have h2:m<q.Len+1:=h2
   by_cases hm:m<q.Len
   ·exact hqm.2.2.2 m h1 hm
   ·have:q.From+m=i:=by omega
    rw[this,hpg];exact hk
theorem XgO {N:Nat} {ps:List Wv} (hl:ps.length<=100000000) (hN:ps.length<N):Ok (QfA N ps) λ out=>out.length<=ps.length/\∀ r∈out,RunOK ps r.From r.Len :=
 WG (Xa4 N ps hl N 0 [] (by omega) (by omega) (by omega) (by simp) (by simp)) λ r _ h=>Wg h
theorem RunOK.less {ps:List Wv} {i k j:Int} (h:RunOK ps i k) (h1:1<=j) (h2:j<=k):RunOK ps i j:=⟨h.1,h1,by have:=h.2.2.1;omega,λ m a b=>h.2.2.2 m a (by omega)⟩
theorem XeL (N:Nat) (ps:List Wv) (k:Int) (rs:List Oh) (hl:rs.length<=100000000) (hrs:∀ r∈rs,RunOK ps r.From r.Len):∀ (n:Nat) (i:Int),0<=i->i<=rs.length->(rs.length-i).toNat<n ->
 Ok (QaY N k rs n i) λ e=>∀ a,e=.ret a->RunOK ps a k
 | 0,i,_,_,h=>by omega
 | n+1,i,h0,hi,hn=>by
  rw[QaY]
  refine Wo (λ h=>?_) λ h=>Wg λ a e=>by cases e
  have h1:i<rs.length:=dlt h
  rw[Xc (n:=i+1) (by omega) (by omega)]
  have next:=XeL N ps k rs hl hrs n (i+1) (by omega) (by omega) (by omega)
  refine Wo (λ hk=>?_) λ _=>next
  refine Ok.get h0 h1 λ p hp=>Wo (λ hk2=>?_) λ _=>next
  refine Ok.get h0 h1 λ p' hp'=>Wg λ a e=>?_
  obtain rfl:p=p':=WP (hp.symm.trans hp')
  cases e
  have hk:1<=k:=Wr hk
  have hk2:k<=p.Len:=Wr hk2
  exact (hrs p (Yp hp)).less hk hk2
theorem Y9 {N:Nat} {ps:List Wv} (k:Int) (hl:ps.length<=100000000) (hN:ps.length<N):Ok (QbA N ps k) λ i=>i = -1\/RunOK ps i k:=by
 refine WG (XgO hl hN) λ rs _ h=>?_
 refine IS (XeL N ps k rs (by omega) h.2 N 0 (by omega) (by omega) (by omega)) (λ a q=>Wg (.inr (q a rfl))) λ _ _=>Wg (.inl rfl)
def Taken (ps out:List Wv) (i k:Int) (first rest:Wv):Prop:=out.length=ps.length/\∀ j,0<=j->pg out j=if j=i then first else if i<=j/\j<i+k then rest else pg ps j
theorem XgP (N:Nat) (ps:List Wv) (i k:Int) (f r:Wv) (hl:ps.length<=100000000) (hi:0<=i) (hk:i+k<=ps.length):∀ (n:Nat) (m:Int) (v:List Wv),0<=m->(m<=k\/m=0)->(k-m).toNat<n->v.length=ps.length->(∀ j,0<=j->pg v j=if i<=j/\j<i+m then r else pg ps j) ->
 Ok (Qc0 N i k f r n m v) λ e=>(∀ o,e=.nxt o->o.length=ps.length/\∀ j,0<=j->pg o j=if i<=j/\j<i+k then r else pg ps j)/\(∀ o,e=.ret o->o.2=20/\o.1=[])/\((∀ j,m<=j->j<k->(pg ps (i+j)).Kind=0)->∀ o,e≠.ret o)
 | 0,m,v,_,_,h,_,_=>by omega
 | n+1,m,v,h0,hm,hn,hv,hpg=>by
  rw[Qc0]
  refine Wo (λ h=>?_) λ h=>Wg ⟨λ o e=>?_,λ o e=>(by cases e),λ _ o e=>(by cases e)⟩
  rotate_left
  ·cases e
   have:¬ m<k:=WH h
   refine ⟨hv,λ j hj=>?_⟩
   rw[hpg j hj]
   by_cases hc:i<=j/\j<i+m
   ·rw[Wm hc,Wm (by omega)]
   ·rw[Wk hc,Wk (by omega)]
  have h1:m<k:=dlt h
  rw[Xc (n:=i+m) (by omega) (by omega),Xc (n:=m+1) (by omega) (by omega)]
  refine Ok.get (by omega) (by omega) λ p hp=>?_
  have hpk:p=pg ps (i+m):=by rw[← Yd hp,hpg _ (by omega),Wk (by omega)]
  refine Wo (λ hk2=>Wg ⟨λ o e=>(by cases e),λ o e=>(by cases e;exact ⟨rfl,rfl⟩),λ hall=>?_⟩) λ hk2=>?_
  ·have:=hall m (by omega) h1
   rw[← hpk] at this
   simp[this] at hk2
  refine Ok.get (by omega) (by omega) λ p' hp'=>?_
  refine (XgP N ps i k f r hl hi hk n (m+1) _ (by omega) (by omega) (by omega) (by rw[Wx];exact hv) λ j hj=>?_).mono λ e he=>⟨he.1,he.2.1,λ hall=>he.2.2 λ j a b=>hall j (by omega) b⟩
  rw[Vq r (by omega) (by omega) hj,hpg j hj]
  by_cases hc:j=i+m
  ·rw[Wm hc,Wm (by omega)]
  ·rw[Wk hc]
   by_cases hd:i<=j/\j<i+m
   ·rw[Wm hd,Wm (by omega)]
   ·rw[Wk hd,Wk (by omega)]
theorem XgQ {N:Nat} {ps:List Wv} (i k:Int) (f r:Wv) (hl:ps.length<=1000000) (hN:1000000<N) (hk1:1<=k) (hk2:k<=1000000):Ok (Qcr N ps i k f r) λ o=>(o.2=0->0<=i/\i+k<=ps.length/\Taken ps o.1 i k f r)/\(o.2≠0->o.1=[])/\(RunOK ps i k->o.2=0):=by
 rw[Qcr]
 refine Wo (λ h=>Wg ⟨λ e=>(by cases e),λ _=>rfl,λ hr=>?_⟩) λ h1=>?_
 ·have:=Wr h;have:=hr.1;omega
 have h1:¬ i<0:=WH h1
 refine Wo (λ h=>Wg ⟨λ e=>(by cases e),λ _=>rfl,λ hr=>?_⟩) λ h2=>?_
 ·have:=Wr h;have:=hr.2.2.1;omega
 have h2:¬ i>=(ps.length:Int):=WH h2
 rw[Xc (n:=((ps.length:Nat):Int)-i) (by omega) (by omega)]
 refine Wo (λ h=>Wg ⟨λ e=>(by cases e),λ _=>rfl,λ hr=>?_⟩) λ h3=>?_
 ·have:=Wr h;have:=hr.2.2.1;omega
 have h3:¬ k>(ps.length:Int)-i:=WH h3
 refine WS (by omega) (IS (XgP N ps i k f r (by omega) (by omega) (by omega) N 0 ps (by omega) (by omega) (by omega) rfl λ j hj=>(by rw[Wk (by omega)])) (λ a q=>?_) λ o q=>?_)
 ·obtain ⟨e1,e2⟩:=q.2.1 a rfl
  refine Wg ⟨λ e=>(by rw[e1] at e;cases e),λ _=>e2,λ hr=>?_⟩
  exact absurd rfl (q.2.2 (λ j a b=>hr.2.2.2 j a b) a)
 ·obtain ⟨e1,e2⟩:=q.1 o rfl
  refine Ok.get (by omega) (by omega) λ p hp=>Wg ⟨λ _=>⟨by omega,by omega,⟨by rw[Wx];exact e1,λ j hj=>?_⟩⟩,λ e=>absurd rfl e,λ _=>rfl⟩
  rw[Vq f (by omega) (by omega) hj,e2 j hj]
theorem XeM {N:Nat} {ps:List Wv} (i sp:Int) (hl:ps.length<=1000000) (hN:1000000<N):Ok (QbB N ps i sp) λ o=>(o.2=0->0<=i/\i+1<=ps.length/\Taken ps o.1 i 1 ⟨1,sp,0,0⟩ ⟨0,0,0,0⟩)/\(o.2≠0->o.1=[])/\(RunOK ps i 1->0<=sp->sp<=1->o.2=0):=by
 rw[QbB]
 refine Wo (λ h=>Wg ⟨λ e=>(by cases e),λ _=>rfl,λ _ h1 h2=>?_⟩) λ h1=>?_
 ·have:=Wr h;omega
 refine Wo (λ h=>Wg ⟨λ e=>(by cases e),λ _=>rfl,λ _ h1 h2=>?_⟩) λ h2=>?_
 ·have:=Wr h;omega
 refine WG (XgQ i 1 ⟨1,sp,0,0⟩ ⟨0,0,0,0⟩ hl hN (by omega) (by omega)) λ y _ hy=>Wg ⟨hy.1,hy.2.1,λ hr _ _=>hy.2.2 hr⟩
theorem XjN {N:Nat} {ps:List Wv} (c:WT) (i sp w:Int) (hl:ps.length<=1000000) (hN:1000000<N):Ok (Qdo N c ps i sp w) λ o=>(o.2=0->0<=i/\i+Xz c w<=ps.length/\1<=Xz c w/\Taken ps o.1 i (Xz c w) ⟨2,sp,w,0⟩ ⟨3,sp,0,0⟩)/\(o.2≠0->o.1=[]):=by
 rw[Qdo,Zr (by omega),Xa]
 refine Wo (λ h=>Wg ⟨λ e=>(by cases e),λ _=>rfl⟩) λ h0=>?_
 have h0:¬ Xz c w<1:=WH h0
 refine Wo (λ h=>Wg ⟨λ e=>(by cases e),λ _=>rfl⟩) λ h1=>?_
 refine Wo (λ h=>Wg ⟨λ e=>(by cases e),λ _=>rfl⟩) λ h2=>?_
 have hr:=Ze c w
 refine WG (XgQ i (Xz c w) ⟨2,sp,w,0⟩ ⟨3,sp,0,0⟩ hl hN (by omega) (by omega)) λ y _ hy=>Wg ⟨λ e=>?_,hy.2.1⟩
 obtain ⟨a,b,c'⟩:=hy.1 e
 exact ⟨a,b,by omega,c'⟩
end Go.Sx
namespace Go.Sx
def HB (h:Wn):Prop:=h.Words.length<=100000/\h.Pages.length<=100000
def NB (N:Nat):Prop:=10000000<N
def zH:Wn:=⟨⟨0,0⟩,[],[],0,0⟩
theorem ZL:HB zH:=⟨by decide,by decide⟩
def wd (ws:List Int) (a:Int):Int:=ws.getD (ix a) 0
def hdA (ws:List Int) (a:Int):Wy:=Z3 (wd ws a)
def szA (ws:List Int) (a:Int):Int:=(hdA ws a).Length+1
theorem ZU (ws:List Int) (a:Int):XF (hdA ws a)=szA ws a/\1<=szA ws a/\szA ws a<=256:=by
 have:=XcL (wd ws a)
 unfold szA hdA
 omega
def pgi (c:WT) (a:Int):Int:=(a-4096) / c.PageWords
def pgo (c:WT) (a:Int):Int:=(a-4096) % c.PageWords
structure I7 (h:Wn) (a:Int):Prop where
 rng:4096<=a/\a<4096+h.Conf.Pages*h.Conf.PageWords
 kind:(pg h.Pages (pgi h.Conf a)).Kind=1\/(pg h.Pages (pgi h.Conf a)).Kind=2
 ok:okH (wd h.Words a)=true
 used:pgo h.Conf a<(pg h.Pages (pgi h.Conf a)).Used
 small:(pg h.Pages (pgi h.Conf a)).Kind=1->pgo h.Conf a+szA h.Words a<=(pg h.Pages (pgi h.Conf a)).Used
 large:(pg h.Pages (pgi h.Conf a)).Kind=2->pgo h.Conf a=0/\szA h.Words a=(pg h.Pages (pgi h.Conf a)).Used
theorem XeN {N:Nat} (hN:NB N) {h:Wn} (hb:HB h) (a:Int):Ok (Qat N h a) λ r=>r.2=0->UH h/\Qab N h=some true/\I7 h a/\r.1=hdA h.Words a:=by
 unfold NB at hN
 rw[Qat]
 refine WG (Yl (N:=N) (by omega) hb.1 hb.2) λ b eb hp=>?_
 refine Wo (λ _=>Wg λ e=>by cases e) λ hb1=>?_
 have hbt:b=true:=by simpa using hb1
 subst hbt
 have hp:=hp rfl
 rw[VO,Xa,hp.conf,Wk (by simp)]
 have hv:=Xi.1 hp.conf
 by_cases hr:4096<=a/\a<4096+h.Conf.Pages*h.Conf.PageWords
 rotate_left
 ·rw[Wk hr];exact Wo (λ _=>Wg λ e=>by cases e) λ e=>by cases e
 rw[Wm hr,show (a-4096) / h.Conf.PageWords=pgi h.Conf a from rfl,show (a-4096) % h.Conf.PageWords=pgo h.Conf a from rfl]
 have hof:=XdB hp.conf hr.1 hr.2
 refine Wo (λ e=>by cases e) λ _=>?_
 show Ok (bnd (Xb h.Pages (pgi h.Conf a)) _) _
 have hl:=hp.pages
 have h0:0<=pgi h.Conf a:=hof.1
 have h1:pgi h.Conf a<h.Pages.length:=by have:pgi h.Conf a<h.Conf.Pages:=hof.2.1;omega
 refine Ok.get h0 h1 λ p hpp=>?_
 have hpg:=Yd hpp
 have hin:inW h.Words a:=by unfold inW;have:=hp.words;omega
 rw[ZC (by unfold BIG;have:=hb.1;omega),Xa,Wm hin]
 show Ok (bnd (QbK N (wd h.Words a)) _) _
 rw[VN,Xa]
 show Ok (jn _ _) _
 have hsz:=ZU h.Words a
 have hpo:pgo h.Conf a<h.Conf.PageWords:=hof.2.2.2.1
 have hpo0:0<=pgo h.Conf a:=hof.2.2.1
 have rest:okH (wd h.Words a)=true->(p.Kind=1\/p.Kind=2)->pgo h.Conf a<p.Used->Ok (α:=Wy×Int) (bnd (Qco N (Z3 (wd h.Words a))) λ y6 =>
  bif (p.Kind==1) then (bif (decide ((wI (pgo h.Conf a+y6))>p.Used)) then some ((Wy.mk 0 0 0),19)
   else bif (p.Kind==2) then (bif (pgo h.Conf a != 0) then some ((Wy.mk 0 0 0),19)
    else bif (y6 != p.Used) then some ((Wy.mk 0 0 0),19)
    else some (Z3 (wd h.Words a),0))
   else some (Z3 (wd h.Words a),0))
  else bif (p.Kind==2) then (bif (pgo h.Conf a != 0) then some ((Wy.mk 0 0 0),19)
   else bif (y6 != p.Used) then some ((Wy.mk 0 0 0),19)
   else some (Z3 (wd h.Words a),0))
  else some (Z3 (wd h.Words a),0)) λ r=>r.2=0->UH h/\Qab N h=some true/\I7 h a/\r.1=hdA h.Words a:=by
  intro ho hk hu
  rw[Yf,Xa]
  have e1:XF (Z3 (wd h.Words a))=szA h.Words a:=hsz.1
  rw[e1,Xc (by omega) (by omega)]
  refine Wo (λ k1=>?_) λ k1=>?_
  ·have k1:p.Kind=1:=by simpa using k1
   refine Wo (λ _=>Wg λ e=>by cases e) λ k2=>?_
   have k2:¬ pgo h.Conf a+szA h.Words a>p.Used:=WH k2
   refine Wo (λ k3=>by rw[k1] at k3;cases k3) λ _=>Wg λ _=>⟨hp,eb,⟨hr,by rw[hpg];exact hk,ho,by rw[hpg];exact hu,λ _=>by rw[hpg];omega,λ e=>by rw[hpg,k1] at e;cases e⟩,rfl⟩
  ·have k1:¬ p.Kind=1:=by simpa using k1
   have k2:p.Kind=2:=by omega
   refine Wo (λ _=>?_) λ k3=>by rw[k2] at k3;cases k3
   refine Wo (λ _=>Wg λ e=>by cases e) λ k3=>?_
   refine Wo (λ _=>Wg λ e=>by cases e) λ k4=>Wg λ _=>⟨hp,eb,⟨hr,by rw[hpg];exact hk,ho,by rw[hpg];exact hu,λ e=>by rw[hpg] at e;omega,λ _=>⟨by simpa using k3,by rw[hpg];simpa using k4⟩⟩,rfl⟩
 refine Is (Wo (λ k1=>Wo (λ _=>Wg λ e=>by cases e) λ k2=>Wo (λ _=>Wg λ e=>by cases e) λ k3=>Wo (λ _=>Wg λ e=>by cases e) λ k4=>?_) λ k1=>Wo (λ _=>Wg λ e=>by cases e) λ k3=>Wo (λ _=>Wg λ e=>by cases e) λ k4=>?_)
 ·exact rest (by simpa using k4) (.inr (by simpa using k2)) (by have k5:¬ (pgo h.Conf a>=p.Used):=WH k3;omega)
 ·exact rest (by simpa using k4) (.inl (by simpa using k1)) (by have k5:¬ (pgo h.Conf a>=p.Used):=WH k3;omega)
theorem Vr {N:Nat} (hN:NB N) {h:Wn} (hb:HB h) (a:Int):Ok (Qbq N h a) λ r=>r.2=0->UH h/\Qab N h=some true/\I7 h a/\r.1=hdA h.Words a/\r.1.Kind≠0:=by
 have hN':=hN
 unfold NB at hN
 rw[Qbq]
 refine WG (Yl (N:=N) (by omega) hb.1 hb.2) λ b eb hp=>?_
 refine Wo (λ _=>Wg λ e=>by cases e) λ hb1=>?_
 refine Wo (λ _=>Wg λ e=>by cases e) λ _=>?_
 refine WG (XeN hN' hb a) λ y ey hy=>?_
 refine Wo (λ k1=>Wo (λ _=>Wg λ e=>by cases e) λ k2=>Wg λ e=>?_) λ k1=>Wg λ e=>?_
 ·obtain ⟨q1,q2,q3,q4⟩:=hy e
  exact ⟨q1,q2,q3,q4,by simpa using k2⟩
 ·exact absurd e (by simpa using k1)
theorem XbH {N:Nat} (hN:NB N) {h:Wn} (hb:HB h) (a i:Int):Ok (Qbp N h a i) λ r=>r.2=0->UH h/\I7 h a/\0<=i/\i<(hdA h.Words a).Length:=by
 rw[Qbp]
 refine WG (Vr hN hb a) λ y ey hy=>?_
 refine Wo (λ k=>Wg λ e=>absurd e (by simpa using k)) λ k1=>?_
 refine Wo (λ _=>Wg λ e=>by cases e) λ k2=>?_
 refine Wo (λ _=>Wg λ e=>by cases e) λ k3=>?_
 obtain ⟨q1,q2,q3,q4,q5⟩:=hy (by simpa using k1)
 rw[ZC (by unfold BIG;have:=hb.1;omega),Xa]
 refine Wg λ _=>⟨q1,q3,?_,?_⟩
 ·have:=WH k2;omega
 ·have:=WH k3;rw[q4] at this;omega
theorem XeO {N:Nat} (hN:NB N) {h:Wn} (hb:HB h) (a i v:Int):Ok (Qbm N h a i v) λ r=>HB r.1:=by
 rw[Qbm]
 refine WG (XbH hN hb a i) λ y ey hy=>?_
 refine Wo (λ _=>Wg ZL) λ k1=>?_
 have hN':=hN
 unfold NB at hN'
 rw[VM (by unfold BIG;have:=hb.1;omega) (by omega),Xa]
 refine Wg ?_
 split
 ·exact ⟨by rw[Wx];exact hb.1,hb.2⟩
 ·exact ⟨by simp,hb.2⟩
theorem XhW {N:Nat} (hN:NB N) {h:Wn} (hb:HB h) (a:Int):Ok (Qd2 N h a) λ r=>r.1.length<=256:=by
 rw[Qd2]
 refine WG (Vr hN hb a) λ y ey hy=>?_
 refine Wo (λ _=>Wg (by simp)) λ k1=>?_
 obtain ⟨q1,q2,q3,q4,q5⟩:=hy (by simpa using k1)
 have hsz:=ZU h.Words a
 have hlen:y.1.Length=szA h.Words a-1:=by rw[q4];unfold szA;omega
 obtain ⟨k,hk⟩:=UF (a:=y.1.Length) (by omega)
 rw[hk,Xa1 (by unfold BIG;have:=hb.1;omega) N _ k (by omega),Xa]
 refine Wg ?_
 split
 ·simp only[Wz];omega
 ·simp
theorem XgR {N:Nat} (hN:NB N) {h:Wn} (hb:HB h) (a:Int) (hd:Wy):Ok (QbI N h a hd) λ r=>HB r.1:=by
 have hN':=hN
 unfold NB at hN'
 rw[QbI,Jg,Xa]
 refine WG (Yl (N:=N) (by omega) hb.1 hb.2) λ b eb hp=>?_
 refine Wo (λ _=>Wg ZL) λ _=>?_
 refine Wo (λ _=>Wg ZL) λ k1=>?_
 have hv:Xx hd=true:=by
  cases hv:Xx hd with
  | true=>rfl
  | false=>rw[hv] at k1;cases k1
 have hb2:=XH hv
 refine WS (by omega) (WS (by omega) ?_)
 rw[Wm hv,Z2 (by unfold BIG;have:=hb.1;omega) (by unfold BIG;simp;omega) (by simp;omega),Xa]
 split
 ·rename_i hin
  refine Wo (λ e=>by cases e) λ _=>Wg ⟨?_,hb.2⟩
  have hb1:=hb.1
  rw[ZS]
  ·exact hb1
  ·unfold Yb at hin;unfold ix;omega
 ·exact Wo (λ _=>Wg ZL) λ e=>by cases e
end Go.Sx
namespace Go.Sx
theorem XjO (N:Nat) (l:List Int) (v:Int) (hl:l.length<=1000000000):∀ (n k:Nat),k<=l.length->l.length-k<n->QeA N l v n (k:Int)=some (if (l.drop k).contains v then .ret true else .nxt ())
 | 0,k,_,h=>by omega
 | n+1,k,hk,hn=>by
  rw[QeA]
  by_cases h:k<l.length
  ·have e1:decide ((k:Int)<((l.length:Nat):Int))=true:=Wh (by omega)
   rw[e1,Wc,Xd,Wd h,Xa,Xc (by omega) (by omega)]
   rw[show ((k:Int)+1)=((k+1:Nat):Int) by omega,XjO N l v hl n (k+1) (by omega) (by omega)]
   rw[Wu h,List.contains_cons]
   by_cases h2:l[k]=v
   ·subst h2;simp
   ·rw[show (l[k]==v)=false by simpa using h2,Wa,show (v==l[k])=false by simpa using λ e=>h2 e.symm,Ih]
  ·have e1:decide ((k:Int)<((l.length:Nat):Int))=false:=Wj (by omega)
   rw[e1,Wa,WL (by omega)]
   simp
theorem Zk {N:Nat} {l:List Int} (v:Int) (hl:l.length<=1000000000) (hN:l.length<N):QcA N l v=some (l.contains v):=by
 have h:=XjO N l v hl N 0 (by omega) (by omega)
 rw[show ((0:Nat):Int)=0 from rfl,WX] at h
 rw[QcA,h,Xa]
 cases l.contains v
 ·simp[Xr]
 ·simp[XC]
structure Ou (N:Nat) (h:Wn) (l:List Int):Prop where
 at_:∀ a∈l,I7 h a
 ev:∀ a∈l,Qat N h a=some (hdA h.Words a,0)
 pw:l.Pairwise λ a b=>a+szA h.Words a<=b
def XfZ (h:Wn) (i:Int) (l:List Int):Prop:=∀ a∈l,Xg h.Conf i 0<=a/\pgi h.Conf a=i
theorem XcO {c:WT} {i o p:Int} (h:o<=p):Xg c i o<=Xg c i p:=by unfold Xg;omega
theorem XeP {c:WT} (hc:XZ c=true) {p o:Int} (h0:0<=o) (h1:o<c.PageWords):pgi c (Xg c p o)=p/\pgo c (Xg c p o)=o:=Xme hc h0 h1
theorem JH {c:WT} (hc:XZ c=true) {a:Int} (h:4096<=a/\a<4096+c.Pages*c.PageWords):a=Xg c (pgi c a) (pgo c a)/\0<=pgi c a/\pgi c a<c.Pages/\0<=pgo c a/\pgo c a<c.PageWords:=by
 have:=XdB hc h.1 h.2
 exact ⟨this.2.2.2.2,this.1,this.2.1,this.2.2.1,this.2.2.2.1⟩
def XqN (N:Nat) (h:Wn) (i o:Int) (l:List Int):Prop:=Ou N h l/\XfZ h i l/\(∀ a∈l,a+szA h.Words a<=Xg h.Conf i o)/\(l.length:Int)<=o
theorem Ou.snoc {N:Nat} {h:Wn} {l:List Int} {a:Int} (hl:Ou N h l) (ha:I7 h a) (hev:Qat N h a=some (hdA h.Words a,0)) (hle:∀ b∈l,b+szA h.Words b<=a):Ou N h (l++[a]):=by
 refine ⟨λ x hx=>?_,λ x hx=>?_,?_⟩
 ·rcases WJ.1 hx with hx | hx
  ·exact hl.at_ x hx
  ·have:x=a:=by simpa using hx
   subst this;exact ha
 ·rcases WJ.1 hx with hx | hx
  ·exact hl.ev x hx
  ·have:x=a:=by simpa using hx
   subst this;exact hev
 ·rw[IU]
  refine ⟨hl.pw,by simp,λ b hb c hc=>?_⟩
  have:c=a:=by simpa using hc
  subst this;exact hle b hb
def PageL (N:Nat) (h:Wn) (i:Int) (l:List Int):Prop:=Ou N h l/\XfZ h i l/\(l.length:Int)<=64
def Xpd (N:Nat) (h:Wn) (i:Int):Ex (List Int×Int) (List Int)->Prop
 | .ret r=>r=([],19)
 | .nxt l=>PageL N h i l
theorem Qko {N:Nat} (hN:NB N) {h:Wn} (hb:HB h) (hp:UH h) {i:Int} (h0:0<=i) (h1:i<h.Pages.length) (hk:(pg h.Pages i).Kind=1\/(pg h.Pages i).Kind=2):∀ (n:Nat) (o:Int) (l:List Int),0<=o->(65-o).toNat<n->XqN N h i o l->((pg h.Pages i).Kind=1->o<=(pg h.Pages i).Used)->((pg h.Pages i).Kind=2->o=0) ->
 Ok (QaW N h i (pg h.Pages i) n o l) (Xpd N h i)
 | 0,o,l,_,hn,hu,k1,k2=>by
  have hv:=Xi.1 hp.conf
  have ho:=(hp.pgs i h0 h1).small
  rcases hk with hk | hk
  ·have:=k1 hk;have:=ho hk;omega
  ·have:=k2 hk;omega
 | n+1,o,l,ho0,hn,hu,k1,k2=>by
  have hv:=Xi.1 hp.conf
  have hsm:=(hp.pgs i h0 h1).small
  have hpl:=hp.pages
  have hle64:(l.length:Int)<=64:=by
   have:=hu.2.2.2
   rcases hk with hk | hk
   ·have:=k1 hk;have:=hsm hk;omega
   ·have:=k2 hk;omega
  rw[QaW]
  refine Wo (λ hlt=>?_) λ _=>Wg ⟨hu.1,hu.2.1,hle64⟩
  have hlt:o<(pg h.Pages i).Used:=Wr hlt
  have hopw:o<h.Conf.PageWords:=by
   rcases hk with hk | hk
   ·have:=hsm hk;omega
   ·have:=k2 hk;omega
  rw[ZX,hp.conf,Xa,Wk (by simp),Wm (by omega)]
  dsimp only
  refine WG (XeN hN hb (Xg h.Conf i o)) λ y ey hy=>?_
  refine Wo (λ _=>Wg rfl) λ hy0=>?_
  obtain ⟨_,_,hat,hhd⟩:=hy (by simpa using hy0)
  have hpi:=XeP hp.conf (p:=i) ho0 hopw
  have hsz:=ZU h.Words (Xg h.Conf i o)
  have hev:Qat N h (Xg h.Conf i o)=some (hdA h.Words (Xg h.Conf i o),0):=by
   rw[ey];congr 1;exact Prod.ext hhd (by simpa using hy0)
  have hobj:Ou N h (l++[Xg h.Conf i o]):=hu.1.snoc hat hev hu.2.2.1
  have hon:XfZ h i (l++[Xg h.Conf i o]):=by
   intro x hx
   rcases WJ.1 hx with hx | hx
   ·exact hu.2.1 x hx
   ·have:x=Xg h.Conf i o:=by simpa using hx
    subst this;exact ⟨XcO ho0,hpi.1⟩
  have hlen1:((l++[Xg h.Conf i o]).length:Int)=l.length+1:=by simp
  have hlo:=hu.2.2.2
  refine WS (by omega) (Wo (λ kk=>Wg ⟨hobj,hon,by have:=k2 (by simpa using kk);omega⟩) λ kk=>?_)
  have kk:(pg h.Pages i).Kind=1:=by
   rcases hk with hk | hk
   ·exact hk
   ·rw[hk] at kk;cases kk
  rw[hhd,Yf,Xa]
  rw[hsz.1]
  have hs:=hat.small (by rw[hpi.1];exact kk)
  rw[hpi.1,hpi.2] at hs
  have:=hsm kk
  rw[Xc (by omega) (by omega)]
  refine Qko hN hb hp h0 h1 hk n _ _ (by omega) (by omega) ⟨hobj,hon,λ x hx=>?_,by omega⟩ (λ _=>by omega) (λ e=>by rw[kk] at e;cases e)
  rcases WJ.1 hx with hx | hx
  ·have:=hu.2.2.1 x hx
   have:=XcO (c:=h.Conf) (i:=i) (o:=o) (p:=o+szA h.Words (Xg h.Conf i o)) (by omega)
   omega
  ·have:x=Xg h.Conf i o:=by simpa using hx
   subst this
   unfold Xg;omega
theorem PageL.nil (N:Nat) (h:Wn) (i:Int):PageL N h i []:=⟨⟨by simp,by simp,by simp⟩,λ a ha=>by simp at ha,by simp⟩
theorem Qkp {N:Nat} (hN:NB N) {h:Wn} (hb:HB h) (i:Int):Ok (Qau N h i) λ r=>(r.2≠0->r.1=[])/\r.1.length<=64/\(UH h->PageL N h i r.1):=by
 have hN':=hN
 unfold NB at hN'
 rw[Qau]
 refine WG (Yl (N:=N) (by omega) hb.1 hb.2) λ b eb hp=>?_
 refine Wo (λ _=>Wg ⟨λ _=>rfl,by simp,λ _=>PageL.nil N h i⟩) λ hb1=>?_
 have hp:=hp (by simpa using hb1)
 refine Wo (λ _=>Wg ⟨λ _=>rfl,by simp,λ _=>PageL.nil N h i⟩) λ h0=>?_
 refine Wo (λ _=>Wg ⟨λ _=>rfl,by simp,λ _=>PageL.nil N h i⟩) λ h1=>?_
 have h0:0<=i:=by have:=WH h0;omega
 have h1:i<h.Pages.length:=by have:=WH h1;omega
 refine Ok.get h0 h1 λ p hpp=>?_
 have hpg:=Yd hpp
 subst hpg
 refine Wo (λ _=>Wg ⟨λ _=>rfl,by simp,λ _=>PageL.nil N h i⟩) λ k0=>?_
 refine Wo (λ _=>Wg ⟨λ _=>rfl,by simp,λ _=>PageL.nil N h i⟩) λ k3=>?_
 have hkk:=(hp.pgs i h0 h1).kind
 have k0:¬ (pg h.Pages i).Kind=0:=by simpa using k0
 have k3:¬ (pg h.Pages i).Kind=3:=by simpa using k3
 refine IS (Qko hN hb hp h0 h1 (by omega) N 0 [] (by omega) (by omega) ⟨⟨by simp,by simp,by simp⟩,λ a ha=>by simp at ha,by simp,by simp⟩ (λ k=>((hp.pgs i h0 h1).small k).1) (λ _=>rfl)) (λ a q=>?_) λ l q=>?_
 ·have:a=([],19):=q
  subst this
  exact Wg ⟨λ _=>rfl,by simp,λ _=>PageL.nil N h i⟩
 ·have q:PageL N h i l:=q
  exact Wg ⟨λ e=>absurd rfl e,by have:=q.2.2;dsimp only;omega,λ _=>q⟩
theorem XgS {c:WT} (hc:XZ c=true) {w:Int} (h:1<=Xz c w):w<=Xz c w*c.PageWords:=by
 unfold Xz at h ⊢
 by_cases h0:XZ c=true/\1<=w
 ·rw[Wm h0] at h ⊢
  by_cases h1:w<=c.PageWords / 4
  ·rw[Wm h1] at h;omega
  rw[Wk h1] at h ⊢
  by_cases h2:c.PageWords>=w
  ·rw[Wm h2];omega
  rw[Wk h2] at h ⊢
  by_cases h3:2*c.PageWords>=w
  ·rw[Wm h3];omega
  rw[Wk h3] at h ⊢
  by_cases h4:3*c.PageWords>=w
  ·rw[Wm h4];omega
  rw[Wk h4] at h ⊢
  by_cases h5:4*c.PageWords>=w
  ·rw[Wm h5];omega
  rw[Wk h5] at h;omega
 ·rw[Wk h0] at h;omega
theorem XdC {h:Wn} (hp:UH h) {a:Int} (ha:I7 h a):∃ k,1<=k/\pgi h.Conf a+k<=h.Conf.Pages/\a+szA h.Words a<=Xg h.Conf (pgi h.Conf a+k) 0/\∀ m,1<=m->m<k->(pg h.Pages (pgi h.Conf a+m)).Kind=3:=by
 have hv:=Xi.1 hp.conf
 obtain ⟨e,q0,q1,q2,q3⟩:=JH hp.conf ha.rng
 have hpl:=hp.pages
 rcases ha.kind with hk | hk
 ·have hs:=ha.small hk
  have:=(hp.pgs _ q0 (by omega)).small hk
  refine ⟨1,by omega,by omega,?_,λ m h1 h2=>by omega⟩
  have e2:Xg h.Conf (pgi h.Conf a+1) 0=4096+pgi h.Conf a*h.Conf.PageWords+h.Conf.PageWords:=by unfold Xg;rw[IK];omega
  rw[e2]
  have e3:a=4096+pgi h.Conf a*h.Conf.PageWords+pgo h.Conf a:=e
  omega
 ·obtain ⟨z1,z2⟩:=ha.large hk
  obtain ⟨l1,l2⟩:=(hp.pgs _ q0 (by omega)).large hk
  have hle:=XgS hp.conf l1
  refine ⟨_,l1,?_,?_,λ m h1 h2=>(l2 m h1 h2).2⟩
  ·by_cases h1:Xz h.Conf (pg h.Pages (pgi h.Conf a)).Used=1
   ·omega
   ·have:=(l2 (Xz h.Conf (pg h.Pages (pgi h.Conf a)).Used-1) (by omega) (by omega)).1
    omega
  ·have e3:a=4096+pgi h.Conf a*h.Conf.PageWords+pgo h.Conf a:=e
   unfold Xg
   rw[IK]
   omega
theorem VP {h:Wn} (hp:UH h) {a:Int} (ha:I7 h a):a+szA h.Words a<=4096+h.Words.length:=by
 obtain ⟨k,h1,h2,h3,_⟩:=XdC hp ha
 have hv:=Xi.1 hp.conf
 have:=hp.words
 have hm:(pgi h.Conf a+k)*h.Conf.PageWords<=h.Conf.Pages*h.Conf.PageWords:=UE h2 (by omega)
 unfold Xg at h3
 omega
theorem XhX {h:Wn} (hp:UH h) {a b:Int} (ha:I7 h a) (hb:I7 h b) (hlt:pgi h.Conf a<pgi h.Conf b):a+szA h.Words a<=b:=by
 obtain ⟨k,h1,h2,h3,h4⟩:=XdC hp ha
 have hv:=Xi.1 hp.conf
 obtain ⟨e,q0,q1,q2,q3⟩:=JH hp.conf hb.rng
 have hge:pgi h.Conf a+k<=pgi h.Conf b:=by
  rcases (by omega:pgi h.Conf b<pgi h.Conf a+k\/pgi h.Conf a+k<=pgi h.Conf b) with hc | hc
  ·have:=h4 (pgi h.Conf b-pgi h.Conf a) (by omega) (by omega)
   rw[show pgi h.Conf a+(pgi h.Conf b-pgi h.Conf a)=pgi h.Conf b by omega] at this
   rcases hb.kind with hk | hk<;>omega
  ·exact hc
 have hm:(pgi h.Conf a+k)*h.Conf.PageWords<=pgi h.Conf b*h.Conf.PageWords:=UE hge (by omega)
 unfold Xg at h3 e
 omega
end Go.Sx
namespace Go.Sx
theorem Qg7 {N:Nat} (hN:NB N) {h:Wn} (hb:HB h) (hp:UH h) (i:Int) (h0:0<=i) (h1:i<h.Pages.length):Ok (Qau N h i) λ r=>PageL N h i r.1/\r.1.length<=64:=(Qkp hN hb i).mono λ r hr=>⟨hr.2.2 hp,hr.2.1⟩
structure Oc (N:Nat) (h:Wn) (l:List Int):Prop where
 obj:Ou N h l
 page:∀ a∈l,∃ r,Qau N h (pgi h.Conf a)=some r/\a∈r.1
 len:l.length<=4096
theorem Oc.nil (N:Nat) (h:Wn):Oc N h []:=⟨⟨by simp,by simp,by simp⟩,by simp,by simp⟩
theorem XcP {N:Nat} (hN:NB N) {h:Wn} (hb:HB h) (hp:UH h):∀ (n:Nat) (i:Int) (l:List Int),0<=i->i<=h.Pages.length->(h.Pages.length-i).toNat<n->Ou N h l->(∀ a∈l,∃ r,Qau N h (pgi h.Conf a)=some r/\a∈r.1)->(∀ a∈l,pgi h.Conf a<i)->(l.length:Int)<=64*i ->
 Ok (QaR N h n i l) λ e=>match e with | .ret r=>r.1=[]/\r.2≠0 | .nxt l=>Oc N h l
 | 0,i,l,_,_,hn,_,_,_,_=>by omega
 | n+1,i,l,h0,hi,hn,hl,hpp,hlt,hlen=>by
  have hv:=Xi.1 hp.conf
  have hpl:=hp.pages
  rw[QaR]
  refine Wo (λ hc=>?_) λ _=>Wg ⟨hl,hpp,by omega⟩
  have hc:i<h.Pages.length:=Wr hc
  refine WG (Qg7 hN hb hp i h0 hc) λ y ey hy=>?_
  refine Wo (λ hk=>Wg ⟨rfl,by simpa using hk⟩) λ hk=>?_
  have hy2:=hy.2
  refine WS (by omega) ?_
  rw[Xc (by omega) (by omega)]
  have hon:∀ a∈y.1,pgi h.Conf a=i:=λ a ha=>(hy.1.2.1 a ha).2
  refine XcP hN hb hp n (i+1) _ (by omega) (by omega) (by omega) ⟨λ a ha=>?_,λ a ha=>?_,?_⟩ (λ a ha=>?_) (λ a ha=>?_) (by rw[Wq];omega)
  ·rcases WJ.1 ha with ha | ha
   ·exact hl.at_ a ha
   ·exact hy.1.1.at_ a ha
  ·rcases WJ.1 ha with ha | ha
   ·exact hl.ev a ha
   ·exact hy.1.1.ev a ha
  ·rw[IU]
   refine ⟨hl.pw,hy.1.1.pw,λ a ha b hb'=>?_⟩
   exact XhX hp (hl.at_ a ha) (hy.1.1.at_ b hb') (by rw[hon b hb'];exact hlt a ha)
  ·rcases WJ.1 ha with ha | ha
   ·exact hpp a ha
   ·exact ⟨y,by rw[hon a ha];exact ey,ha⟩
  ·rcases WJ.1 ha with ha | ha
   ·have:=hlt a ha;omega
   ·have:=hon a ha;omega
theorem Xam {N:Nat} (hN:NB N) {h:Wn} (hb:HB h):Ok (QcL N h) λ r=>Oc N h r.1/\(r.2=0->UH h)/\(r.2≠0->r.1=[]):=by
 have hN':=hN
 unfold NB at hN'
 rw[QcL]
 refine WG (Yl (N:=N) (by omega) hb.1 hb.2) λ b eb hp=>?_
 refine Wo (λ _=>Wg ⟨Oc.nil N h,λ e=>(by cases e),λ _=>rfl⟩) λ hb1=>?_
 have hp:=hp (by simpa using hb1)
 have hbb:=hb.2
 refine IS (XcP hN hb hp N 0 [] (by omega) (by omega) (by omega) ⟨by simp,by simp,by simp⟩ (by simp) (by simp) (by simp)) (λ a q=>?_) λ l q=>Wg ⟨q,λ _=>hp,λ e=>absurd rfl e⟩
 refine Wg ⟨?_,λ e=>absurd e q.2,λ _=>q.1⟩
 rw[q.1];exact Oc.nil N h
theorem Oc.sub {N:Nat} {h:Wn} {l l':List Int} (hs:Oc N h l) (h':l'.Sublist l):Oc N h l' :=
 ⟨⟨λ a ha=>hs.obj.at_ a (h'.subset ha),λ a ha=>hs.obj.ev a (h'.subset ha),hs.obj.pw.sublist h'⟩,λ a ha=>hs.page a (h'.subset ha),Ur h'.length_le hs.len⟩
theorem Vs {N:Nat} (hN:NB N) {h:Wn} (hb:HB h) (y:List Int×Int) (hy:y.1.length<=4096):∀ (n k:Nat) (l:List Int),k<=y.1.length->y.1.length-k<n->l.Sublist (y.1.take k)->Ok (QaA N h y n (k:Int) l) λ o=>o.Sublist y.1
 | 0,k,l,_,hn,_=>by omega
 | n+1,k,l,hk,hn,hs=>by
  rw[QaA]
  have hlen:l.length<=4096:=Ur hs.length_le (by rw[Wz];omega)
  refine Wo (λ hc=>?_) λ _=>Wg (hs.trans (List.take_sublist _ _))
  have hc:(k:Int)<y.1.length:=Wr hc
  have hkl:k<y.1.length:=by omega
  refine Ok.get (by omega) hc λ p hp=>?_
  refine WG (XeN hN hb p) λ z ez hz=>?_
  have e1:wI ((k:Int)+1)=((k+1:Nat):Int):=by rw[Xc (by omega) (by omega)];omega
  rw[e1]
  refine Wo (λ _=>?_) λ _=>Vs hN hb y hy n (k+1) l (by omega) (by omega) (hs.trans (List.take_sublist_take_left (by omega)))
  refine Ok.get (by omega) hc λ p' hp'=>WS (by omega) (Vs hN hb y hy n (k+1) _ (by omega) (by omega) ?_)
  have hpe:p'=y.1[k]:=by
   rw[Xd,Wd hkl] at hp'
   exact (WP hp').symm
  rw[List.take_succ_eq_append_getElem hkl,hpe]
  exact hs.append (List.Sublist.refl _)
theorem Zt {N:Nat} (hN:NB N) {h:Wn} (hb:HB h):Ok (Qav N h) λ r=>Oc N h r.1/\(r.2=0->UH h)/\(r.1≠[]->UH h):=by
 rw[Qav]
 refine WG (Xam hN hb) λ y ey hy=>?_
 have hN':=hN
 unfold NB at hN'
 have hl:=hy.1.len
 have:=Vs hN hb y hl N 0 [] (by omega) (by omega) (by simp)
 rw[show ((0:Nat):Int)=0 from rfl] at this
 refine WG this λ o eo ho=>Wg ⟨hy.1.sub ho,hy.2.1,λ hne=>?_⟩
 by_cases h2:y.2=0
 ·exact hy.2.1 h2
 ·rw[hy.2.2 h2] at ho
  exact absurd (List.sublist_nil.1 ho) hne
theorem XaK {N:Nat} (hN:NB N) {h:Wn} (hb:HB h) (a:Int):Ok (Qd0 N h a) λ b=>b=true->UH h/\I7 h a:=by
 rw[Qd0]
 have hN':=hN
 unfold NB at hN'
 refine WG (Zt hN hb) λ y ey hy=>?_
 have hl:=hy.1.len
 rw[Zk a (by omega) (by omega),Xa]
 refine Wg λ e=>?_
 have hm:a∈y.1:=by simpa using e
 exact ⟨hy.2.2 (List.ne_nil_of_mem hm),hy.1.obj.at_ a hm⟩
theorem Xmf {N:Nat} {h:Wn} (hb:HB h) (i o:Int):Ok (QeL N h i o) λ _=>True:=by
 rw[QeL,Qf9,ZX,Xa,ZC (by unfold BIG;have:=hb.1;omega),Xa,Xa]
 exact Wg trivial
end Go.Sx
namespace Go.Sx
def XbI (h:Wn) (i:Int) (l:List Int):Prop:=(pg h.Pages i).Kind=1->∀ a∈l,szA h.Words a<=smC h.Conf
theorem XeQ {N:Nat} (hN:NB N) {h:Wn} (hb:HB h) {i:Int} (h0:0<=i) (h1:i<h.Pages.length) (l:List Int) (hl:l.length<=4096) (hev:∀ a∈l,Qat N h a=some (hdA h.Words a,0)/\a≠0):∀ (n k:Nat),k<=l.length->l.length-k<n ->
 Ok (QaX N h i l n (k:Int)) λ e=>match e with | .ret r=>r≠0 | .nxt _=>(pg h.Pages i).Kind=1->∀ a∈l.drop k,szA h.Words a<=smC h.Conf
 | 0,k,_,hn=>by omega
 | n+1,k,hk,hn=>by
  rw[QaX]
  refine Wo (λ hc=>?_) λ hc=>Wg ?_
  rotate_left
  ·have hc:=WH hc
   rw[WL (by omega)]
   simp
  have hc:(k:Int)<l.length:=Wr hc
  have hkl:k<l.length:=by omega
  refine Ok.get (by omega) hc λ p hp=>?_
  have hpe:p=l[k]:=by
   rw[Xd,Wd hkl] at hp
   exact (WP hp).symm
  have hpm:p∈l:=Yp hp
  rw[(hev p hpm).1,Xa]
  dsimp only
  rw[Yf,Xa,XgN,Xa,(ZU h.Words p).1]
  have e1:wI ((k:Int)+1)=((k+1:Nat):Int):=by rw[Xc (by omega) (by omega)];omega
  rw[e1]
  have ret:∀ p',Xb l (k:Int)=some p'->p'≠0:=λ p' hp'=>(hev p' (Yp hp')).2
  have next:((pg h.Pages i).Kind=1->szA h.Words p<=smC h.Conf)->Ok (QaX N h i l n ((k+1:Nat):Int)) λ e=>match e with | .ret r=>r≠0 | .nxt _=>(pg h.Pages i).Kind=1->∀ a∈l.drop k,szA h.Words a<=smC h.Conf:=by
   intro hs
   refine (XeQ hN hb h0 h1 l hl hev n (k+1) (by omega) (by omega)).mono λ e he=>?_
   cases e with
   | ret r=>exact he
   | nxt _ =>
    intro hk1 a ha
    rw[Wu hkl] at ha
    rcases UB.1 ha with rfl | ha
    ·rw[← hpe];exact hs hk1
    ·exact he hk1 a ha
  refine Ok.get h0 h1 λ q hq=>?_
  have hqg:=Yd hq
  refine Wo (λ k1=>?_) λ k1=>?_
  ·refine Wo (λ _=>Ok.get (by omega) hc λ p' hp'=>Wg (ret p' hp')) λ k2=>?_
   have hs:szA h.Words p<=smC h.Conf:=by simpa using k2
   refine Ok.get h0 h1 λ q2 hq2=>Wo (λ _=>Wo (λ _=>Ok.get (by omega) hc λ p' hp'=>Wg (ret p' hp')) λ _=>next λ _=>hs) λ _=>next λ _=>hs
  ·have hs:(pg h.Pages i).Kind=1->szA h.Words p<=smC h.Conf:=by
    intro e;rw[hqg] at e;rw[e] at k1;cases k1
   refine Ok.get h0 h1 λ q2 hq2=>Wo (λ _=>Wo (λ _=>Ok.get (by omega) hc λ p' hp'=>Wg (ret p' hp')) λ _=>next hs) λ _=>next hs
theorem XjP {N:Nat} (hN:NB N) {h:Wn} (hb:HB h) {i:Int} (h0:0<=i) (h1:i<h.Pages.length) {l:List Int} (hl:l.length<=64) (hev:∀ a∈l,Qat N h a=some (hdA h.Words a,0)/\a≠0) :
 Ok (QdM N h i l) λ r=>r=0->XbI h i l:=by
 rw[QdM]
 have hN':=hN
 unfold NB at hN'
 have:=XeQ hN hb h0 h1 l (by omega) hev N 0 (by omega) (by omega)
 rw[show ((0:Nat):Int)=0 from rfl] at this
 refine IS this (λ a q=>Wg λ e=>absurd e q) λ _ q=>Wg λ _=>?_
 rw[WX] at q
 exact q
theorem XdD {N:Nat} {h:Wn} (i:Int) (l:List Int) (k:Int) (hk0:0<=k) (hk:k<l.length) (x:Int) (hx:x<=256):∀ (n:Nat) (w:Int) (u:List Bool),0<=w->(x-w).toNat<n->u.length<=1000->Ok (Qbe N h i l k x n w u) λ r=>r.length=u.length
 | 0,w,u,_,hn,_=>by omega
 | n+1,w,u,h0,hn,hu=>by
  rw[Qbe]
  refine Wo (λ hc=>?_) λ _=>Wg rfl
  have hc:w<x:=Wr hc
  refine Ok.get hk0 hk λ p hp=>?_
  rw[Xc (n:=w+1) (by omega) (by omega)]
  have next:=XdD (N:=N) (h:=h) i l k hk0 hk x hx n (w+1) u (by omega) (by omega) hu
  refine Wo (λ h1=>?_) λ _=>next
  refine WS (by omega) (Wo (λ h2=>?_) λ _=>next)
  refine Ok.get (Wr h1) (Wr h2) λ q hq=>?_
  refine (XdD i l k hk0 hk x hx n (w+1) _ (by omega) (by omega) (by rw[Wx];exact hu)).mono λ r hr=>?_
  rw[hr,Wx]
theorem XgT {N:Nat} (hN:NB N) {h:Wn} (hb:HB h) (i:Int) (l:List Int) (hl:l.length<=100000):∀ (n:Nat) (k:Int) (u:List Bool),0<=k->k<=l.length->(l.length-k).toNat<n->u.length<=1000->Ok (Qcp N h i l n k u) λ r=>r.length=u.length
 | 0,k,u,_,_,hn,_=>by omega
 | n+1,k,u,h0,hk,hn,hu=>by
  rw[Qcp]
  refine Wo (λ hc=>?_) λ _=>Wg rfl
  have hc:k<l.length:=Wr hc
  have hN':=hN
  unfold NB at hN'
  refine Ok.get h0 hc λ p hp=>WG (XeN hN hb p) λ y ey hy=>?_
  rw[Yf,Xa]
  have hs:=XeJ y.1
  have next:∀ x:Int,x<=256->Ok (bnd (Qbe N h i l k x N 0 u) λ y11=>Qcp N h i l n (wI (k+1)) y11) λ r=>r.length=u.length:=by
   intro x hx
   refine WG (XdD i l k h0 hc x hx N 0 u (by omega) (by omega) hu) λ r er hr=>?_
   rw[Xc (n:=k+1) (by omega) (by omega)]
   exact (XgT hN hb i l hl n (k+1) r (by omega) (by omega) (by omega) (by omega)).mono λ o ho=>by omega
  exact Is (Wo (λ _=>next 1 (by omega)) λ _=>next _ (by omega))
theorem XdE (N:Nat) {h:Wn} (hf:(pg h.Pages 0).Kind≠3):∀ (n:Nat) (i:Int),0<=i->i<h.Pages.length->h.Pages.length<=100000->i.toNat<n->Ok (QcY N h n i) λ r=>0<=r/\r<h.Pages.length
 | 0,i,_,_,_,hn=>by omega
 | n+1,i,h0,h1,hl,hn=>by
  rw[QcY]
  refine Ok.get h0 h1 λ p hp=>Wo (λ hk=>?_) λ _=>Wg ⟨h0,h1⟩
  have hk:p.Kind=3:=by simpa using hk
  have:i≠0:=by rintro rfl;exact hf (by rw[Yd hp];exact hk)
  rw[Xc (by omega) (by omega)]
  exact XdE N hf n (i-1) (by omega) (by omega) hl (by omega)
theorem XgU {N:Nat} {h:Wn} (hb:HB h) (i:Int) (u:List Bool) (hu:u.length<=1000):∀ (n:Nat) (k:Int),0<=k->k<=u.length->(u.length-k).toNat<n->Ok (QbT N h i u n k) λ _=>True
 | 0,k,_,_,hn=>by omega
 | n+1,k,h0,hk,hn=>by
  rw[QbT]
  refine Wo (λ hc=>?_) λ _=>Wg trivial
  have hc:k<u.length:=Wr hc
  rw[Xc (n:=k+1) (by omega) (by omega)]
  have next:=XgU (N:=N) hb i u hu n (k+1) (by omega) (by omega) (by omega)
  refine Ok.get h0 hc λ p hp=>Wo (λ _=>WG (Xmf hb i k) λ y _ _=>Wo (λ _=>?_) λ _=>next) λ _=>next
  rw[QeX,Xa]
  exact Wg trivial
theorem Xmg {N:Nat} (hN:NB N) {h:Wn} (hb:HB h) (hp:UH h) {i:Int} (h0:0<=i) (h1:i<h.Pages.length):Ok (Qej N h i) λ _=>True:=by
 have hN':=hN
 unfold NB at hN'
 have hbb:=hb.2
 have hv:=Xi.1 hp.conf
 rw[Qej,Qei]
 refine WG (WG (XdE N hp.first N i h0 h1 hbb (by omega)) λ r _ hr=>Wg hr) λ r _ hr=>?_
 refine WG (Qg7 hN hb hp r hr.1 hr.2) λ y _ hy=>?_
 rw[Qfy]
 refine WG (Q:=λ r=>r.length<=1000) (WS (by omega) (WG (XgT hN hb i y.1 (by have:=hy.2;omega) N 0 _ (by omega) (by omega) (by have:=hy.2;omega) (by rw[WC];omega)) λ u _ hu=>Wg ?_)) λ u _ hu=>?_
 ·rw[hu,WC];omega
 ·exact IS (XgU hb i u hu N 0 (by omega) (by omega) (by omega)) (λ _ _=>Wg trivial) λ _ _=>Wg trivial
theorem XjQ {N:Nat} (hN:NB N) {h:Wn} (hb:HB h) (hp:UH h) {i:Int} (h0:0<=i) (h1:i<h.Pages.length):Ok (Qek N h i) λ f=>f.Fault=0->∀ r,Qau N h i=some r->XbI h i r.1:=by
 rw[Qek]
 have main:Ok (bnd (Qau N h i) λ y3 =>
  bif (y3.2 != 0) then some (Ul.mk 3 i 0)
  else bnd (QdM N h i y3.1) λ y4 =>
  bif (y4 != 0) then some (Ul.mk 5 i y4)
  else bnd (Qej N h i) λ y5 =>
  bif (y5 != 0) then some (Ul.mk 4 i y5)
  else some (Ul.mk 0 0 0)) λ f=>f.Fault=0->∀ r,Qau N h i=some r->XbI h i r.1:=by
  refine WG (Qg7 hN hb hp i h0 h1) λ y ey hy=>?_
  refine Wo (λ _=>Wg λ e=>by cases e) λ _=>?_
  refine WG (XjP hN hb h0 h1 hy.2 λ a ha=>⟨hy.1.1.ev a ha,by have:=(hy.1.1.at_ a ha).rng;omega⟩) λ c _ hc=>?_
  refine Wo (λ _=>Wg λ e=>by cases e) λ hc0=>?_
  refine WG (Xmg hN hb hp h0 h1) λ d _ _=>?_
  refine Wo (λ _=>Wg λ e=>by cases e) λ _=>Wg λ _ r hr=>?_
  rw[ey] at hr
  exact WP hr▸hc (by simpa using hc0)
 refine Is (Ok.get h0 h1 λ p hp=>Wo (λ _=>Ok.get h0 h1 λ p hp=>Wo (λ _=>Wg λ e=>by cases e) λ _=>main) λ _=>main)
theorem XaL {N:Nat} {h:Wn} (y1 y6:List Int×Int) (h1:y1.1.length<=4096) (h6:y6.1.length<=256) (hN:1000000<N) (v:Int) (hv0:0<=v) (hv:v<y1.1.length) (y4:Wy×Int):∀ (n:Nat) (k:Int),0<=k->k<=y6.1.length->(y6.1.length-k).toNat<n->Ok (Qam N h y1 y6 v y4 n k) λ e=>∀ f,e=.ret f->f.Fault=6
 | 0,k,_,_,hn=>by omega
 | n+1,k,h0,hk,hn=>by
  rw[Qam]
  refine Wo (λ hc=>?_) λ _=>Wg λ f e=>by cases e
  have hc:k<y6.1.length:=Wr hc
  rw[Xc (n:=k+1) (by omega) (by omega)]
  have next:=XaL (N:=N) (h:=h) y1 y6 h1 h6 hN v hv0 hv y4 n (k+1) (by omega) (by omega) (by omega)
  rw[J0,Xa]
  refine Wo (λ _=>Ok.get h0 hc λ p hp=>Wo (λ _=>Ok.get h0 hc λ p hp=>?_) λ _=>next) λ _=>next
  rw[Zk p (by omega) (by omega),Xa]
  refine Wo (λ _=>Ok.get hv0 hv λ q hq=>?_) λ _=>next
  rw[VO,Xa]
  exact Wg λ f e=>by cases e;rfl
theorem XaM {N:Nat} (hN:NB N) {h:Wn} (hb:HB h) (y1:List Int×Int) (h1:y1.1.length<=4096):∀ (n:Nat) (k:Int),0<=k->k<=y1.1.length->(y1.1.length-k).toNat<n->Ok (Qbb N h y1 n k) λ e=>∀ f,e=.ret f->f.Fault=6
 | 0,k,_,_,hn=>by omega
 | n+1,k,h0,hk,hn=>by
  have hN':=hN
  unfold NB at hN'
  rw[Qbb]
  refine Wo (λ hc=>?_) λ _=>Wg λ f e=>by cases e
  have hc:k<y1.1.length:=Wr hc
  rw[Xc (n:=k+1) (by omega) (by omega)]
  refine Ok.get h0 hc λ p hp=>WG (Vr hN hb p) λ y4 _ _=>Ok.get h0 hc λ p hp=>WG (XhW hN hb p) λ y6 _ h6=>?_
  refine IS (XaL y1 y6 h1 h6 (by omega) k h0 hc y4 N 0 (by omega) (by omega) (by omega)) (λ a q=>Wg λ f e=>?_) λ _ _=>XaM hN hb y1 h1 n (k+1) (by omega) (by omega) (by omega)
  cases e;exact q a rfl
theorem XeR {N:Nat} (hN:NB N) {h:Wn} (hb:HB h):Ok (Qda N h) λ _=>True:=by
 have hN':=hN
 unfold NB at hN'
 rw[Qda]
 refine WG (Zt hN hb) λ y _ hy=>?_
 have:=hy.1.len
 exact IS (XaM hN hb y hy.1.len N 0 (by omega) (by omega) (by omega)) (λ _ _=>Wg trivial) λ _ _=>Wg trivial
theorem XeS {N:Nat} (hN:NB N) {h:Wn} (hb:HB h) (hp:UH h):∀ (n:Nat) (i:Int),0<=i->i<=h.Pages.length->(h.Pages.length-i).toNat<n->Ok (Qbj N h n i) λ e=>match e with | .ret f=>f.Fault≠0 | .nxt _=>∀ j,i<=j->j<h.Pages.length->∀ r,Qau N h j=some r->XbI h j r.1
 | 0,i,_,_,hn=>by omega
 | n+1,i,h0,hi,hn=>by
  have hbb:=hb.2
  rw[Qbj]
  refine Wo (λ hc=>?_) λ hc=>Wg λ j h1 h2=>?_
  rotate_left
  ·have:=WH hc;omega
  have hc:i<h.Pages.length:=Wr hc
  refine WG (XjQ hN hb hp h0 hc) λ f _ hf=>Wo (λ hk=>Wg (by simpa using hk)) λ hk=>?_
  rw[Xc (by omega) (by omega)]
  refine (XeS hN hb hp n (i+1) (by omega) (by omega) (by omega)).mono λ e he=>?_
  cases e with
  | ret f=>exact he
  | nxt _ =>
   intro j h1 h2
   by_cases hj:j=i
   ·subst hj;exact hf (by simpa using hk)
   ·exact he j (by omega) h2
theorem XeT {N:Nat} {h:Wn} (hl:h.Pages.length<=100000):∀ (n:Nat) (c i:Int),0<=i->i<=h.Pages.length->(h.Pages.length-i).toNat<n->Ok (Qbk N h n c i) λ _=>True
 | 0,c,i,_,_,hn=>by omega
 | n+1,c,i,h0,hi,hn=>by
  rw[Qbk]
  refine Wo (λ hc=>?_) λ _=>Wg trivial
  have hc:i<h.Pages.length:=Wr hc
  rw[Xc (n:=i+1) (by omega) (by omega)]
  have next:=λ c'=>XeT (N:=N) hl n c' (i+1) (by omega) (by omega) (by omega)
  exact Ok.get h0 hc λ p hp=>Wo (λ _=>Ok.get h0 hc λ p hp=>Wo (λ _=>next _) λ _=>next _) λ _=>next _
structure Ot (N:Nat) (h:Wn):Prop where
 prop:UH h
 small:∀ j:Int,0<=j->j<h.Pages.length->∀ r,Qau N h j=some r->XbI h j r.1
theorem Kf {N:Nat} (hN:NB N) {h:Wn} (hb:HB h):Ok (QbH N h) λ b=>b=true->Ot N h:=by
 have hN':=hN
 unfold NB at hN'
 have hbb:=hb.2
 rw[QbH,QfS]
 refine WG (Q:=λ f=>f.Fault=0->Ot N h) (WG (Yl (N:=N) (by omega) hb.1 hb.2) λ b eb hp=>Wo (λ _=>Wg λ e=>by cases e) λ hb1=>?_) λ f _ hf=>Wg λ e=>?_
 ·have hp:=hp (by simpa using hb1)
  refine IS (XeS hN hb hp N 0 (by omega) (by omega) (by omega)) (λ a q=>Wg λ e=>absurd e q) λ _ q=>?_
  have hg:Ot N h:=⟨hp,q⟩
  refine WG (XeR hN hb) λ f _ _=>Wo (λ _=>Wg λ _=>hg) λ _=>?_
  exact WG (XeT hbb N 0 0 (by omega) (by omega) (by omega)) λ c _ _=>Wo (λ _=>Wg λ _=>hg) λ _=>Wg λ _=>hg
 ·simp only[WE,beq_iff_eq] at e
  exact hf e.1
theorem Ot.sz {N:Nat} {h:Wn} (hg:Ot N h) {l:List Int} (hl:Oc N h l) {a:Int} (ha:a∈l) (hk:(pg h.Pages (pgi h.Conf a)).Kind=1):szA h.Words a<=h.Conf.PageWords / 4:=by
 obtain ⟨r,hr,hm⟩:=hl.page a ha
 have hat:=hl.obj.at_ a ha
 obtain ⟨_,q0,q1,_⟩:=JH hg.prop.conf hat.rng
 have:=hg.small _ q0 (by have:=hg.prop.pages;omega) r hr hk a hm
 unfold smC at this
 rwa[Wm hg.prop.conf] at this
theorem XcQ {N:Nat} (l:List Int) (hl:l.length<=100000000) (y:List Int×Int) (hy:y.1.length<=4096) (hN:1000000<N):∀ (n:Nat) (k:Int),0<=k->k<=l.length->(l.length-k).toNat<n->Ok (Qar N l y n k) λ _=>True
 | 0,k,_,_,hn=>by omega
 | n+1,k,h0,hk,hn=>by
  rw[Qar]
  refine Wo (λ hc=>?_) λ _=>Wg trivial
  have hc:k<l.length:=Wr hc
  rw[Xc (n:=k+1) (by omega) (by omega)]
  have next:=XcQ (N:=N) l hl y hy hN n (k+1) (by omega) (by omega) (by omega)
  refine Ok.get h0 hc λ p hp=>Wo (λ _=>Ok.get h0 hc λ p hp=>?_) λ _=>next
  rw[Zk p (by omega) (by omega),Xa]
  exact Wo (λ _=>Wg trivial) λ _=>next
theorem K2 {N:Nat} (hN:NB N) {h:Wn} (hb:HB h) {l:List Int} (hl:l.length<=1000000):Ok (Qbl N h l) λ b=>b=true->Ot N h:=by
 have hN':=hN
 unfold NB at hN'
 rw[Qbl]
 refine WG (Kf hN hb) λ b _ hb1=>Wo (λ _=>Wg λ e=>by cases e) λ hb2=>?_
 have hg:=hb1 (by simpa using hb2)
 refine WG (Zt hN hb) λ y _ hy=>?_
 exact IS (XcQ l (by omega) y hy.1.len (by omega) N 0 (by omega) (by omega) (by omega)) (λ _ _=>Wg λ _=>hg) λ _ _=>Wg λ _=>hg
end Go.Sx
namespace Go.Sx
theorem XjR (d:Wy):Vo d % 4=1:=by
 have e:ZM .u64 (wU d.Map) 16=wU (wU d.Map*65536):=rfl
 unfold Vo
 rw[e]
 simp only[XbB]
 omega
theorem Xmh (ws:List Int) (a:Int) (h:wd ws a % 4=2):szA ws a=1:=by
 have:okH (wd ws a)=false:=by
  unfold okH
  have h1:=XjR (Vp (wd ws a))
  have:(Vo (Vp (wd ws a))==wd ws a)=false:=by
   rw[IF]
   intro e
   rw[e] at h1
   omega
  rw[this,Of]
 unfold szA hdA Z3
 rw[this]
 rfl
structure Oo (h0:Wn) (l:List Int) (w:W0) (O:Int->Prop) (s:Int->Int):Prop where
 old:∀ a∈l,O a/\s a=szA h0.Words a
 queue:∀ a∈w.Queue,O a
 fit:∀ a,O a->4096<=a/\1<=s a/\a+s a<=4096+w.Heap.Words.length/\szA w.Heap.Words a<=s a
 apart:∀ a b,O a->O b->a≠b->a+s a<=b\/b+s b<=a
 taken:∀ a,O a->∀ j∈w.Taken,a+s a<=Xg h0.Conf j (pg w.Heap.Pages j).Used\/Xg h0.Conf (j+1) 0<=a
 free:∀ a,O a->∀ j:Int,0<=j->j<w.Heap.Pages.length->(pg w.Heap.Pages j).Kind=0->a+s a<=Xg h0.Conf j 0\/Xg h0.Conf (j+1) 0<=a
structure CI (h0:Wn) (l:List Int) (w:W0):Prop where
 conf:w.Heap.Conf=h0.Conf
 wlen:w.Heap.Words.length=h0.Words.length
 plen:w.Heap.Pages.length=h0.Pages.length
 spc:w.Heap.Space=h0.Space
 old:w.Old=l
 tk:∀ j∈w.Taken,0<=j/\j<w.Heap.Pages.length/\(pg w.Heap.Pages j).Kind=1/\0<=(pg w.Heap.Pages j).Used/\(pg w.Heap.Pages j).Used<=h0.Conf.PageWords
 tnd:w.Taken.Nodup
 knd:∀ a∈l,(pg w.Heap.Pages (pgi h0.Conf a)).Kind=(pg h0.Pages (pgi h0.Conf a)).Kind
 qnd:w.Queue.Nodup
 obj:∃ O s,Oo h0 l w O s
theorem VQ:∀ (n:Nat) (a:Int) (l:List Int),l.Nodup->(∀ x∈l,a<=x/\x<a+n)->l.length<=n
 | 0,a,l,_,h=>by
  cases l with
  | nil=>simp
  | cons x l=>have:=h x (by simp);omega
 | n+1,a,l,hn,h=>by
  by_cases hm:a+(n:Int)∈l
  ·have h1:=VQ n a (l.erase (a+(n:Int))) (hn.erase _) λ x hx=>by
    have h2:=(List.Nodup.mem_erase_iff hn).1 hx
    have h3:=h x h2.2
    have:=h2.1
    omega
   have h2:=List.length_erase_of_mem hm
   omega
  ·have h1:=VQ n a l hn λ x hx=>by
    have h3:=h x hx
    have:x≠a+(n:Int):=λ e=>hm (e▸hx)
    omega
   omega
section
variable {N:Nat} {h0:Wn} {l:List Int}
theorem CI.ql {w:W0} (hb:HB h0) (hc:CI h0 l w):w.Queue.length<=100000:=by
 obtain ⟨O,s,ho⟩:=hc.obj
 have:=VQ w.Heap.Words.length 4096 w.Queue hc.qnd λ x hx=>by
  have:=ho.fit x (ho.queue x hx)
  omega
 have:=hb.1
 have:=hc.wlen
 omega
theorem CI.tl {w:W0} (hb:HB h0) (hc:CI h0 l w):w.Taken.length<=100000:=by
 have:=VQ w.Heap.Pages.length 0 w.Taken hc.tnd λ x hx=>by
  have:=hc.tk x hx
  omega
 have:=hb.2
 have:=hc.plen
 omega
theorem XcR {w:W0} (hl:w.Taken.length<=100000) (i:Int):∀ (n:Nat) (k:Int),0<=k->k<=w.Taken.length->(w.Taken.length-k).toNat<n->Ok (QdY N w i n k) λ _=>True
 | 0,k,_,_,hn=>by omega
 | n+1,k,h0,hk,hn=>by
  rw[QdY]
  refine Wo (λ hc=>?_) λ _=>Wg trivial
  have hc:k<w.Taken.length:=Wr hc
  rw[Xc (n:=k+1) (by omega) (by omega)]
  exact Ok.get h0 hc λ p hp=>Wo (λ _=>Wg trivial) λ _=>XcR hl i n (k+1) (by omega) (by omega) (by omega)
theorem XaN (hN:NB N) {w:W0} (hl:w.Taken.length<=100000) (i:Int):Ok (QdZ N w i) λ b=>b=true->0<=i/\i<w.Heap.Pages.length:=by
 unfold NB at hN
 rw[QdZ]
 refine Wo (λ _=>Wg λ e=>by cases e) λ h1=>Wo (λ _=>Wg λ e=>by cases e) λ h2=>?_
 have h1:0<=i:=by have:=WH h1;omega
 have h2:i<w.Heap.Pages.length:=by have:=WH h2;omega
 refine Ok.get h1 h2 λ p hp=>Wo (λ _=>Wo (λ _=>WG (Q:=λ _=>True) ?_ λ y _ _=>Wg λ _=>⟨h1,h2⟩) λ _=>Wg λ e=>by cases e) λ _=>Wg λ e=>by cases e
 rw[Qgu]
 exact IS (XcR hl i N 0 (by omega) (by omega) (by omega)) (λ _ _=>Wg trivial) λ _ _=>Wg trivial
structure Ow (h0:Wn) (w:W0) (n:Int) (w':W0) (at_:Int) (j u:Int):Prop where
 rng:0<=j/\j<w.Heap.Pages.length
 fit:0<=u/\u+n<=h0.Conf.PageWords
 addr:at_=Xg h0.Conf j u
 conf:w'.Heap.Conf=w.Heap.Conf
 words:w'.Heap.Words=w.Heap.Words
 space:w'.Heap.Space=w.Heap.Space
 old:w'.Old=w.Old
 queue:w'.Queue=w.Queue
 scanned:w'.Scanned=w.Scanned
 plen:w'.Heap.Pages.length=w.Heap.Pages.length
 other:∀ i,0<=i->i≠j->pg w'.Heap.Pages i=pg w.Heap.Pages i
 this:(pg w'.Heap.Pages j).Kind=1/\(pg w'.Heap.Pages j).Used=u+n
 way:(j∈w.Taken/\w'.Taken=w.Taken/\u=(pg w.Heap.Pages j).Used)\/((pg w.Heap.Pages j).Kind=0/\w'.Taken=w.Taken++[j]/\u=0)
theorem XjS (hN:NB N) (hb:HB h0) (hp:UH h0) {w:W0} (hc:CI h0 l w) {n:Int} (hn:1<=n) (hn2:n<=h0.Conf.PageWords):Ok (QdO N w n) λ r=>r.2.2=true->∃ j u,Ow h0 w n r.1 r.2.1 j u:=by
 have hN':=hN
 unfold NB at hN'
 have hbb:=hb.2
 have hpl:=hc.plen
 have hv:=Xi.1 hp.conf
 have htl:=hc.tl hb
 have hpp:=hp.pages
 rw[QdO]
 have new:Ok (bnd (QbA N w.Heap.Pages 1) λ y4 =>
  bif (decide (y4<0)) then some ((W0.mk (Wn.mk (WT.mk 0 0) [] [] 0 0) [] [] [] 0 (Us.mk 0 0 0 0 0 0)),0,false)
  else bnd (QbB N w.Heap.Pages y4 (wI (1-w.Heap.Space))) λ y5 =>
  grd (w.Taken.length*8<=140737488355328) <|
  grd ((w.Taken.length+1)*8<=140737488355328) <|
  bnd (Xb y5.1 y4) λ p13 =>
  bnd (Xb y5.1 y4) λ p14 =>
  bnd (Xb y5.1 y4) λ p15 =>
  some ((W0.mk (Wn.mk w.Heap.Conf w.Heap.Words (y5.1.set y4.toNat (Wv.mk p15.Kind p15.Space (wI (p14.Used+n)) p15.Pins)) w.Heap.Space w.Heap.Bump) w.Old (w.Taken++[y4]) w.Queue w.Scanned w.Report),(wU (wI ((wI (4096+(wI (y4*w.Heap.Conf.PageWords))))+p13.Used))),true)) λ r=>r.2.2=true->∃ j u,Ow h0 w n r.1 r.2.1 j u:=by
  refine WG (Y9 1 (by omega) (by omega)) λ j _ hj=>Wo (λ _=>Wg λ e=>by cases e) λ hj0=>?_
  have hr:RunOK w.Heap.Pages j 1:=by
   rcases hj with rfl | hj
   ·cases hj0
   ·exact hj
  have hsp:=hp.space
  have hws:=hc.spc
  rw[Xc (n:=1-w.Heap.Space) (by omega) (by omega)]
  refine WG (XeM j (1-w.Heap.Space) (by omega) (by omega)) λ y _ hy=>?_
  have hy0:=hy.2.2 hr (by omega) (by omega)
  obtain ⟨q0,q1,q2,q3⟩:=hy.1 hy0
  have hk:=hr.2.2.2 0 (by omega) (by omega)
  rw[Int.add_zero] at hk
  have hjl:j<y.1.length:=by omega
  refine WS (by omega) (WS (by omega) (Ok.get q0 hjl λ p1 hp1=>Ok.get q0 hjl λ p2 hp2=>Ok.get q0 hjl λ p3 hp3=>Wg λ _=>?_))
  have g1:=Yd hp1
  have g2:=Yd hp2
  have g3:=Yd hp3
  rw[q3 j q0,Wm rfl] at g1 g2 g3
  subst g1;subst g2;subst g3
  have hm:=X3 hp.conf (i:=j) q0 (by omega)
  refine ⟨j,0,⟨⟨q0,by omega⟩,⟨by omega,by omega⟩,?_,rfl,rfl,rfl,rfl,rfl,rfl,?_,λ i hi hij=>?_,?_,.inr ⟨hk,rfl,rfl⟩⟩⟩
  ·show wU (wI (wI (4096+wI (j*w.Heap.Conf.PageWords))+0))=_
   rw[hc.conf,Xc (n:=j*h0.Conf.PageWords) (by omega) (by omega),Xc (n:=4096+j*h0.Conf.PageWords) (by omega) (by omega),Xc (by omega) (by omega),Xv (by omega) (by omega)]
   rfl
  ·show (y.1.set _ _).length=_
   rw[Wx];exact q2
  ·show pg (y.1.set _ _) i=_
   rw[Vq _ q0 hjl hi,Wk hij,q3 i hi,Wk hij,Wk (by omega)]
  ·show (pg (y.1.set _ _) j).Kind=1/\(pg (y.1.set _ _) j).Used=_
   rw[Vq _ q0 hjl q0,Wm rfl]
   refine ⟨rfl,?_⟩
   show wI (0+n)=0+n
   rw[Xc (by omega) (by omega)]
 refine WS (by omega) (Is (Wo (λ ht=>?_) λ _=>new))
 have ht:0<(w.Taken.length:Int):=Wr ht
 rw[Xc (n:=((w.Taken.length:Nat):Int)-1) (by omega) (by omega)]
 refine Ok.get (by omega) (by omega) λ j hj=>?_
 have hjm:=Yp hj
 obtain ⟨t0,t1,t2,t3,t4⟩:=hc.tk j hjm
 refine Ok.get t0 t1 λ p hp2=>?_
 have g:=Yd hp2
 subst g
 rw[Xc (n:=(pg w.Heap.Pages j).Used+n) (by omega) (by omega)]
 refine Wo (λ hle=>?_) λ _=>new
 have hle:(pg w.Heap.Pages j).Used+n<=w.Heap.Conf.PageWords:=Wr hle
 rw[hc.conf] at hle
 refine Ok.get (by omega) (by omega) λ j' hj'=>?_
 obtain rfl:j=j':=WP (hj.symm.trans hj')
 refine Ok.get t0 t1 λ p1 hp1=>Ok.get t0 t1 λ p2 hp2=>Ok.get t0 t1 λ p3 hp3=>Wg λ _=>?_
 have g1:=Yd hp1
 have g2:=Yd hp2
 have g3:=Yd hp3
 subst g1;subst g2;subst g3
 have hm:=X3 hp.conf (i:=j) t0 (by omega)
 refine ⟨j,(pg w.Heap.Pages j).Used,⟨⟨t0,t1⟩,⟨t3,hle⟩,?_,rfl,rfl,rfl,rfl,rfl,rfl,?_,λ i hi hij=>?_,?_,.inl ⟨hjm,rfl,rfl⟩⟩⟩
 ·show wU (wI (wI (4096+wI (j*w.Heap.Conf.PageWords))+_))=_
  rw[hc.conf,Xc (n:=j*h0.Conf.PageWords) (by omega) (by omega),Xc (n:=4096+j*h0.Conf.PageWords) (by omega) (by omega),Xc (by omega) (by omega),Xv (by omega) (by omega)]
  rfl
 ·show (w.Heap.Pages.set _ _).length=_
  rw[Wx]
 ·show pg (w.Heap.Pages.set _ _) i=_
  rw[Vq _ t0 t1 hi,Wk hij]
 ·show (pg (w.Heap.Pages.set _ _) j).Kind=1/\(pg (w.Heap.Pages.set _ _) j).Used=_
  rw[Vq _ t0 t1 t0,Wm rfl]
  refine ⟨t2,?_⟩
  show wI ((pg w.Heap.Pages j).Used+n)=_
  rw[Xc (by omega) (by omega)]
end
end Go.Sx
namespace Go.Sx
theorem Xob {a b:Int} (ha:4096<=a) (hb:4096<=b) (h:ix a=ix b):a=b:=by unfold ix at h;omega
theorem XjT {ws:List Int} {x a v:Int} (hx:inW ws x) (ha:4096<=a):wd (ws.set (ix x) v) a=if a=x then v else wd ws a:=by
 unfold wd
 have hlt:ix x<ws.length:=by unfold inW at hx;unfold ix;omega
 rw[Wp,Wp,Ik]
 by_cases h:a=x
 ·subst h;rw[Wm rfl,Wm hlt,Wm rfl];rfl
 ·rw[Wk h,Wk]
  intro e
  exact h (Xob ha hx.1 e.symm)
theorem Xmi {ws:List Int} {to a x:Int} {k:Nat} (h1:Yb ws a k) (h2:Yb ws to k) (hx:4096<=x):wd (ovr ws ((ws.drop (ix a)).take k) (ix to)) x=if to<=x/\x<to+k then wd ws (a+(x-to)) else wd ws x:=by
 have hlen:((ws.drop (ix a)).take k).length=k:=by unfold Yb at h1;simp[ix];omega
 unfold wd
 rw[XeH (by rw[hlen];unfold Yb at h2;unfold ix;omega),hlen]
 unfold Yb at h1 h2
 by_cases h:to<=x/\x<to+k
 ·rw[Wm h,Wm (by unfold ix;omega),Wp,WW,Wm (by unfold ix;omega),Un,← Wp]
  congr 1
  unfold ix;omega
 ·rw[Wk h,Wk (by unfold ix;omega)]
theorem XgV {ws:List Int} {to a:Int} {k:Nat} (h1:Yb ws a k) (h2:Yb ws to k):(ovr ws ((ws.drop (ix a)).take k) (ix to)).length=ws.length:=by
 have hlen:((ws.drop (ix a)).take k).length=k:=by unfold Yb at h1;simp[ix];omega
 exact ZS (by rw[hlen];unfold Yb at h2;unfold ix;omega)
theorem VR {c:WT} (hc:XZ c=true) {i j o p:Int} (h:i<j) (h1:o<=c.PageWords) (h2:0<=p):Xg c i o<=Xg c j p:=by
 have hv:=Xi.1 hc
 have:(i+1)*c.PageWords<=j*c.PageWords:=UE (by omega) (by omega)
 have e:(i+1)*c.PageWords=i*c.PageWords+c.PageWords:=by rw[IK,Od]
 unfold Xg
 omega
section
variable {N:Nat} {h0:Wn} {l:List Int}
structure OA (h0:Wn) (l:List Int) (w w':W0) (O:Int->Prop) (s:Int->Int):Prop where
 ci:CI h0 l w'
 ob:∃ O' s',Oo h0 l w' O' s'/\∀ a,O a->O' a/\s' a=s a
 sc:w'.Scanned=w.Scanned
 ql:w.Queue.length<=w'.Queue.length
def SameK (ps qs:List Wv):Prop:=qs.length=ps.length/\∀ i,0<=i->(pg qs i).Kind=(pg ps i).Kind/\(pg qs i).Used=(pg ps i).Used
theorem SameK.refl (ps:List Wv):SameK ps ps:=⟨rfl,λ _ _=>⟨rfl,rfl⟩⟩
theorem SameK.set {ps qs:List Wv} (h:SameK ps qs) {i:Int} (h0:0<=i) (h1:i<qs.length) (sp pins:Int):SameK ps (qs.set i.toNat ⟨(pg qs i).Kind,sp,(pg qs i).Used,pins⟩):=by
 refine ⟨by rw[Wx];exact h.1,λ j hj=>?_⟩
 rw[Vq _ h0 h1 hj]
 split
 ·rename_i e;subst e;exact h.2 j hj
 ·exact h.2 j hj
theorem XjU (w:W0) (a:Int) {ps:List Wv} (hl:ps.length<=100000):∀ (n:Nat) (i:Int) (qs:List Wv),0<=i->i<=ps.length->(ps.length-i).toNat<n->SameK ps qs->Ok (Qdc N w a n i qs) λ r=>SameK ps r
 | 0,i,qs,_,_,hn,_=>by omega
 | n+1,i,qs,h0,hi,hn,hs=>by
  have hq:=hs.1
  rw[Qdc]
  refine WS (by omega) (Wo (λ hc=>?_) λ _=>Wg hs)
  have hc:i<qs.length:=Wr hc
  rw[Xc (n:=i+1) (by omega) (by omega)]
  refine Ok.get h0 hc λ p hp=>Wo (λ _=>Ok.get h0 hc λ p hp=>?_) λ _=>Wg hs
  have hg:=Yd hp
  subst hg
  exact XjU w a hl n (i+1) _ (by omega) (by omega) (by omega) (hs.set h0 hc _ _)
theorem CI.pages {w:W0} (hc:CI h0 l w) {qs:List Wv} (h:SameK w.Heap.Pages qs):CI h0 l { w with Heap:={ w.Heap with Pages:=qs } }:=by
 obtain ⟨O,s,ho⟩:=hc.obj
 refine ⟨hc.conf,hc.wlen,h.1.trans hc.plen,hc.spc,hc.old,λ j hj=>?_,hc.tnd,λ a ha=>?_,hc.qnd,?_⟩
 ·have:=hc.tk j hj
  have h2:=h.2 j this.1
  show 0<=j/\j<qs.length/\(pg qs j).Kind=1/\0<=(pg qs j).Used/\(pg qs j).Used<=h0.Conf.PageWords
  rw[h2.1,h2.2,h.1];exact this
 ·show (pg qs _).Kind=_
  have hk:=hc.knd a ha
  by_cases hp:0<=pgi h0.Conf a
  ·rw[(h.2 _ hp).1];exact hk
  ·have e1:∀ ps:List Wv,pg ps (pgi h0.Conf a)=pg ps 0:=λ ps=>by
    unfold pg
    have:(pgi h0.Conf a).toNat=(0:Int).toNat:=by omega
    rw[this]
   rw[e1,(h.2 0 (by omega)).1,← e1,hk]
 ·refine ⟨O,s,ho.old,ho.queue,ho.fit,ho.apart,λ a ha j hj=>?_,λ a ha j h1 h2 h3=>?_⟩
  ·show a+s a<=Xg h0.Conf j (pg qs j).Used\/_
   rw[(h.2 j (hc.tk j hj).1).2];exact ho.taken a ha j hj
  ·have h2:j<qs.length:=h2
   have h3:(pg qs j).Kind=0:=h3
   rw[(h.2 j h1).1] at h3
   exact ho.free a ha j h1 (by rw[← h.1];exact h2) h3
theorem Oo.pages {w:W0} {O:Int->Prop} {s:Int->Int} (hc:CI h0 l w) (ho:Oo h0 l w O s) {qs:List Wv} (h:SameK w.Heap.Pages qs):Oo h0 l { w with Heap:={ w.Heap with Pages:=qs } } O s:=by
 refine ⟨ho.old,ho.queue,ho.fit,ho.apart,λ a ha j hj=>?_,λ a ha j h1 h2 h3=>?_⟩
 ·show a+s a<=Xg h0.Conf j (pg qs j).Used\/_
  rw[(h.2 j (hc.tk j hj).1).2];exact ho.taken a ha j hj
 ·have h2:j<qs.length:=h2
  have h3:(pg qs j).Kind=0:=h3
  rw[(h.2 j h1).1] at h3
  exact ho.free a ha j h1 (by rw[← h.1];exact h2) h3
theorem CI.push {w:W0} {O:Int->Prop} {s:Int->Int} (hc:CI h0 l w) (ho:Oo h0 l w O s) {a:Int} (ha:O a) (hq:a∉w.Queue) (rp:Us):OA h0 l w { w with Queue:=w.Queue++[a],Report:=rp } O s:=by
 have ho2:Oo h0 l { w with Queue:=w.Queue++[a],Report:=rp } O s:=by
  refine ⟨ho.old,λ x hx=>?_,ho.fit,ho.apart,ho.taken,ho.free⟩
  rcases WJ.1 hx with hx | hx
  ·exact ho.queue x hx
  ·rw[UM.1 hx];exact ha
 refine ⟨⟨hc.conf,hc.wlen,hc.plen,hc.spc,hc.old,hc.tk,hc.tnd,hc.knd,?_,⟨O,s,ho2⟩⟩,⟨O,s,ho2,λ a h=>⟨h,rfl⟩⟩,rfl,?_⟩
 ·show (w.Queue++[a]).Nodup
  rw[IB]
  refine ⟨hc.qnd,by simp,λ x hx y hy=>?_⟩
  rw[UM.1 hy]
  rintro rfl
  exact hq hx
 ·show w.Queue.length<=(w.Queue++[a]).length
  rw[Wq];omega
end
end Go.Sx
namespace Go.Sx
section
variable {N:Nat} {h0:Wn} {l:List Int}
theorem Xoc (hp:UH h0) (hk12:∀ a∈l,(pg h0.Pages (pgi h0.Conf a)).Kind=1\/(pg h0.Pages (pgi h0.Conf a)).Kind=2) (hpr:∀ a∈l,0<=pgi h0.Conf a) {w w':W0} {O:Int->Prop} {s:Int->Int} (hc:CI h0 l w) (ho:Oo h0 l w O s) {a n at_ j u:Int} (hal:a∈l) (hn:n=szA w.Heap.Words a) (hn1:1<=n) (pq:Ow h0 w n w' at_ j u) (v:Int) (hv:v % 4=2) (rp:Us) :
 Yb w.Heap.Words a n.toNat/\Yb w.Heap.Words at_ n.toNat/\4096<=at_/\at_<=200000/\OA h0 l w { w' with Heap:={ w'.Heap with Words:=(ovr w.Heap.Words ((w.Heap.Words.drop (ix a)).take n.toNat) (ix at_)).set (ix a) v },Queue:=w'.Queue++[at_],Report:=rp } O s:=by
 have hvc:=Xi.1 hp.conf
 obtain ⟨hOa,hsa⟩:=ho.old a hal
 obtain ⟨fa1,fa2,fa3,fa4⟩:=ho.fit a hOa
 rw[← hn] at fa4
 have hwl:=hc.wlen
 have hw0:=hp.words
 have hpl:=hc.plen
 have hpl0:=hp.pages
 obtain ⟨r1,r2⟩:=pq.rng
 have hm:=X3 hp.conf (i:=j) r1 (by omega)
 obtain ⟨u0,u1⟩:=pq.fit
 have hat:at_=Xg h0.Conf j u:=pq.addr
 have hat1:at_=4096+j*h0.Conf.PageWords+u:=hat
 have hend:at_+n=Xg h0.Conf j (u+n):=by rw[hat];unfold Xg;omega
 have hend2:at_+n<=Xg h0.Conf (j+1) 0:=by
  have e:(j+1)*h0.Conf.PageWords=j*h0.Conf.PageWords+h0.Conf.PageWords:=by rw[IK,Od]
  unfold Xg;omega
 have i1:Yb w.Heap.Words a n.toNat:=by unfold Yb;omega
 have i2:Yb w.Heap.Words at_ n.toNat:=by unfold Yb;omega
 have away:∀ x,O x->x+s x<=at_\/Xg h0.Conf (j+1) 0<=x:=by
  intro x hx
  rcases pq.way with ⟨g1,g2,g3⟩ | ⟨g1,g2,g3⟩
  ·have:=ho.taken x hx j g1
   rw[← g3,← hat] at this
   exact this
  ·have:=ho.free x hx j r1 r2 g1
   rw[g3] at hat
   rw[hat]
   exact this
 have fresh:¬ O at_:=by
  intro hx
  have:=away at_ hx
  have:=(ho.fit at_ hx).2.1
  omega
 have hne:a≠at_:=λ e=>fresh (e▸hOa)
 have aw2:∀ x,O x->x+s x<=at_\/at_+n<=x:=λ x hx=>by
  have:=away x hx
  omega
 have hlen:(ovr w.Heap.Words ((w.Heap.Words.drop (ix a)).take n.toNat) (ix at_)).length=w.Heap.Words.length:=XgV i1 i2
 have hlen2:((ovr w.Heap.Words ((w.Heap.Words.drop (ix a)).take n.toNat) (ix at_)).set (ix a) v).length=w.Heap.Words.length:=by rw[Wx,hlen]
 have hwd:∀ x,4096<=x->wd ((ovr w.Heap.Words ((w.Heap.Words.drop (ix a)).take n.toNat) (ix at_)).set (ix a) v) x=if x=a then v else if at_<=x/\x<at_+n then wd w.Heap.Words (a+(x-at_)) else wd w.Heap.Words x:=by
  intro x hx
  rw[XjT (by unfold inW;rw[hlen];omega) hx,Xmi i1 i2 hx]
  have:((n.toNat:Nat):Int)=n:=by omega
  rw[this]
 have hsz:∀ x,O x->szA ((ovr w.Heap.Words ((w.Heap.Words.drop (ix a)).take n.toNat) (ix at_)).set (ix a) v) x<=s x:=by
  intro x hx
  have hf:=ho.fit x hx
  by_cases hxa:x=a
  ·have:szA ((ovr w.Heap.Words ((w.Heap.Words.drop (ix a)).take n.toNat) (ix at_)).set (ix a) v) x=1:=by
    apply Xmh
    rw[hwd x hf.1,Wm hxa];exact hv
   omega
  ·have:szA ((ovr w.Heap.Words ((w.Heap.Words.drop (ix a)).take n.toNat) (ix at_)).set (ix a) v) x=szA w.Heap.Words x:=by
    unfold szA hdA
    rw[hwd x hf.1,Wk hxa,Wk]
    have:=aw2 x hx
    omega
   omega
 have hszat:szA ((ovr w.Heap.Words ((w.Heap.Words.drop (ix a)).take n.toNat) (ix at_)).set (ix a) v) at_=n:=by
  refine Eq.trans ?_ hn.symm
  unfold szA hdA
  rw[hwd at_ (by omega),Wk (λ e=>hne e.symm),Wm (by omega)]
  rw[show a+(at_-at_)=a by omega]
 have hjk:=pq.this
 have hk0:∀ i,0<=i->(pg w'.Heap.Pages i).Kind=0->i≠j/\(pg w.Heap.Pages i).Kind=0:=by
  intro i hi hk
  have hij:i≠j:=by rintro rfl;rw[hjk.1] at hk;cases hk
  rw[pq.other i hi hij] at hk
  exact ⟨hij,hk⟩
 have htk:∀ i∈w'.Taken,i=j\/(i∈w.Taken/\i≠j):=by
  intro i hi
  by_cases hij:i=j
  ·exact .inl hij
  ·right
   refine ⟨?_,hij⟩
   rcases pq.way with ⟨_,g2,_⟩ | ⟨_,g2,_⟩
   ·rwa[g2] at hi
   ·rw[g2] at hi
    rcases WJ.1 hi with hi | hi
    ·exact hi
    ·exact absurd (UM.1 hi) hij
 have hqe:w'.Queue=w.Queue:=pq.queue
 refine ⟨i1,i2,by omega,by omega,?_⟩
 have hO:Oo h0 l { w' with Heap:={ w'.Heap with Words:=(ovr w.Heap.Words ((w.Heap.Words.drop (ix a)).take n.toNat) (ix at_)).set (ix a) v },Queue:=w'.Queue++[at_],Report:=rp } (λ x=>O x\/x=at_) (λ x=>if x=at_ then n else s x):=by
  have ne:∀ x,O x->x≠at_:=λ x hx e=>fresh (e▸hx)
  refine ⟨λ x hx=>?_,λ x hx=>?_,λ x hx=>?_,λ x y hx hy hxy=>?_,λ x hx i hi=>?_,λ x hx i g1 g2 g3=>?_⟩
  ·obtain ⟨q1,q2⟩:=ho.old x hx
   exact ⟨.inl q1,by rw[Wk (ne x q1)];exact q2⟩
  ·have hx:x∈w'.Queue++[at_]:=hx
   rcases WJ.1 hx with hx | hx
   ·rw[hqe] at hx;exact .inl (ho.queue x hx)
   ·exact .inr (UM.1 hx)
  ·show 4096<=x/\1<=(if x=at_ then n else s x)/\x+(if x=at_ then n else s x)<=4096+((ovr w.Heap.Words ((w.Heap.Words.drop (ix a)).take n.toNat) (ix at_)).set (ix a) v).length/\szA ((ovr w.Heap.Words ((w.Heap.Words.drop (ix a)).take n.toNat) (ix at_)).set (ix a) v) x<=(if x=at_ then n else s x)
   rw[hlen2]
   rcases hx with hx | rfl
   ·rw[Wk (ne x hx)]
    obtain ⟨f1,f2,f3,f4⟩:=ho.fit x hx
    exact ⟨f1,f2,f3,hsz x hx⟩
   ·rw[Wm rfl,hszat]
    omega
  ·show x+(if x=at_ then n else s x)<=y\/y+(if y=at_ then n else s y)<=x
   rcases hx with hx | rfl
   ·rcases hy with hy | rfl
    ·rw[Wk (ne x hx),Wk (ne y hy)];exact ho.apart x y hx hy hxy
    ·rw[Wk (ne x hx),Wm rfl];have:=aw2 x hx;omega
   ·rcases hy with hy | rfl
    ·rw[Wm rfl,Wk (ne y hy)];have:=aw2 y hy;omega
    ·exact absurd rfl hxy
  ·show x+(if x=at_ then n else s x)<=Xg h0.Conf i (pg w'.Heap.Pages i).Used\/Xg h0.Conf (i+1) 0<=x
   rcases htk i hi with rfl | ⟨hi1,hi2⟩
   ·rw[hjk.2]
    rcases hx with hx | rfl
    ·rw[Wk (ne x hx)];have:=away x hx;have:at_<=Xg h0.Conf i (u+n):=by omega
     omega
    ·rw[Wm rfl];left;omega
   ·obtain ⟨t1,t2,t3,t4,t5⟩:=hc.tk i hi1
    rw[pq.other i t1 hi2]
    rcases hx with hx | rfl
    ·rw[Wk (ne x hx)];exact ho.taken x hx i hi1
    ·rw[Wm rfl]
     by_cases hlt:i<j
     ·right
      have:=VR hp.conf (o:=h0.Conf.PageWords) (p:=u) hlt (by omega) u0
      have e:Xg h0.Conf (i+1) 0=Xg h0.Conf i h0.Conf.PageWords:=by unfold Xg;rw[IK,Od];omega
      omega
     ·left
      have:=VR hp.conf (i:=j) (j:=i) (o:=u+n) (p:=(pg w.Heap.Pages i).Used) (by omega) (by omega) t4
      omega
  ·have g2:i<w'.Heap.Pages.length:=g2
   have g3:(pg w'.Heap.Pages i).Kind=0:=g3
   show x+(if x=at_ then n else s x)<=Xg h0.Conf i 0\/Xg h0.Conf (i+1) 0<=x
   obtain ⟨k1,k2⟩:=hk0 i g1 g3
   rcases hx with hx | rfl
   ·rw[Wk (ne x hx)];exact ho.free x hx i g1 (by rw[← pq.plen];exact g2) k2
   ·rw[Wm rfl]
    by_cases hlt:i<j
    ·right
     have:=VR hp.conf (o:=h0.Conf.PageWords) (p:=u) hlt (by omega) u0
     have e:Xg h0.Conf (i+1) 0=Xg h0.Conf i h0.Conf.PageWords:=by unfold Xg;rw[IK,Od];omega
     omega
    ·left
     have:=VR hp.conf (i:=j) (j:=i) (o:=u+n) (p:=0) (by omega) (by omega) (by omega)
     omega
 refine ⟨⟨?_,?_,?_,?_,?_,λ i hi=>?_,?_,λ x hx=>?_,?_,⟨_,_,hO⟩⟩,⟨_,_,hO,λ x hx=>⟨.inl hx,?_⟩⟩,pq.scanned,?_⟩
 ·exact pq.conf.trans hc.conf
 ·exact hlen2.trans hc.wlen
 ·exact pq.plen.trans hc.plen
 ·exact pq.space.trans hc.spc
 ·exact pq.old.trans hc.old
 ·show 0<=i/\i<w'.Heap.Pages.length/\(pg w'.Heap.Pages i).Kind=1/\0<=(pg w'.Heap.Pages i).Used/\(pg w'.Heap.Pages i).Used<=h0.Conf.PageWords
  rw[pq.plen]
  rcases htk i hi with rfl | ⟨hi1,hi2⟩
  ·rw[hjk.1,hjk.2]
   omega
  ·have:=hc.tk i hi1
   rw[pq.other i this.1 hi2]
   exact this
 ·show w'.Taken.Nodup
  rcases pq.way with ⟨_,g2,_⟩ | ⟨g1,g2,_⟩
  ·rw[g2];exact hc.tnd
  ·rw[g2,IB]
   refine ⟨hc.tnd,by simp,λ x hx y hy=>?_⟩
   rw[UM.1 hy]
   rintro rfl
   rw[(hc.tk x hx).2.2.1] at g1
   cases g1
 ·show (pg w'.Heap.Pages _).Kind=_
  have hkx:=hc.knd x hx
  have h12:=hk12 x hx
  by_cases hij:pgi h0.Conf x=j
  ·rw[hij] at hkx h12 ⊢
   rw[hjk.1]
   rcases pq.way with ⟨g1,_,_⟩ | ⟨g1,_,_⟩
   ·rw[(hc.tk j g1).2.2.1] at hkx;exact hkx
   ·rw[g1] at hkx;rw[← hkx] at h12;rcases h12 with h | h<;>cases h
  ·rw[pq.other _ (hpr x hx) hij];exact hkx
 ·show (w'.Queue++[at_]).Nodup
  rw[hqe,IB]
  refine ⟨hc.qnd,by simp,λ x hx y hy=>?_⟩
  rw[UM.1 hy]
  rintro rfl
  exact fresh (ho.queue x hx)
 ·show (if x=at_ then n else s x)=s x
  exact Wk (λ e=>fresh (by rw[← e];exact hx))
 ·show w.Queue.length<=(w'.Queue++[at_]).length
  rw[hqe,Wq];omega
structure Start (N:Nat) (h0:Wn) (l:List Int):Prop where
 hb:HB h0
 good:l≠[]->Ot N h0
 prop:l≠[]->UH h0
 st:Oc N h0 l
theorem XjV (a:Int) (h0:0<=a) (h1:a<4294967296):wU (wU (4*a)+2) % 4=2:=by
 rw[Xv (n:=4*a) (by omega) (by omega),Xv (by omega) (by omega)]
 omega
theorem XbJ {l:List Int} {a:Int} (h:l.contains a=false):a∉l:=by
 intro hm
 have:l.contains a=true:=by simpa using hm
 rw[h] at this;cases this
theorem Vf {l:List Int} {a:Int} (h:l.contains a=true):a∈l:=by simpa using h
theorem CI.wl {w:W0} (hb:HB h0) (hc:CI h0 l w):w.Heap.Words.length<=BIG:=by
 have:=hb.1
 have:=hc.wlen
 unfold BIG
 omega
theorem XbK (hN:NB N) (hs:Start N h0 l) {w:W0} {O:Int->Prop} {s:Int->Int} (hc:CI h0 l w) (ho:Oo h0 l w O s) (a:Int):Ok (Qc1 N w a) λ r=>r.2.2=0->OA h0 l w r.1 O s:=by
 have hN':=hN
 unfold NB at hN'
 have hb:=hs.hb
 have hql:=hc.ql hb
 have hwl:=hc.wl hb
 have hww:=hc.wlen
 have hb1:=hb.1
 have hb2:=hb.2
 have hpl:=hc.plen
 have same:OA h0 l w w O s:=⟨hc,⟨O,s,ho,λ _ h=>⟨h,rfl⟩⟩,rfl,Uf _⟩
 rw[Qc1]
 refine Wo (λ _=>Wg λ _=>same) λ _=>?_
 rw[Zk a (by omega) (by omega),Xa]
 refine Wo (λ _=>Wg λ _=>same) λ hq=>?_
 have hq:=XbJ hq
 rw[Zk a (by rw[hc.old];have:=hs.st.len;omega) (by rw[hc.old];have:=hs.st.len;omega),Xa]
 refine Wo (λ _=>Wg λ e=>by cases e) λ hal=>?_
 have hal:a∈l:=by rw[← hc.old];exact Vf (by simpa using hal)
 have hne:l≠[]:=List.ne_nil_of_mem hal
 have hp:=hs.prop hne
 have hg:=hs.good hne
 have hat:=hs.st.obj.at_ a hal
 have hwd0:=hp.words
 have hpg0:=hp.pages
 have hvc:=Xi.1 hp.conf
 have hrng:=hat.rng
 obtain ⟨_,q0,q1,_⟩:=JH hp.conf hrng
 have hin:inW w.Heap.Words a:=by unfold inW;omega
 rw[ZC hwl,Xa,Wm hin,XcM,Xa]
 have hof:Qc9 N w.Heap.Conf a=some (pgi h0.Conf a,pgo h0.Conf a,0):=by
  rw[VO,hc.conf,hp.conf,Wk (by simp),Wm hrng];rfl
 rw[hof,Xa]
 refine Wo (λ _=>Wg λ _=>same) λ _=>?_
 refine Wo (λ _=>Wg λ e=>by cases e) λ _=>?_
 refine Wo (λ _=>Wg λ e=>by cases e) λ _=>?_
 refine WG (XaN hN (hc.tl hb) _) λ b _ _=>Wo (λ _=>?_) λ _=>?_
 ·rw[Qel,Xe (by omega),Xe (by omega),Xa]
  exact Wg λ _=>hc.push ho (ho.old a hal).1 hq _
 refine Ok.get q0 (by show pgi h0.Conf a<_;omega) λ p hpp=>Wo (λ _=>?_) λ hk2=>?_
 ·refine WS (by omega) (Ok.get q0 (by show pgi h0.Conf a<_;omega) λ p hpp=>?_)
  have hgp:=Yd hpp
  subst hgp
  rw[Xc (n:=pgi h0.Conf a+1) (by omega) (by omega)]
  refine WG (XjU w a (ps:=w.Heap.Pages) (by omega) N (pgi h0.Conf a+1) _ (by omega) (by omega) (by omega) ((SameK.refl _).set q0 (by omega) _ _)) λ qs _ hqs=>?_
  rw[Qel,Xe (by show w.Queue.length*8<=_;omega),Xe (by show (w.Queue.length+1)*8<=_;omega),Xa]
  refine Wg λ _=>?_
  have q:=λ rp=>(hc.pages hqs).push (ho.pages hc hqs) (ho.old a hal).1 hq rp
  exact ⟨(q _).ci,(q _).ob,(q w.Report).sc,(q w.Report).ql⟩
 ·have hgp:=Yd hpp
  have hk12:∀ x∈l,(pg h0.Pages (pgi h0.Conf x)).Kind=1\/(pg h0.Pages (pgi h0.Conf x)).Kind=2:=λ x hx=>(hs.st.obj.at_ x hx).kind
  have hpr:∀ x∈l,0<=pgi h0.Conf x:=λ x hx=>(JH hp.conf (hs.st.obj.at_ x hx).rng).2.1
  have hk1:(pg h0.Pages (pgi h0.Conf a)).Kind=1:=by
   rcases hk12 a hal with h | h
   ·exact h
   ·exfalso
    rw[← hc.knd a hal,hgp] at h
    rw[h] at hk2;cases hk2
  have hsz:=hg.sz hs.st hal hk1
  have hso:=(ho.old a hal).2
  have hfit:=ho.fit a (ho.old a hal).1
  have hsw:=ZU w.Heap.Words a
  rw[VN,Xa,Yf,Xa]
  have e1:XF (Z3 (w.Heap.Words.getD (ix a) 0))=szA w.Heap.Words a:=hsw.1
  show Ok (bnd (QdO N w (XF (Z3 (w.Heap.Words.getD (ix a) 0)))) _) _
  rw[e1]
  refine WG (XjS hN hb hp hc (n:=szA w.Heap.Words a) hsw.2.1 (by omega)) λ y _ hy=>Wo (λ _=>Wg λ e=>by cases e) λ hy2=>?_
  obtain ⟨j,u,pq⟩:=hy (by simpa using hy2)
  have q:=λ v hv rp=>Xoc (n:=szA w.Heap.Words a) hp hk12 hpr hc ho hal rfl hsw.2.1 pq v hv rp
  obtain ⟨i1,i2,a1,a2,_⟩:=q 2 rfl y.1.Report
  rw[pq.words]
  have en:szA w.Heap.Words a=(((szA w.Heap.Words a).toNat:Nat):Int):=by omega
  have hmv:=Xmd (N:=N) hwl y.2.1 a (szA w.Heap.Words a).toNat (by omega) (by omega)
  rw[← en,Wm ⟨i1,i2⟩] at hmv
  rw[hmv,Xa,XfY,Xa,Wk (by omega)]
  have ol:=XgV i1 i2
  rw[VM (by rw[ol];exact hwl) (by omega),Xa]
  have hin2:inW (ovr w.Heap.Words ((w.Heap.Words.drop (ix a)).take (szA w.Heap.Words a).toNat) (ix y.2.1)) a:=by unfold inW;rw[ol];exact hin
  rw[Wm hin2]
  have hqe:=pq.queue
  refine WS (by rw[hqe];omega) (WS (by rw[hqe];omega) (Wg λ _=>?_))
  exact (q _ (XjV y.2.1 (by omega) (by omega)) _).2.2.2.2
end
end Go.Sx
namespace Go.Sx
section
variable {N:Nat} {h0:Wn} {l:List Int}
theorem VS (h:Wn) (y:List Int×Int) (hl:h.Pages.length<=100000):∀ (n:Nat) (i:Int) (qs:List Wv),0<=i->i<=h.Pages.length->(h.Pages.length-i).toNat<n->SameK h.Pages qs->Ok (QcE N h y n i qs) λ r=>SameK h.Pages r
 | 0,i,qs,_,_,hn,_=>by omega
 | n+1,i,qs,h0,hi,hn,hs=>by
  have hq:=hs.1
  rw[QcE]
  refine WS (by omega) (Wo (λ hc=>?_) λ _=>Wg hs)
  have hc:i<qs.length:=Wr hc
  rw[Xc (n:=i+1) (by omega) (by omega)]
  have next:=VS h y hl n (i+1) qs (by omega) (by omega) (by omega) hs
  refine Ok.get h0 hc λ p hp=>Wo (λ _=>Wo (λ _=>Ok.get h0 hc λ p hp=>?_) λ _=>next) λ _=>next
  have hg:=Yd hp
  subst hg
  exact VS h y hl n (i+1) _ (by omega) (by omega) (by omega) (hs.set h0 hc _ _)
theorem Xf0 {h:Wn} (hp:UH h) {a:Int} (ha:I7 h a) {j:Int} (h1:0<=j) (hk:(pg h.Pages j).Kind=0):a+szA h.Words a<=Xg h.Conf j 0\/Xg h.Conf (j+1) 0<=a:=by
 obtain ⟨k,k1,k2,k3,k4⟩:=XdC hp ha
 obtain ⟨q1,q2,q3,q4,q5⟩:=JH hp.conf ha.rng
 have hvc:=Xi.1 hp.conf
 have hkk:=ha.kind
 by_cases hlt:j<pgi h.Conf a
 ·right
  have:=VR hp.conf (o:=h.Conf.PageWords) (p:=pgo h.Conf a) hlt (by omega) q4
  have e:Xg h.Conf (j+1) 0=Xg h.Conf j h.Conf.PageWords:=by unfold Xg;rw[IK,Od];omega
  omega
 ·by_cases he:j=pgi h.Conf a
  ·subst he;rw[hk] at hkk;rcases hkk with h | h<;>cases h
  ·by_cases hlt2:j<pgi h.Conf a+k
   ·have:=k4 (j-pgi h.Conf a) (by omega) (by omega)
    rw[show pgi h.Conf a+(j-pgi h.Conf a)=j by omega] at this
    rw[hk] at this;cases this
   ·left
    have:(pgi h.Conf a+k)*h.Conf.PageWords<=j*h.Conf.PageWords:=UE (by omega) (by omega)
    have e1:Xg h.Conf (pgi h.Conf a+k) 0=4096+(pgi h.Conf a+k)*h.Conf.PageWords+0:=rfl
    have e2:Xg h.Conf j 0=4096+j*h.Conf.PageWords+0:=rfl
    omega
theorem XeU {h:Wn} (hb:HB h) (hp:UH h) {l:List Int} (hs:Oc N h l) {w:W0} (e1:w.Heap.Conf=h.Conf) (e2:w.Heap.Words=h.Words) (e3:w.Heap.Space=h.Space) (hk:SameK h.Pages w.Heap.Pages) (e4:w.Old=l) (e5:w.Taken=[]) (e6:w.Queue=[]):CI h l w:=by
 have ho:Oo h l w (λ a=>a∈l) (szA h.Words):=by
  refine ⟨λ a ha=>⟨ha,rfl⟩,λ a ha=>(by rw[e6] at ha;cases ha),λ a ha=>?_,λ a b ha hb' hab=>?_,λ a ha j hj=>(by rw[e5] at hj;cases hj),λ a ha j h1 h2 h3=>?_⟩
  ·rw[e2]
   have h1:=hs.obj.at_ a ha
   exact ⟨h1.rng.1,(ZU h.Words a).2.1,VP hp h1,Int.le_refl _⟩
  ·have hpw:=hs.obj.pw
   rw[U4] at hpw
   obtain ⟨i,hi,ei⟩:=W3 ha
   obtain ⟨j,hj,ej⟩:=W3 hb'
   rcases Nat.lt_trichotomy i j with hij | hij | hij
   ·left;have:=hpw i j hi hj hij;rw[ei,ej] at this;exact this
   ·subst hij;exact absurd (ei.symm.trans ej) hab
   ·right;have:=hpw j i hj hi hij;rw[ei,ej] at this;exact this
  ·rw[(hk.2 j h1).1] at h3
   exact Xf0 hp (hs.obj.at_ a ha) h1 h3
 refine ⟨e1,by rw[e2],hk.1,e3,e4,λ j hj=>(by rw[e5] at hj;cases hj),by rw[e5];exact IV,λ a ha=>?_,by rw[e6];exact IV,⟨_,_,ho⟩⟩
 exact (hk.2 _ (JH hp.conf (hs.obj.at_ a ha).rng).2.1).1
def zW:W0:=⟨zH,[],[],[],0,⟨0,0,0,0,0,0⟩⟩
theorem XjW (N:Nat):Start N zH []:=⟨ZL,λ h=>absurd rfl h,λ h=>absurd rfl h,Oc.nil N zH⟩
theorem Xpe:CI zH [] zW:=by
 refine ⟨rfl,rfl,rfl,rfl,rfl,λ j hj=>(by cases hj),IV,λ a ha=>(by cases ha),IV,⟨λ _=>False,λ _=>0,?_⟩⟩
 exact ⟨λ a ha=>(by cases ha),λ a ha=>(by cases ha),λ a ha=>ha.elim,λ a b ha=>ha.elim,λ a ha=>ha.elim,λ a ha=>ha.elim⟩
structure OD (N:Nat) (h:Wn) (l:List Int) (w:W0):Prop where
 st:Start N h l
 ci:CI h l w
 sc:w.Scanned=0
 pr:UH h\/h.Pages=[]
theorem XjX (hN:NB N) {h:Wn} (hb:HB h):Ok (Qdl N h) λ r=>∃ h' l,OD N h' l r.1:=by
 have hN':=hN
 unfold NB at hN'
 have hb2:=hb.2
 have zero:∃ h' l,OD N h' l zW:=⟨zH,[],XjW N,Xpe,rfl,.inr rfl⟩
 rw[Qdl]
 refine WG (Yl (N:=N) (by omega) hb.1 hb.2) λ b eb hp=>Wo (λ _=>Wg zero) λ hb1=>?_
 have hp:=hp (by simpa using hb1)
 refine WG (Kf hN hb) λ b _ hg=>Wo (λ _=>Wg zero) λ hb2=>?_
 have hg:=hg (by simpa using hb2)
 refine WG (Zt hN hb) λ y _ hy=>WS (by omega) ?_
 refine WG (VS h y (by omega) N 0 h.Pages (by omega) (by omega) (by omega) (SameK.refl _)) λ qs _ hqs=>Wg ?_
 exact ⟨h,y.1,⟨hb,λ _=>hg,λ _=>hp,hy.1⟩,XeU hb hp hy.1 rfl rfl rfl hqs rfl rfl rfl,rfl,.inl hp⟩
theorem XeV (hN:NB N) (hs:Start N h0 l) (rs:List Int) (hl:rs.length<=1000000):∀ (n:Nat) (i:Int) (w:W0) (out:List Int),0<=i->i<=rs.length->(rs.length-i).toNat<n->CI h0 l w->(out.length:Int)=i ->
 Ok (QbC N rs n i w.Heap.Conf.PageWords w.Heap.Conf.Pages w.Heap.Words w.Heap.Pages w.Heap.Space w.Heap.Bump w.Old w.Taken w.Queue w.Scanned w.Report.Copied w.Report.Kept w.Report.Filled w.Report.Freed w.Report.Cleared w.Report.Steps out) λ e=>match e with
  | .ret r=>r.2.2≠0
  | .nxt t=>∃ (w':W0) (out':List Int),CI h0 l w'/\w'.Scanned=w.Scanned/\out'.length=rs.length/\t=(w'.Heap.Conf.PageWords,w'.Heap.Conf.Pages,w'.Heap.Words,w'.Heap.Pages,w'.Heap.Space,w'.Heap.Bump,w'.Old,w'.Taken,w'.Queue,w'.Scanned,w'.Report.Copied,w'.Report.Kept,w'.Report.Filled,w'.Report.Freed,w'.Report.Cleared,w'.Report.Steps,out')
 | 0,i,w,out,_,_,hn,_,_=>by omega
 | n+1,i,w,out,g0,hi,hn,hc,ho=>by
  rw[QbC]
  refine Wo (λ h1=>?_) λ h1=>Wg ⟨w,out,hc,rfl,by have:=WH h1;omega,rfl⟩
  have h1:i<rs.length:=Wr h1
  rw[Xc (n:=i+1) (by omega) (by omega)]
  obtain ⟨O,s,hob⟩:=hc.obj
  refine Ok.get g0 h1 λ p hp=>WG (XbK hN hs hc hob p) λ y _ hy=>Wo (λ he=>Wg (by simpa using he)) λ he=>?_
  have q:=hy (by simpa using he)
  refine WS (by omega) ((XeV hN hs rs hl n (i+1) y.1 (out++[y.2.1]) (by omega) (by omega) (by omega) q.ci (by rw[Wq];simp;omega)).mono λ e he=>?_)
  cases e with
  | ret r=>exact he
  | nxt t=>obtain ⟨w',o',c1,c2,c3,c4⟩:=he;exact ⟨w',o',c1,c2.trans q.sc,c3,c4⟩
theorem XeW (hN:NB N) (hs:Start N h0 l) {rs:List Int} (hl:rs.length<=1000000) {w:W0} (hc:CI h0 l w):Ok (Qer N w rs) λ r=>r.2.2=0->CI h0 l r.1/\r.1.Scanned=w.Scanned/\r.2.1.length=rs.length:=by
 have hN':=hN
 unfold NB at hN'
 rw[Qer]
 refine IS (XeV hN hs rs hl N 0 w [] (by omega) (by omega) (by omega) hc rfl) (λ a q=>Wg λ e=>absurd e q) λ b q=>Wg λ _=>?_
 obtain ⟨w',o',c1,c2,c3,rfl⟩:=q
 exact ⟨c1,c2,c3⟩
end
end Go.Sx
namespace Go.Sx
theorem XhY {d:Wy} {x:Int} (h:x∈ZD d):0<=x/\x<d.Length:=by
 unfold ZD at h
 by_cases hv:Xx d=true
 ·rw[Wm hv] at h
  have:=Jh h
  have:=XH hv
  omega
 ·rw[Wk hv] at h;cases h
theorem XhZ (d:Wy):(ZD d).length<=255:=by
 unfold ZD
 by_cases hv:Xx d=true
 ·rw[Wm hv]
  have:=Ji (d:=d) (k:=d.Length.toNat) (i:=0)
  have:=XH hv
  omega
 ·rw[Wk hv];simp
section
variable {N:Nat} {h0:Wn} {l:List Int}
theorem Xmj {w:W0} {O:Int->Prop} {s:Int->Int} (hc:CI h0 l w) (ho:Oo h0 l w O s) {p x:Int} (hp:O p) (h1:p<x) (h2:x<p+s p) (v:Int) :
 inW w.Heap.Words x/\CI h0 l { w with Heap:={ w.Heap with Words:=w.Heap.Words.set (ix x) v } }/\Oo h0 l { w with Heap:={ w.Heap with Words:=w.Heap.Words.set (ix x) v } } O s:=by
 have hf:=ho.fit p hp
 have hin:inW w.Heap.Words x:=by unfold inW;omega
 have ho2:Oo h0 l { w with Heap:={ w.Heap with Words:=w.Heap.Words.set (ix x) v } } O s:=by
  refine ⟨ho.old,ho.queue,λ a ha=>?_,ho.apart,ho.taken,ho.free⟩
  show 4096<=a/\1<=s a/\a+s a<=4096+(w.Heap.Words.set (ix x) v).length/\szA (w.Heap.Words.set (ix x) v) a<=s a
  obtain ⟨f1,f2,f3,f4⟩:=ho.fit a ha
  rw[Wx]
  refine ⟨f1,f2,f3,?_⟩
  have:a≠x:=by
   rintro rfl
   by_cases he:a=p
   ·omega
   ·have:=ho.apart a p ha hp he
    omega
  unfold szA hdA at *
  rw[XjT hin f1,Wk this]
  exact f4
 refine ⟨hin,⟨hc.conf,?_,hc.plen,hc.spc,hc.old,hc.tk,hc.tnd,hc.knd,hc.qnd,⟨O,s,ho2⟩⟩,ho2⟩
 show (w.Heap.Words.set (ix x) v).length=_
 rw[Wx];exact hc.wlen
theorem XgW (hN:NB N) (hs:Start N h0 l) {p:Int} {ks:List Int} (hkl:ks.length<=255):∀ (n:Nat) (i:Int) (w:W0) (O:Int->Prop) (s:Int->Int),0<=i->i<=ks.length->(ks.length-i).toNat<n->CI h0 l w->Oo h0 l w O s->O p->(∀ k∈ks,0<=k/\k<255/\k+1<s p) ->
 Ok (QbZ N p ks n i w.Heap.Conf.PageWords w.Heap.Conf.Pages w.Heap.Words w.Heap.Pages w.Heap.Space w.Heap.Bump w.Old w.Taken w.Queue w.Scanned w.Report.Copied w.Report.Kept w.Report.Filled w.Report.Freed w.Report.Cleared w.Report.Steps) λ e=>match e with
  | .ret r=>r.2.2≠0
  | .nxt t=>∃ (w':W0),CI h0 l w'/\w'.Scanned=w.Scanned/\w.Queue.length<=w'.Queue.length/\t=(w'.Heap.Conf.PageWords,w'.Heap.Conf.Pages,w'.Heap.Words,w'.Heap.Pages,w'.Heap.Space,w'.Heap.Bump,w'.Old,w'.Taken,w'.Queue,w'.Scanned,w'.Report.Copied,w'.Report.Kept,w'.Report.Filled,w'.Report.Freed,w'.Report.Cleared,w'.Report.Steps)
 | 0,i,w,O,s,_,_,hn,_,_,_,_=>by omega
 | n+1,i,w,O,s,g0,hi,hn,hc,ho,hp,hk=>by
  have hN':=hN
  unfold NB at hN'
  have hb1:=hs.hb.1
  rw[QbZ]
  refine Wo (λ h1=>?_) λ h1=>Wg ⟨w,hc,rfl,Uf _,rfl⟩
  have h1:i<ks.length:=Wr h1
  rw[Xc (n:=i+1) (by omega) (by omega)]
  refine Ok.get g0 h1 λ k hk2=>?_
  have hkm:=Yp hk2
  obtain ⟨k0,k1,k2⟩:=hk k hkm
  have hf:=ho.fit p hp
  have hwl:=hc.wlen
  rw[Xv (n:=p+1) (by omega) (by omega),Xv (n:=k) (by omega) (by omega),Xv (n:=p+1+k) (by omega) (by omega)]
  rw[ZC (hc.wl hs.hb),Xa]
  refine WG (XbK hN hs hc ho _) λ y _ hy=>Wo (λ he=>Wg (by simpa using he)) λ he=>?_
  have q:=hy (by simpa using he)
  obtain ⟨O',s',ho',hx⟩:=q.ob
  obtain ⟨hp',hs'⟩:=hx p hp
  have st:=Xmj q.ci ho' hp' (x:=p+1+k) (by omega) (by omega) y.2.1
  rw[VM (q.ci.wl hs.hb) (by omega),Xa,Wm st.1]
  refine (XgW hN hs hkl n (i+1) _ O' s' (by omega) (by omega) (by omega) st.2.1 st.2.2 hp' (λ k' hk'=>by rw[hs'];exact hk k' hk')).mono λ e he=>?_
  cases e with
  | ret r=>exact he
  | nxt t=>obtain ⟨w',c1,c2,c3,c4⟩:=he;exact ⟨w',c1,c2.trans q.sc,Ur q.ql c3,c4⟩
theorem Xmk (hN:NB N) (hs:Start N h0 l) {w:W0} (hc:CI h0 l w) (h0s:0<=w.Scanned) (h1s:w.Scanned<=w.Queue.length):Ok (QeP N w) λ r=>r.2.2=0->CI h0 l r.1/\0<=r.1.Scanned/\r.1.Scanned<=r.1.Queue.length/\(r.2.1=true->r.1.Scanned=w.Scanned+1):=by
 have hN':=hN
 unfold NB at hN'
 have hb:=hs.hb
 have hql:=hc.ql hb
 rw[QeP]
 refine Wo (λ _=>Wg λ _=>⟨hc,h0s,h1s,λ e=>by cases e⟩) λ hlt=>?_
 have hlt:w.Scanned<w.Queue.length:=by have:=WH hlt;omega
 refine Ok.get h0s hlt λ p hp=>?_
 have hpm:=Yp hp
 obtain ⟨O,s,ho⟩:=hc.obj
 have hOp:=ho.queue p hpm
 have hf:=ho.fit p hOp
 have hin:inW w.Heap.Words p:=by unfold inW;omega
 rw[QeI,ZC (hc.wl hb),Xa,Wm hin,VN,Xa,Xa,XjL (by omega),Xa]
 have hkl:=XhZ (hdA w.Heap.Words p)
 have hvl:=XH (ZT (wd w.Heap.Words p))
 refine IS (XgW hN hs (p:=p) (ks:=ZD (hdA w.Heap.Words p)) hkl N 0 w O s (by omega) (by omega) (by omega) hc ho hOp λ k hk=>?_) (λ a q=>Wg λ e=>absurd e q) λ t q=>Wg λ _=>?_
 ·have h1:=XhY hk
  have h2:szA w.Heap.Words p=(hdA w.Heap.Words p).Length+1:=rfl
  have h3:(hdA w.Heap.Words p).Length<=255:=hvl.2.2.2
  omega
 ·obtain ⟨w',c1,c2,c3,rfl⟩:=q
  have e:wI (w'.Scanned+1)=w.Scanned+1:=by rw[c2,Xc (by omega) (by omega)]
  refine ⟨⟨c1.conf,c1.wlen,c1.plen,c1.spc,c1.old,c1.tk,c1.tnd,c1.knd,c1.qnd,?_⟩,?_,?_,λ _=>e⟩
  ·obtain ⟨O,s,h⟩:=c1.obj
   exact ⟨O,s,⟨h.old,h.queue,h.fit,h.apart,h.taken,h.free⟩⟩
  ·show 0<=wI (w'.Scanned+1);omega
  ·show wI (w'.Scanned+1)<=w'.Queue.length;omega
theorem XjY (hN:NB N) (hs:Start N h0 l):∀ (n:Nat) (w:W0),CI h0 l w->0<=w.Scanned->w.Scanned<=w.Queue.length->(100001-w.Scanned).toNat<n ->
 Ok (Qch N n w.Heap.Conf.PageWords w.Heap.Conf.Pages w.Heap.Words w.Heap.Pages w.Heap.Space w.Heap.Bump w.Old w.Taken w.Queue w.Scanned w.Report.Copied w.Report.Kept w.Report.Filled w.Report.Freed w.Report.Cleared w.Report.Steps) λ r=>r.2=0->CI h0 l r.1
 | 0,w,_,_,_,hn=>by omega
 | n+1,w,hc,g0,g1,hn=>by
  rw[Qch]
  have hql:=hc.ql hs.hb
  refine WG (Xmk hN hs hc g0 g1) λ y _ hy=>Wo (λ he=>Wg λ e=>absurd e (by simpa using he)) λ he=>?_
  obtain ⟨q1,q2,q3,q4⟩:=hy (by simpa using he)
  refine Wo (λ _=>Wg λ _=>q1) λ hb=>?_
  have q4:y.1.Scanned=w.Scanned+1:=q4 (by simpa using hb)
  have:=q1.ql hs.hb
  exact XjY hN hs n y.1 q1 q2 q3 (by omega)
theorem XjZ (hN:NB N) (hs:Start N h0 l) {w:W0} (hc:CI h0 l w) (g0:0<=w.Scanned) (g1:w.Scanned<=w.Queue.length):Ok (Qfn N w) λ r=>r.2=0->CI h0 l r.1:=by
 have hN':=hN
 unfold NB at hN'
 rw[Qfn]
 exact WG (XjY hN hs N w hc g0 g1 (by omega)) λ y _ hy=>Wg hy
theorem Xj0 (hN:NB N) (hs:Start N h0 l) {w:W0} (hq:w.Queue.length<=100000) (hw:w.Heap.Words.length<=BIG) (a:Int):Ok (Qes N w a) λ _=>True:=by
 have hN':=hN
 unfold NB at hN'
 rw[Qes,Zk a (by omega) (by omega),Xa]
 refine Wo (λ _=>Wg trivial) λ _=>?_
 rw[ZC hw,Xa,XcM,Xa]
 exact Wg trivial
theorem XdF (hN:NB N) {w:W0} (hb:HB h0) (hc:CI h0 l w) {s:Int->Int} (hll:l.length<=4096) (hpw:l.Pairwise λ a b=>a+s a<=b) (hfit:∀ a∈l,4096<=a/\1<=s a/\a+s a<=4096+h0.Words.length):∀ (n k:Nat) (v:List Int) (c:Int),k<=l.length->l.length-k<n->v.length=h0.Words.length->(∀ a∈l.drop k,szA v a<=s a) ->
 Ok (QaZ N w n (k:Int) v c) λ r=>r.1.length=h0.Words.length
 | 0,k,v,c,_,hn,_,_=>by omega
 | n+1,k,v,c,hk,hn,hv,hs=>by
  have hN':=hN
  unfold NB at hN'
  have hb1:=hb.1
  have hql:=hc.ql hb
  have htl:=hc.tl hb
  have hold:=hc.old
  rw[QaZ]
  refine Wo (λ h1=>?_) λ _=>Wg hv
  have h1:k<l.length:=by have:=Wr h1;rw[hold] at this;omega
  have hkl:(k:Int)<w.Old.length:=by rw[hold];omega
  have hdr:=Wu h1
  rw[Xc (n:=(k:Int)+1) (by omega) (by omega),show ((k:Int)+1)=((k+1:Nat):Int) by omega]
  have gp:∀ p,Xb w.Old (k:Int)=some p->p=l[k]:=by
   intro p hp
   rw[hold,Xd,Wd h1] at hp
   exact (WP hp).symm
  have next:Ok (QaZ N w n ((k+1:Nat):Int) v c) λ r=>r.1.length=h0.Words.length :=
   XdF hN hb hc hll hpw hfit n (k+1) v c (by omega) (by omega) hv λ a ha=>hs a (by rw[hdr];exact Ug _ ha)
  refine Ok.get (by omega) hkl λ p hp=>?_
  rw[VO,Xa]
  refine WG (XaN hN (w:={ w with Heap:={ w.Heap with Words:=v },Report:=⟨_,_,_,_,_,_⟩ }) htl _) λ b _ _=>Wo (λ _=>next) λ _=>?_
  refine Ok.get (by omega) hkl λ p hp=>?_
  rw[Zk p (by omega) (by omega),Xa]
  refine Wo (λ _=>next) λ _=>Ok.get (by omega) hkl λ p hp=>?_
  have hpe:=gp p hp
  have hpm:p∈l:=by rw[hpe];exact WV h1
  obtain ⟨f1,f2,f3⟩:=hfit p hpm
  have hsp:=hs p (by rw[hdr,← hpe];exact IM)
  have hin:inW v p:=by unfold inW;omega
  have hsz:=ZU v p
  rw[QeI,ZC (by show v.length<=BIG;unfold BIG;omega),Xa,Wm hin,VN,Xa,Xa,Jg,Xa]
  refine Ok.get (by omega) hkl λ p' hp'=>?_
  obtain rfl:p=p':=hpe.trans (gp p' hp').symm
  have e1:szA v p=(hdA v p).Length+1:=rfl
  have e2:(Z3 (v.getD (ix p) 0)).Length=(hdA v p).Length:=rfl
  refine WS (by rw[e2];omega) (WS (by rw[e2];omega) ?_)
  have hlen:∀ x:Int,([x]++List.replicate (Z3 (v.getD (ix p) 0)).Length.toNat (0:Int)).length=(szA v p).toNat:=by
   intro x;rw[Wq,WC,e2];simp only[W5,Uz];omega
  rw[Z2 (by unfold BIG;omega) (by rw[hlen];unfold BIG;omega) (by rw[hlen];omega),Xa,hlen,Wm (by unfold Yb;omega)]
  have hlo:∀ x:Int,(ovr v ([x]++List.replicate (Z3 (v.getD (ix p) 0)).Length.toNat (0:Int)) (ix p)).length=v.length:=by
   intro x;apply ZS;rw[hlen];unfold ix;omega
  refine XdF hN hb hc hll hpw hfit n (k+1) _ _ (by omega) (by omega) ((hlo _).trans hv) λ a ha=>?_
  have ham:a∈l:=W8 ha
  have hsa:=hs a (by rw[hdr];exact Ug _ ha)
  have hfa:=hfit a ham
  have hle:p+s p<=a:=by
   have hp2:=hpw.drop (i:=k)
   rw[hdr,List.pairwise_cons] at hp2
   rw[hpe]
   exact hp2.1 a ha
  have:∀ x:Int,szA (ovr v ([x]++List.replicate (Z3 (v.getD (ix p) 0)).Length.toNat (0:Int)) (ix p)) a=szA v a:=by
   intro x
   unfold szA hdA wd
   rw[XeH (by rw[hlen];unfold ix;omega),hlen,Wk]
   unfold ix
   have:p+szA v p<=a:=by omega
   omega
  rw[this];exact hsa
theorem XgX (hN:NB N) (hs:Start N h0 l) {w:W0} (hc:CI h0 l w):Ok (QeQ N w) λ r=>r.Heap.Conf=h0.Conf/\r.Heap.Words.length=h0.Words.length/\r.Heap.Pages=w.Heap.Pages/\r.Heap.Pages.length=h0.Pages.length/\r.Taken.length<=100000:=by
 have hN':=hN
 unfold NB at hN'
 have hb:=hs.hb
 rw[QeQ]
 obtain ⟨O,s,ho⟩:=hc.obj
 have hpw:l.Pairwise λ a b=>a+s a<=b:=by
  refine List.Pairwise.imp_of_mem ?_ hs.st.obj.pw
  intro a b ha _ h
  rw[(ho.old a ha).2];exact h
 have hwl:=hc.wlen
 have:=XdF hN (w:=w) hb hc (s:=s) hs.st.len hpw (λ a ha=>by have:=ho.fit a (ho.old a ha).1;omega) N 0 w.Heap.Words w.Report.Filled (by omega) (by have:=hs.st.len;omega) hwl λ a ha=>(ho.fit a (ho.old a (W8 ha)).1).2.2.2
 have htl:w.Taken.length<=100000:=hc.tl hb
 refine WG this λ r _ hr=>Wg ⟨hc.conf,hr,rfl,hc.plen,htl⟩
theorem XgY {w:W0} (v4:List Wv) (p5:Wv) (i c:Int) (hp:UH h0) (hc:w.Heap.Conf=h0.Conf) (g0:0<=i) (g1:i<h0.Conf.Pages):∀ (n:Nat) (k:Int) (v:List Int),0<=k->(65-k).toNat<n->v.length=h0.Words.length->Ok (Qb0 N w v4 p5 i c n k v) λ r=>r.length=h0.Words.length
 | 0,k,v,_,hn,_=>by omega
 | n+1,k,v,k0,hn,hv=>by
  have hvc:=Xi.1 hp.conf
  have hm:=X3 hp.conf g0 g1
  have hw:=hp.words
  rw[Qb0,hc]
  refine Wo (λ h1=>?_) λ _=>Wg hv
  have h1:k<h0.Conf.PageWords:=Wr h1
  rw[Xc (n:=k+1) (by omega) (by omega),Xc (n:=i*h0.Conf.PageWords) (by omega) (by omega),Xc (n:=i*h0.Conf.PageWords+k) (by omega) (by omega)]
  refine Ok.get (by omega) (by omega) λ p _=>XgY v4 p5 i c hp hc g0 g1 n (k+1) _ (by omega) (by omega) (by rw[Wx];exact hv)
theorem Xa5 (hN:NB N) {w:W0} (hb:HB h0) (hp:UH h0\/h0.Pages=[]) (hc:w.Heap.Conf=h0.Conf):∀ (n:Nat) (i c:Int) (v:List Int) (ps:List Wv),0<=i->i<=h0.Pages.length->(h0.Pages.length-i).toNat<n->v.length=h0.Words.length->ps.length=h0.Pages.length->Ok (Qbh N w n i c v ps) λ r=>r.2.1.length=h0.Words.length/\r.2.2.length=h0.Pages.length
 | 0,i,c,v,ps,_,_,hn,_,_=>by omega
 | n+1,i,c,v,ps,g0,gi,hn,hv,hps=>by
  have hN':=hN
  unfold NB at hN'
  have hb2:=hb.2
  rw[Qbh]
  refine WS (by omega) (Wo (λ h1=>?_) λ _=>Wg ⟨hv,hps⟩)
  have h1:i<ps.length:=Wr h1
  rw[Xc (n:=i+1) (by omega) (by omega)]
  have next:=Xa5 hN (w:=w) hb hp hc n (i+1) c v ps (by omega) (by omega) (by omega) hv hps
  refine Ok.get g0 h1 λ p _=>Wo (λ _=>next) λ _=>Wo (λ _=>next) λ _=>Ok.get g0 h1 λ p6 _=>?_
  rcases hp with hp | hp
  ·have hpp:=hp.pages
   refine WG (XgY ps p i c hp hc g0 (by omega) N 0 v (by omega) (by omega) hv) λ r _ hr=>?_
   exact Xa5 hN hb (.inl hp) hc n (i+1) _ r _ (by omega) (by omega) (by omega) hr (by rw[Wx];exact hps)
  ·rw[hp] at hps;simp at hps;rw[hps] at h1;simp at h1;omega
theorem Xml (hN:NB N) {w:W0} (hb:HB h0) (hp:UH h0\/h0.Pages=[]) (hc:w.Heap.Conf=h0.Conf) (hw:w.Heap.Words.length=h0.Words.length) (hpl:w.Heap.Pages.length=h0.Pages.length):Ok (QdH N w) λ r=>HB r.Heap/\r.Taken=w.Taken:=by
 have hN':=hN
 unfold NB at hN'
 have hb1:=hb.1
 have hb2:=hb.2
 rw[QdH]
 refine WS (by omega) (WS (by omega) (WG (Xa5 hN hb hp hc N 0 _ _ _ (by omega) (by omega) (by omega) hw hpl) λ r _ hr=>Wg ⟨⟨?_,?_⟩,rfl⟩))
 ·show r.2.1.length<=_;omega
 ·show r.2.2.length<=_;omega
theorem XdG (hN:NB N) (hs:Start N h0 l) (ws:List Int) (hl:ws.length<=1000000) (y5:W0×List Int×Int) (y6:W0×Int) (hc:CI h0 l y6.1):∀ (n:Nat) (i c:Int) (out:List Int),0<=i->i<=ws.length->(ws.length-i).toNat<n->(out.length:Int)=i->Ok (Qa8 N ws y5 y6 n i c out) λ r=>r.2.length=ws.length
 | 0,i,c,out,_,_,hn,_=>by omega
 | n+1,i,c,out,g0,gi,hn,ho=>by
  rw[Qa8]
  refine Wo (λ h1=>?_) λ h1=>Wg (by have:=WH h1;show out.length=ws.length;omega)
  have h1:i<ws.length:=Wr h1
  rw[Xc (n:=i+1) (by omega) (by omega)]
  have next:=λ c' x=>XdG hN hs ws hl y5 y6 hc n (i+1) c' (out++[x]) (by omega) (by omega) (by omega) (by rw[Wq];simp;omega)
  refine Ok.get g0 h1 λ p _=>Is (Wo (λ _=>Ok.get g0 h1 λ p _=>?_) λ _=>WS (by omega) (next _ _))
  refine WG (Xj0 hN hs (w:=⟨_,_,_,_,_,_⟩) (hc.ql hs.hb) (hc.wl hs.hb) p) λ y _ _=>Is (Wo (λ _=>WS (by omega) (next _ _)) λ _=>WS (by omega) (next _ _))
structure OC (rs ws:List Int) (r:Wn×List Int×List Int×Us×Int):Prop where
 hb:HB r.1
 len:r.2.2.2.2=0->r.2.1.length=rs.length/\r.2.2.1.length=ws.length
 no:r.2.2.2.2≠0->r.2.1=[]/\r.2.2.1=[]
theorem Xf1 (hN:NB N) {h:Wn} (hb:HB h) {rs ws:List Int} (hr:rs.length<=1000000) (hw:ws.length<=1000000):Ok (Qcs N h rs ws) (OC rs ws):=by
 have hN':=hN
 unfold NB at hN'
 have bad:∀ e:Int,e≠0->OC rs ws (zH,[],[],⟨0,0,0,0,0,0⟩,e):=λ e he=>⟨ZL,λ h=>absurd h he,λ _=>⟨rfl,rfl⟩⟩
 rw[Qcs]
 refine WG (Yl (N:=N) (by omega) hb.1 hb.2) λ b _ _=>Wo (λ _=>Wg (bad 1 (by decide))) λ _=>Is ?_
 refine WG (K2 hN hb hr) λ b _ _=>Wo (λ _=>Wg (bad 19 (by decide))) λ _=>?_
 refine WG (K2 hN hb hw) λ b _ _=>Wo (λ _=>Wg (bad 19 (by decide))) λ _=>?_
 refine WG (XjX hN hb) λ y4 _ hy4=>?_
 obtain ⟨h',l,bq⟩:=hy4
 have hs:=bq.st
 refine WG (XeW hN hs hr bq.ci) λ y5 _ hy5=>Wo (λ he=>Wg (bad _ (by simpa using he))) λ he=>?_
 obtain ⟨c1,c2,c3⟩:=hy5 (by simpa using he)
 have hsc:=bq.sc
 refine WG (XjZ hN hs c1 (by omega) (by omega)) λ y6 _ hy6=>Wo (λ he=>Wg (bad _ (by simpa using he))) λ he=>?_
 have d1:=hy6 (by simpa using he)
 refine WG (XdG hN hs ws hw y5 y6 d1 N 0 _ [] (by omega) (by omega) (by omega) rfl) λ y16 _ hy16=>?_
 have d2:CI h' l (W0.mk y6.1.Heap y6.1.Old y6.1.Taken y6.1.Queue y6.1.Scanned (Us.mk y6.1.Report.Copied y6.1.Report.Kept y6.1.Report.Filled y6.1.Report.Freed y16.1 y6.1.Report.Steps)):=by
  obtain ⟨O,s,ho⟩:=d1.obj
  exact ⟨d1.conf,d1.wlen,d1.plen,d1.spc,d1.old,d1.tk,d1.tnd,d1.knd,d1.qnd,⟨O,s,⟨ho.old,ho.queue,ho.fit,ho.apart,ho.taken,ho.free⟩⟩⟩
 refine WG (XgX hN hs d2) λ y17 _ ⟨f1,f2,f3,f4,f5⟩=>?_
 refine WG (Xml hN (h0:=h') hs.hb bq.pr f1 f2 f4) λ y18 _ ⟨g1,g2⟩=>?_
 have fin:∀ x:Int,OC rs ws ((Wn.mk y18.Heap.Conf y18.Heap.Words y18.Heap.Pages (wI (1-y18.Heap.Space)) x),y5.2.1,y16.2,y18.Report,0):=λ x=>⟨g1,λ _=>⟨c3,hy16⟩,λ h=>absurd rfl h⟩
 refine Is (Wo (λ ht=>?_) λ _=>Wg (fin _))
 have ht:0<(y18.Taken.length:Int):=Wr ht
 rw[g2] at ht ⊢
 rw[Xc (by omega) (by omega)]
 exact Ok.get (by omega) (by omega) λ p _=>Wg (fin _)
end
end Go.Sx
namespace Go.Sx
def Zf {α σ:Type} (q:σ->Nat->α->Bool) (nxp:σ->α->σ):σ->Nat->List α->Bool
 | _,_,[]=>true
 | s,k,x::l=>q s k x&&Zf q nxp (nxp s x) (k+1) l
theorem Zv {α:Type} (q:α->Bool):∀ (k:Nat) (l:List α),Zf (λ (_:Unit) _ x=>q x) (λ s _=>s) () k l=l.all q
 | _,[]=>rfl
 | k,x::l=>by rw[Zf,Zv q (k+1) l,I8]
theorem K3 {α σ:Type} {l:List α} {F:Nat->σ->Int->Option (Ex Bool Unit)} {q:σ->Nat->α->Bool} {nxp:σ->α->σ} {I:σ->Prop}
 (hstep:∀ (n:Nat) (s:σ) (k:Nat) (p:α),I s->l[k]? = some p->F (n+1) s (k:Int)=bif q s k p then F n (nxp s p) ((k+1:Nat):Int) else some (.ret false))
 (hstop:∀ (n:Nat) (s:σ),F (n+1) s (l.length:Int)=some (.nxt ()))
 (hI:∀ s k p,I s->l[k]? = some p->q s k p=true->I (nxp s p)):∀ (n:Nat) (s:σ) (k:Nat),I s->k<=l.length->l.length-k<n->F n s (k:Int)=some (bif Zf q nxp s k (l.drop k) then .nxt () else .ret false)
 | 0,s,k,_,_,hn=>by omega
 | n+1,s,k,hs,hk,hn=>by
  by_cases h:k<l.length
  ·have e:=Wd h
   rw[hstep n s k _ hs e,Wu h,Zf]
   cases hq:q s k l[k] with
   | false=>rfl
   | true =>
    rw[WR,Wc]
    exact K3 hstep hstop hI n _ (k+1) (hI s k _ hs e hq) (by omega) (by omega)
  ·obtain rfl:k=l.length:=by omega
   rw[hstop,WL (Uf _)]
   rfl
theorem KG {α:Type} {l:List α} {F:Nat->Int->Option (Ex Bool Unit)} {q:Nat->α->Bool}
 (hstep:∀ (n:Nat) (k:Nat) (p:α),l[k]? = some p->F (n+1) (k:Int)=bif q k p then F n ((k+1:Nat):Int) else some (.ret false))
 (hstop:∀ (n:Nat),F (n+1) (l.length:Int)=some (.nxt ())) {n:Nat} (hn:l.length<n):F n 0=some (bif Zf (λ (_:Unit)=>q) (λ s _=>s) () 0 l then .nxt () else .ret false):=by
 have h:=K3 (F:=λ n (_:Unit) i=>F n i) (q:=λ _=>q) (nxp:=λ s _=>s) (I:=λ _=>True) (l:=l) (λ n s k p _ e=>hstep n k p e) (λ n _=>hstop n) (λ _ _ _ _ _ _=>trivial) n () 0 trivial (by omega) (by omega)
 rw[WX] at h
 exact h
theorem XE {k:Nat} {n:Nat} (h:k<n):decide ((k:Int)<((n:Nat):Int))=true:=Wh (by omega)
theorem Xs (n:Nat):decide (((n:Nat):Int)<((n:Nat):Int))=false:=Wj (by omega)
theorem Xy {α:Type} {l:List α} {k:Nat} {p:α} (h:l[k]? = some p):k<l.length:=(List.getElem?_eq_some_iff.1 h).1
theorem Xh {k:Nat} (h:k<=140737488355328):wI ((k:Int)+1)=((k+1:Nat):Int):=by rw[Xc (by omega) (by omega)];omega
def VT (e:Ub):Bool:=!decide (e.Gen<1)&&(!decide (e.Gen>4294967295)&&(e.Live||!(e.Ref != 0)))
def YS (l:List Ub):Bool:=l.all VT&&decide (l.length<=64)
def X0 (l:List Ub):List Int:=(l.filter (·.Live)).map (·.Ref)
theorem ZE {N:Nat} {t:WI} (hl:t.Entries.length<=1000000) (hN:1000000<N):QbX N t=some (YS t.Entries):=by
 have h:=KG (l:=t.Entries) (F:=QcD N t) (q:=λ _=>VT) (λ n k p e=>?_) (λ n=>?_) (n:=N) (by omega)
 ·rw[QbX,h,Xa,Zv,YS]
  cases t.Entries.all VT
  ·rw[Wa,XC];rfl
  ·rw[Wc,Xr,WR]
   congr 1
   exact decide_eq_decide.2 (by omega)
 ·have hk:=Xy e
  rw[QcD,XE hk,Wc,Xd,e,Xa,Xh (by omega)]
  unfold VT
  cases decide (p.Gen<1)<;>cases decide (p.Gen>4294967295)<;>cases p.Live<;>cases (p.Ref != 0)<;>rfl
 ·rw[QcD,Xs,Wa]
theorem XbL {N:Nat} {t:WI} (hl:t.Entries.length<=1000000) (hN:1000000<N) (hv:YS t.Entries=true):∀ (n k:Nat) (v:List Int),k<=t.Entries.length->t.Entries.length-k<n->v.length<=k ->
 Qbf N t n (k:Int) v=some (v++X0 (t.Entries.drop k))
 | 0,k,v,_,hn,_=>by omega
 | n+1,k,v,hk,hn,hlv=>by
  rw[Qbf]
  by_cases h:k<t.Entries.length
  ·rw[XE h,Wc,ZE hl hN,Xa,hv,Wc,Xd,Wd h,Xa,Xa,Xh (by omega),Wu h,X0]
   cases hL:t.Entries[k].Live
   ·rw[Wa,XbL hl hN hv n (k+1) v (by omega) (by omega) (by omega),UG (by rw[hL];simp)]
    rfl
   ·rw[Wc,Xe (by omega),XbL hl hN hv n (k+1) _ (by omega) (by omega) (by rw[Wq];simp;omega),UR (by rw[hL])]
    simp[X0]
  ·obtain rfl:k=t.Entries.length:=by omega
   rw[Xs,Wa,WL (Uf _)]
   simp[X0]
theorem YH {N:Nat} {t:WI} (hl:t.Entries.length<=1000000) (hN:1000000<N):Qbc N t=some (bif YS t.Entries then X0 t.Entries else []):=by
 rw[Qbc]
 cases hv:YS t.Entries
 ·obtain ⟨m,rfl⟩:∃ m,N=m+1:=⟨N-1,by omega⟩
  rw[Qbf,ZE hl hN,hv]
  by_cases h:0<t.Entries.length
  ·rw[show decide ((0:Int)<((t.Entries.length:Nat):Int))=true from Wh (by omega),Wc,Xa,Wa,Xa];rfl
  ·rw[show decide ((0:Int)<((t.Entries.length:Nat):Int))=false from Wj (by omega),Wa,Xa];rfl
 ·have h:=XbL hl hN hv N 0 [] (by omega) (by omega) (by simp)
  rw[show ((0:Nat):Int)=0 from rfl,WX,Uw] at h
  rw[h,Xa];rfl
theorem Xan (l:List Ub):(X0 l).length<=l.length:=by unfold X0;rw[WZ];exact List.length_filter_le _ _
theorem VU {l:List Ub} (h:YS l=true):l.length<=64:=by
 unfold YS at h
 rw[WE] at h
 exact Wr h.2
theorem Xj1 {l:List Ub} (h:YS l=true) {e:Ub} (he:e∈l):1<=e.Gen/\e.Gen<=4294967295/\(e.Live=false->e.Ref=0):=by
 unfold YS at h
 rw[WE,Uc] at h
 have:=h.1 e he
 unfold VT at this
 simp only[WE,Uv,Ue,In,bne_eq_false_iff_eq] at this
 refine ⟨by omega,by omega,λ hL=>?_⟩
 rcases this.2.2 with h | h
 ·rw[hL] at h;cases h
 ·exact h
def Y2 (l:List Ub) (i g:Int):Int×Int :=
 if YS l=false then (0,1) else if i<0\/(l.length:Int)<=i\/g<1 then (0,6) else
 match l[i.toNat]? with
 | none=>(0,6)
 | some e=>if g>e.Gen then (0,6) else if g<e.Gen then (0,8) else if e.Live then (e.Ref,0) else (0,8)
theorem Jj {N:Nat} {t:WI} (hl:t.Entries.length<=1000000) (hN:1000000<N) (i g:Int):Qds N t i g=some (Y2 t.Entries i g):=by
 rw[Qds,ZE hl hN,Xa,Y2]
 cases hv:YS t.Entries
 ·rfl
 ·simp only[Ws,Wa,Uy,Bool.true_eq_false,if_false]
  by_cases h0:i<0
  ·rw[Wm h0,Wm (.inl h0)]
  ·rw[Wk h0]
   by_cases h1:i>=((t.Entries.length:Nat):Int)
   ·rw[Wm h1,Wm (.inr (.inl h1))]
   ·rw[Wk h1]
    by_cases h2:g<1
    ·rw[Wm h2,Wm (.inr (.inr h2))]
    ·have hlt:i.toNat<t.Entries.length:=by omega
     rw[Wk h2,Wk (by omega),Yc (by omega) (by omega),Xa,Wd hlt]
     simp only[Xa]
     by_cases h3:g>t.Entries[i.toNat].Gen
     ·rw[Wm h3,Wm h3]
     ·rw[Wk h3,Wk h3]
      by_cases h4:g<t.Entries[i.toNat].Gen
      ·rw[Wm h4,Wm h4]
      ·rw[Wk h4,Wk h4]
       cases t.Entries[i.toNat].Live<;>rfl
end Go.Sx
namespace Go.Sx
theorem KH {α σ:Type} {q:σ->Nat->α->Bool} {nxp:σ->α->σ}:∀ (l:List α) (s:σ) (k:Nat),Zf q nxp s k l=true↔∀ i p,l[i]? = some p->q ((l.take i).foldl nxp s) (k+i) p=true
 | [],s,k=>by simp[Zf]
 | x::l,s,k=>by
  rw[Zf,WE,KH l (nxp s x) (k+1)]
  constructor
  ·rintro ⟨h1,h2⟩ i p hp
   cases i with
   | zero=>simp at hp;subst hp;exact h1
   | succ i =>
    have:=h2 i p (by simpa using hp)
    rw[Ip,IP,show k+(i+1)=k+1+i by omega]
    exact this
  ·intro h
   refine ⟨h 0 x rfl,λ i p hp=>?_⟩
   have:=h (i+1) p (by simpa using hp)
   rw[Ip,IP,show k+(i+1)=k+1+i by omega] at this
   exact this
def Xmm (l:List Int):Bool:=l.all λ p=>!decide (p<0)&&!decide (p>4095)
def stQ (iss:List Int) (s:Int) (i:Nat) (p:UX):Bool:=!decide (p.Stamp<=s)&&(!decide (p.Stamp>((iss.length:Nat):Int))&&(!((iss.getD (p.Stamp-1).toNat 0) != (i:Int))&&(p.Live==(p.Ref != 0))))
def stB (iss:List Int) (l:List UX):Bool:=Zf (stQ iss) (λ _ p=>p.Stamp) 0 0 l
def neQ (n:Nat) (s:Int) (i:Nat) (p:U1):Bool:=(!((i:Int)==0)||(!(p.From != 0)&&p.Base))&&(!decide (p.From<s)&&(!decide (p.From>((n:Nat):Int))&&(!decide (p.Cap<0)&&!decide (p.Cap>64))))
def neB (n:Nat) (l:List U1):Bool:=Zf (neQ n) (λ _ p=>p.From) 0 0 l
def KI (l:List UX) (f t:Nat):Nat:=((l.drop f).take (t-f)).countP (·.Live)
def toL (a:Ww) (i:Nat):Int:=match a.Scopes[i+1]? with | some p=>p.From | none=>a.Slots.length
def Xj2 (a:Ww) (_:Unit) (i:Nat) (p:U1):Bool:=!decide (((KI a.Slots p.From.toNat (toL a i).toNat:Nat):Int)>p.Cap)
def Xf2 (a:Ww):Bool:=Zf (Xj2 a) (λ s _=>s) () 0 a.Scopes
def Y4 (a:Ww):Bool:=!decide (((a.Issued.length:Nat):Int)>4096)&&(!decide (((a.Scopes.length:Nat):Int)>64)&&((!(((a.Scopes.length:Nat):Int)==0)||!decide (((a.Slots.length:Nat):Int)>0))&&(Xmm a.Issued&&(stB a.Issued a.Slots&&(neB a.Slots.length a.Scopes&&Xf2 a)))))
def LBp (a:Ww):Prop:=a.Slots.length<=1000000/\a.Scopes.length<=1000000/\a.Issued.length<=1000000
theorem JI {n:Nat} {l:List U1} (h:neB n l=true) {i:Nat} {p:U1} (hp:l[i]? = some p):0<=p.From/\p.From<=n/\0<=p.Cap/\p.Cap<=64/\(i=0->p.From=0/\p.Base=true)/\∀ p',l[i+1]? = some p'->p.From<=p'.From:=by
 have hi:=(KH l (0:Int) 0).1 h
 have inv:∀ (k:Nat) (p:U1),l[k]? = some p->0<=p.From:=by
  intro k
  induction k with
  | zero =>
   intro p hp
   have:=hi 0 p hp
   unfold neQ at this
   simp at this
   omega
  | succ k ih =>
   intro p hp
   have hk:k<l.length:=by have:=Xy hp;omega
   have e:=Wd hk
   have h1:=ih _ e
   have h2:=hi (k+1) p hp
   rw[List.take_add_one,e] at h2
   simp only[List.foldl_append,Option.toList,IP,List.foldl_nil] at h2
   unfold neQ at h2
   simp only[WE,Uv,Ue] at h2
   have:=h2.2.1
   omega
 have h0:=hi i p hp
 unfold neQ at h0
 simp only[WE,Uv,Ue,In,Ux,bne_eq_false_iff_eq] at h0
 refine ⟨inv i p hp,by omega,by omega,by omega,λ hz=>?_,λ p' hp'=>?_⟩
 ·subst hz
  rcases h0.1 with h | h
  ·cases h
  ·exact h
 ·have h2:=hi (i+1) p' hp'
  rw[List.take_add_one,hp] at h2
  simp only[List.foldl_append,Option.toList,IP,List.foldl_nil] at h2
  unfold neQ at h2
  simp only[WE,Uv,Ue] at h2
  have:=h2.2.1
  omega
theorem Xh0 {iss:List Int} {l:List UX} (h:stB iss l=true) {i:Nat} {p:UX} (hp:l[i]? = some p):(i:Int)+1<=p.Stamp/\p.Stamp<=iss.length/\iss.getD (p.Stamp-1).toNat 0=i/\(p.Live=true↔p.Ref≠0):=by
 have hi:=(KH l (0:Int) 0).1 h
 have inv:∀ (k:Nat) (p:UX),l[k]? = some p->(k:Int)+1<=p.Stamp:=by
  intro k
  induction k with
  | zero =>
   intro p hp
   have:=hi 0 p hp
   unfold stQ at this
   simp only[WE,Uv,Ue,List.take_zero,List.foldl_nil] at this
   have:=WH this.1
   omega
  | succ k ih =>
   intro p hp
   have hk:k<l.length:=by have:=Xy hp;omega
   have e:=Wd hk
   have h1:=ih _ e
   have h2:=hi (k+1) p hp
   rw[List.take_add_one,e] at h2
   simp only[List.foldl_append,Option.toList,IP,List.foldl_nil] at h2
   unfold stQ at h2
   simp only[WE,Uv,Ue] at h2
   have:=h2.1
   omega
 have h0:=hi i p hp
 unfold stQ at h0
 simp only[WE,Uv,Ue,Ux,bne_eq_false_iff_eq,beq_iff_eq] at h0
 refine ⟨inv i p hp,by omega,h0.2.2.1,?_⟩
 rw[h0.2.2.2]
 simp
structure OF (a:Ww):Prop where
 iss:a.Issued.length<=4096
 sc:a.Scopes.length<=64
 none:a.Scopes.length=0->a.Slots.length=0
 issr:∀ x∈a.Issued,0<=x/\x<=4095
 st:stB a.Issued a.Slots=true
 ne:neB a.Slots.length a.Scopes=true
 cap:Xf2 a=true
theorem Z4 {a:Ww}:Y4 a=true↔OF a:=by
 unfold Y4 Xmm
 simp only[WE,Uv,Ue,In,Uc,IF]
 constructor
 ·rintro ⟨h1,h2,h3,h4,h5,h6,h7⟩
  exact ⟨by omega,by omega,λ e=>by omega,λ x hx=>by have:=h4 x hx;omega,h5,h6,h7⟩
 ·intro h
  exact ⟨by have:=h.iss;omega,by have:=h.sc;omega,by have:=h.none;omega,λ x hx=>by have:=h.issr x hx;omega,h.st,h.ne,h.cap⟩
theorem OF.slots {a:Ww} (h:OF a):a.Slots.length<=a.Issued.length:=by
 by_cases hz:a.Slots.length=0
 ·omega
 ·have e:=Wd (show a.Slots.length-1<a.Slots.length by omega)
  have:=Xh0 h.st e
  omega
theorem XdH {N:Nat} {a:Ww} (hl:a.Slots.length<=1000000) (t:Nat) (ht:t<=a.Slots.length):∀ (n f c:Nat),t-f<n->c<=f->f<=1000000->QcZ N a (t:Int) n (c:Int) (f:Int)=some (((c+KI a.Slots f t:Nat):Int))
 | 0,f,c,hn,_,_=>by omega
 | n+1,f,c,hn,hc,hf=>by
  rw[QcZ]
  by_cases h:f<t
  ·have hlt:f<a.Slots.length:=by omega
   rw[show decide ((f:Int)<(t:Int))=true from Wh (by omega),Wc,Xd,Wd hlt,Xa,Xh (by omega),Xh (by omega)]
   have e:KI a.Slots f t=(if a.Slots[f].Live then 1 else 0)+KI a.Slots (f+1) t:=by
    unfold KI
    rw[Wu hlt,show t-f=(t-(f+1))+1 by omega,Ip,List.countP_cons]
    omega
   cases hL:a.Slots[f].Live
   ·rw[Wa,XdH hl t ht n (f+1) c (by omega) (by omega) (by omega),e,hL]
    simp
   ·rw[Wc,XdH hl t ht n (f+1) (c+1) (by omega) (by omega) (by omega),e,hL]
    simp;omega
  ·rw[show decide ((f:Int)<(t:Int))=false from Wj (by omega),Wa]
   unfold KI
   rw[show t-f=0 by omega]
   simp
theorem XgZ {N:Nat} {a:Ww} (hl:a.Slots.length<=1000000) (hN:1000000<N) {f t:Int} (f0:0<=f) (f1:f<=1000000) (t0:0<=t) (t1:t<=a.Slots.length):Qfz N a f t=some ((KI a.Slots f.toNat t.toNat:Nat):Int):=by
 obtain ⟨f,rfl⟩:=UF f0
 obtain ⟨t,rfl⟩:=UF t0
 rw[Qfz]
 have:=XdH (N:=N) hl t (by omega) N f 0 (by omega) (by omega) (by omega)
 rw[show ((0:Nat):Int)=0 from rfl] at this
 show bnd (QcZ N a (t:Int) N 0 (f:Int)) _=_
 rw[this,Xa]
 simp
theorem Xpf {N:Nat} {a:Ww} {i:Nat} (hi:i<=1000000):QgP N a (i:Int)=some (toL a i):=by
 rw[QgP,Xh (by omega),toL]
 by_cases h:i+1<a.Scopes.length
 ·rw[XE h,Wc,Xd,Wd h,Xa]
 ·rw[show decide (((i+1:Nat):Int)<((a.Scopes.length:Nat):Int))=false from Wj (by omega),Wa,WQ (by omega)]
theorem Xpg {a:Ww} (h:neB a.Slots.length a.Scopes=true) (i:Nat):0<=toL a i/\toL a i<=a.Slots.length:=by
 unfold toL
 cases e:a.Scopes[i+1]? with
 | none=>simp
 | some p=>have:=JI h e;simp only;omega
theorem ZF {N:Nat} {a:Ww} (hl:LBp a) (hN:1000000<N):QbW N a=some (Y4 a):=by
 obtain ⟨hl1,hl2,hl3⟩:=hl
 have h1:=KG (l:=a.Issued) (F:=Qdb N a) (q:=λ _ p=>!decide (p<0)&&!decide (p>4095)) (λ n k p e=>by
  have hk:=Xy e
  rw[Qdb,XE hk,Wc,Xd,e,Xa,Xa,Xh (by omega)]
  cases decide (p<0)<;>cases decide (p>4095)<;>rfl) (λ n=>by rw[Qdb,Xs,Wa]) (n:=N) (by omega)
 have h2:=K3 (l:=a.Slots) (F:=λ n s i=>Qaj N a n s i) (q:=stQ a.Issued) (nxp:=λ _ p=>p.Stamp) (I:=λ s=>0<=s) (λ n s k p hs e=>by
  have hk:=Xy e
  show Qaj N a (n+1) s (k:Int)=_
  rw[Qaj,XE hk,Wc,Xd,e,Xa,Xh (by omega)]
  unfold stQ
  cases g1:decide (p.Stamp<=s)
  ·cases g2:decide (p.Stamp>((a.Issued.length:Nat):Int))
   ·have g1:=WH g1
    have g2:=WH g2
    rw[Wa,Wa,Xc (by omega) (by omega),Yc (by omega) (by omega),Xa]
    have ge:a.Issued[(p.Stamp-1).toNat]'(by omega)=a.Issued.getD (p.Stamp-1).toNat 0:=by
     rw[Wp,Wd (by omega)];rfl
    rw[ge]
    cases (a.Issued.getD (p.Stamp-1).toNat 0 != (k:Int))<;>cases (p.Live==(p.Ref != 0))<;>rfl
   ·rfl
  ·rfl) (λ n s=>by show Qaj N a (n+1) s _=_;rw[Qaj,Xs,Wa]) (λ s k p hs e hq=>by
   unfold stQ at hq
   simp only[WE,Uv,Ue] at hq
   have:=hq.1
   omega) N 0 0 (by omega) (by omega) (by omega)
 have h3:=K3 (l:=a.Scopes) (F:=λ n s i=>Qah N a n s i) (q:=neQ a.Slots.length) (nxp:=λ _ p=>p.From) (I:=λ _=>True) (λ n s k p hs e=>by
  have hk:=Xy e
  show Qah N a (n+1) s (k:Int)=_
  rw[Qah,XE hk,Wc,Xd,e,Xa,Xh (by omega)]
  unfold neQ
  cases ((k:Int)==0)<;>cases (p.From != 0)<;>cases p.Base<;>cases decide (p.From<s)<;>cases decide (p.From>((a.Slots.length:Nat):Int))<;>cases decide (p.Cap<0)<;>cases decide (p.Cap>64)<;>rfl) (λ n s=>by show Qah N a (n+1) s _=_;rw[Qah,Xs,Wa]) (λ _ _ _ _ _ _=>trivial) N 0 0 trivial (by omega) (by omega)
 rw[WX] at h2 h3
 rw[Zv] at h1
 rw[QbW,XV,h1,Xa]
 have e2:Qaj N a N 0 0=some (bif stB a.Issued a.Slots then .nxt () else .ret false):=h2
 have e3:Qah N a N 0 0=some (bif neB a.Slots.length a.Scopes then .nxt () else .ret false):=h3
 unfold Y4 Xmm
 have main:(exK (bif (a.Issued.all λ p=>!decide (p<0)&&!decide (p>4095)) then Ex.nxt () else Ex.ret false) (λ r=>some r) λ y4 =>
  bnd (Qaj N a N 0 0) λ e=>exK e (λ r=>some r) λ y9 =>
  bnd (Qah N a N 0 0) λ e=>exK e (λ r=>some r) λ y13 =>
  bnd (QcC N a N 0) λ e=>exK e (λ r=>some r) λ y19=>some true)=some ((a.Issued.all λ p=>!decide (p<0)&&!decide (p>4095))&&(stB a.Issued a.Slots&&(neB a.Slots.length a.Scopes&&Xf2 a))):=by
  cases (a.Issued.all λ p=>!decide (p<0)&&!decide (p>4095))
  ·rw[Wa,XC];rfl
  rw[Wc,Xr,WR,e2,Xa]
  cases stB a.Issued a.Slots
  ·rw[Wa,XC];rfl
  rw[Wc,Xr,WR,e3,Xa]
  cases hne:neB a.Slots.length a.Scopes
  ·rw[Wa,XC];rfl
  rw[Wc,Xr,WR]
  have h4:=KG (l:=a.Scopes) (F:=QcC N a) (q:=Xj2 a ()) (λ n k p e=>by
   have hk:=Xy e
   have hf:=JI hne e
   have ht:=Xpg hne k
   rw[QcC,XE hk,Wc,Xd,e,Xa,Xpf (by omega),Xa,XgZ hl1 hN hf.1 (by omega) ht.1 ht.2,Xa,Xa,Xh (by omega)]
   unfold Xj2
   cases decide (((KI a.Slots p.From.toNat (toL a k).toNat:Nat):Int)>p.Cap)<;>rfl) (λ n=>by rw[QcC,Xs,Wa]) (n:=N) (by omega)
  rw[h4,Xa]
  show exK (bif Xf2 a then Ex.nxt () else Ex.ret false) _ _=_
  cases Xf2 a
  ·rw[Wa,XC]
  ·rw[Wc,Xr]
 rw[main]
 cases decide (((a.Issued.length:Nat):Int)>4096)<;>cases decide (((a.Scopes.length:Nat):Int)>64)<;>cases (((a.Scopes.length:Nat):Int)==0)<;>cases decide (((a.Slots.length:Nat):Int)>0)<;>rfl
end Go.Sx
namespace Go.Sx
def zL:Ww:=⟨[],[],[]⟩
def Yq (l:List UX):List Int:=(l.filter (·.Live)).map (·.Ref)
theorem XcS (l:List UX):(Yq l).length<=l.length:=by unfold Yq;rw[WZ];exact List.length_filter_le _ _
section
variable {N:Nat} {a:Ww}
theorem XbM (hl:LBp a) (hN:1000000<N) (hv:Y4 a=true):∀ (n k:Nat) (v:List Int),k<=a.Slots.length->a.Slots.length-k<n->v.length<=k ->
 Qbg N a n (k:Int) v=some (v++Yq (a.Slots.drop k))
 | 0,k,v,_,hn,_=>by omega
 | n+1,k,v,hk,hn,hlv=>by
  have hl1:=hl.1
  rw[Qbg]
  by_cases h:k<a.Slots.length
  ·rw[XE h,Wc,ZF hl hN,Xa,hv,Wc,Xd,Wd h,Xa,Xa,Xh (by omega),Wu h,Yq]
   cases hL:a.Slots[k].Live
   ·rw[Wa,XbM hl hN hv n (k+1) v (by omega) (by omega) (by omega),UG (by rw[hL];simp)]
    rfl
   ·rw[Wc,Xe (by omega),XbM hl hN hv n (k+1) _ (by omega) (by omega) (by rw[Wq];simp;omega),UR (by rw[hL])]
    simp[Yq]
  ·obtain rfl:k=a.Slots.length:=by omega
   rw[Xs,Wa,WL (Uf _)]
   simp[Yq]
theorem Kx (hl:LBp a) (hN:1000000<N):Qcq N a=some (bif Y4 a then Yq a.Slots else []):=by
 rw[Qcq]
 cases hv:Y4 a
 ·obtain ⟨m,rfl⟩:∃ m,N=m+1:=⟨N-1,by omega⟩
  rw[Qbg,ZF hl hN,hv]
  by_cases h:0<a.Slots.length
  ·rw[show decide ((0:Int)<((a.Slots.length:Nat):Int))=true from Wh (by omega),Wc,Xa,Wa,Xa];rfl
  ·rw[show decide ((0:Int)<((a.Slots.length:Nat):Int))=false from Wj (by omega),Wa,Xa];rfl
 ·have h:=XbM hl hN hv N 0 [] (by omega) (by have:=hl.1;omega) (by simp)
  rw[show ((0:Nat):Int)=0 from rfl,WX,Uw] at h
  rw[h,Xa];rfl
def Vt (a:Ww):U1:=a.Scopes.getD (a.Scopes.length-1) ⟨0,0,false⟩
theorem XbN (h:a.Scopes.length≠0) (hl:a.Scopes.length<=1000000):Xb a.Scopes (wI (((a.Scopes.length:Nat):Int)-1))=some (Vt a):=by
 rw[Xc (by omega) (by omega),show ((a.Scopes.length:Nat):Int)-1=((a.Scopes.length-1:Nat):Int) by omega,Xd,Vt,Wp,Wd (by omega)]
 rfl
def Vu (a:Ww) (id:Int):Ww×Int×Int×Int :=
 if Y4 a=false then (zL,0,0,1) else if id=0 then (zL,0,0,1) else if a.Scopes.length=0 then (zL,0,0,9)
 else if (Vt a).Cap<=((KI a.Slots (Vt a).From.toNat a.Slots.length:Nat):Int) then (zL,0,0,10)
 else if a.Issued.length=4096 then (zL,0,0,18)
 else (⟨a.Slots++[⟨(a.Issued.length:Int)+1,id,true⟩],a.Scopes,a.Issued++[(a.Slots.length:Int)]⟩,(a.Slots.length:Int),(a.Issued.length:Int)+1,0)
theorem XeX (hv:Y4 a=true) (h:a.Scopes.length≠0):0<=(Vt a).From/\(Vt a).From<=a.Slots.length:=by
 have hf:=Z4.1 hv
 have e:=Wd (show a.Scopes.length-1<a.Scopes.length by omega)
 have:=JI hf.ne e
 have e2:Vt a=a.Scopes[a.Scopes.length-1]:=by unfold Vt;rw[Wp,e];rfl
 rw[e2];omega
theorem VV (hl:LBp a) (hN:1000000<N) (id:Int):QdQ N a id=some (Vu a id):=by
 obtain ⟨hl1,hl2,hl3⟩:=hl
 rw[QdQ,ZF ⟨hl1,hl2,hl3⟩ hN,Xa,Vu]
 cases hv:Y4 a
 ·rfl
 rw[Ws,Wa,Wk (by simp)]
 by_cases h1:id=0
 ·subst h1;rfl
 rw[Wk h1,show (id==0)=false by simpa using h1,Wa]
 by_cases h2:a.Scopes.length=0
 ·rw[Wm h2,h2];rfl
 rw[Wk h2,show (((a.Scopes.length:Nat):Int)==0)=false by simpa using h2,Wa,XbN h2 hl2,Xa]
 have ht:=XeX hv h2
 rw[XgZ hl1 hN ht.1 (by omega) (by omega) (by omega),Xa,Xa,IC]
 by_cases h3:(Vt a).Cap<=((KI a.Slots (Vt a).From.toNat a.Slots.length:Nat):Int)
 ·rw[Wm h3,Wh (show ((KI a.Slots (Vt a).From.toNat a.Slots.length:Nat):Int)>=_ from h3),Wc];rfl
 rw[Wk h3,Wj (show ¬ ((KI a.Slots (Vt a).From.toNat a.Slots.length:Nat):Int)>=_ from h3),Wa]
 by_cases h4:a.Issued.length=4096
 ·rw[Wm h4,h4];rfl
 rw[Wk h4,show (((a.Issued.length:Nat):Int)==4096)=false by simp;omega,Wa,Xe (by omega),Xe (by omega),Xe (by omega),Xe (by omega),Xc (by omega) (by omega)]
theorem Zp:LBp zL:=⟨by simp[zL],by simp[zL],by simp[zL]⟩
theorem Xg0 (hl:LBp a) (id:Int):LBp (Vu a id).1:=by
 obtain ⟨hl1,hl2,hl3⟩:=hl
 unfold Vu
 cases hv:Y4 a
 ·exact Zp
 have hf:=Z4.1 hv
 have hs:=hf.slots
 have hi:=hf.iss
 split
 ·exact Zp
 split
 ·exact Zp
 split
 ·exact Zp
 split
 ·exact Zp
 split
 ·exact Zp
 refine ⟨?_,hl2,?_⟩
 ·show (a.Slots++[_]).length<=_
  rw[Wq];simp;omega
 ·show (a.Issued++[_]).length<=_
  rw[Wq];simp;omega
def Zl (a:Ww) (i g:Int):Int×Int :=
 if Y4 a=false then (0,1) else if g<1\/(a.Issued.length:Int)<g then (0,6) else
 if a.Issued.getD (g-1).toNat 0≠i then (0,6) else if (a.Slots.length:Int)<=i then (0,7) else
 match a.Slots[i.toNat]? with
 | none=>(0,7)
 | some p=>if p.Stamp≠g then (0,7) else if p.Live then (p.Ref,0) else (0,8)
theorem VW (hl:LBp a) (hN:1000000<N) (i g:Int):QdT N a i g=some (Zl a i g):=by
 have hl':=hl
 obtain ⟨hl1,hl2,hl3⟩:=hl
 rw[QdT,ZF hl' hN,Xa,Zl]
 cases hv:Y4 a
 ·rfl
 have hf:=Z4.1 hv
 rw[Ws,Wa,Wk (by simp)]
 by_cases h1:g<1
 ·rw[Wh h1,Wc,Wm (.inl h1)]
 rw[Wj h1,Wa]
 by_cases h2:g>((a.Issued.length:Nat):Int)
 ·rw[Wh h2,Wc,Wm (.inr h2)]
 have hlt:(g-1).toNat<a.Issued.length:=by omega
 rw[Wj h2,Wa,Wk (by omega),Xc (by omega) (by omega),Yc (by omega) (by omega),Xa]
 have ge:a.Issued[(g-1).toNat]=a.Issued.getD (g-1).toNat 0:=by rw[Wp,Wd hlt];rfl
 have hm:=hf.issr _ (WV hlt)
 rw[ge] at hm ⊢
 by_cases h3:a.Issued.getD (g-1).toNat 0=i
 ·rw[h3] at hm ⊢
  rw[show (i != i)=false by simp,Wa,Wk (by simp)]
  by_cases h4:i>=((a.Slots.length:Nat):Int)
  ·rw[Wh h4,Wc,Wm h4]
  ·have hlt2:i.toNat<a.Slots.length:=by omega
   rw[Wj h4,Wa,Wk (by omega),Yc (by omega) (by omega),Xa,Wd hlt2]
   simp only[Xa]
   by_cases h5:a.Slots[i.toNat].Stamp=g
   ·rw[h5,show (g != g)=false by simp,Wa,Wk (by simp)]
    cases a.Slots[i.toNat].Live<;>rfl
   ·rw[show (a.Slots[i.toNat].Stamp != g)=true by simpa using h5,Wc,Wm h5]
 ·rw[show (a.Issued.getD (g-1).toNat 0 != i)=true by simpa using h3,Wc,Wm h3]
theorem XcT {i g:Int} (h:(Zl a i g).2=0):Y4 a=true/\0<=i/\∃ p,a.Slots[i.toNat]? = some p/\p.Stamp=g/\p.Live=true/\(Zl a i g).1=p.Ref:=by
 unfold Zl at h ⊢
 cases hv:Y4 a
 ·rw[hv] at h;cases h
 have hf:=Z4.1 hv
 rw[hv] at h
 rw[Wk (by simp)] at h ⊢
 by_cases h1:g<1\/(a.Issued.length:Int)<g
 ·rw[Wm h1] at h;cases h
 rw[Wk h1] at h ⊢
 have hlt:(g-1).toNat<a.Issued.length:=by omega
 have ge:a.Issued[(g-1).toNat]=a.Issued.getD (g-1).toNat 0:=by rw[Wp,Wd hlt];rfl
 have hm:=hf.issr _ (WV hlt)
 rw[ge] at hm
 by_cases h2:a.Issued.getD (g-1).toNat 0≠i
 ·rw[Wm h2] at h;cases h
 rw[Wk h2] at h ⊢
 by_cases h3:(a.Slots.length:Int)<=i
 ·rw[Wm h3] at h;cases h
 rw[Wk h3] at h ⊢
 have hi:0<=i:=by have:a.Issued.getD (g-1).toNat 0=i:=Classical.not_not.1 h2;omega
 have e:=Wd (show i.toNat<a.Slots.length by omega)
 rw[e] at h ⊢
 simp only at h ⊢
 by_cases h4:a.Slots[i.toNat].Stamp≠g
 ·rw[Wm h4] at h;cases h
 rw[Wk h4] at h ⊢
 cases hL:a.Slots[i.toNat].Live
 ·rw[hL] at h;cases h
 ·exact ⟨trivial,hi,_,rfl,Classical.not_not.1 h4,hL,rfl⟩
def Xao (a:Ww) (i g:Int):Ww×Int :=
 if (Zl a i g).2≠0 then (zL,(Zl a i g).2) else (⟨a.Slots.set i.toNat ⟨g,0,false⟩,a.Scopes,a.Issued⟩,0)
theorem XdI (hl:LBp a) (hN:1000000<N) (i g:Int):Qdt N a i g=some (Xao a i g):=by
 rw[Qdt,VW hl hN,Xa,Xao]
 by_cases h:(Zl a i g).2=0
 ·obtain ⟨_,h0,p,hp,_⟩:=XcT h
  have:=Xy hp
  have hl1:=hl.1
  rw[h,show ((0:Int) != 0)=false from rfl,Wa,Wk (by simp),Xe (by omega),Yc h0 (by omega),Xa]
 ·rw[show ((Zl a i g).2 != 0)=true by simpa using h,Wc,Wm h];rfl
theorem Xg1 (hl:LBp a) (i g:Int):LBp (Xao a i g).1:=by
 unfold Xao
 split
 ·exact Zp
 ·exact ⟨by show (a.Slots.set _ _).length<=_;rw[Wx];exact hl.1,hl.2⟩
def Jk (a:Ww) (c:Int):Ww×Int :=
 if Y4 a=false\/c<0\/64<c then (zL,1) else if a.Scopes.length=0 then (zL,9) else if a.Scopes.length=64 then (zL,17) else (⟨a.Slots,a.Scopes++[⟨(a.Slots.length:Int),c,false⟩],a.Issued⟩,0)
theorem VX (hl:LBp a) (hN:1000000<N) (c:Int):QdJ N a c=some (Jk a c):=by
 have hl2:=hl.2.1
 rw[QdJ,QfC,ZF hl hN,Xa,Jk]
 cases hv:Y4 a
 ·rw[WU,Wc,Xa,Wm (.inl rfl)];rfl
 rw[Ws,Wa]
 by_cases h1:c<0
 ·rw[Wh h1,Wc,Xa,Wm (.inr (.inl h1))];rfl
 by_cases h2:c>64
 ·rw[Wj h1,Wa,Wh h2,Wc,Xa,Wm (.inr (.inr h2))];rfl
 rw[Wj h1,Wa,Wj h2,Wa,XV,WU,Wc,Wk (by rintro (h | h | h);cases h;exact h1 h;exact h2 h)]
 by_cases h3:a.Scopes.length=0
 ·rw[Wm h3,h3];rw[show (((0:Nat):Int)==0)=true from rfl,Wc,Xa];rfl
 rw[Wk h3,show (((a.Scopes.length:Nat):Int)==0)=false by simpa using h3,Wa]
 by_cases h4:a.Scopes.length=64
 ·rw[Wm h4,h4];rw[show (((64:Nat):Int)==64)=true from rfl,Wc,Xa];rfl
 rw[Wk h4,show (((a.Scopes.length:Nat):Int)==64)=false by simp;omega,Wa,Xe (by omega),Xe (by omega),Xa]
theorem XeY (hl:LBp a) (c:Int):LBp (Jk a c).1:=by
 unfold Jk
 cases hv:Y4 a
 ·exact Zp
 have:=(Z4.1 hv).sc
 split
 ·exact Zp
 split
 ·exact Zp
 split
 ·exact Zp
 ·exact ⟨hl.1,by show (a.Scopes++[_]).length<=_;rw[Wq];simp;omega,hl.2.2⟩
def ZG (a:Ww):Ww×Int :=
 if Y4 a=false then (zL,1) else if a.Scopes.length=0 then (zL,9) else if (Vt a).Base then (zL,9) else (⟨a.Slots.take (Vt a).From.toNat,a.Scopes.take (a.Scopes.length-1),a.Issued⟩,0)
theorem Xa6 (hl:LBp a) (hN:1000000<N):Qem N a=some (ZG a):=by
 obtain ⟨hl1,hl2,hl3⟩:=hl
 rw[Qem,ZF ⟨hl1,hl2,hl3⟩ hN,Xa,ZG]
 cases hv:Y4 a
 ·rfl
 rw[Ws,Wa,Wk (by simp)]
 by_cases h2:a.Scopes.length=0
 ·rw[Wm h2,h2];rfl
 have ht:=XeX hv h2
 rw[Wk h2,show (((a.Scopes.length:Nat):Int)==0)=false by simpa using h2,Wa,XbN h2 hl2,Xa]
 cases hB:(Vt a).Base
 ·rw[Wa,Qf3,XbN h2 hl2,Xa,Xc (by omega) (by omega),Xe (by omega),Xe (by omega),Xe (by omega),Xe (by omega),Xa]
  rw[show (((a.Scopes.length:Nat):Int)-1).toNat=a.Scopes.length-1 by omega]
  rfl
 ·rw[Wc];rfl
theorem Xa7 (hl:LBp a):LBp (ZG a).1:=by
 unfold ZG
 split
 ·exact Zp
 split
 ·exact Zp
 split
 ·exact Zp
 ·obtain ⟨hl1,hl2,hl3⟩:=hl
  exact ⟨by show (a.Slots.take _).length<=_;rw[Wz];omega,by show (a.Scopes.take _).length<=_;rw[Wz];omega,hl3⟩
theorem XbO (rs:List Int) (hl:a.Slots.length<=1000000):∀ (n k:Nat) (c:Int) (v:List UX),k<=a.Slots.length->a.Slots.length-k<n->v.length=a.Slots.length->v.drop k=a.Slots.drop k->0<=c->c+(Yq (a.Slots.drop k)).length=rs.length->rs.length<=1000000 ->
 Ok (Qa0 N a rs n c (k:Int) v) λ e=>match e with | .ret r=>r=(zL,1) | .nxt v=>v.length=a.Slots.length
 | 0,k,c,v,_,hn,_,_,_,_,_=>by omega
 | n+1,k,c,v,hk,hn,hv,hd,hc,hr,hrl=>by
  rw[Qa0]
  refine WS (by omega) (Wo (λ h=>?_) λ h=>Wg hv)
  have h:k<a.Slots.length:=by have:=Wr h;omega
  have hkv:(k:Int)<v.length:=by omega
  rw[Xh (by omega)]
  have hdv:=Wu (show k<v.length by omega)
  have hda:=Wu h
  rw[hd,hda] at hdv
  have e1:a.Slots[k]=v[k]:=(I9 hdv).1
  have e2:a.Slots.drop (k+1)=v.drop (k+1):=(I9 hdv).2
  refine Ok.get (by omega) hkv λ p hp=>?_
  have hpe:p=a.Slots[k]:=by
   rw[Xd,Wd (by omega),← e1] at hp
   exact (WP hp).symm
  rw[hda] at hr
  refine Wo (λ hL=>?_) λ hL=>?_
  ·have hL:a.Slots[k].Live=false:=by rw[← hpe];simpa using hL
   refine XbO rs hl n (k+1) c v (by omega) (by omega) hv e2.symm hc ?_ hrl
   rw[← hr];unfold Yq;rw[UG (by rw[hL];simp)]
  ·have hL:a.Slots[k].Live=true:=by rw[← hpe];simpa using hL
   have hr2:c+1+(Yq (a.Slots.drop (k+1))).length=rs.length:=by
    rw[← hr];unfold Yq;rw[UR (by rw[hL]),W9,W5];omega
   refine Ok.get hc (by omega) λ q _=>Wo (λ _=>Wg rfl) λ _=>Ok.get hc (by omega) λ q _=>Ok.get (by omega) hkv λ p' _=>?_
   rw[Xc (n:=c+1) (by omega) (by omega)]
   refine XbO rs hl n (k+1) (c+1) _ (by omega) (by omega) (by rw[Wx];exact hv) ?_ (by omega) hr2 hrl
   rw[List.drop_set_of_lt (by omega)]
   exact e2.symm
theorem Xj3 (hl:LBp a) (hN:1000000<N) {rs:List Int} (hr:rs.length<=1000000):Ok (QdI N a rs) λ r=>LBp r.1:=by
 have hl':=hl
 obtain ⟨hl1,hl2,hl3⟩:=hl
 rw[QdI,ZF hl' hN,Xa]
 refine Wo (λ _=>Wg Zp) λ hv=>?_
 have hv:Y4 a=true:=by simpa using hv
 rw[Kx hl' hN,Xa,hv,Wc]
 refine Wo (λ _=>Wg Zp) λ he=>WS (by omega) ?_
 have he:((rs.length:Nat):Int)=(((Yq a.Slots).length:Nat):Int):=by simpa using he
 refine IS (XbO rs hl1 N 0 0 a.Slots (by omega) (by omega) rfl rfl (by omega) (by rw[WX];omega) hr) (λ r q=>Wg (by have q:r=(zL,1):=q;rw[q];exact Zp)) λ v q=>Wg ⟨?_,hl2,hl3⟩
 have q:v.length=a.Slots.length:=q
 show v.length<=_
 omega
end
end Go.Sx
namespace Go.Sx
def TB (t:WI):Prop:=t.Entries.length<=1000000
def zT:WI:=⟨[]⟩
theorem XbP:TB zT:=by simp[TB,zT]
section
variable {N:Nat} {t:WI}
def Xg2 (l:List Ub):Option Nat:=l.findIdx? λ e=>!e.Live&&decide (e.Gen<4294967295)
def JJ (t:WI) (id:Int):WI×Int×Int×Int :=
 if YS t.Entries=false then (zT,0,0,1) else
 match Xg2 t.Entries with
 | some k=>(⟨t.Entries.set k ⟨(t.Entries.getD k ⟨0,0,false⟩).Gen+1,id,true⟩⟩,(k:Int),(t.Entries.getD k ⟨0,0,false⟩).Gen+1,0)
 | none=>if t.Entries.length=64 then (zT,0,0,18) else (⟨t.Entries++[⟨1,id,true⟩]⟩,(t.Entries.length:Int),1,0)
theorem Xg3 (hl:TB t) (hv:YS t.Entries=true) (id:Int):∀ (n k:Nat),k<=t.Entries.length->t.Entries.length-k<n->Qbw N t id n (k:Int)=some (match (t.Entries.drop k).findIdx? (λ e=>!e.Live&&decide (e.Gen<4294967295)) with
 | some j=>.ret (⟨t.Entries.set (k+j) ⟨(t.Entries.getD (k+j) ⟨0,0,false⟩).Gen+1,id,true⟩⟩,((k+j:Nat):Int),(t.Entries.getD (k+j) ⟨0,0,false⟩).Gen+1,0)
 | none=>.nxt ())
 | 0,k,_,hn=>by omega
 | n+1,k,hk,hn=>by
  unfold TB at hl
  rw[Qbw,Xe (by omega)]
  by_cases h:k<t.Entries.length
  ·have e:=Wd h
   have gd:t.Entries.getD k ⟨0,0,false⟩=t.Entries[k]:=by rw[Wp,e];rfl
   have hg:=Xj1 hv (WV h)
   rw[XE h,Wc,Xd,e]
   simp only[Xa]
   rw[Xh (by omega),Wu h,List.findIdx?_cons]
   have next:=Xg3 hl hv id n (k+1) (by omega) (by omega)
   have go:Qbw N t id n ((k+1:Nat):Int)=some (match Option.map (λ i=>i+1) ((t.Entries.drop (k+1)).findIdx? (λ e=>!e.Live&&decide (e.Gen<4294967295))) with
    | some j=>.ret (⟨t.Entries.set (k+j) ⟨(t.Entries.getD (k+j) ⟨0,0,false⟩).Gen+1,id,true⟩⟩,((k+j:Nat):Int),(t.Entries.getD (k+j) ⟨0,0,false⟩).Gen+1,0)
    | none=>.nxt ()):=by
    rw[next]
    cases (t.Entries.drop (k+1)).findIdx? (λ e=>!e.Live&&decide (e.Gen<4294967295)) with
    | none=>rfl
    | some j=>simp only[Im];rw[show k+1+j=k+(j+1) by omega]
   cases hL:t.Entries[k].Live
   ·cases hG:decide (t.Entries[k].Gen<4294967295)
    ·rw[WU,Wc,Wa,Of,Wk (by simp)]
     exact go
    ·have hG:=Wr hG
     rw[WU,Wc,Wc,Bool.and_true,Wm rfl]
     have hk2:(k:Int).toNat=k:=by omega
     rw[Xc (by omega) (by omega),hk2,Xd,Ik,Wm rfl,Wm h,Xa]
     simp only[Ia]
     rw[gd]
   ·rw[Ws,Wa,Um,Wk (by simp)]
    exact go
  ·obtain rfl:k=t.Entries.length:=by omega
   rw[Xs,Wa,WL (Uf _)]
   rfl
theorem KJ (hl:TB t) (hN:1000000<N) (id:Int):Qce N t id=some (JJ t id):=by
 have hl':=hl
 unfold TB at hl
 rw[Qce,ZE hl hN,Xa,JJ]
 cases hv:YS t.Entries
 ·rfl
 have h1:=Xg3 (N:=N) hl' hv id N 0 (by omega) (by omega)
 rw[show ((0:Nat):Int)=0 from rfl,WX] at h1
 rw[Ws,Wa,Xe (by omega),h1,Xa,Wk (by simp),Xg2]
 cases t.Entries.findIdx? (λ e=>!e.Live&&decide (e.Gen<4294967295)) with
 | some j=>simp only[XC,Ux]
 | none =>
  simp only[Xr]
  rw[Xe (by omega)]
  by_cases h:t.Entries.length=64
  ·rw[Wm h,h];rfl
  ·rw[Wk h,show (((t.Entries.length:Nat):Int)==64)=false by simp;omega,Wa,Xe (by omega),Xe (by omega)]
theorem Xg4 (hl:TB t) (id:Int):TB (JJ t id).1:=by
 unfold JJ
 cases hv:YS t.Entries
 ·exact XbP
 have:=VU hv
 rw[Wk (by simp)]
 cases Xg2 t.Entries with
 | some k=>show (t.Entries.set _ _).length<=_;rw[Wx];exact hl
 | none =>
  simp only
  split
  ·exact XbP
  ·show (t.Entries++[_]).length<=_
   rw[Wq];simp;omega
theorem XcU {i g:Int} (h:(Y2 t.Entries i g).2=0):YS t.Entries=true/\0<=i/\∃ p,t.Entries[i.toNat]? = some p/\p.Gen=g/\p.Live=true/\(Y2 t.Entries i g).1=p.Ref:=by
 unfold Y2 at h ⊢
 cases hv:YS t.Entries
 ·rw[hv] at h;cases h
 rw[hv] at h
 rw[Wk (by simp)] at h ⊢
 by_cases h1:i<0\/(t.Entries.length:Int)<=i\/g<1
 ·rw[Wm h1] at h;cases h
 rw[Wk h1] at h ⊢
 have e:=Wd (show i.toNat<t.Entries.length by omega)
 rw[e] at h ⊢
 simp only at h ⊢
 by_cases h4:g>t.Entries[i.toNat].Gen
 ·rw[Wm h4] at h;cases h
 rw[Wk h4] at h ⊢
 by_cases h5:g<t.Entries[i.toNat].Gen
 ·rw[Wm h5] at h;cases h
 rw[Wk h5] at h ⊢
 cases hL:t.Entries[i.toNat].Live
 ·rw[hL] at h;cases h
 ·exact ⟨trivial,by omega,_,rfl,by omega,hL,rfl⟩
def JK (t:WI) (i g:Int):WI×Int :=
 if (Y2 t.Entries i g).2≠0 then (zT,(Y2 t.Entries i g).2) else (⟨t.Entries.set i.toNat ⟨g,0,false⟩⟩,0)
theorem J1 (hl:TB t) (hN:1000000<N) (i g:Int):Qcj N t i g=some (JK t i g):=by
 have hl':=hl
 unfold TB at hl
 rw[Qcj,Jj hl hN,Xa,JK]
 by_cases h:(Y2 t.Entries i g).2=0
 ·obtain ⟨_,h0,p,hp,_⟩:=XcU h
  have:=Xy hp
  rw[h,show ((0:Int) != 0)=false from rfl,Wa,Wk (by simp),Qf2,Xe (by omega),Yc h0 (by omega),Xa,Xa]
 ·rw[show ((Y2 t.Entries i g).2 != 0)=true by simpa using h,Wc,Wm h];rfl
theorem Xg5 (hl:TB t) (i g:Int):TB (JK t i g).1:=by
 unfold JK
 split
 ·exact XbP
 ·show (t.Entries.set _ _).length<=_;rw[Wx];exact hl
theorem XbQ (rs:List Int) (hl:t.Entries.length<=1000000):∀ (n k:Nat) (c:Int) (v:List Ub),k<=t.Entries.length->t.Entries.length-k<n->v.length=t.Entries.length->v.drop k=t.Entries.drop k->0<=c->c+(X0 (t.Entries.drop k)).length=rs.length->rs.length<=1000000 ->
 Ok (Qa1 N rs n c (k:Int) v) λ v=>v.length=t.Entries.length
 | 0,k,c,v,_,hn,_,_,_,_,_=>by omega
 | n+1,k,c,v,hk,hn,hv,hd,hc,hr,hrl=>by
  rw[Qa1]
  refine WS (by omega) (Wo (λ h=>?_) λ h=>Wg hv)
  have h:k<t.Entries.length:=by have:=Wr h;omega
  have hkv:(k:Int)<v.length:=by omega
  rw[Xh (by omega)]
  have hdv:=Wu (show k<v.length by omega)
  have hda:=Wu h
  rw[hd,hda] at hdv
  have e1:t.Entries[k]=v[k]:=(I9 hdv).1
  have e2:t.Entries.drop (k+1)=v.drop (k+1):=(I9 hdv).2
  refine Ok.get (by omega) hkv λ p hp=>?_
  have hpe:p=t.Entries[k]:=by
   rw[Xd,Wd (by omega),← e1] at hp
   exact (WP hp).symm
  rw[hda] at hr
  refine Wo (λ hL=>?_) λ hL=>?_
  ·have hL:t.Entries[k].Live=true:=by rw[← hpe];exact hL
   have hr2:c+1+(X0 (t.Entries.drop (k+1))).length=rs.length:=by
    rw[← hr];unfold X0;rw[UR (by rw[hL]),W9,W5];omega
   refine Ok.get hc (by omega) λ q _=>Ok.get (by omega) hkv λ p' _=>?_
   rw[Xc (n:=c+1) (by omega) (by omega)]
   refine XbQ rs hl n (k+1) (c+1) _ (by omega) (by omega) (by rw[Wx];exact hv) ?_ (by omega) hr2 hrl
   rw[List.drop_set_of_lt (by omega)]
   exact e2.symm
  ·have hL:t.Entries[k].Live=false:=by rw[← hpe];exact hL
   refine XbQ rs hl n (k+1) c v (by omega) (by omega) hv e2.symm hc ?_ hrl
   rw[← hr];unfold X0;rw[UG (by rw[hL];simp)]
theorem XcV (hl:TB t) (hN:1000000<N) {rs:List Int} (hr:rs.length<=1000000):Ok (Qct N t rs) λ r=>r.1.Entries.length<=t.Entries.length:=by
 have hl':=hl
 unfold TB at hl
 rw[Qct,ZE hl hN,Xa]
 refine Wo (λ _=>Wg (by simp)) λ hv=>?_
 have hv:YS t.Entries=true:=by simpa using hv
 have hll:=Xan t.Entries
 rw[YH hl hN,Xa,hv,Wc]
 refine WS (by omega) (Wo (λ _=>Wg (by simp)) λ he=>WS (by omega) ?_)
 have he:((rs.length:Nat):Int)=(((X0 t.Entries).length:Nat):Int):=by simpa using he
 refine WG (XbQ rs hl N 0 0 t.Entries (by omega) (by omega) rfl rfl (by omega) (by rw[WX];omega) hr) λ v _ q=>Wg ?_
 show v.length<=_
 omega
theorem XeZ (hl:TB t) (hN:1000000<N) {rs:List Int} (hr:rs.length<=1000000):Ok (Qct N t rs) λ r=>TB r.1:=(XcV hl hN hr).mono λ r h=>Ur h hl
theorem XbR {k:Nat} (hl:t.Entries.length<=1000+k) (id:Int):(JJ t id).1.Entries.length<=1000+k:=by
 unfold JJ
 cases hv:YS t.Entries
 ·simp[zT]
 have:=VU hv
 rw[Wk (by simp)]
 cases Xg2 t.Entries with
 | some k=>show (t.Entries.set _ _).length<=_;rw[Wx];exact hl
 | none =>
  simp only
  split
  ·simp[zT]
  ·show (t.Entries++[_]).length<=_
   rw[Wq];simp;omega
theorem Xe0 {k:Nat} (hl:t.Entries.length<=1000+k) (i g:Int):(JK t i g).1.Entries.length<=1000+k:=by
 unfold JK
 split
 ·simp[zT]
 ·show (t.Entries.set _ _).length<=_;rw[Wx];exact hl
end
end Go.Sx
