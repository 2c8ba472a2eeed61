import Derived.KernelRfl
import Derived.Test.YtokkmapiallffaaGreatDoorKC
set_option linter.all false
namespace Go.Sx
def Ok{α:Type}(o:Option α)(P:α->Prop):Prop:=∃r,o=some r/\P r
section
variable {α β γ:Type}{P:β->Prop}
def Xa(x:α)(f:α->Option β):bnd (some x) f=f x:=by unfold bnd;rfl
def Kq(f:α->Option β):bnd none f=none:=by unfold bnd;rfl
def Xb{p:Prop}[Decidable p](h:p)(x:Option α):grd p x=x:=by unfold grd;simp_all
theorem Xv{κ:Type}(k:κ)(f:κ->γ):jn k f=f k:=by unfold jn;rfl
theorem Xq(a:α)(f:α->γ)(k:β->γ):exK (.ret a) f k=f a:=by unfold exK;rfl
theorem Xl(b:β)(f:α->γ)(k:β->γ):exK (.nxt b) f k=k b:=by unfold exK;rfl
def Xf(l:List α)(k:Nat):Xd l (k:Int)=l[k]?:=by unfold Xd;simp
def X1{l:List α}{i:Int}(e:0<=i)(f:i<l.length):Xd l i=some (l[i.toNat]'ab):=by unfold Xd;simp_all
def Kx{l:List α}{i:Int}{p:α}:Xd l i=some p↔0<=i/\l[i.toNat]? = some p:=by unfold Xd;simp
def Yr{l:List α}{i:Int}{p:α}(h:Xd l i=some p):p∈l:=W5 (Kx.1 h).2
def XlE{l:List α}{i:Int}(h:¬(0<=i/\i<l.length)):Xd l i=none:=by unfold Xd;simp_all
def Wd{x:β}(h:P x):Ok (some x) P:=⟨x,rfl,h⟩
def WJ{o:Option α}{f:α->Option β}{Q:α->Prop}(h:Ok o Q)(k:∀y,o=.some y->Q y->Ok (f y) P):Ok (Sx.bnd o f) P:=by obtain⟨y,rfl,e⟩:=h;simp_all[Xa]
def Ue{p:Prop}[Decidable p]{x:Option β}(h:p)(k:Ok x P):Ok (Sx.grd p x) P:=by simp_all[Xb,h]
def Is{κ:Type}{k:κ}{f:κ->Option β}(h:Ok (f k) P):Ok (Sx.jn k f) P:=by simp_all[Xv]
def Wn{b:Bool}{x y:Option β}(e:b=true->Ok x P)(f:b=false->Ok y P):Ok (bif b then x else y) P:=by grind
def Ok.get{l:List α}{i:Int}{f:α->Option β}(e:0<=i)(g:i<l.length)(k:∀p,Xd l i=.some p->Ok (f p) P):Ok (Sx.bnd (Xd l i) f) P:=by simp_all[X1,e,g,Xa]
def Ok.mono{o:Option β}{Q:β->Prop}(h:Ok o Q)(k:∀x,Q x->P x):Ok o P:=by obtain⟨y,rfl,e⟩:=h;exact⟨y,rfl,k y e⟩
def Ok.get_eq{o:Option β}{x:β}(h:Ok o P)(e:o=.some x):P x:=by have⟨y,f,g⟩:=h;simp_all
def Ok.isSome{o:Option β}(h:Ok o P):o≠none:=by obtain⟨y,rfl,_⟩:=h;simp
def I4{α':Type}{o:Option (Ex α' α)}{f:α'->Option β}{k:α->Option β}{Q:Ex α' α->Prop}(h:Ok o Q)(g:∀a,Q (.ret a)->Ok (f a) P)(j:∀b,Q (.nxt b)->Ok (k b) P):Ok (Sx.bnd o λe=>exK e f k) P:=by
 obtain⟨y,rfl,p⟩:=h;rw[Xa];cases y with
 |ret a=>simp_all[Xq]
 |nxt b=>simp_all[Xl]
end
def Xe{n:Int}(h:-9223372036854775808<=n)(j:n<=9223372036854775807):wI n=n:=by
 have e:wI n=if n % 18446744073709551616>=9223372036854775808 then n % 18446744073709551616-18446744073709551616 else n % 18446744073709551616:=by have f:IntKind.bits .i64=64:=rfl;have g:IntKind.signed .i64=true:=rfl;simp[wI,IntKind.wrap,f,g]
 omega
theorem Xcv(n:Int):wU n=n % 18446744073709551616:=by rfl
def Xt{n:Int}(e:0<=n)(f:n<=18446744073709551615):wU n=n:=by grind[Xcv]
def VZ(n:Int):0<=wU n/\wU n<=18446744073709551615:=by grind[Xcv]
theorem Xny(n:Int):wW n=n % 4294967296:=by rfl
def XrF{n:Int}(e:0<=n)(f:n<=4294967295):wW n=n:=by grind[Xny]
def Xnz{n:Int}(g:0<=n)(j:n<=63):Ke .u64 1 n=2 ^ n.toNat:=by
 have e:IntKind.bits .u64=64:=rfl;have h:min n.toNat 64=n.toNat:=ab;have hp:(2:Int) ^ n.toNat<=2 ^ 63:=by have:2 ^ n.toNat<=2 ^ 63:=Oh ab ab;exact_mod_cast this
 have f:(0:Int)<=2 ^ n.toNat:=Int.pow_nonneg ag;show IntKind.wrap .u64 (1*2 ^ min n.toNat (IntKind.bits .u64))=_;rw[e,h,Oi];exact Xt f ab
def YA(a:Int)(k:Nat)(e:k<=64)(f:0<=a):Yy .u64 a k=a / 2 ^ k:=by have g:IntKind.bits .u64=64:=rfl;show a.fdiv (2 ^ min (k:Int).toNat (IntKind.bits .u64))=_;grind
def Yu(a:Int)(k:Nat)(f:k<=63)(g:0<=a)(h:a<=18446744073709551615):Y6 .u64 a (2 ^ k-1)=a % 2 ^ k:=by
 obtain⟨n,rfl⟩:=UP g;have hb:IntKind.u64.bits=64:=rfl;show IntKind.u64.wrap ((BitVec.ofInt IntKind.u64.bits n &&& BitVec.ofInt IntKind.u64.bits (2 ^ k-1)).toNat:Int)=_;rw[hb];have e:(2:Int) ^ k-1=((2 ^ k-1:Nat):Int):=by
  have h:=Nat.one_le_two_pow (n:=k);have j:(2:Int) ^ k=((2 ^ k:Nat):Int):=by simp
  rw[j];omega
 have o:BitVec.ofInt 64 (n:Int)=BitVec.ofNat 64 n:=by simp
 have p:BitVec.ofInt 64 ((2 ^ k-1:Nat):Int)=BitVec.ofNat 64 (2 ^ k-1):=by simp
 rw[e,o,p,BitVec.toNat_and,IK,IK];have q:n % 2 ^ 64=n:=On ab;have hp:2 ^ k<=2 ^ 63:=Oh ab f;have r:(2 ^ k-1) % 2 ^ 64=2 ^ k-1:=On ab;rw[q,r,Nat.and_two_pow_sub_one_eq_mod];show wU _=_;rw[Xt ab ab];simp
def PT{α:Type}(o:Option α)(P:α->Prop):Prop:=∀r,o=some r->P r
def tU(n:Int):Prop:=0<=n/\n<=18446744073709551615
def tW(n:Int):Prop:=0<=n/\n<=4294967295
def tL{α:Type}(T:α->Prop)(l:List α):Prop:=∀x∈l,T x
def tE{α β:Type}(A:α->Prop)(B:β->Prop):Ex α β->Prop
 |.ret a=>A a
 |.nxt b=>B b
section
variable {α β γ:Type}{P:β->Prop}{T:α->Prop}
def WE{x:β}(h:P x):PT (some x) P:=λr e=>Wz e▸h
def Oe:PT none P:=λr e=>by grind
def OV{o:Option α}{f:α->Option β}{Q:α->Prop}(h:PT o Q)(k:∀y,Q y->PT (f y) P):PT (Sx.bnd o f) P:=by
 cases o with
 |none=>rw[Kq];exact Oe
 |some y=>rw[Xa];exact k y (h y rfl)
def UO{o:Option α}{f:α->Option β}(k:∀y,PT (f y) P):PT (Sx.bnd o f) P:=by
 cases o with
 |none=>rw[Kq];exact Oe
 |some y=>simp_all[Xa]
def Of{p:Prop}[Decidable p]{x:Option β}(k:PT x P):PT (Sx.grd p x) P:=by
 unfold Sx.grd;split
 .omega
 exact Oe
def U4{κ:Type}{k:κ}{f:κ->Option β}{Q:κ->Prop}(h:Q k)(g:∀j,Q j->PT (f j) P):PT (Sx.jn k f) P:=by simp_all[Xv]
def WC{b:Bool}{x y:Option β}(e:PT x P)(f:PT y P):PT (bif b then x else y) P:=by grind
def PT.get{l:List α}{i:Int}{f:α->Option β}(h:tL T l)(k:∀p,T p->PT (f p) P):PT (Sx.bnd (Xd l i) f) P:=
 OV (Q:=T) (λr e=>h r (Yr e)) k
def Sc{α':Type}{o:Option (Ex α' α)}{f:α'->Option β}{k:α->Option β}{A:α'->Prop}(h:PT o (tE A T))(j:∀a,A a->PT (f a) P)(p:∀b,T b->PT (k b) P):PT (Sx.bnd o λe=>exK e f k) P:=by
 refine OV h λy g=>?_;cases y with
 |ret a=>rw[Xq];exact j a g
 |nxt b=>rw[Xl];exact p b g
def So{o:Option β}{r:β}(h:PT o P)(e:o=.some r):P r:=h r e
end
@[simp] def Xvm{α β:Type}(A:α->Prop)(B:β->Prop)(a:α):tE A B (.ret a)=A a:=rfl
@[simp] def Xvn{α β:Type}(A:α->Prop)(B:β->Prop)(b:β):tE A B (.nxt b)=B b:=rfl
@[simp] def Xvo(n:Nat):tU (no_index (OfNat.ofNat n):Int)=((OfNat.ofNat n:Nat)<=18446744073709551615):=by have:(no_index (OfNat.ofNat n):Int)=(n:Int):=rfl;simp only[eq_iff_iff];show(0:Int)<=n/\(n:Int)<=18446744073709551615↔n<=18446744073709551615;omega
@[simp] def Xvp(n:Nat):tW (no_index (OfNat.ofNat n):Int)=((OfNat.ofNat n:Nat)<=4294967295):=by have:(no_index (OfNat.ofNat n):Int)=(n:Int):=rfl;simp only[eq_iff_iff];show(0:Int)<=n/\(n:Int)<=4294967295↔n<=4294967295;omega
@[simp] def Xv9(n:Int):tU (wU n):=VZ n
@[simp] def XtS(n:Int):tW (wW n):=by unfold tW;rw[Xny];omega
def Xbv(n:Int):tU (IntKind.wrap .u64 n):=VZ n
def XnA(n:Int):tW (IntKind.wrap .u32 n):=XtS n
@[simp] def Xu5(a b:Int):tU (Y6 .u64 a b):=Xbv _
@[simp] def Xvq(a b:Int):tU (bOr .u64 a b):=Xbv _
@[simp] def Xu6(a b:Int):tU (Xr0 .u64 a b):=Xbv _
@[simp] def Xu7(a b:Int):tU (Ke .u64 a b):=Xbv _
@[simp] def Xu8(a b:Int):tW (Y6 .u32 a b):=XnA _
def XrG{a b:Int}(h:0<=a)(k:IntKind):0<=Yy k a b/\Yy k a b<=a:=by show 0<=a.fdiv _/\a.fdiv _<=a;have hp:(0:Int)<2 ^ min b.toNat (IntKind.bits k):=Int.pow_pos ag;rw[Int.fdiv_eq_ediv_of_nonneg _ ab];exact⟨Int.ediv_nonneg h ab,Int.ediv_le_self _ h⟩
@[simp] def Xu9{a b:Int}(h:tU a):tU (Yy .u64 a b):=by have:=XrG (b:=b) h.1 .u64;unfold tU at *;omega
@[simp] def Xva{a b:Int}(h:tW a):tW (Yy .u32 a b):=by have:=XrG (b:=b) h.1 .u32;unfold tW at *;omega
@[simp] def Xvb{a b:Int}(h:tU a):tU (a.tmod b):=by
 unfold tU at *;rw[IL h.1];by_cases hb:b=0
 .subst hb;rw[Int.emod_zero];exact h
 have h1:=Int.emod_nonneg a hb;have h2:a % b<=a:=by
  obtain⟨n,rfl⟩:=UP h.1;rcases Int.natAbs_eq b with e|e
  .rw[e,←Int.natCast_emod];have:=Nat.mod_le n b.natAbs;omega
  rw[e,Int.emod_neg,←Int.natCast_emod];have:=Nat.mod_le n b.natAbs;omega
 omega
section
variable {α:Type}{T:α->Prop}
@[simp] def Xvr:tL T ([]:List α):=λx h=>by grind
@[simp] def Xvc{x:α}{l:List α}:tL T (x::l)↔T x/\tL T l:=by unfold tL;simp
@[simp] def Xto{a b:List α}:tL T (a++b)↔tL T a/\tL T b:=by unfold tL;simp;exact⟨λh=>⟨λx hx=>h x (.inl hx),λx hx=>h x (.inr hx)⟩,λh x hx=>hx.elim (h.1 x) (h.2 x)⟩
@[simp] def Xdz{l:List α}{i:Nat}{x:α}(h:tL T l)(hx:T x):tL T (l.set i x):=λy hy=>by
 rcases W0 hy with h1|h1
 .exact h y h1
 simp_all
@[simp] def Xvd{l:List α}{i:Nat}(h:tL T l):tL T (l.take i):=λy hy=>h y (WQ hy)
@[simp] def Xve{l:List α}{i:Nat}(h:tL T l):tL T (l.drop i):=λy hy=>h y (WR hy)
@[simp] def Xvs{n:Nat}{x:α}(h:T x):tL T (List.replicate n x):=λy hy=>by simp_all
end
@[simp] def Xvt{p:Prop}[Decidable p]{a b:Int}(ha:tU a)(hb:tU b):tU (if p then a else b):=by split;exact ha;exact hb
set_option maxHeartbeats 1000000
class TY{α:Type}(o:Option α)(H:outParam Prop)(P:outParam (α->Prop)):Prop where
 h:H->PT o P
class TE(α:Type)(T:outParam (α->Prop)):Prop where
 e:True
section
variable {α β:Type}{P:β->Prop}{T:α->Prop}{o:Option α}{H:Prop}{Q:α->Prop}
def Us{f:α->Option β}[c:TY o H Q](h:H)(k:∀y,Q y->PT (f y) P):PT (Sx.bnd o f) P:=OV (c.h h) k
def Si{α':Type}{o:Option (Ex α' α)}{f:α'->Option β}{k:α->Option β}{A:α'->Prop}[c:TY o H (tE A T)](h:H)(g:∀a,A a->PT (f a) P)(j:∀b,T b->PT (k b) P):PT (Sx.bnd o λe=>exK e f k) P:=Sc (c.h h) g j
def Sj{l:List α}{i:Int}{f:α->Option β}[TE α T](h:tL T l)(k:∀p,T p->PT (f p) P):PT (Sx.bnd (Xd l i) f) P:=PT.get h k
end
def XS(s:Wh):Prop:=(tL tU) s.w
def KK(s:UH):Prop:=tU s.a
def XK(s:Wq):Prop:=(tL KK) s.S
def Yk(s:W6):Prop:=tU s.a
def Yp(s:WD):Prop:=(tL Yk) s.e
def KD(s:UB):Prop:=tU s.a
def Ys(s:Uj):Prop:=XS s.h/\XK s.l/\Yp s.g/\Yp s.v/\(tL KD) s.P/\(tL tU) s.R
def Y2(s:Wy):Prop:=tW s.Map
def ZC(s:UY):Prop:=Y2 s.H/\(tL tU) s.D
def V0(s:IC):Prop:=tU s.I/\tU s.B0
def XM(s:WO):Prop:=(tL ZC) s.T/\XK s.l/\Yp s.g/\Yp s.v/\(tL V0) s.m/\(tL tU) s.R
def KL(s:Io):Prop:=Ys s.N/\XM s.z/\(tL tU) s.w
def Xj3(s:Od):Prop:=(tL ZC) s.Nodes
def V1(s:Ow):Prop:=tU s.A/\tU s.B/\tU s.C
def Xf1(s:OB):Prop:=tU s.B0
def Xhl(s:IN):Prop:=XK s.l
def Xe6(s:Un):Prop:=tU s.Addr
def Xj4(s:UU):Prop:=tU s.addr/\Y2 s.hd
def Yl(s:Wu):Prop:=XS s.h/\(tL tU) s.o/\(tL tU) s.q
def Xj5(s:Ik):Prop:=tU s.Value
@[simp] def Xqw{l:List UH}{i:Nat}{x:UH}(h:tL KK l)(hx:tU x.a):tL KK (l.set i x):=Xdz h hx
@[simp] def Xpt{l:List W6}{i:Nat}{x:W6}(h:tL Yk l)(hx:tU x.a):tL Yk (l.set i x):=Xdz h hx
@[simp] def XrH{l:List UB}{i:Nat}{x:UB}(h:tL KD l)(hx:tU x.a):tL KD (l.set i x):=Xdz h hx
@[simp] def Xqx{l:List IC}{i:Nat}{x:IC}(h:tL V0 l)(hx:tU x.I/\tU x.B0):tL V0 (l.set i x):=Xdz h hx
@[simp] def Xpu{l:List UY}{i:Nat}{x:UY}(h:tL ZC l)(hx:tW x.H.Map/\(tL tU) x.D):tL ZC (l.set i x):=Xdz h hx
instance teTHeap:TE Wh XS:=⟨trivial⟩
instance teTSlot:TE UH KK:=⟨trivial⟩
instance teTLocals:TE Wq XK:=⟨trivial⟩
instance teTEntry:TE W6 Yk:=⟨trivial⟩
instance teTTable:TE WD Yp:=⟨trivial⟩
instance teTPin:TE UB KD:=⟨trivial⟩
instance teTEnv:TE Uj Ys:=⟨trivial⟩
instance teTHeader:TE Wy Y2:=⟨trivial⟩
instance teTThing:TE UY ZC:=⟨trivial⟩
instance teTMark:TE IC V0:=⟨trivial⟩
instance teTWorld:TE WO XM:=⟨trivial⟩
instance teTPair:TE Io KL:=⟨trivial⟩
instance teTGraph:TE Od Xj3:=⟨trivial⟩
instance teTDeed:TE Ow V1:=⟨trivial⟩
instance teTFact:TE OB Xf1:=⟨trivial⟩
instance teTframes:TE IN Xhl:=⟨trivial⟩
instance teTFinding:TE Un Xe6:=⟨trivial⟩
instance teTfound:TE UU Xj4:=⟨trivial⟩
instance teTWork:TE Wu Yl:=⟨trivial⟩
instance teTField:TE Ik Xj5:=⟨trivial⟩
attribute [local simp] XS KK XK Yk Yp KD Ys Y2 ZC V0 XM KL Xj3 V1 Xf1 Xhl Xe6 Xj4 Yl Xj5
def W3{p:Prop}(h:p:=by
 repeat' first
  |exact Oe
  |refine WE ?_
  |refine Of ?_
  |refine WC ?_ ?_
  |refine Si ?_ (λ_ _=>?_) λ_ _=>?_
  |refine Us ?_ λ_ _=>?_
  |refine TY.h ?_
  |refine Sj ?_ λ_ _=>?_
  |(refine PT.get (T:=tU) ?_ λ_ _=>?_;.first|assumption|simp_all (maxDischargeDepth:=9))
  |refine UO λ_=>?_
 all_goals ((try clear e);simp_all (maxDischargeDepth:=9))):p:=h
instance QpE{N e}:TY (Qf7 N e) (True) (λr=>XS r.1):=⟨λh=>by
 rw[Qf7]
 exact W3⟩
instance QpF{N e}:TY (QeS N e) (True) (λr=>Ys r.1):=⟨λh=>by
 rw[QeS]
 exact W3⟩
instance QpG{N e}:TY (Qf8 N e) (True) (λr=>XM r.1):=⟨λh=>by
 rw[Qf8]
 exact W3⟩
instance Qoo{N e}:TY (Qbi N e) (True) (λr=>KL r.1):=⟨λh=>by
 rw[Qbi]
 exact W3⟩
instance QiK{N e}:∀n g f,TY (QbP N e n g f) (XK e/\(tL tU) f) (tL tU)
 |0,_,_=>⟨λh=>by rw[QbP];exact Oe⟩
 |n+1,g,f=>⟨λh=>by
  have j:=@QiK N e n
  rw[QbP]
  exact W3⟩
instance Qpj{N e}:TY (QcJ N e) (XK e) (tL tU):=⟨λh=>by
 rw[QcJ]
 exact W3⟩
instance QiL{N e}:∀n g f,TY (QbQ N e n g f) (Yp e/\(tL tU) f) (tL tU)
 |0,_,_=>⟨λh=>by rw[QbQ];exact Oe⟩
 |n+1,g,f=>⟨λh=>by
  have j:=@QiL N e n
  rw[QbQ]
  exact W3⟩
instance Qpk{N e}:TY (Qbu N e) (Yp e) (tL tU):=⟨λh=>by
 rw[Qbu]
 exact W3⟩
instance Qh4{N e}:∀n g f,TY (QbH N e n g f) (Ys e/\(tL tU) f) (tL tU)
 |0,_,_=>⟨λh=>by rw[QbH];exact Oe⟩
 |n+1,g,f=>⟨λh=>by
  have j:=@Qh4 N e n
  rw[QbH]
  exact W3⟩
instance QoK{N e}:TY (Qb9 N e) (Ys e) (tL tU):=⟨λh=>by
 rw[Qb9]
 exact W3⟩
instance Qpl{N e f}:TY (Qbj N e f) ((tL tU) e/\tU f) (λr=>tU r.1):=⟨λh=>by
 rw[Qbj]
 exact W3⟩
instance QoL{N e}:TY (Qcy N e) (Y2 e) (λr=>tU r.1):=⟨λh=>by
 rw[Qcy]
 exact W3⟩
instance QoM{N e}:TY (Qcz N e) (tU e) (λr=>Y2 r.1):=⟨λh=>by
 rw[Qcz]
 exact W3⟩
instance QpW{N f g}:TY (Qao N f g) (XS f/\tU g) (λr=>Y2 r.1):=⟨λh=>by
 rw[Qao]
 refine(UO λj=>(WC (WE ?_) (UO λp=>(WC (WE ?_) (UO λq=>(Us ?_ λs u=>(Us ?_ λv w=>(U4 (Q:=λk=>∀(_:Unit),PT (k ()) _) (λ_=>(UO λx=>(WC (WC (WE ?_) (WC (WC (WE ?_) (WC (WE ?_) (WE ?_))) (WE ?_))) (WC (WC (WE ?_) (WC (WE ?_) (WE ?_))) (WE ?_))))) λy e=>(WC (WC (WE ?_) (WC (WE ?_) (WC (WE ?_) (e ())))) (WC (WE ?_) (WC (WE ?_) (e ()))))))))))))
 all_goals ((try clear z);simp_all (maxDischargeDepth:=9))⟩
instance Qox{N e f g}:TY (Qbx N e f g) (True) (λr=>tU r.1):=⟨λh=>by
 rw[Qbx]
 exact W3⟩
instance QiM{N e g j}:∀n k f,TY (Qah N e g j n k f) (XS e/\(tL tU) f) (tE (λr=>(tL tU) r.1) (tL tU))
 |0,_,_=>⟨λh=>by rw[Qah];exact Oe⟩
 |n+1,k,f=>⟨λh=>by
  have p:=@QiM N e g j n
  rw[Qah]
  exact W3⟩
instance Qpm{N e f}:TY (Qaf N e f) (XS e) (λr=>(tL tU) r.1):=⟨λh=>by
 rw[Qaf]
 exact W3⟩
instance Qh5{N e}:∀n g f,TY (QaJ N e n g f) (XS e/\(tL tU) f) (tE (λr=>(tL tU) r.1) (tL tU))
 |0,_,_=>⟨λh=>by rw[QaJ];exact Oe⟩
 |n+1,g,f=>⟨λh=>by
  have j:=@Qh5 N e n
  rw[QaJ]
  exact W3⟩
instance QoN{N e}:TY (QbB N e) (XS e) (λr=>(tL tU) r.1):=⟨λh=>by
 rw[QbB]
 exact W3⟩
instance QhK{N e f}:∀n j g,TY (Qa7 N e f n j g) (XS e/\(λr=>(tL tU) r.1) f/\(tL tU) g) (tL tU)
 |0,_,_=>⟨λh=>by rw[Qa7];exact Oe⟩
 |n+1,j,g=>⟨λh=>by
  have k:=@QhK N e f n
  rw[Qa7]
  exact W3⟩
instance Qoy{N e}:TY (Qal N e) (XS e) (λr=>(tL tU) r.1):=⟨λh=>by
 rw[Qal]
 exact W3⟩
instance QpH{N e f}:TY (QbK N e f) (XS e/\tU f) (λr=>Y2 r.1):=⟨λh=>by
 rw[QbK]
 exact W3⟩
instance Qpn{N e f g}:TY (Qc8 N e f g) ((tL tU) e/\tU f) (λr=>(tL tU) r.1):=⟨λh=>by
 rw[Qc8]
 exact W3⟩
instance QoZ{N e}:TY (QcZ N e) (XS e) (λr=>Yl r.1):=⟨λh=>by
 rw[QcZ]
 exact W3⟩
instance QoO{N e}:TY (QcA N e) (tU e) (λr=>tU r.1):=⟨λh=>by
 rw[QcA]
 exact W3⟩
instance Qil{N e g}:∀n j f,TY (Qck N e g n j f) ((tL tU) e/\(tL tU) f) (tL tU)
 |0,_,_=>⟨λh=>by rw[Qck];exact Oe⟩
 |n+1,j,f=>⟨λh=>by
  have k:=@Qil N e g n
  rw[Qck]
  exact W3⟩
instance Qo0{N e f g}:TY (Qci N e f g) ((tL tU) e/\tU f/\(tL tU) g) (λr=>(tL tU) r.1):=⟨λh=>by
 rw[Qci]
 exact W3⟩
instance Qo1{N e f g}:TY (QdG N e f g) ((tL tU) e/\tU f/\tU g) (λr=>(tL tU) r.1):=⟨λh=>by
 rw[QdG]
 exact W3⟩
instance Qpo{N e f}:TY (QcO N e f) (Yl e/\tU f) Yl:=⟨λh=>by
 rw[QcO]
 exact W3⟩
instance Qo2{N f g}:TY (QcB N f g) (Yl f) (λr=>Yl r.1/\tU r.2.1):=⟨λh=>by
 rw[QcB]
 refine(Of (U4 (Q:=λk=>∀(_:Unit),PT (k ()) _) (λ_=>(UO λw=>(WC (WE ?_) (UO λx=>(Of (Of (UO λj=>(UO λp=>(UO λq=>(WE ?_)))))))))) λy e=>(WC (UO λz=>(UO λA=>(WC (UO λB=>(UO λs=>(UO λu=>(UO λv=>(WE ?_))))) (e ())))) (e ()))))
 all_goals ((try clear D);simp_all (maxDischargeDepth:=9))⟩
instance Qpp{N e f g j}:TY (Qfx N e f g j) ((tL tU) e/\tU f/\tU g) (λr=>(tL tU) r.1):=⟨λh=>by
 rw[Qfx]
 exact W3⟩
instance Qoz{N e}:TY (QcP N e) (tU e) (λr=>tU r.1):=⟨λh=>by
 rw[QcP]
 exact W3⟩
instance QoA{N e f}:TY (QaF N e f) (Yl e/\tU f) (λr=>Yl r.1/\tU r.2.1):=⟨λh=>by
 rw[QaF]
 exact W3⟩
instance Qim{N j}:∀n p q s k u v6 v7 v8 v9 v10 v11 e v13 f v15 g v17 v18,TY (Qa4 N j n p q s k u v6 v7 v8 v9 v10 v11 e v13 f v15 g v17 v18) ((tL tU) j/\(tL tU) k/\(tL tU) v8/\(tL tU) v10/\(tL tU) v18) (tE (λr=>Yl r.1/\(tL tU) r.2.1) (λr=>(tL tU) r.2.2.1/\(tL tU) r.2.2.2.2.2.2.1/\(tL tU) r.2.2.2.2.2.2.2.2.1/\(tL tU) r.2.2.2.2.2.2.2.2.2.2.2.2.2.2.2.2))
 |0,_,_,_,_,_,_,_,_,_,_,_,_,_,_,_,_,_,_=>⟨λh=>by rw[Qa4];exact Oe⟩
 |n+1,p,q,s,k,u,v6,v7,v8,v9,v10,v11,e,v13,f,v15,g,v17,v18=>⟨λh=>by
  have v:=@Qim N j n
  rw[Qa4]
  exact W3⟩
instance Qo3{N e f}:TY (Qc0 N e f) (Yl e/\(tL tU) f) (λr=>Yl r.1/\(tL tU) r.2.1):=⟨λh=>by
 rw[Qc0]
 exact W3⟩
instance QpI{N e f}:TY (Qdl N e f) (Yl e/\tU f) Y2:=⟨λh=>by
 rw[Qdl]
 exact W3⟩
instance QiN{N j k}:∀n p q v6 v7 v8 v9 v10 v11 e v13 f v15 g v17 v18 v19 v20,TY (Qbe N j k n p q v6 v7 v8 v9 v10 v11 e v13 f v15 g v17 v18 v19 v20) (tU j/\(tL tU) v7/\(tL tU) v11/\(tL tU) v13) (tE (λr=>Yl r.1) (λr=>(tL tU) r.2.2.1/\(tL tU) r.2.2.2.2.2.2.1/\(tL tU) r.2.2.2.2.2.2.2.2.1))
 |0,_,_,_,_,_,_,_,_,_,_,_,_,_,_,_,_,_=>⟨λh=>by rw[Qbe];exact Oe⟩
 |n+1,p,q,v6,v7,v8,v9,v10,v11,e,v13,f,v15,g,v17,v18,v19,v20=>⟨λh=>by
  have s:=@QiN N j k n
  rw[Qbe]
  exact W3⟩
instance Qpq{N e}:TY (Qef N e) (Yl e) (λr=>Yl r.1):=⟨λh=>by
 rw[Qef]
 exact W3⟩
instance QjL{N}:∀n k p j q s v6 v7 v8 v9 v10 v11 e v13 f v15 g,TY (QbS N n k p j q s v6 v7 v8 v9 v10 v11 e v13 f v15 g) ((tL tU) j/\(tL tU) v7/\(tL tU) v9) (λr=>Yl r.1)
 |0,_,_,_,_,_,_,_,_,_,_,_,_,_,_,_,_=>⟨λh=>by rw[QbS];exact Oe⟩
 |n+1,k,p,j,q,s,v6,v7,v8,v9,v10,v11,e,v13,f,v15,g=>⟨λh=>by
  have u:=@QjL N n
  rw[QbS]
  exact W3⟩
instance QpJ{N e}:TY (Qem N e) (Yl e) (λr=>Yl r.1):=⟨λh=>by
 rw[Qem]
 exact W3⟩
instance Qo4{N e f}:TY (QcC N e f) (Yl e/\tU f) tU:=⟨λh=>by
 rw[QcC]
 exact W3⟩
instance QiO{N e f g j k}:∀n v7 v8,TY (Qbf N e f g j k n v7 v8) (Yl e/\(tL tU) v8) (tL tU)
 |0,_,_=>⟨λh=>by rw[Qbf];exact Oe⟩
 |n+1,v7,v8=>⟨λh=>by
  have p:=@QiO N e f g j k n
  rw[Qbf]
  exact W3⟩
instance QiP{N e}:∀n g j f k,TY (QaO N e n g j f k) (Yl e/\(tL tU) f) (λr=>(tL tU) r.2.1)
 |0,_,_,_,_=>⟨λh=>by rw[QaO];exact Oe⟩
 |n+1,g,j,f,k=>⟨λh=>by
  have p:=@QiP N e n
  rw[QaO]
  exact W3⟩
instance Qpr{N e}:TY (Qeg N e) (Yl e) Yl:=⟨λh=>by
 rw[Qeg]
 exact W3⟩
instance QiQ{N e}:∀n g f j,TY (QaD N e n g f j) (Yl e/\(tL tU) f) (λr=>(tL tU) r.1)
 |0,_,_,_=>⟨λh=>by rw[QaD];exact Oe⟩
 |n+1,g,f,j=>⟨λh=>by
  have k:=@QiQ N e n
  rw[QaD]
  exact W3⟩
instance Qps{N e}:TY (Qeh N e) (Yl e) Yl:=⟨λh=>by
 rw[Qeh]
 exact W3⟩
instance QhL{N q s u}:∀n v7 v8 v9,TY (QaL N q s u n v7 v8 v9) ((tL tU) q/\(λr=>Yl r.1/\(tL tU) r.2.1) s/\(λr=>Yl r.1) u/\(tL tU) v9) (λr=>(tL tU) r.2)
 |0,_,_,_=>⟨λh=>by rw[QaL];exact Oe⟩
 |n+1,v7,v8,v9=>⟨λh=>by
  have v:=@QhL N q s u n
  rw[QaL]
  refine(WC (PT.get (T:=tU) ?_ λw z=>(U4 (Q:=λk=>∀(e f:Int),tU e->PT (k e f) _) (λe f A=>(Of (TY.h ?_))) λB g=>(WC (PT.get (T:=tU) ?_ λx D=>(Us ?_ λy E=>(U4 (Q:=λk=>∀(j:Int),PT (k j) _) (λj=>(g _ _ ?_)) λG p=>(WC (p _) (p _))))) (g _ _ ?_)))) (WE ?_))
  all_goals ((try clear v);simp_all (maxDischargeDepth:=9))⟩
instance QoB{N j p q}:TY (Qcj N j p q) (XS j/\(tL tU) p/\(tL tU) q) (λr=>XS r.1/\(tL tU) r.2.1/\(tL tU) r.2.2.1):=⟨λh=>by
 rw[Qcj]
 refine(UO λx=>(WC (WE ?_) (U4 (Q:=λk=>∀(_:Unit),PT (k ()) _) (λ_=>(WE ?_)) λy e=>(UO λz=>(WC (e ()) (UO λA=>(WC (e ()) (Us ?_ λB D=>(Us ?_ λE G=>(WC (WE ?_) (Us ?_ λI J=>(WC (WE ?_) (Us ?_ λs K=>(Us ?_ λu L=>(Us ?_ λv M=>(U4 (Q:=λk=>∀(f:Int),PT (k f) _) (λf=>(WE ?_)) λO g=>(WC (UO λw=>(g _)) (g _))))))))))))))))))
 all_goals ((try clear R);simp_all (maxDischargeDepth:=9))⟩
instance QiR{N e f}:∀n j k g,TY (Qbg N e f n j k g) (XK e/\(tL tU) f/\(tL KK) g) (tE (λr=>XK r.1) (tL KK))
 |0,_,_,_=>⟨λh=>by rw[Qbg];exact Oe⟩
 |n+1,j,k,g=>⟨λh=>by
  have p:=@QiR N e f n
  rw[Qbg]
  exact W3⟩
instance Qpt{N e f}:TY (Qda N e f) (XK e/\(tL tU) f) (λr=>XK r.1):=⟨λh=>by
 rw[Qda]
 exact W3⟩
instance QiS{N e}:∀n g j f,TY (Qbh N e n g j f) ((tL tU) e/\(tL Yk) f) (tL Yk)
 |0,_,_,_=>⟨λh=>by rw[Qbh];exact Oe⟩
 |n+1,g,j,f=>⟨λh=>by
  have k:=@QiS N e n
  rw[Qbh]
  exact W3⟩
instance Qpu{N e f}:TY (Qb8 N e f) (Yp e/\(tL tU) f) (λr=>Yp r.1):=⟨λh=>by
 rw[Qb8]
 exact W3⟩
instance QhM{N e f g j k p q}:∀n v10 v11,TY (QaY N e f g j k p q n v10 v11) (Ys e/\(λr=>XS r.1/\(tL tU) r.2.1/\(tL tU) r.2.2.1) f/\(tL tU) g/\(tL tU) j/\(λr=>XK r.1) k/\(λr=>Yp r.1) p/\(λr=>Yp r.1) q/\(tL KD) v11) (tL KD)
 |0,_,_=>⟨λh=>by rw[QaY];exact Oe⟩
 |n+1,v10,v11=>⟨λh=>by
  have s:=@QhM N e f g j k p q n
  rw[QaY]
  exact W3⟩
instance QoC{N e}:TY (QbA N e) (Ys e) (λr=>Ys r.1):=⟨λh=>by
 rw[QbA]
 exact W3⟩
instance QhN{N e g}:∀n j f,TY (Qbp N e g n j f) (XM e/\(tL tU) f) (tL tU)
 |0,_,_=>⟨λh=>by rw[Qbp];exact Oe⟩
 |n+1,j,f=>⟨λh=>by
  have k:=@QhN N e g n
  rw[Qbp]
  exact W3⟩
instance QoD{N e}:TY (Qdm N e) (XM e) (λr=>XM r.1):=⟨λh=>by
 rw[Qdm]
 exact W3⟩
instance QoP{N e}:TY (Qab N e) (True) (λr=>Ys r.1/\tU r.2.1):=⟨λh=>by
 rw[Qab]
 exact W3⟩
instance Qo5{N g e f}:TY (QcD N g e f) (tU e/\tU f) (λr=>Y2 r.1):=⟨λh=>by
 rw[QcD]
 exact W3⟩
instance QpK{N e f}:TY (Qeo N e f) (XK e/\tU f) (λr=>XK r.1):=⟨λh=>by
 rw[Qeo]
 exact W3⟩
instance Qo6{N f g}:TY (Qep N f g) (XS f) (λr=>XS r.1/\tU r.2.1):=⟨λh=>by
 rw[Qep]
 refine(Of (UO λw=>(UO λx=>(U4 (Q:=λk=>∀(_:Unit),PT (k ()) _) (λ_=>(UO λy=>(WC (WE ?_) (WC (WE ?_) (UO λz=>(UO λj=>(UO λp=>(UO λq=>(WE ?_))))))))) λA e=>(WC (e ()) (UO λB=>(WC (e ()) (UO λD=>(WC (e ()) (WC (e ()) (UO λs=>(UO λu=>(UO λv=>(WE ?_))))))))))))))
 all_goals ((try clear E);simp_all (maxDischargeDepth:=9))⟩
instance Qo7{N e f g}:TY (Qe7 N e f g) (XS e) (λr=>XS r.1/\tU r.2.1):=⟨λh=>by
 rw[Qe7]
 exact W3⟩
instance Qpv{N e f g}:TY (QbN N e f g) (XS e/\tU f/\Y2 g) (λr=>XS r.1):=⟨λh=>by
 rw[QbN]
 exact W3⟩
instance QpL{N u v}:TY (QeW N u v) (XS u/\Y2 v) (λr=>XS r.1/\tU r.2.1):=⟨λh=>by
 rw[QeW]
 refine(UO λz=>(WC (WE ?_) (UO λA=>(WC (WE ?_) (UO λB=>(UO λD=>(Us ?_ λE G=>(U4 (Q:=λk=>∀(s:Int) (w:Bool) (x f:Int) (e:List Int) (g:List Wp) (j p:Int),tU s->(tL tU) e->PT (k s w x f e g j p) _) (λs w x f e g j p I J=>(WC (WE ?_) (Us ?_ λy K=>(WE ?_)))) λL q=>(WC (Us ?_ λM O=>(q _ _ _ _ _ _ _ _ ?_ ?_)) (q _ _ _ _ _ _ _ _ ?_ ?_))))))))))
 all_goals ((try clear R);simp_all (maxDischargeDepth:=9))⟩
instance Qo8{N J K}:TY (Qeq N J K) (Ys J/\Y2 K) (λr=>Ys r.1/\tU r.2.1):=⟨λh=>by
 rw[Qeq]
 refine(UO λU=>(WC (WE ?_) (Us ?_ λV W=>(U4 (Q:=λk=>∀(G L M O:Int) (I:List Int) (s:List Wp) (u v:Int) (e:List UH) (w:List UX) (x:List Int) (f g:List W6) (j:List UB) (p:List Int) (y z:Int) (q:List Int) (A:List Wp) (B D:Int),tU G->(tL tU) I->(tL KK) e->(tL Yk) f->(tL Yk) g->(tL KD) j->(tL tU) p->(tL tU) q->PT (k G L M O I s u v e w x f g j p y z q A B D) _) (λG L M O I s u v e w x f g j p y z q A B D Y Z h4 h5 h6 h7 h8 h9=>(WC (WE ?_) (WE ?_))) λj1 E=>(WC (Us ?_ λy3 R=>(WC (WE ?_) (Us ?_ λy4 S=>(E _ _ _ _ _ _ _ _ _ _ _ _ _ _ _ _ _ _ _ _ _ ?_ ?_ ?_ ?_ ?_ ?_ ?_ ?_)))) (E _ _ _ _ _ _ _ _ _ _ _ _ _ _ _ _ _ _ _ _ _ ?_ ?_ ?_ ?_ ?_ ?_ ?_ ?_))))))
 all_goals ((try clear ih);simp_all (maxDischargeDepth:=9))⟩
instance QoQ{N e}:TY (Qcb N e) (True) (λr=>tU r.1):=⟨λh=>by
 rw[Qcb]
 exact W3⟩
instance Qo9{N e f}:TY (QcE N e f) (Ys e/\tU f) (λr=>Ys r.1/\tU r.2.1):=⟨λh=>by
 rw[QcE]
 exact W3⟩
instance QoR{N f p g j}:TY (QdL N f p g j) (Ys f/\tU g/\tU j) (λr=>Ys r.1/\tU r.2.1):=⟨λh=>by
 rw[QdL]
 refine(WC (Us ?_ λq s=>(WE ?_)) (Us ?_ λu v=>(U4 (Q:=λk=>∀(_:Unit),PT (k ()) _) (λ_=>(Us ?_ λw x=>(WE ?_))) λy e=>(WC (e ()) (UO λz=>(WC (e ()) (Us ?_ λA B=>(WC (Us ?_ λD E=>(WE ?_)) (Us ?_ λG I=>(WC (Us ?_ λJ K=>(WE ?_)) (Us ?_ λL M=>(WE ?_))))))))))))
 all_goals ((try clear O);simp_all (maxDischargeDepth:=9))⟩
instance QpM{N e f g}:TY (Qer N e f g) (XK e) (λr=>tU r.1):=⟨λh=>by
 rw[Qer]
 exact W3⟩
instance QpN{N e f g}:TY (QdM N e f g) (Yp e) (λr=>tU r.1):=⟨λh=>by
 rw[QdM]
 exact W3⟩
instance QoE{N e f}:TY (QaG N e f) (Ys e/\tU f) (λr=>tU r.1):=⟨λh=>by
 rw[QaG]
 exact W3⟩
instance Qpa{N e f}:TY (QbY N e f) (Ys e/\tU f) (λr=>tU r.1):=⟨λh=>by
 rw[QbY]
 exact W3⟩
instance Qpb{N e f g j}:TY (Qc2 N e f g j) (Ys e/\tU f/\tU g) (λr=>tU r.1):=⟨λh=>by
 rw[Qc2]
 exact W3⟩
instance Qpc{N e f g}:TY (Qc3 N e f g) (XS e/\tU f) (λr=>tU r.1):=⟨λh=>by
 rw[Qc3]
 exact W3⟩
instance Qot{N e f j g}:TY (Qcl N e f j g) (XS e/\tU f/\tU g) (λr=>XS r.1):=⟨λh=>by
 rw[Qcl]
 exact W3⟩
instance Qpd{N p x q s u}:TY (Qc4 N p x q s u) (Ys p/\tU q/\tU s/\tU u) (λr=>Ys r.1/\tU r.2.1):=⟨λh=>by
 rw[Qc4]
 refine(U4 (Q:=λk=>∀(j v w:Int),tU j->PT (k j v w) _) (λj v w B=>(WC (Us ?_ λD E=>(WE ?_)) (Us ?_ λG I=>(WC (WE ?_) (WC (Us ?_ λJ K=>(WE ?_)) (U4 (Q:=λk=>∀(e:Int),tU e->PT (k e) _) (λe L=>(Us ?_ λy M=>(WE ?_))) λO f=>(WC (Us ?_ λR S=>(WC (Us ?_ λz U=>(WE ?_)) (f _ ?_))) (f _ ?_)))))))) λV g=>(WC (Us ?_ λW Y=>(g _ _ _ ?_)) (Us ?_ λZ A=>(g _ _ _ ?_))))
 all_goals ((try clear ih);simp_all (maxDischargeDepth:=9))⟩
instance Qpe{N f q g j}:TY (QcG N f q g j) (Ys f/\tU g/\tU j) (λr=>Ys r.1/\tU r.2.1):=⟨λh=>by
 rw[QcG]
 refine(U4 (Q:=λk=>∀(p:Bool),PT (k p) _) (λp=>(WC (Us ?_ λw x=>(WC (Us ?_ λy z=>(WE ?_)) (Us ?_ λA B=>(WC (WE ?_) (WE ?_))))) (WC (Us ?_ λD E=>(WC (Us ?_ λG I=>(WE ?_)) (Us ?_ λJ K=>(WC (Us ?_ λL M=>(WE ?_)) (WC (WE ?_) (WE ?_)))))) (Us ?_ λO R=>(WC (Us ?_ λs S=>(WE ?_)) (Us ?_ λu v=>(WE ?_))))))) λU e=>(WC (e _) (e _)))
 all_goals ((try clear V);simp_all (maxDischargeDepth:=9))⟩
instance QjM{N e f}:∀n g,TY (Qcc N e f n g) (Yp e/\tU f) (tE (λr=>Yp r.1) (λ_=>True))
 |0,_=>⟨λh=>by rw[Qcc];exact Oe⟩
 |n+1,g=>⟨λh=>by
  have j:=@QjM N e f n
  rw[Qcc]
  exact W3⟩
instance QpO{N e f}:TY (QcV N e f) (Yp e/\tU f) (λr=>Yp r.1):=⟨λh=>by
 rw[QcV]
 exact W3⟩
instance QoF{N q v s}:TY (Qdn N q v s) (Ys q/\tU s) (λr=>Ys r.1/\tU r.2.1):=⟨λh=>by
 rw[Qdn]
 refine(Us ?_ λw x=>(WC (Us ?_ λy z=>(WE ?_)) (U4 (Q:=λk=>∀(u:Int) (g:List W6),(tL Yk) g->PT (k u g) _) (λu g A=>(Us ?_ λB D=>(WC (Us ?_ λE G=>(WE ?_)) (U4 (Q:=λk=>∀(j p:List W6),(tL Yk) j->(tL Yk) p->PT (k j p) _) (λj p I J=>(Us ?_ λK L=>(WE ?_))) λM e=>(WC (e _ _ ?_ ?_) (e _ _ ?_ ?_)))))) λO f=>(WC (f _ _ ?_) (f _ _ ?_)))))
 all_goals ((try clear R);simp_all (maxDischargeDepth:=9))⟩
instance QoS{N e f g}:TY (QdN N e f g) (XK e) (λr=>XK r.1):=⟨λh=>by
 rw[QdN]
 exact W3⟩
instance QpP{N e g f}:TY (QgJ N e g f) (Yp e/\Yk f) Yp:=⟨λh=>by
 rw[QgJ]
 exact W3⟩
instance QoT{N e f g}:TY (QcH N e f g) (Yp e) (λr=>Yp r.1):=⟨λh=>by
 rw[QcH]
 exact W3⟩
instance QoU{N g p j}:TY (QdO N g p j) (Ys g/\tU j) (λr=>Ys r.1/\tU r.2.1):=⟨λh=>by
 rw[QdO]
 refine(WC (Us ?_ λq s=>(WE ?_)) (Us ?_ λu v=>(WC (Us ?_ λw x=>(WE ?_)) (UO λy=>(U4 (Q:=λk=>∀(_:Unit),PT (k ()) _) (λ_=>(WC (Us ?_ λz A=>(WE ?_)) (WC (Us ?_ λB D=>(WE ?_)) (Us ?_ λE G=>(WE ?_))))) λI e=>(U4 (Q:=λk=>∀(_:Unit),PT (k ()) _) (λ_=>(Us ?_ λJ K=>(WE ?_))) λL f=>(WC (WC (f ()) (WC (WC (f ()) (WC (WC (f ()) (e ())) (e ()))) (WC (WC (f ()) (e ())) (e ())))) (WC (WC (f ()) (WC (WC (f ()) (e ())) (e ()))) (WC (WC (f ()) (e ())) (e ()))))))))))
 all_goals ((try clear M);simp_all (maxDischargeDepth:=9))⟩
instance Qpw{N f g j}:TY (Qgl N f g j) (XK f) (λr=>XK r.1):=⟨λh=>by
 rw[Qgl]
 refine(UO λp=>(WC (WE ?_) (WC (WE ?_) (WC (WE ?_) (U4 (Q:=λk=>∀(_:Unit),PT (k ()) _) (λ_=>(WC (WE ?_) (Of (Of (WE ?_))))) λq e=>(WC (WC (WE ?_) (e ())) (e ())))))))
 all_goals ((try clear s);simp_all (maxDischargeDepth:=9))⟩
instance Qpx{N e f}:TY (Qei N e f) (XK e) (λr=>XK r.1):=⟨λh=>by
 rw[Qei]
 exact W3⟩
instance QpQ{N e f}:TY (QgK N e f) (XK e) XK:=⟨λh=>by
 rw[QgK]
 exact W3⟩
instance QpR{N e}:TY (QeX N e) (XK e) (λr=>XK r.1):=⟨λh=>by
 rw[QeX]
 exact W3⟩
instance QoV{N e g f}:TY (QdP N e g f) (Ys e/\tU f) (λr=>Ys r.1/\tU r.2.1):=⟨λh=>by
 rw[QdP]
 exact W3⟩
instance Qpf{N e f g}:TY (QbZ N e f g) (XS e/\tU f) XS:=⟨λh=>by
 rw[QbZ]
 exact W3⟩
instance QoG{N e f g}:TY (Qdo N e f g) (XS e/\(tL KD) f/\tU g) (λr=>XS r.1/\(tL KD) r.2.1):=⟨λh=>by
 rw[Qdo]
 exact W3⟩
instance QpS{N j p q}:TY (Qft N j p q) (XS j/\(tL KD) p/\tU q) (λr=>XS r.1/\(tL KD) r.2.1/\tU r.2.2.1):=⟨λh=>by
 rw[Qft]
 refine(UO λv=>(WC (WE ?_) (WC (WE ?_) (UO λw=>(WC (WE ?_) (UO λx=>(U4 (Q:=λk=>∀(_:Unit),PT (k ()) _) (λ_=>(Of (U4 (Q:=λk=>∀(f:List UB),(tL KD) f->PT (k f) _) (λf y=>(Us ?_ λs z=>(WE ?_))) λA g=>(WC (PT.get (T:=KD) ?_ λB D=>(PT.get (T:=KD) ?_ λu E=>(g _ ?_))) (Of (g _ ?_)))))) λG e=>(WC (PT.get (T:=KD) ?_ λI J=>(WC (WE ?_) (WC (WC (WE ?_) (UO λK=>(WC (WE ?_) (e ())))) (UO λL=>(WC (WE ?_) (e ())))))) (WC (WC (WE ?_) (UO λM=>(WC (WE ?_) (e ())))) (UO λO=>(WC (WE ?_) (e ()))))))))))))
 all_goals ((try clear R);simp_all (maxDischargeDepth:=9))⟩
instance Qpy{N e g f}:TY (QeY N e g f) (Ys e/\tU f) (λr=>Ys r.1/\tU r.2.1):=⟨λh=>by
 rw[QeY]
 exact W3⟩
instance Qpz{N L Z M O R}:TY (Qag N L Z M O R) (Ys L/\tU M/\tU O/\tU R) (λr=>Ys r.1/\tU r.2.1):=⟨λh=>by
 rw[Qag]
 refine(UO λy1=>(WC (Us ?_ λy2 h1=>(WE ?_)) (U4 (Q:=λk=>∀(S:Bool),PT (k S) _) (λS=>(WC (Us ?_ λy5 h2=>(WE ?_)) (U4 (Q:=λk=>∀(U:Bool),PT (k U) _) (λU=>(WC (Us ?_ λy9 h3=>(WE ?_)) (U4 (Q:=λk=>∀(p:Bool),PT (k p) _) (λp=>(WC (Us ?_ λy13 h4=>(WE ?_)) (U4 (Q:=λk=>∀(q:Bool),PT (k q) _) (λq=>(WC (Us ?_ λy15 h5=>(WE ?_)) (U4 (Q:=λk=>∀(s:Bool),PT (k s) _) (λs=>(WC (Us ?_ λy18 h6=>(WE ?_)) (U4 (Q:=λk=>∀(u:Bool),PT (k u) _) (λu=>(WC (Us ?_ λy20 h7=>(WE ?_)) (U4 (Q:=λk=>∀(v:Bool),PT (k v) _) (λv=>(WC (Us ?_ λy22 h8=>(WE ?_)) (Us ?_ λy23 h9=>(WE ?_)))) λj13 e=>(WC (e _) (e _))))) λj12 f=>(WC (f _) (f _))))) λj11 g=>(WC (g _) (U4 (Q:=λk=>∀(w:Bool),PT (k w) _) (λw=>(g _)) λj10 j=>(WC (j _) (j _))))))) λj9 x=>(WC (x _) (x _))))) λj8 y=>(WC (y _) (U4 (Q:=λk=>∀(z:Bool),PT (k z) _) (λz=>(y _)) λj7 A=>(WC (A _) (U4 (Q:=λk=>∀(B:Bool),PT (k B) _) (λB=>(A _)) λj6 D=>(WC (D _) (D _))))))))) λj5 E=>(WC (E _) (U4 (Q:=λk=>∀(V:Bool),PT (k V) _) (λV=>(E _)) λj4 G=>(WC (G _) (U4 (Q:=λk=>∀(W:Bool),PT (k W) _) (λW=>(G _)) λj3 I=>(WC (I _) (I _))))))))) λj2 J=>(WC (J _) (U4 (Q:=λk=>∀(Y:Bool),PT (k Y) _) (λY=>(J _)) λj1 K=>(WC (K _) (K _)))))))
 all_goals ((try clear ih);simp_all (maxDischargeDepth:=9))⟩
instance QoH{N g j s p u}:TY (QeK N g j s p u) (Ys g/\Ys j/\tU p) Xf1:=⟨λh=>by
 rw[QeK]
 refine(U4 (Q:=λk=>∀(q:Bool),PT (k q) _) (λq=>(U4 (Q:=λk=>∀(r:Bool),PT (k r) _) (λr=>(WC (WC (WE ?_) (WE ?_)) (WE ?_))) λv f=>(WC (f _) (f _)))) λw e=>(WC (e _) (WC (e _) (e _))))
 all_goals ((try clear x);simp_all (maxDischargeDepth:=9))⟩
instance QoI{N e f}:TY (QaH N e f) (XM e/\tU f) (λr=>tU r.1):=⟨λh=>by
 rw[QaH]
 exact W3⟩
instance Qpg{N e f}:TY (Qc6 N e f) (XM e/\tU f) (λr=>XM r.1/\tU r.2):=⟨λh=>by
 rw[Qc6]
 exact W3⟩
instance QpT{N e f j g}:TY (Qfu N e f j g) (XM e/\tU f/\tU g) XM:=⟨λh=>by
 rw[Qfu]
 exact W3⟩
instance QoJ{N j v p}:TY (QeL N j v p) (XM j/\tU p) (λr=>XM r.1/\tU r.2):=⟨λh=>by
 rw[QeL]
 refine(U4 (Q:=λk=>∀(f g:List W6) (q s u:Int),(tL Yk) f->(tL Yk) g->PT (k f g q s u) _) (λf g q s u w x=>(Us ?_ λy z=>(WE ?_))) λA e=>(WC (Us ?_ λB D=>(e _ _ _ _ _ ?_ ?_)) (Us ?_ λE G=>(e _ _ _ _ _ ?_ ?_))))
 all_goals ((try clear I);simp_all (maxDischargeDepth:=9))⟩
instance QoW{N e f}:TY (Qfk N e f) (XM e/\tU f) XM:=⟨λh=>by
 rw[Qfk]
 exact W3⟩
instance QpA{N e j f g}:TY (Qfz N e j f g) (XM e/\tU f/\tU g) (λr=>XM r.1/\tU r.2):=⟨λh=>by
 rw[Qfz]
 exact W3⟩
instance QpB{N J W K L M O}:TY (QfA N J W K L M O) (XM J/\tU K/\tU L/\tU M/\Xf1 O) (λr=>XM r.1/\tU r.2.1):=⟨λh=>by
 rw[QfA]
 refine(UO λy1=>(WC (WE ?_) (U4 (Q:=λk=>∀(G:Int),tU G->PT (k G) _) (λG h1=>(U4 (Q:=λk=>∀(R:Bool),PT (k R) _) (λR=>(WC (U4 (Q:=λk=>∀(S U:Int) (I:List UY) (e:List UH) (s:List UX) (u:List Int) (f g:List W6) (j:List IC) (p:List Int),(tL ZC) I->(tL KK) e->(tL Yk) f->(tL Yk) g->(tL V0) j->(tL tU) p->PT (k S U I e s u f g j p) _) (λS U I e s u f g j p h2 h3 h4 h5 h6 h7=>(Us ?_ λY h8=>(Of (Of (Of (Of (Us ?_ λZ h9=>(WE ?_)))))))) λj4 v=>(WC (Us ?_ λy6 h10=>(v _ _ _ _ _ _ _ _ _ _ ?_ ?_ ?_ ?_ ?_ ?_)) (v _ _ _ _ _ _ _ _ _ _ ?_ ?_ ?_ ?_ ?_ ?_))) (WC (PT.get (T:=ZC) ?_ λp19 h11=>(WE ?_)) (WC (PT.get (T:=ZC) ?_ λp20 h12=>(WE ?_)) (WC (PT.get (T:=ZC) ?_ λp21 h13=>(PT.get (T:=tU) ?_ λp22 h14=>(WE ?_))) (WC (Us ?_ λy23 h15=>(WE ?_)) (WC (PT.get (T:=ZC) ?_ λp24 h16=>(PT.get (T:=tU) ?_ λp25 h17=>(Us ?_ λy26 h18=>(WE ?_)))) (WC (Us ?_ λy27 h19=>(Us ?_ λy28 h20=>(WE ?_))) (WC (Us ?_ λy29 h21=>(WC (WE ?_) (WE ?_))) (WC (Us ?_ λy30 h22=>(WE ?_)) (U4 (Q:=λk=>∀(w:Bool),PT (k w) _) (λw=>(WC (Us ?_ λy32 h23=>(WE ?_)) (U4 (Q:=λk=>∀(x:Bool),PT (k x) _) (λx=>(WC (Us ?_ λy35 h24=>(WE ?_)) (WC (Us ?_ λy36 h25=>(WE ?_)) (WC (Us ?_ λy37 h26=>(Us ?_ λy38 h27=>(WE ?_))) (Us ?_ λy39 h28=>(WE ?_)))))) λj7 y=>(WC (y _) (U4 (Q:=λk=>∀(z:Bool),PT (k z) _) (λz=>(y _)) λj6 A=>(WC (A _) (A _))))))) λj5 B=>(WC (B _) (B _))))))))))))) λj3 D=>(WC (D _) (U4 (Q:=λk=>∀(V:Bool),PT (k V) _) (λV=>(D _)) λj2 E=>(WC (E _) (E _)))))) λj1 q=>(WC (WC (Us ?_ λy2 h29=>(q _ ?_)) (q _ ?_)) (q _ ?_)))))
 all_goals ((try clear ih);simp_all (maxDischargeDepth:=9))⟩
instance QoX{N Z a1}:TY (QbT N Z a1) (KL Z/\V1 a1) (λr=>KL r.1/\tU r.2.1):=⟨λh=>by
 rw[QbT]
 refine(WC (Us ?_ λy1 h1=>(U4 (Q:=λk=>∀(x3 x4:Int) (W:List Int) (x6:List Wp) (x7 x8:Int) (Y:List UH) (E:List UX) (G:List Int) (e f:List W6) (g:List UB) (j:List Int) (I J:Int) (p:List UY) (q:List UH) (K:List UX) (L:List Int) (s u:List W6) (v:List IC) (w:List Int),(tL tU) W->(tL KK) Y->(tL Yk) e->(tL Yk) f->(tL KD) g->(tL tU) j->(tL ZC) p->(tL KK) q->(tL Yk) s->(tL Yk) u->(tL V0) v->(tL tU) w->PT (k x3 x4 W x6 x7 x8 Y E G e f g j I J p q K L s u v w) _) (λx3 x4 W x6 x7 x8 Y E G e f g j I J p q K L s u v w h2 h3 h4 h5 h6 h7 h8 h9 h10 h11 h12 h13=>(WE ?_)) λj1 M=>(WC (Us ?_ λy2 h14=>(M _ _ _ _ _ _ _ _ _ _ _ _ _ _ _ _ _ _ _ _ _ _ _ ?_ ?_ ?_ ?_ ?_ ?_ ?_ ?_ ?_ ?_ ?_ ?_)) (M _ _ _ _ _ _ _ _ _ _ _ _ _ _ _ _ _ _ _ _ _ _ _ ?_ ?_ ?_ ?_ ?_ ?_ ?_ ?_ ?_ ?_ ?_ ?_)))) (Us ?_ λy26 h15=>(Us ?_ λy27 h16=>(Us ?_ λy28 h17=>(U4 (Q:=λk=>∀(O R:Int) (x:List UY) (y:List UH) (S:List UX) (U:List Int) (z A:List W6) (B:List IC) (D:List Int),(tL ZC) x->(tL KK) y->(tL Yk) z->(tL Yk) A->(tL V0) B->(tL tU) D->PT (k O R x y S U z A B D) _) (λO R x y S U z A B D h18 h19 h20 h21 h22 h23=>(WC (WC (Of (Of (WE ?_))) (WE ?_)) (WE ?_))) λj2 V=>(WC (V _ _ _ _ _ _ _ _ _ _ ?_ ?_ ?_ ?_ ?_ ?_) (V _ _ _ _ _ _ _ _ _ _ ?_ ?_ ?_ ?_ ?_ ?_)))))))
 all_goals ((try clear ih);simp_all (maxDischargeDepth:=9))⟩
instance Qou{N g q}:TY (Qb0 N g q) (KL g) (λr=>tU r.1):=⟨λh=>by
 rw[Qb0]
 refine(UO λw=>(WC (UO λx=>(PT.get (T:=tU) ?_ λy z=>(WE ?_))) (WC (UO λA=>(PT.get (T:=tU) ?_ λB D=>(UO λE=>(WE ?_)))) (U4 (Q:=λk=>∀(j:Bool),PT (k j) _) (λj=>(WC (UO λG=>(PT.get (T:=tU) ?_ λs I=>(WE ?_))) (UO λu=>(PT.get (T:=tU) ?_ λv J=>(WE ?_))))) λK e=>(WC (e _) (U4 (Q:=λk=>∀(p:Bool),PT (k p) _) (λp=>(e _)) λL f=>(WC (f _) (f _))))))))
 all_goals ((try clear M);simp_all (maxDischargeDepth:=9))⟩
instance Qov{N q u}:TY (QcW N q u) (KL q) (λr=>V1 r.1):=⟨λh=>by
 rw[QcW]
 refine(UO λD=>(UO λE=>(WC (UO λG=>(Of (UO λI=>(WE ?_)))) (U4 (Q:=λk=>∀(s:Bool),PT (k s) _) (λs=>(WC (UO λJ=>(UO λK=>(WC (UO λL=>(WE ?_)) (WE ?_)))) (WC (UO λM=>(WE ?_)) (Us ?_ λv O=>(UO λw=>(UO λx=>(U4 (Q:=λk=>∀(g:List Int) (j e:Int),tU e->PT (k g j e) _) (λg j e R=>(WC (Us ?_ λy S=>(WE ?_)) (WE ?_))) λU f=>(WC (Us ?_ λz V=>(f _ _ _ ?_)) (UO λA=>(WC (Us ?_ λB W=>(f _ _ _ ?_)) (f _ _ _ ?_))))))))))) λY p=>(WC (p _) (p _))))))
 all_goals ((try clear Z);simp_all (maxDischargeDepth:=9))⟩
def Qin{N f g}(e:KL f):PT (QcW N f g) (λr=>V1 r.1):=TY.h e
def QiT{N g j}(e:XM g)(f:tU j):PT (QaH N g j) (λr=>tU r.1):=TY.h ⟨e,f⟩
def Qh6{N e}:PT (Qbi N e) (λr=>KL r.1):=TY.h trivial
def QjN{N g j}(e:KL g)(f:V1 j):PT (QbT N g j) (λr=>KL r.1/\tU r.2.1):=TY.h ⟨e,f⟩
def BIG:Nat:=1099511627776
def XcR{ws:List Int}(e:ws.length<=BIG)(N:Nat)(a k:Int)(h:-1<=k/\k<=1000000000000000000):QdF N ws a k =
 some (if 4096<=a/\a<=4096+ws.length then(a-4096,decide (a+k<=4096+ws.length))else(0,false)):=by
 unfold BIG at e;simp only[QdF,UM];rw[Xt (n:=(ws.length:Int)) ab ab,Xt (n:=4096+(ws.length:Int)) ab ab];by_cases f:a<4096
 .grind
 rw[Wj f];by_cases g:a>4096+ws.length
 .grind
 rw[Wj g,Wm ab,Xt (n:=a-4096) ab ab,Xe (n:=a-4096) ab ab,Xe ab ab];grind
def inW(ws:List Int)(a:Int):Prop:=4096<=a/\a<4096+ws.length
instance(ws:List Int)(a:Int):Decidable (inW ws a):=by unfold inW;infer_instance
def ix(a:Int):Nat:=(a-4096).toNat
def Yg{ws:List Int}(g:ws.length<=BIG)(N:Nat)(a:Int):Qbj N ws a=some (if inW ws a then(ws.getD (ix a) 0,0)else(0,2)):=by
 simp only[Qbj,QfS,XcR g N a 1 ab,Xa];by_cases h:4096<=a/\a<=4096+ws.length
 .simp only[Wm h];by_cases e:inW ws a
  .have f:a+1<=4096+ws.length:=by unfold inW at e;omega
   simp only[Wm e,f,decide_true,Wi,Wa,Xa];have j:(a-4096).toNat<ws.length:=by unfold inW at e;omega
   rw[show((0:Int) != 0)=false from rfl,Wa,X1 ab ab,Xa];simp[ix,List.getD,j]
  have f:¬a+1<=4096+ws.length:=by unfold inW at e;omega
  simp[Wj,e,f,decide_false,Ub,Wc,Xa]
 have e:¬inW ws a:=by unfold inW;omega
 simp[Wj,h,e,Ub,Wc,Xa]
def ovr(ws l:List Int)(i:Nat):List Int:=ws.take i++l++ws.drop (i+l.length)
def Zv{ws l:List Int}{i:Nat}(h:i+l.length<=ws.length):(ovr ws l i).length=ws.length:=by grind[ovr]
def Xf2{ws l:List Int}{i:Nat}(h:i+l.length<=ws.length)(j:Nat):(ovr ws l i)[j]? = if i<=j/\j<i+l.length then l[j-i]? else ws[j]?:=by
 unfold ovr;have e:(ws.take i).length=i:=by simp only[Ws];omega
 grind
def V2{ws l:List Int}{i:Nat}(h:i+l.length<=ws.length)(j:Nat):(ovr ws l i).getD j 0=if i<=j/\j<i+l.length then l.getD (j-i) 0 else ws.getD j 0:=by simp only[Wk,Xf2 h];grind
def Xhm{l:List Int}(y:Int×Bool)(i N:Nat)(ws:List Int)(p:y.1=i)(h:i+l.length<=ws.length)(s:ws.length<=BIG):∀(n k:Nat) (v:List Int),k<=l.length->l.length-k<n->v=ovr ws (l.take k) i ->
 Qck N l y n (k:Int) v=some (ovr ws l i)
 |0,k,v,_,u,_=>by omega
 |n+1,k,v,B,u,q=>by
  unfold BIG at s;rw[Qck];have g:(l.take k).length=k:=by simp;omega
  have w:v.length=ws.length:=by rw[q];exact Zv ab
  by_cases x:k<l.length
  .have z:decide ((k:Int)<(l.length:Int))=true:=by simp;omega
   have A:wI (y.1+(k:Int))=((i+k:Nat):Int):=by rw[p,Xe ab ab];simp
   have e3:wI ((k:Int)+1)=((k+1:Nat):Int):=by rw[Xe ab ab];simp
   rw[z,Wc,X1 ab ab,Xa,A,X1 ab ab,Xa,e3];refine Xhm y i N ws p h (by unfold BIG;omega) n (k+1) _ ab ab ?_;rw[q];simp only[Int.toNat_natCast];apply List.ext_getElem?;intro j;have e:(l.take (k+1)).length=k+1:=by simp only[Ws];omega
   rw[U5,Zv ab,Xf2 ab,Xf2 ab,g,e];by_cases r:i+k=j
   .subst r;rw[Wm rfl,Wm ab,Wm ab,Ur,Wm ab,I6,Wb x]
   rw[Wj r];by_cases f:i<=j/\j<i+k
   .rw[Wm f,Wm ab,Ur,Ur,Wm ab,Wm ab]
   rw[Wj f,Wj ab]
  grind
def Yt(ws:List Int)(a:Int)(k:Nat):Prop:=4096<=a/\a+k<=4096+ws.length
instance(ws:List Int)(a:Int)(k:Nat):Decidable (Yt ws a k):=by unfold Yt;infer_instance
def ZQ{ws l:List Int}(e:ws.length<=BIG)(j:l.length<=BIG){N:Nat}(hN:l.length<N)(a:Int):Qci N ws a l=some (if Yt ws a l.length then(ovr ws l (ix a),0)else([],2)):=by
 simp only[Qci];rw[XcR e N a _ (by unfold BIG at j;omega),Xa];by_cases h:Yt ws a l.length
 .have f:4096<=a/\a<=4096+ws.length:=by unfold Yt at h;omega
  have g:a+(l.length:Int)<=4096+ws.length:=by unfold Yt at h;omega
  simp only[Wm h,Wm f,g,decide_true,Wi,Wa];rw[Xb (by unfold BIG at e;omega)];have:=Xhm (l:=l) (a-4096,true) (ix a) N ws (by unfold ix;omega) (by unfold ix;omega) e N 0 ws ab ab (by simp[ovr]);rw[show((0:Nat):Int)=0 from rfl]at this;rw[this,Xa]
 by_cases f:4096<=a/\a<=4096+ws.length
 .have g:¬a+(l.length:Int)<=4096+ws.length:=by unfold Yt at h;omega
  simp only[Wj h,Wm f,g,decide_false,Ub,Wc]
 grind
def KE{ws:List Int}(g:ws.length<=BIG){N:Nat}(hN:1<N)(a v:Int):QdG N ws a v=some (if inW ws a then(ws.set (ix a) v,0)else([],2)):=by
 simp only[QdG];rw[ZQ (l:=[v]) g (by unfold BIG;simp) ab,Xa];by_cases h:inW ws a
 .have f:Yt ws a [v].length:=by unfold inW at h;unfold Yt;simp only[Ul,IQ];omega
  simp only[Wm h,Wm f];unfold ovr;have e:ix a<ws.length:=by unfold inW at h;unfold ix;omega
  simp[List.set_eq_take_append_cons_drop,e]
 have f:¬Yt ws a [v].length:=by unfold inW at h;unfold Yt;simp only[Ul,IQ];omega
 simp_all
def XcS{ws:List Int}(g:ws.length<=BIG)(N:Nat)(a:Int)(k:Nat)(q:k<=1000000000):Qc8 N ws a (k:Int)=some (if Yt ws a k then((ws.drop (ix a)).take k,0)else([],2)):=by
 simp only[Qc8];have j:decide ((k:Int)<0)=false:=We ab;rw[j,Wa,XcR g N a _ ab,Xa];unfold BIG at g;by_cases h:Yt ws a k
 .have e:4096<=a/\a<=4096+ws.length:=by unfold Yt at h;omega
  have f:a+(k:Int)<=4096+ws.length:=by unfold Yt at h;omega
  simp only[Wm h,Wm e,f,decide_true,Wi,Wa];rw[Xe (n:=a-4096+(k:Int)) ab ab,Xb ab,Xb ab];have p:(a-4096+(k:Int)).toNat-(a-4096).toNat=k:=ab;rw[p];rfl
 by_cases e:4096<=a/\a<=4096+ws.length
 .have f:¬a+(k:Int)<=4096+ws.length:=by unfold Yt at h;omega
  simp only[Wj h,Wm e,f,decide_false,Ub,Wc]
 grind
def Xf3{ws:List Int}(j:ws.length<=BIG){N:Nat}(f a:Int)(k:Nat)(p:k<=1000000000)(hN:k<N):Qfx N ws f a (k:Int) =
 some (if Yt ws a k/\Yt ws f k then(ovr ws ((ws.drop (ix a)).take k) (ix f),0)else([],2)):=by
 simp only[Qfx];rw[XcS j N a k p,Xa];by_cases h:Yt ws a k
 .have e:((ws.drop (ix a)).take k).length=k:=by unfold Yt at h;simp[ix];omega
  simp only[Wm h];rw[show((0:Int) != 0)=false from rfl,Wa,ZQ j (by unfold BIG;omega) (by rw[e];exact hN),Xa,e];by_cases g:Yt ws f k
  .rw[Wm g,Wm ⟨h,g⟩]
  rw[Wj g,Wj (λq=>g q.2)]
 simp_all
def XC(d:Wy):Bool:=decide (0<=d.k/\d.k<=3/\0<=d.n/\d.n<=255)&&(if d.k=1 then decide (d.n<=32)&&decide (d.Map % 18446744073709551616<2 ^ d.n.toNat)else decide (d.Map=0))
def ZD(N:Nat)(d:Wy):QcY N d=some (XC d):=by
 simp only[QcY,UM,XC];by_cases f:d.k<0
 .rw[Wm f,We ab,UK]
 rw[Wj f];by_cases g:d.k>3
 .rw[Wm g,We ab,UK]
 rw[Wj g];by_cases h:d.n<0
 .rw[Wm h,We ab,UK]
 rw[Wj h];by_cases j:d.n>255
 .rw[Wm j,We ab,UK]
 rw[Wj j,Wg (p:=0<=d.k/\d.k<=3/\0<=d.n/\d.n<=255) ab,Uf];by_cases q:d.k=1
 .rw[Wm q,q,show((1:Int) != 1)=false from rfl,Wa];by_cases e:d.n<=32
  .rw[Wm e,Xt (n:=d.n) ab ab,Xb ab,Xnz ab ab,Xcv,Wg e,Uf]
  rw[Wj e,We e,UK]
 grind
def XD{d:Wy}(h:XC d=true):0<=d.k/\d.k<=3/\0<=d.n/\d.n<=255:=by unfold XC at h;simp_all
def XB(d:Wy):Int:=if XC d then d.n+1 else 0
def XQ(N:Nat)(d:Wy):QcL N d=some (XB d):=by
 simp only[QcL,ZD,Xa,XB];cases h:XC d with
 |false=>rfl
 |true=>have:=XD h;simp[Xe (n:=d.n+1) ab ab]
def XnB(d:Wy):0<=XB d/\XB d<=256:=by
 unfold XB;split
 .rename_i h;have:=XD h;omega
 omega
def Zw(d:Wy):Int:=wU (wU (wU (1+wU (4*wU d.k))+wU (16*wU d.n))+Ke .u64 (wU d.Map) 16)
def KU(N:Nat)(d:Wy):Qcy N d=some (if XC d then(Zw d,0)else(0,1)):=by simp only[Qcy,ZD,Xa];cases h:XC d<;>rfl
def Xb2(w:Int):Wy:=⟨wI (Y6 .u64 (Yy .u64 w 2) 3),wI (Y6 .u64 (Yy .u64 w 4) 4095),wW (Yy .u64 w 16)⟩
def okH(w:Int):Bool:=XC (Xb2 w)&&(Zw (Xb2 w)==w)
def Zd(w:Int):Wy:=if okH w then Xb2 w else⟨0,0,0⟩
def ZE(N:Nat)(w:Int):Qcz N w=some (Zd w,okH w):=by simp only[Qcz];rw[KU N (Wy.mk _ _ _),Xa];unfold Zd okH Xb2;grind
def ZX(w:Int):XC (Zd w)=true:=by
 unfold Zd;split
 .rename_i h;unfold okH at h;simp_all
 rfl
def Xe7(w:Int):XB (Zd w)=(Zd w).n+1/\1<=XB (Zd w)/\XB (Zd w)<=256:=by have h:=ZX w;have:=XD h;unfold XB;grind
def Kg(d:Wy)(i:Int):Bool:=XC d&&(decide (0<=i/\i<d.n)&&(decide (d.k=2)||(decide (d.k=1)&&(Y6 .u32 (Yy .u32 d.Map (wU i)) 1==1))))
def KV(N:Nat)(d:Wy)(i:Int):Qby N d i=some (Kg d i):=by
 simp only[Qby,ZD,Xa,Kg,UM];cases h:XC d with
 |false=>rfl
 |true=>
  simp only[Wi,Wa,Uf];by_cases e:i<0
  .rw[Wm e,We ab,UK]
  rw[Wj e];by_cases f:i>=d.n
  .rw[Wm f,We ab,UK]
  rw[Wj f,Wg (p:=0<=i/\i<d.n) ab,Uf,Xb (VZ i).1];grind
def X4(d:Wy):Nat->Int->List Int
 |0,_=>[]
 |k+1,i=>(if Kg d i then[i]else[])++X4 d k (i+1)
def XJ(d:Wy):List Int:=if XC d then X4 d d.n.toNat 0 else[]
def KW{d:Wy}:∀{k:Nat} {i x:Int},x∈X4 d k i->i<=x/\x<i+k/\Kg d x=true
 |0,i,x,h=>by simp_all[X4]
 |k+1,i,x,h=>by
  simp only[X4,Wr]at h;rcases h with h|h
  .grind
  have:=KW h;grind
def Vr{d:Wy}:∀{k:Nat} {i:Int},(X4 d k i).length<=k
 |0,i=>by simp[X4]
 |k+1,i=>by have:=Vr (d:=d) (k:=k) (i:=i+1);grind[X4,WK]
def V3(N:Nat)(d:Wy)(f:XC d=true):∀(n:Nat) (i:Int) (v:List Int),0<=i->i<=d.n->(d.n-i).toNat<n->v.length<=1000-(d.n-i).toNat->v.length+(d.n-i).toNat<=1000 ->
 Qb5 N d n i v=some (v++X4 d (d.n-i).toNat i)
 |0,i,v,_,_,h,_,_=>by omega
 |n+1,i,v,j,p,q,r,s=>by
  have hb:=XD f;rw[Qb5];by_cases h:i<d.n
  .obtain⟨k,g⟩:∃k,(d.n-i).toNat=k+1:=⟨(d.n-i).toNat-1,ab⟩
   have e:(d.n-(i+1)).toNat=k:=ab;rw[Wg h,Wc,ZD,Xa,f,Wc,KV,Xa,g,Xe (n:=i+1) ab ab];simp only[X4];cases hp:Kg d i with
   |true=>rw[Wc,Xb ab,V3 N d f n (i+1) _ ab ab ab (by grind) (by grind),e];simp
   |false=>rw[Wa,V3 N d f n (i+1) _ ab ab ab ab ab,e];simp
  rw[We h,Wa,show(d.n-i).toNat=0 by omega];simp[X4]
def XdA{N:Nat}(hN:300<N)(d:Wy):Qfj N d=some (XJ d):=by
 simp only[Qfj,XJ];cases e:XC d with
 |true=>have hb:=XD e;rw[V3 N d e N 0 [] ab ab ab ac (by grind),Xa];simp
 |false=>
  obtain⟨n,rfl⟩:∃n,N=n+1:=⟨N-1,ab⟩
  simp[Qb5,ZD,Xa,e,Wa]
def Xbw(w:Int):Bool:=decide (w.tmod 4=2)&&decide (Yy .u64 w 2<4294967296)
def Kr(N:Nat)(w:Int):QcA N w=some (if Xbw w then(Yy .u64 w 2,true)else(0,false)):=by simp only[QcA,Xbw,UM];grind
def Vs(N:Nat)(a:Int):QcP N a=some (if a>=4294967296 then(0,1)else(wU (wU (4*a)+2),0)):=by simp only[QcP,UM];grind
def XU(c:WP):Bool:=decide (16<=c.W/\c.W<=64/\c.W % 4=0/\8<=c.p/\c.p<=64)
theorem Xh{c:WP}:XU c=true↔16<=c.W/\c.W<=64/\c.W % 4=0/\8<=c.p/\c.p<=64:=by simp[XU]
def Zg(N:Nat)(c:WP):QaT N c=some (XU c):=by simp only[QaT,UM,XU];grind
def Xb3(c:WP):Int:=if XU c then c.p / 4 else 0
def Xf4(N:Nat)(c:WP):QfT N c=some (Xb3 c):=by
 simp only[QfT,Zg,Xa,Xb3];cases h:XU c with
 |false=>rfl
 |true=>have:=Xh.1 h;simp;rw[UW ab,Xe ab ab]
def smC(c:WP):Int:=if XU c then c.W / 4 else 0
def Xhn(N:Nat)(c:WP):Qdu N c=some (smC c):=by
 simp only[Qdu,Zg,Xa,smC];cases h:XU c with
 |false=>rfl
 |true=>have:=Xh.1 h;simp;rw[UW ab,Xe ab ab]
def Xx(c:WP)(w:Int):Int:=
 if XU c=true/\1<=w then(if w<=c.W / 4 then 0 else if c.W>=w then 1 else if 2*c.W>=w then 2 else if 3*c.W>=w then 3 else if 4*c.W>=w then 4 else -1)else -1
def XcT(N:Nat)(c:WP)(w:Int)(e:XU c=true)(k:Int)(f:1<=k/\k<=4)(n:Nat):QcK N c w (n+1) k=if k*c.W>=w then some (.ret k)else QcK N c w n (k+1):=by
 have h:=Xh.1 e;have g:0<=k*c.W/\k*c.W<=256:=by
  constructor
  .exact Int.mul_nonneg ab ab
  have:=Int.mul_le_mul (a:=k) (b:=c.W) (c:=4) (d:=64) ab ab ab ab;omega
 rw[QcK,Wg ab,Wc,UM,Xe (n:=k*c.W) ab ab,Xe (n:=k+1) ab ab]
def KX{N:Nat}(hN:10<=N)(c:WP)(w:Int):QeT N c w=some (Xx c w):=by
 simp only[QeT,Zg,Xhn,Xa,Xx,smC];cases e:XU c with
 |false=>simp
 |true=>
  simp only[Wi,Wa,if_true,UM];by_cases g:w<1
  .rw[Wm g,Wj (show¬(True/\1<=w)fromλh=>ab)]
  rw[Wj g,Wm (show True/\1<=w from⟨trivial,ab⟩)];by_cases f:w<=c.W / 4
  .rw[Wm f,Wm f]
  rw[Wj f,Wj f];obtain⟨n,rfl⟩:∃n,N=n+5:=⟨N-5,ab⟩
  rw[XcT _ c w e 1 ab,XcT _ c w e (1+1) ab,XcT _ c w e (1+1+1) ab,XcT _ c w e (1+1+1+1) ab];rw[show QcK (n+5) c w (n+1) (1+1+1+1+1)=some (.nxt ()) by rw[QcK,We ab,Wa]];simp;by_cases j:c.W>=w
  .simp only[Wm j,Xa,Xq]
  simp only[Wj j];by_cases k:2*c.W>=w
  .simp only[Wm k,Xa,Xq]
  simp only[Wj k];by_cases p:3*c.W>=w
  .simp only[Wm p,Xa,Xq]
  simp only[Wj p];by_cases q:4*c.W>=w
  .simp only[Wm q,Xa,Xq]
  simp[Wj,q,Xa,Xl]
def Xbx(c:WP)(w:Int):-1<=Xx c w/\Xx c w<=4:=by unfold Xx;omega
def XE{c:WP}(e:XU c=true){i:Int}(f:0<=i)(g:i<c.p):0<=i*c.W/\i*c.W+c.W<=c.p*c.W/\c.p*c.W<=4096:=by
 have h:=Xh.1 e;refine⟨Int.mul_nonneg f ab,?_,?_⟩
 .have:=WW (a:=i+1) (b:=c.p) (c:=c.W) ab ab;grind
 have:=Int.mul_le_mul (a:=c.p) (b:=c.W) (c:=64) (d:=64) ab ab ab ab;omega
def Xc(c:WP)(p o:Int):Int:=4096+p*c.W+o
def Z7(N:Nat)(c:WP)(p o:Int):Qbx N c p o=some (if XU c=false then(0,1)else if 0<=p/\p<c.p/\0<=o/\o<c.W then(Xc c p o,0)else(0,2)):=by
 simp only[Qbx,Zg,Xa,UM];cases e:XU c with
 |false=>simp
 |true=>
  rw[Wj (show¬(true=false) by simp)];by_cases f:p<0
  .grind
  rw[Wj f];by_cases g:p>=c.p
  .grind
  rw[Wj g];by_cases h:o<0
  .grind
  rw[Wj h];by_cases j:o>=c.W
  .simp_all
  rw[Wj j,Wm ab];have k:=XE e (i:=p) ab ab;rw[Xe (n:=p*c.W) ab ab,Xe (n:=4096+p*c.W) ab ab,Xe (n:=4096+p*c.W+o) ab ab,Xt ab ab];rfl
def KR(N:Nat)(c:WP)(a:Int):Qca N c a=some (if XU c=false then(0,0,1)else if 4096<=a/\a<4096+c.p*c.W then((a-4096) / c.W,(a-4096) % c.W,0)else(0,0,2)):=by
 simp only[Qca,Zg,Xa,UM];cases e:XU c with
 |false=>simp
 |true=>
  have h:=Xh.1 e;have k:=XE e (i:=0) ab ab;simp only[Wi,Wa];rw[Wj (show¬(true=false) by simp)];rw[Xe (n:=c.p*c.W) ab ab,Xe (n:=4096+c.p*c.W) ab ab,Xt (n:=4096+c.p*c.W) ab ab];by_cases f:a<4096
  .grind
  rw[Wj f];by_cases g:a>=4096+c.p*c.W
  .simp_all
  rw[Wj g,Wm ab,Xb ab,Xb ab];rw[Xt (n:=a-4096) ab ab,Xe (n:=a-4096) ab ab,UW ab,IL ab];have hd:0<=(a-4096) / c.W:=Int.ediv_nonneg ab ab;have j:(a-4096) / c.W<=a-4096:=Int.ediv_le_self _ ab;rw[Xe ab ab]
def Xf5{c:WP}(e:XU c=true){a:Int}(f:4096<=a)(g:a<4096+c.p*c.W):
 0<=(a-4096) / c.W/\(a-4096) / c.W<c.p/\0<=(a-4096) % c.W/\(a-4096) % c.W<c.W/\a=Xc c ((a-4096) / c.W) ((a-4096) % c.W):=by have h:=Xh.1 e;refine⟨Int.ediv_nonneg ab ab,Int.ediv_lt_of_lt_mul ab ab,Int.emod_nonneg _ ab,Int.emod_lt_of_pos _ ab,?_⟩;have:=Int.mul_ediv_add_emod (a-4096) c.W;unfold Xc;grind
def Xqy{c:WP}(h:XU c=true){p o:Int}(f:0<=o)(g:o<c.W):(Xc c p o-4096) / c.W=p/\(Xc c p o-4096) % c.W=o:=by
 have e:Xc c p o-4096=o+c.W*p:=by unfold Xc;rw[Int.mul_comm p];omega
 rw[e,Int.add_mul_ediv_left _ _ ab,Int.add_mul_emod_self_left,Int.ediv_eq_zero_of_lt f g,Int.emod_eq_of_lt f g];omega
def Y3:Wp:=⟨0,0,0,0⟩
def pg(ps:List Wp)(i:Int):Wp:=ps.getD i.toNat Y3
def Yv{ps:List Wp}{i:Int}{p:Wp}(h:Xd ps i=some p):pg ps i=p:=by have:=(Kx.1 h).2;simp[pg,this]
def Xn{ps:List Wp}{i:Int}(e:0<=i)(f:i<ps.length):Xd ps i=some (pg ps i):=by rw[X1 e f];have:i.toNat<ps.length:=ab;simp[pg,List.getD,this]
def Xho(N:Nat)(ps:List Wp)(sp:Int)(w:ps.length<=BIG):∀(n:Nat) (c i:Int),0<=i->0<=c->c<=BIG*2->i<=BIG*2->(ps.length:Int)+c-i<=BIG*2->(ps.length-i).toNat<n ->
 Ok (Qdv N ps sp n c i) λr=>c<=r/\∀m,0<=m->m<r-c->i+m<ps.length/\(pg ps (i+m)).k=3
 |0,c,i,_,_,_,_,_,h=>by omega
 |n+1,c,i,g,x,q,y,z,A=>by
  unfold BIG at *;refine Wn (λh=>?_) λh=>Wd ⟨Uu _,λm e f=>ab⟩;have e:i<ps.length:=by simpa using h
  refine Ok.get g e λp hp=>Wn (λj=>?_) λj=>Wd ⟨Uu _,λm e f=>ab⟩;refine Ok.get g e λB s=>Wn (λu=>?_) λj=>Wd ⟨Uu _,λm e f=>ab⟩;rw[Xe (n:=c+1) ab ab,Xe (n:=i+1) ab ab];refine(Xho N ps sp ah n (c+1) (i+1) ab ab (by unfold BIG;omega) (by unfold BIG;omega) (by unfold BIG;omega) ab).mono λr v=>⟨ab,λm f D=>?_⟩
  by_cases E:m=0
  .simp_all[Int.add_zero,Yv,hp]
  have:=v.2 (m-1) ab ab;grind
def XnC{N:Nat}{ps:List Wp}(sp i:Int)(f:ps.length<N)(e:ps.length<=100000000)(g:0<=i)(j:i<=100000000):Ok (Qe3 N ps i sp) λr=>0<=r/\∀m,1<=m->m<=r->i+m<ps.length/\(pg ps (i+m)).k=3:=by rw[Qe3,Xe (n:=i+1) ab ab];refine WJ (Xho N ps sp (by unfold BIG;omega) N 0 (i+1) ab ab ab (by unfold BIG;omega) (by unfold BIG;omega) ab) λr _ h=>Wd ⟨h.1,λm p q=>?_⟩;have:=h.2 (m-1) ab ab;grind
def Xf6(N:Nat)(n:Int):QgR N n=some (decide (0<=n/\n<=2147483647)):=by simp only[QgR,UM];grind
structure Sb(h:Wh)(i:Int):Prop where
 kind:0<=(pg h.p i).k/\(pg h.p i).k<=3
 space:0<=(pg h.p i).s/\(pg h.p i).s<=1
 pins:0<=(pg h.p i).P/\(pg h.p i).P<=2147483647
 free:(pg h.p i).k=0->pg h.p i=Y3
 small:(pg h.p i).k=1->0<=(pg h.p i).u/\(pg h.p i).u<=h.c.W
 large:(pg h.p i).k=2->1<=Xx h.c (pg h.p i).u/\∀m,1<=m->m<Xx h.c (pg h.p i).u->i+m<h.p.length/\(pg h.p (i+m)).k=3
structure Uv(h:Wh):Prop where
 conf:XU h.c=true
 words:(h.w.length:Int)=h.c.p*h.c.W
 pages:(h.p.length:Int)=h.c.p
 space:0<=h.s/\h.s<=1
 bump:h.b = -1\/(0<=h.b/\h.b<h.p.length/\(pg h.p h.b).k=1)
 pgs:∀i:Int,0<=i->i<h.p.length->Sb h i
 first:(pg h.p 0).k≠3
def PL(h:Wh)(i:Int):Ex Bool Unit->Prop
 |.ret a=>a=false
 |.nxt _=>(∀j,i<=j->j<h.p.length->Sb h j)/\(i=0->(0:Int)<h.p.length->(pg h.p 0).k≠3)
def Xe8{N:Nat}{h:Wh}(B:XU h.c=true)(hN:100000<N)(K:(h.p.length:Int)=h.c.p):∀(n:Nat) (due i:Int),0<=i->0<=due->due<=4->(h.p.length-i).toNat<n->(i=0->due=0) ->
 Ok (QaB N h n due i) (PL h i)
 |0,due,i,_,_,_,L,_=>by omega
 |n+1,due,i,D,hd,g,L,M=>by
  have Z:=Xh.1 B;refine Wn (λE=>?_) λE=>Wd ⟨λj O k=>?_,λR q=>?_⟩;rotate_left
  .grind
  .grind
  have x:i<h.p.length:=by simpa using E
  refine Ok.get D x λp hp=>?_;have y:=Yv hp;refine Wn (λ_=>Wd rfl) λg1=>?_;refine Wn (λ_=>Wd rfl) λg2=>?_;refine Wn (λ_=>Wd rfl) λg3=>?_;rw[Xf6,Xa];refine Wn (λ_=>Wd rfl) λg4=>?_;simp at g1 g2 g3 g4;have next:∀(f:Int),0<=f->f<=4->Sb h i->Ok (QaB N h n (if 0<wI (f-1)then wI (f-1)else 0) (wI (i+1))) (PL h i):=by
   intro f S U z;rw[Xe (n:=i+1) ab ab,Xe (n:=f-1) ab ab];refine(Xe8 B hN K n _ (i+1) ab ab ab ab ab).mono λe G=>?_;cases e with
   |ret a=>exact G
   |nxt b=>
   have⟨k1,k2⟩:=G;refine⟨λj O k=>?_,λR q hk=>?_⟩
   .by_cases A:j=i
    .subst A;exact z
    exact k1 j ab k
   simp_all
  refine Is ?_;refine Wn (λV=>Wn (λ_=>Wd rfl) λr=>?_) λV=>Is (Wn (λr=>Wn (λ_=>Wd rfl) λI=>Wn (λ_=>Wd rfl) λw=>?_) λr=>Is (Wn (λI=>?_) λI=>Wn (λw=>Wn (λ_=>Wd rfl) λJ=>Wn (λ_=>Wd rfl) λq5=>?_) λw=>Wd rfl))
  .refine next due hd g ?_
   simp at r;have v:pg h.p i=Y3:=by rw[y];cases p;simp only at r;obtain⟨rfl,rfl,rfl,rfl⟩:=r;rfl
   refine⟨by rw[v];decide,by rw[v];decide,by rw[v];decide,λ_=>v,λe=>?_,λe=>?_⟩
   .rw[v]at e;cases e
   simp_all
  .refine next due hd g ?_
   exact⟨by simp_all,by simp_all,by simp_all,λe=>by simp_all,λ_=>by simp_all,λe=>by simp_all⟩
  .rw[KX ab,Xa];refine Wn (λ_=>Wd rfl) λw=>?_;refine WJ (XnC (N:=N) (ps:=h.p) p.s i ab ab D ab) λt _ ht=>?_;refine Wn (λ_=>Wd rfl) λJ=>?_;have hr:=Xbx h.c p.u;have W:1<=Xx h.c p.u:=by have:=WM w;omega
   have Y:Xx h.c p.u-1<=t:=by have:=WM J;rw[Xe ab ab]at this;omega
   refine next _ ab ab ?_
   exact⟨by simp_all,by simp_all,by simp_all,λe=>by simp_all,λe=>by simp_all,λ_=>by grind⟩
  refine next due hd g ?_
  exact⟨by simp_all,by simp_all,by simp_all,λe=>by simp_all,λe=>by simp_all,λe=>by simp_all⟩
def YK{N:Nat}(hN:100000<N){h:Wh}(hw:h.w.length<=100000)(hp:h.p.length<=100000):Ok (Qaa N h) λb=>b=true->Uv h:=by
 rw[Qaa,Zg,Xa];refine Wn (λ_=>Wd λe=>by cases e) λg1=>?_;have f:XU h.c=true:=by simpa using g1
 have A:=Xh.1 f;have B:=XE f (i:=0) ab ab;refine Wn (λ_=>Wd λe=>by cases e) λg2=>?_;refine Wn (λ_=>Wd λe=>by cases e) λg3=>?_;refine Wn (λ_=>Wd λe=>by cases e) λg4=>?_;refine Wn (λ_=>Wd λe=>by cases e) λg5=>?_;have v:(h.w.length:Int)=h.c.p*h.c.W:=by
  have:(h.w.length:Int)=wI (h.c.p*h.c.W):=by simpa using g2
  rwa[Xe ab ab]at this
 have e3:(h.p.length:Int)=h.c.p:=by simpa using g3
 have e4:0<=h.s/\h.s<=1:=⟨by simpa using g4,by simpa using g5⟩
 have main:(h.b = -1\/(0<=h.b/\h.b<h.p.length/\(pg h.p h.b).k=1))->Ok (bnd (QaB N h N 0 0) λe=>exK e (λr=>some r) λx=>some true) λb=>b=true->Uv h:=by
  intro hb;refine I4 (Xe8 (N:=N) (h:=h) f hN e3 N 0 0 ab ab ab ab ab) (λa g=>?_) λb g=>Wd λ_=>?_
  .have y:a=false:=g;subst y;exact Wd λe=>by cases e
  have⟨k1,k2⟩:=g;exact⟨f,v,e3,e4,hb,k1,k2 rfl ab⟩
 refine Is (Wn (λj=>Wn (λ_=>Wd λe=>by cases e) λb2=>Wn (λ_=>Wd λe=>by cases e) λz=>?_) λj=>main (.inl (by simpa using j)));have q:0<=h.b:=by simpa using b2
 have u:h.b<h.p.length:=by simpa using z
 refine Ok.get q u λp hp=>Wn (λ_=>Wd λe=>by cases e) λD=>main (.inr ⟨q,u,?_⟩);rw[Yv hp];grind
def dlt{a b:Int}(h:decide (a<b)=true):a<b:=Ww h
def YW{ps:List Wp}{i j:Int}(p:Wp)(f:0<=i)(e:i<ps.length)(g:0<=j):pg (ps.set i.toNat p) j=if j=i then p else pg ps j:=by unfold pg;grind
def XdB(N:Nat)(ps:List Wp)(e:ps.length<=100000000):∀(n:Nat) (c i:Int),0<=i->0<=c->c<=i->i<=ps.length->(ps.length-i).toNat<n->Ok (QbG N ps n c i) λr=>0<=r/\r<=ps.length
 |0,c,i,_,_,_,_,h=>by omega
 |n+1,c,i,f,g,j,q,s=>by
  refine Wn (λh=>?_) λh=>Wd ⟨g,ab⟩;have k:i<ps.length:=dlt h;refine Ok.get f k λp hp=>?_;rw[Xe (n:=c+1) ab ab,Xe (n:=i+1) ab ab];refine Wn (λ_=>?_) λ_=>?_
  .exact XdB N ps e n (c+1) (i+1) ab ab ab ab ab
  exact XdB N ps e n c (i+1) ab ab ab ab ab
def XdC{N:Nat}{ps:List Wp}(e:ps.length<=100000000)(hN:ps.length<N):Ok (Qc1 N ps) λr=>0<=r/\r<=ps.length:=
 WJ (XdB N ps e N 0 0 ab ab ab ab ab) λr _ h=>Wd h
def RunOK(ps:List Wp)(i k:Int):Prop:=0<=i/\1<=k/\i+k<=ps.length/\∀m,0<=m->m<k->(pg ps (i+m)).k=0
def XcU(N:Nat)(ps:List Wp)(x:ps.length<=100000000):∀(n:Nat) (i:Int) (rs:List OA),0<=i->i<=ps.length->(ps.length-i).toNat<n->rs.length<=i->(∀r∈rs,RunOK ps r.O r.Len) ->
 Ok (Qbz N ps n i rs) λout=>out.length<=ps.length/\(∀r∈out,RunOK ps r.O r.Len)/\(out=[]->rs=[]/\∀j,i<=j->j<ps.length->(pg ps j).k≠0)
 |0,i,rs,_,_,h,_,_=>by omega
 |n+1,i,rs,B,M,R,D,s=>by
  refine Wn (λh=>?_) λh=>Wd ⟨ab,s,λe=>⟨e,λj _ _=>by have:=WM h;omega⟩⟩;have v:i<ps.length:=dlt h;refine Ok.get B v λp hp=>?_;have G:=Yv hp;rw[Xe (n:=i+1) ab ab];refine Wn (λI=>(XcU N ps x n (i+1) rs ab ab ab ab s).mono λout ⟨a,b,c⟩=>⟨a,b,λe=>⟨(c e).1,λj S J=>by by_cases U:j=i;{grind};exact(c e).2 j ab J⟩⟩) λI=>?_;have new:Ok (grd ((rs.length+1)*16<=140737488355328) (Qbz N ps n (i+1) (rs++[OA.mk i 1]))) λout=>out.length<=ps.length/\(∀r∈out,RunOK ps r.O r.Len)/\(out=[]->rs=[]/\∀j,i<=j->j<ps.length->(pg ps j).k≠0):=by
   refine Ue ab ((XcU N ps x n (i+1) _ ab ab ab (by simp_all) λr g=>?_).mono λout ⟨a,b,c⟩=>⟨a,b,λe=>by have:=(c e).1;simp at this⟩);rcases Wr.1 g with g|g
   .simp_all
   have:r=OA.mk i 1:=by simpa using g
   subst this;refine⟨B,by show(1:Int)<=1;omega,by show i+1<=_;omega,λm v K=>?_⟩;grind
  refine Ue ab (Is (Wn (λu=>?_) λ_=>new));have u:0<(rs.length:Int):=Ww u;rw[Xe (n:=(rs.length:Int)-1) ab ab];refine Ok.get ab ab λq w=>Ok.get ab ab λq' y=>?_;obtain rfl:q=q':=Wz (w.symm.trans y);have f:=s q (Yr w);have hb:=f.2.2.1;rw[Xe (n:=q.O+q.Len) (by have:=f.1;have:=f.2.1;omega) ab];refine Wn (λE=>?_) λ_=>new;have E:q.O+q.Len=i:=by simpa using E
  refine Ok.get ab ab λq2 z=>Ok.get ab ab λq3 A=>?_;obtain rfl:q=q2:=Wz (w.symm.trans z);obtain rfl:q=q3:=Wz (w.symm.trans A);have:=f.1;have:=f.2.1;rw[Xe (n:=q.Len+1) ab ab];refine(XcU N ps x n (i+1) _ ab ab ab (by grind) λr g=>?_).mono λout ⟨a,b,c⟩=>⟨a,b,λe=>by have:=congrArg List.length (c e).1;simp at this;simp_all⟩
  rcases W0 g with g|g
  .simp_all
  subst g;refine⟨f.1,by show 1<=q.Len+1;omega,by show q.O+(q.Len+1)<=_;omega,λm v K=>?_⟩;by_cases L:m<q.Len
  .exact f.2.2.2 m v L
  grind
def Xj6{N:Nat}{ps:List Wp}(f:ps.length<=100000000)(hN:ps.length<N):Ok (Qgj N ps) λout=>out.length<=ps.length/\(∀r∈out,RunOK ps r.O r.Len)/\(out=[]->∀j:Int,0<=j->j<ps.length->(pg ps j).k≠0):=
 WJ (XcU N ps f N 0 [] ab ab ab ac ac) λr _ h=>Wd ⟨h.1,h.2.1,λe=>(h.2.2 e).2⟩
def RunOK.less{ps:List Wp}{i k j:Int}(h:RunOK ps i k)(e:1<=j)(f:j<=k):RunOK ps i j:=⟨h.1,e,by have:=h.2.2.1;omega,λm a b=>h.2.2.2 m a ab⟩
def Xhp(N:Nat)(ps:List Wp)(k:Int)(rs:List OA)(w:rs.length<=100000000)(g:∀r∈rs,RunOK ps r.O r.Len):∀(n:Nat) (i:Int),0<=i->i<=rs.length->(rs.length-i).toNat<n ->
 Ok (QbF N k rs n i) λe=>(∀a,e=.ret a->RunOK ps a k)/\(∀u,e=.nxt u->k=1->i=rs.length)
 |0,i,_,_,h=>by omega
 |n+1,i,s,x,y=>by
  refine Wn (λh=>?_) λh=>Wd ⟨λa e=>by grind,λ_ _ _=>by have:=WM h;omega⟩;have v:i<rs.length:=dlt h;rw[Xe (n:=i+1) ab ab];have next:=Xhp N ps k rs w g n (i+1) ab ab ab
  refine Wn (λj=>?_) λj=>next.mono λe h=>⟨h.1,λ_ _ _=>by have:=WM j;omega⟩
  refine Ok.get s v λp hp=>Wn (λf=>?_) λf=>next.mono λe h=>⟨h.1,λ_ _ _=>by have:=WM f;have:=(g p (Yr hp)).2.1;omega⟩
  refine Ok.get s v λp' q=>Wd ⟨λa e=>?_,λ_ e=>by cases e⟩;obtain rfl:p=p':=Wz (hp.symm.trans q);cases e;have j:1<=k:=Ww j;have f:k<=p.Len:=Ww f;exact(g p (Yr hp)).less j f
def Xe9{N:Nat}{ps:List Wp}(k:Int)(f:ps.length<=100000000)(hN:ps.length<N):Ok (Qbo N ps k) λi=>i = -1/\(k=1->∀j:Int,0<=j->j<ps.length->(pg ps j).k≠0)\/RunOK ps i k:=by refine WJ (Xj6 f hN) λrs _ h=>?_;refine I4 (Xhp N ps k rs ab h.2.1 N 0 ab ab ab) (λa q=>Wd (.inr (q.1 a rfl))) λ_ q=>Wd (.inl ⟨rfl,λe=>h.2.2 ?_⟩);have:=q.2 _ rfl e;exact WG ab
def KF{N:Nat}{ps:List Wp}(k:Int)(e:ps.length<=100000000)(hN:ps.length<N):Ok (Qbo N ps k) λi=>i = -1\/RunOK ps i k:=(Xe9 k e hN).mono λ_ h=>h.imp And.left id
def Taken(ps out:List Wp)(i k:Int)(first rest:Wp):Prop:=out.length=ps.length/\∀j,0<=j->pg out j=if j=i then first else if i<=j/\j<i+k then rest else pg ps j
def Xj7(N:Nat)(ps:List Wp)(i k:Int)(f r:Wp)(A:ps.length<=100000000)(B:0<=i)(D:i+k<=ps.length):∀(n:Nat) (m:Int) (v:List Wp),0<=m->(m<=k\/m=0)->(k-m).toNat<n->v.length=ps.length->(∀j,0<=j->pg v j=if i<=j/\j<i+m then r else pg ps j) ->
 Ok (QdZ N i k f r n m v) λe=>(∀o,e=.nxt o->o.length=ps.length/\∀j,0<=j->pg o j=if i<=j/\j<i+k then r else pg ps j)/\(∀o,e=.ret o->o.2=20/\o.1=[])/\((∀j,m<=j->j<k->(pg ps (i+j)).k=0)->∀o,e≠.ret o)
 |0,m,v,_,_,h,_,_=>by omega
 |n+1,m,v,I,J,K,y,q=>by
  refine Wn (λh=>?_) λh=>Wd ⟨λo e=>?_,λo e=>(by cases e),λ_ o e=>(by cases e)⟩;rotate_left
  .cases e;have:¬m<k:=WM h;refine⟨y,λj u=>?_⟩;rw[q j u];by_cases z:i<=j/\j<i+m
   .rw[Wm z,Wm ab]
   rw[Wj z,Wj ab]
  have E:m<k:=dlt h;rw[Xe (n:=i+m) ab ab,Xe (n:=m+1) ab ab];refine Ok.get ab ab λp hp=>?_;have w:p=pg ps (i+m):=by rw[←Yv hp,q _ ab,Wj ab]
  refine Wn (λs=>Wd ⟨λo e=>(by cases e),λo e=>(by cases e;exact⟨rfl,rfl⟩),λg=>?_⟩) λs=>?_
  .have:=g m ab E;rw[←w]at this;simp[this]at s
  refine Ok.get ab ab λL G=>?_;refine(Xj7 N ps i k f r A B D n (m+1) _ ab ab ab (by rw[WL];exact y) λj u=>?_).mono λe x=>⟨x.1,x.2.1,λg=>x.2.2 λj a b=>g j ab b⟩
  rw[YW r ab ab u,q j u];grind
def Xj8{N:Nat}{ps:List Wp}(i k:Int)(f r:Wp)(B:ps.length<=1000000)(hN:1000000<N)(y:1<=k)(z:k<=1000000):Ok (QdH N ps i k f r) λo=>(o.2=0->0<=i/\i+k<=ps.length/\Taken ps o.1 i k f r)/\(o.2≠0->o.1=[])/\(RunOK ps i k->o.2=0):=by
 refine Wn (λh=>Wd ⟨λe=>ab,λ_=>rfl,λg=>?_⟩) λv=>?_
 .have:=Ww h;have:=g.1;omega
 have v:¬i<0:=WM v;refine Wn (λh=>Wd ⟨λe=>ab,λ_=>rfl,λg=>?_⟩) λw=>?_
 .have:=Ww h;have:=g.2.2.1;omega
 have w:¬i>=(ps.length:Int):=WM w;rw[Xe (n:=(ps.length:Int)-i) ab ab];refine Wn (λh=>Wd ⟨λe=>ab,λ_=>rfl,λg=>?_⟩) λx=>?_
 .have:=Ww h;have:=g.2.2.1;omega
 have x:¬k>(ps.length:Int)-i:=WM x;refine Ue ab (I4 (Xj7 N ps i k f r ab ab ab N 0 ps ab ab ab rfl λj s=>(by grind)) (λa q=>?_) λo q=>?_)
 .have⟨A,u⟩:=q.2.1 a rfl;refine Wd ⟨λe=>ab,λ_=>u,λg=>?_⟩;exact absurd rfl (q.2.2 (λj a b=>g.2.2.2 j a b) a)
 have⟨A,u⟩:=q.1 o rfl;refine Ok.get ab ab λp hp=>Wd ⟨λ_=>⟨ab,ab,⟨by simp_all,λj s=>?_⟩⟩,λe=>absurd rfl e,λ_=>rfl⟩;rw[YW f ab ab s,u j s]
def XdD{N:Nat}{ps:List Wp}(i sp:Int)(k:ps.length<=1000000)(hN:1000000<N):Ok (QbX N ps i sp) λo=>(o.2=0->0<=i/\i+1<=ps.length/\Taken ps o.1 i 1 ⟨1,sp,0,0⟩ ⟨0,0,0,0⟩)/\(o.2≠0->o.1=[])/\(RunOK ps i 1->0<=sp->sp<=1->o.2=0):=by
 refine Wn (λh=>Wd ⟨λe=>ab,λ_=>rfl,λ_ g j=>?_⟩) λg=>?_
 .grind
 refine Wn (λh=>Wd ⟨λe=>ab,λ_=>rfl,λ_ g j=>?_⟩) λj=>?_
 .grind
 refine WJ (Xj8 i 1 ⟨1,sp,0,0⟩ ⟨0,0,0,0⟩ k hN ab ab) λy _ f=>Wd ⟨f.1,f.2.1,λp _ _=>f.2.2 p⟩
def XnD{N:Nat}{ps:List Wp}(c:WP)(i sp w:Int)(g:ps.length<=1000000)(hN:1000000<N):Ok (Qe6 N c ps i sp w) λo=>(o.2=0->0<=i/\i+Xx c w<=ps.length/\1<=Xx c w/\Taken ps o.1 i (Xx c w) ⟨2,sp,w,0⟩ ⟨3,sp,0,0⟩)/\(o.2≠0->o.1=[]):=by rw[Qe6,KX ab,Xa];refine Wn (λh=>Wd ⟨λe=>(by cases e),λ_=>rfl⟩) λf=>?_;have f:¬Xx c w<1:=WM f;refine Wn (λh=>Wd ⟨λe=>(by cases e),λ_=>rfl⟩) λk=>?_;refine Wn (λh=>Wd ⟨λe=>(by cases e),λ_=>rfl⟩) λp=>?_;have q:=Xbx c w;refine WJ (Xj8 i (Xx c w) ⟨2,sp,w,0⟩ ⟨3,sp,0,0⟩ g hN ab ab) λy _ j=>Wd ⟨λe=>?_,j.2.1⟩;simp_all
def HB(h:Wh):Prop:=h.w.length<=100000/\h.p.length<=100000
def NB(N:Nat):Prop:=10000000<N
def zH:Wh:=⟨⟨0,0⟩,[],[],0,0⟩
def Kj:HB zH:=⟨ag,ag⟩
def wd(ws:List Int)(a:Int):Int:=ws.getD (ix a) 0
def hdA(ws:List Int)(a:Int):Wy:=Zd (wd ws a)
def szA(ws:List Int)(a:Int):Int:=(hdA ws a).n+1
def Xy(ws:List Int)(a:Int):XB (hdA ws a)=szA ws a/\1<=szA ws a/\szA ws a<=256:=by have:=Xe7 (wd ws a);unfold szA hdA;omega
def pgi(c:WP)(a:Int):Int:=(a-4096) / c.W
def pgo(c:WP)(a:Int):Int:=(a-4096) % c.W
structure IF(h:Wh)(a:Int):Prop where
 rng:4096<=a/\a<4096+h.c.p*h.c.W
 kind:(pg h.p (pgi h.c a)).k=1\/(pg h.p (pgi h.c a)).k=2
 ok:okH (wd h.w a)=true
 used:pgo h.c a<(pg h.p (pgi h.c a)).u
 small:(pg h.p (pgi h.c a)).k=1->pgo h.c a+szA h.w a<=(pg h.p (pgi h.c a)).u
 large:(pg h.p (pgi h.c a)).k=2->pgo h.c a=0/\szA h.w a=(pg h.p (pgi h.c a)).u
def Xcw{N:Nat}(hN:NB N){h:Wh}(hb:HB h)(a:Int):Ok (Qao N h a) λr=>r.2=0->Uv h/\Qaa N h=some true/\IF h a/\r.1=hdA h.w a:=by
 unfold NB at hN;refine WJ (YK (N:=N) ab hb.1 hb.2) λb eb hp=>?_;refine Wn (λ_=>Wd λe=>by cases e) λv=>?_;have x:b=true:=by simpa using v
 subst x;have hp:=hp rfl;rw[KR,Xa,hp.conf,Wj ac];have O:=Xh.1 hp.conf;by_cases q:4096<=a/\a<4096+h.c.p*h.c.W;rotate_left
 .rw[Wj q];exact Wn (λ_=>Wd λe=>by cases e) λe=>by cases e
 rw[Wm q,show(a-4096) / h.c.W=pgi h.c a from rfl,show(a-4096) % h.c.W=pgo h.c a from rfl];have j:=Xf5 hp.conf q.1 q.2;have R:=hp.pages;have J:0<=pgi h.c a:=j.1;have K:pgi h.c a<h.p.length:=by have:pgi h.c a<h.c.p:=j.2.1;omega
 refine Ok.get J K λp y=>?_;have f:=Yv y;have z:inW h.w a:=by unfold inW;have:=hp.words;omega
 rw[Yg (by unfold BIG;have:=hb.1;omega),Xa,Wm z];show Ok (bnd (Qcz N (wd h.w a)) _) _;rw[ZE,Xa];have A:=Xy h.w a;have L:pgo h.c a<h.c.W:=j.2.2.2.1;have D:0<=pgo h.c a:=j.2.2.1;have rest:okH (wd h.w a)=true->(p.k=1\/p.k=2)->pgo h.c a<p.u->Ok (α:=Wy×Int) (bnd (QcL N (Zd (wd h.w a))) λB=>
  bif (p.k==1)then(bif (decide ((wI (pgo h.c a+B))>p.u))then some ((Wy.mk 0 0 0),19)
   else bif (p.k==2)then(bif (pgo h.c a != 0)then some ((Wy.mk 0 0 0),19)
    else bif (B != p.u)then some ((Wy.mk 0 0 0),19)
    else some (Zd (wd h.w a),0))
   else some (Zd (wd h.w a),0))
  else bif (p.k==2)then(bif (pgo h.c a != 0)then some ((Wy.mk 0 0 0),19)
   else bif (B != p.u)then some ((Wy.mk 0 0 0),19)
   else some (Zd (wd h.w a),0))
  else some (Zd (wd h.w a),0)) λr=>r.2=0->Uv h/\Qaa N h=some true/\IF h a/\r.1=hdA h.w a:=by
  intro E G I
  rw[XQ,Xa]
  have M:XB (Zd (wd h.w a))=szA h.w a:=A.1
  rw[M,Xe ab ab]
  refine Wn (λk1=>?_) λk1=>?_
  .have k1:p.k=1:=by simpa using k1
   refine Wn (λ_=>Wd λe=>by cases e) λk2=>?_
   have k2:¬pgo h.c a+szA h.w a>p.u:=WM k2
   refine Wn (λg=>by rw[k1]at g;cases g) λ_=>Wd λ_=>⟨hp,eb,⟨q,by rw[f];exact G,E,by rw[f];exact I,λ_=>by rw[f];omega,λe=>by rw[f,k1]at e;cases e⟩,rfl⟩
  .have k1:¬p.k=1:=by simpa using k1
   have k2:p.k=2:=ab
   refine Wn (λ_=>?_) λg=>by rw[k2]at g;cases g
   refine Wn (λ_=>Wd λe=>by cases e) λg=>?_
   refine Wn (λ_=>Wd λe=>by cases e) λs=>Wd λ_=>⟨hp,eb,⟨q,by rw[f];exact G,E,by rw[f];exact I,λe=>by rw[f]at e;omega,λ_=>⟨by simpa using g,by rw[f];simpa using s⟩⟩,rfl⟩
 refine Is (Wn (λk1=>Wn (λ_=>Wd λe=>by cases e) λk2=>Wn (λ_=>Wd λe=>by cases e) λg=>Wn (λ_=>Wd λe=>by cases e) λs=>?_) λk1=>Wn (λ_=>Wd λe=>by cases e) λg=>Wn (λ_=>Wd λe=>by cases e) λs=>?_)
 .exact rest (by simpa using s) (.inr (by simpa using k2)) (by have S:¬(pgo h.c a>=p.u):=WM g;omega)
 grind
def XdE{N:Nat}(hN:NB N){h:Wh}(hb:HB h)(a:Int):Ok (QbK N h a) λr=>r.2=0->Uv h/\Qaa N h=some true/\IF h a/\r.1=hdA h.w a/\r.1.k≠0:=by
 have f:=hN;unfold NB at hN;refine WJ (YK (N:=N) ab hb.1 hb.2) λb eb hp=>?_;refine Wn (λ_=>Wd λe=>by cases e) λg=>?_;refine Wn (λ_=>Wd λe=>by cases e) λ_=>?_;refine WJ (Xcw f hb a) λy v j=>?_;refine Wn (λk1=>Wn (λ_=>Wd λe=>by cases e) λk2=>Wd λe=>?_) λk1=>Wd λe=>?_
 .have⟨p,q,s,u⟩:=j e;exact⟨p,q,s,u,by simpa using k2⟩
 simp_all
def Xhq{N:Nat}(hN:NB N){h:Wh}(hb:HB h)(a i:Int):Ok (Qc3 N h a i) λr=>r.2=0->Uv h/\IF h a/\0<=i/\i<(hdA h.w a).n:=by
 refine WJ (XdE hN hb a) λy p f=>?_;refine Wn (λk=>Wd λe=>absurd e (by simpa using k)) λk1=>?_;refine Wn (λ_=>Wd λe=>by cases e) λk2=>?_;refine Wn (λ_=>Wd λe=>by cases e) λq=>?_;have⟨g,s,j,u,v⟩:=f (by simpa using k1);rw[Yg (by unfold BIG;have:=hb.1;omega),Xa];refine Wd λ_=>⟨g,j,?_,?_⟩
 .have:=WM k2;omega
 simp_all
def Xhr{N:Nat}(hN:NB N){h:Wh}(hb:HB h)(a i v:Int):Ok (Qcl N h a i v) λr=>HB r.1:=by
 refine WJ (Xhq hN hb a i) λy f g=>?_;refine Wn (λ_=>Wd Kj) λk1=>?_;have e:=hN;unfold NB at e;rw[KE (by unfold BIG;have:=hb.1;omega) ab,Xa];refine Wd ?_;split
 .exact⟨by rw[WL];exact hb.1,hb.2⟩
 exact⟨ac,hb.2⟩
def XlF{N:Nat}(hN:NB N){h:Wh}(hb:HB h)(a:Int):Ok (Qc9 N h a) λr=>r.1.length<=256:=by
 refine WJ (XdE hN hb a) λy q f=>?_;refine Wn (λ_=>Wd ac) λk1=>?_;have⟨s,u,v,g,x⟩:=f (by simpa using k1);have j:=Xy h.w a;have e:y.1.n=szA h.w a-1:=by rw[g];unfold szA;omega
 have⟨k,p⟩:=UP (a:=y.1.n) ab;rw[p,XcS (by unfold BIG;have:=hb.1;omega) N _ k ab,Xa];refine Wd ?_;grind
def Xj9{N:Nat}(hN:NB N){h:Wh}(hb:HB h)(a:Int)(hd:Wy):Ok (QbN N h a hd) λr=>HB r.1:=by
 have f:=hN;unfold NB at f;rw[QbN,KU,Xa];refine WJ (YK (N:=N) ab hb.1 hb.2) λb eb hp=>?_;refine Wn (λ_=>Wd Kj) λ_=>?_;refine Wn (λ_=>Wd Kj) λk1=>?_;have g:XC hd=true:=by
  cases g:XC hd with
  |true=>rfl
  |false=>simp_all
 have k:=XD g;refine Ue ab (Ue ab ?_);rw[Wm g,ZQ (by unfold BIG;have:=hb.1;omega) (by unfold BIG;grind) (by grind),Xa];split
 .rename_i j;refine Wn (λe=>by grind) λ_=>Wd ⟨?_,hb.2⟩;have p:=hb.1;rw[Zv]
  .omega
  unfold Yt at j;unfold ix;omega
 exact Wn (λ_=>Wd Kj) λe=>by grind
def XnE(N:Nat)(l:List Int)(v:Int)(g:l.length<=1000000000):∀(n k:Nat),k<=l.length->l.length-k<n->Qfi N l v n (k:Int)=some (if(l.drop k).contains v then .ret true else .nxt ())
 |0,k,_,h=>by omega
 |n+1,k,p,q=>by
  rw[Qfi];by_cases h:k<l.length
  .have j:decide ((k:Int)<(l.length:Int))=true:=Wg ab;rw[j,Wc,Xf,Wb h,Xa,Xe ab ab];rw[show((k:Int)+1)=((k+1:Nat):Int) by omega,XnE N l v g n (k+1) ab ab];rw[Wl h,List.contains_cons];by_cases f:l[k]=v
   .subst f;simp
   rw[show(l[k]==v)=false by simpa using f,Wa,show(v==l[k])=false by simpa usingλe=>f e.symm,Iu]
  grind
def XY{N:Nat}{l:List Int}(v:Int)(e:l.length<=1000000000)(hN:l.length<N):Qbt N l v=some (l.contains v):=by have h:=XnE N l v e N 0 ab ab;rw[show((0:Nat):Int)=0 from rfl,WX]at h;rw[Qbt,h,Xa];grind[Xl,Xq]
structure OP(N:Nat)(h:Wh)(l:List Int):Prop where
 at_:∀a∈l,IF h a
 ev:∀a∈l,Qao N h a=some (hdA h.w a,0)
 pw:l.Pairwise λa b=>a+szA h.w a<=b
def Xi8(h:Wh)(i:Int)(l:List Int):Prop:=∀a∈l,Xc h.c i 0<=a/\pgi h.c a=i
def Xfa{c:WP}{i o p:Int}(h:o<=p):Xc c i o<=Xc c i p:=by unfold Xc;omega
def Yd{c:WP}(e:XU c=true){p o:Int}(f:0<=o)(g:o<c.W):pgi c (Xc c p o)=p/\pgo c (Xc c p o)=o:=Xqy e f g
def XL{c:WP}(e:XU c=true){a:Int}(h:4096<=a/\a<4096+c.p*c.W):a=Xc c (pgi c a) (pgo c a)/\0<=pgi c a/\pgi c a<c.p/\0<=pgo c a/\pgo c a<c.W:=by have:=Xf5 e h.1 h.2;exact⟨this.2.2.2.2,this.1,this.2.1,this.2.2.1,this.2.2.2.1⟩
def Xvu(N:Nat)(h:Wh)(i o:Int)(l:List Int):Prop:=OP N h l/\Xi8 h i l/\(∀a∈l,a+szA h.w a<=Xc h.c i o)/\(l.length:Int)<=o
def OP.snoc{N:Nat}{h:Wh}{l:List Int}{a:Int}(f:OP N h l)(k:IF h a)(g:Qao N h a=some (hdA h.w a,0))(j:∀b∈l,b+szA h.w b<=a):OP N h (l++[a]):=by
 refine⟨λx e=>?_,λx e=>?_,?_⟩
 .rcases Wr.1 e with e|e
  .exact f.at_ x e
  simp_all
 .rcases Wr.1 e with e|e
  .exact f.ev x e
  simp_all
 rw[Og];refine⟨f.pw,ac,λb hb c p=>?_⟩;simp_all
def PageL(N:Nat)(h:Wh)(i:Int)(l:List Int):Prop:=OP N h l/\Xi8 h i l/\(l.length:Int)<=64
def XtT(N:Nat)(h:Wh)(i:Int):Ex (List Int×Int) (List Int)->Prop
 |.ret r=>r=([],19)
 |.nxt l=>PageL N h i l
def QkT{N:Nat}(hN:NB N){h:Wh}(hb:HB h)(hp:Uv h){i:Int}(K:0<=i)(L:i<h.p.length)(g:(pg h.p i).k=1\/(pg h.p i).k=2):∀(n:Nat) (o:Int) (l:List Int),0<=o->(65-o).toNat<n->Xvu N h i o l->((pg h.p i).k=1->o<=(pg h.p i).u)->((pg h.p i).k=2->o=0) ->
 Ok (Qah N h i (pg h.p i) n o l) (XtT N h i)
 |0,o,l,_,M,j,k1,k2=>by omega
 |n+1,o,l,v,M,j,k1,k2=>by
  have hv:=Xh.1 hp.conf;have O:=(hp.pgs i K L).small;have R:=hp.pages;have r:(l.length:Int)<=64:=by
   have:=j.2.2.2;rcases g with g|g
   .omega
   omega
  refine Wn (λz=>?_) λ_=>Wd ⟨j.1,j.2.1,r⟩;have z:o<(pg h.p i).u:=Ww z;have A:o<h.c.W:=by
   rcases g with g|g
   .omega
   omega
  rw[Z7,hp.conf,Xa,Wj ac,Wm ab];dsimp only;refine WJ (Xcw hN hb (Xc h.c i o)) λy S U=>?_;refine Wn (λ_=>Wd rfl) λV=>?_;have⟨_,_,B,D⟩:=U (by simp_all);have s:=Yd hp.conf (p:=i) v A;have G:=Xy h.w (Xc h.c i o);have I:Qao N h (Xc h.c i o)=some (hdA h.w (Xc h.c i o),0):=by rw[S];congr 1;exact Prod.ext D (by simp_all)
  have q:OP N h (l++[Xc h.c i o]):=j.1.snoc B I j.2.2.1;have E:Xi8 h i (l++[Xc h.c i o]):=by
   intro x f;rcases Wr.1 f with f|f
   .exact j.2.1 x f
   have:x=Xc h.c i o:=by simpa using f
   subst this;exact⟨Xfa v,s.1⟩
  have J:((l++[Xc h.c i o]).length:Int)=l.length+1:=by simp
  have Y:=j.2.2.2;refine Ue ab (Wn (λkk=>Wd ⟨q,E,ab⟩) λkk=>?_);have kk:(pg h.p i).k=1:=by
   rcases g with g|g
   .omega
   simp_all
  rw[D,XQ,Xa];rw[G.1];have Z:=B.small (by simp_all);rw[s.1,s.2]at Z;rw[Xe ab ab];refine QkT hN hb hp K L g n _ _ ab ab ⟨q,E,λx f=>?_,ab⟩ (λ_=>ab) (λe=>ab);rcases Wr.1 f with f|f
  .have:=j.2.2.1 x f;have:=Xfa (c:=h.c) (i:=i) (o:=o) (p:=o+szA h.w (Xc h.c i o)) ab;omega
  have:x=Xc h.c i o:=by simpa using f
  subst this;unfold Xc;omega
def PageL.nil(N:Nat)(h:Wh)(i:Int):PageL N h i []:=⟨⟨ac,ac,ac⟩,λa e=>by simp_all,ac⟩
def QkU{N:Nat}(hN:NB N){h:Wh}(hb:HB h)(i:Int):Ok (Qaf N h i) λr=>(r.2≠0->r.1=[])/\r.1.length<=64/\(Uv h->PageL N h i r.1):=by
 have j:=hN;unfold NB at j;refine WJ (YK (N:=N) ab hb.1 hb.2) λb eb hp=>?_;refine Wn (λ_=>Wd ⟨λ_=>rfl,ac,λ_=>PageL.nil N h i⟩) λw=>?_;have hp:=hp (by simp_all);refine Wn (λ_=>Wd ⟨λ_=>rfl,ac,λ_=>PageL.nil N h i⟩) λf=>?_;refine Wn (λ_=>Wd ⟨λ_=>rfl,ac,λ_=>PageL.nil N h i⟩) λg=>?_;have f:0<=i:=by have:=WM f;omega
 have g:i<h.p.length:=by have:=WM g;omega
 refine Ok.get f g λp s=>?_;have u:=Yv s;subst u;refine Wn (λ_=>Wd ⟨λ_=>rfl,ac,λ_=>PageL.nil N h i⟩) λk0=>?_;refine Wn (λ_=>Wd ⟨λ_=>rfl,ac,λ_=>PageL.nil N h i⟩) λv=>?_;have x:=(hp.pgs i f g).kind;have k0:¬(pg h.p i).k=0:=by simpa using k0
 have v:¬(pg h.p i).k=3:=by simpa using v
 refine I4 (QkT hN hb hp f g ab N 0 [] ab ab ⟨⟨ac,ac,ac⟩,λa y=>by simp_all,ac,ac⟩ (λk=>((hp.pgs i f g).small k).1) (λ_=>rfl)) (λa q=>?_) λl q=>?_
 .have:a=([],19):=q;subst this;exact Wd ⟨λ_=>rfl,ac,λ_=>PageL.nil N h i⟩
 exact Wd ⟨λe=>absurd rfl e,by have:=q.2.2;grind,λ_=>q⟩
def Xka{c:WP}(e:XU c=true){w:Int}(h:1<=Xx c w):w<=Xx c w*c.W:=by unfold Xx at h⊢;grind
def XcV{h:Wh}(hp:Uv h){a:Int}(g:IF h a):∃k,1<=k/\pgi h.c a+k<=h.c.p/\a+szA h.w a<=Xc h.c (pgi h.c a+k) 0/\∀m,1<=m->m<k->(pg h.p (pgi h.c a+m)).k=3:=by
 have⟨e,q,z,A,B⟩:=XL hp.conf g.rng;have x:=hp.pages;rcases g.kind with f|f
 .have D:=g.small f;have:=(hp.pgs _ q ab).small f;refine⟨1,ab,ab,?_,λm j r=>ab⟩;have E:Xc h.c (pgi h.c a+1) 0=4096+pgi h.c a*h.c.W+h.c.W:=by unfold Xc;rw[U0];omega
  have e3:a=4096+pgi h.c a*h.c.W+pgo h.c a:=e;omega
 have⟨G,I⟩:=g.large f;have⟨s,v⟩:=(hp.pgs _ q ab).large f;have y:=Xka hp.conf s;refine⟨_,s,?_,?_,λm j r=>(v m j r).2⟩
 .by_cases j:Xx h.c (pg h.p (pgi h.c a)).u=1
  .omega
  have:=(v (Xx h.c (pg h.p (pgi h.c a)).u-1) ab ab).1;omega
 have e3:a=4096+pgi h.c a*h.c.W+pgo h.c a:=e;unfold Xc;grind
def Ky{h:Wh}(hp:Uv h){a:Int}(e:IF h a):a+szA h.w a<=4096+h.w.length:=by have⟨k,j,f,g,_⟩:=XcV hp e;have q:=Xh.1 hp.conf;have:=hp.words;have r:(pgi h.c a+k)*h.c.W<=h.c.p*h.c.W:=WW f ab;unfold Xc at g;omega
def XlG{h:Wh}(hp:Uv h){a b:Int}(g:IF h a)(hb:IF h b)(j:pgi h.c a<pgi h.c b):a+szA h.w a<=b:=by
 have⟨k,u,v,p,q⟩:=XcV hp g;have⟨e,x,y,z,A⟩:=XL hp.conf hb.rng;have f:pgi h.c a+k<=pgi h.c b:=by
  rcases(by omega:pgi h.c b<pgi h.c a+k\/pgi h.c a+k<=pgi h.c b)with r|r
  .have:=q (pgi h.c b-pgi h.c a) ab ab;rw[show pgi h.c a+(pgi h.c b-pgi h.c a)=pgi h.c b by omega]at this;rcases hb.kind with s|s<;>omega
  omega
 have B:(pgi h.c a+k)*h.c.W<=pgi h.c b*h.c.W:=WW f ab;unfold Xc at p e;omega
def QfE{N:Nat}(hN:NB N){h:Wh}(hb:HB h)(hp:Uv h)(i:Int)(f:0<=i)(g:i<h.p.length):Ok (Qaf N h i) λr=>PageL N h i r.1/\r.1.length<=64:=(QkU hN hb i).mono λr e=>⟨e.2.2 hp,e.2.1⟩
structure ID(N:Nat)(h:Wh)(l:List Int):Prop where
 obj:OP N h l
 page:∀a∈l,∃r,Qaf N h (pgi h.c a)=some r/\a∈r.1
 len:l.length<=4096
def ID.nil(N:Nat)(h:Wh):ID N h []:=⟨⟨ac,ac,ac⟩,ac,ac⟩
def Xfb{N:Nat}(hN:NB N){h:Wh}(hb:HB h)(hp:Uv h):∀(n:Nat) (i:Int) (l:List Int),0<=i->i<=h.p.length->(h.p.length-i).toNat<n->OP N h l->(∀a∈l,∃r,Qaf N h (pgi h.c a)=some r/\a∈r.1)->(∀a∈l,pgi h.c a<i)->(l.length:Int)<=64*i ->
 Ok (QaJ N h n i l) λe=>match e with|.ret r=>r.1=[]/\r.2≠0|.nxt l=>ID N h l
 |0,i,l,_,_,z,_,_,_,_=>by omega
 |n+1,i,l,A,E,z,g,j,u,w=>by
  have G:=Xh.1 hp.conf;have B:=hp.pages;refine Wn (λv=>?_) λ_=>Wd ⟨g,j,ab⟩;have v:i<h.p.length:=Ww v;refine WJ (QfE hN hb hp i A v) λy D k=>?_;refine Wn (λx=>Wd ⟨rfl,by simpa using x⟩) λx=>?_;refine Ue ab ?_;rw[Xe ab ab];have q:∀a∈y.1,pgi h.c a=i:=λa f=>(k.1.2.1 a f).2;refine Xfb hN hb hp n (i+1) _ ab ab ab ⟨λa f=>?_,λa f=>?_,?_⟩ (λa f=>?_) (λa f=>?_) (by rw[WK];omega)
  .rcases Wr.1 f with f|f
   .exact g.at_ a f
   exact k.1.1.at_ a f
  .rcases Wr.1 f with f|f
   .exact g.ev a f
   exact k.1.1.ev a f
  .rw[Og];refine⟨g.pw,k.1.1.pw,λa f b s=>?_⟩;exact XlG hp (g.at_ a f) (k.1.1.at_ b s) (by rw[q b s];exact u a f)
  .rcases Wr.1 f with f|f
   .exact j a f
   exact⟨y,by rw[q a f];exact D,f⟩
  grind
def J5{N:Nat}(hN:NB N){h:Wh}(hb:HB h):Ok (QbB N h) λr=>ID N h r.1/\(r.2=0->Uv h)/\(r.2≠0->r.1=[]):=by have f:=hN;unfold NB at f;refine WJ (YK (N:=N) ab hb.1 hb.2) λb eb hp=>?_;refine Wn (λ_=>Wd ⟨ID.nil N h,λe=>ab,λ_=>rfl⟩) λg=>?_;have hp:=hp (by simp_all);have j:=hb.2;refine I4 (Xfb hN hb hp N 0 [] ab ab ab ⟨ac,ac,ac⟩ ac ac ac) (λa q=>?_) λl q=>Wd ⟨q,λ_=>hp,λe=>absurd rfl e⟩;refine Wd ⟨?_,λe=>absurd e q.2,λ_=>q.1⟩;rw[q.1];exact ID.nil N h
def ID.sub{N:Nat}{h:Wh}{l l':List Int}(e:ID N h l)(f:l'.Sublist l):ID N h l':=
 ⟨⟨λa g=>e.obj.at_ a (f.subset g),λa g=>e.obj.ev a (f.subset g),e.obj.pw.sublist f⟩,λa g=>e.page a (f.subset g),UL f.length_le e.len⟩
def Xa8{N:Nat}(hN:NB N){h:Wh}(hb:HB h)(y:List Int×Int)(r:y.1.length<=4096):∀(n k:Nat) (l:List Int),k<=y.1.length->y.1.length-k<n->l.Sublist (y.1.take k)->Ok (Qa7 N h y n (k:Int) l) λo=>o.Sublist y.1
 |0,k,l,_,u,_=>by omega
 |n+1,k,l,x,u,j=>by
  have s:l.length<=4096:=UL j.length_le (by rw[Ws];omega);refine Wn (λg=>?_) λ_=>Wd (j.trans (List.take_sublist _ _));have g:(k:Int)<y.1.length:=Ww g;have e:k<y.1.length:=ab;refine Ok.get ab g λp hp=>?_;refine WJ (Xcw hN hb p) λz A B=>?_;have v:wI ((k:Int)+1)=((k+1:Nat):Int):=by rw[Xe ab ab];omega
  rw[v];refine Wn (λ_=>?_) λ_=>Xa8 hN hb y r n (k+1) l ab ab (j.trans (List.take_sublist_take_left ab));refine Ok.get ab g λw f=>Ue ab (Xa8 hN hb y r n (k+1) _ ab ab ?_);have q:w=y.1[k]:=by rw[Xf,Wb e]at f;exact(Wz f).symm
  simp_all[List.take_succ_eq_append_getElem,e,q]
def Ks{N:Nat}(hN:NB N){h:Wh}(hb:HB h):Ok (Qal N h) λr=>ID N h r.1/\(r.2=0->Uv h)/\(r.1≠[]->Uv h):=by refine WJ (J5 hN hb) λy p e=>?_;have f:=hN;unfold NB at f;have g:=e.1.len;have:=Xa8 hN hb y g N 0 [] ab ab ac;refine WJ this λo q j=>Wd ⟨e.1.sub j,e.2.1,λk=>?_⟩;grind
def Xcx{N:Nat}(hN:NB N){h:Wh}(hb:HB h)(a:Int):Ok (QdA N h a) λb=>b=true->Uv h/\IF h a:=by
 have f:=hN;unfold NB at f;refine WJ (Ks hN hb) λy k g=>?_;have p:=g.1.len;rw[XY a ab ab,Xa];refine Wd λe=>?_;have j:a∈y.1:=by simpa using e
 exact⟨g.2.2 (I8 j),g.1.obj.at_ a j⟩
def Xqz{N:Nat}{h:Wh}(hb:HB h)(i o:Int):Ok (Qfv N h i o) λ_=>True:=by rw[Qfv,QgT,Z7,Xa,Yg (by unfold BIG;have:=hb.1;omega),Xa,Xa];exact Wd trivial
def XdF(h:Wh)(i:Int)(l:List Int):Prop:=(pg h.p i).k=1->∀a∈l,szA h.w a<=smC h.c
def Xhs{N:Nat}(hN:NB N){h:Wh}(hb:HB h){i:Int}(x:0<=i)(y:i<h.p.length)(l:List Int)(D:l.length<=4096)(j:∀a∈l,Qao N h a=some (hdA h.w a,0)/\a≠0):∀(n k:Nat),k<=l.length->l.length-k<n ->
 Ok (QaU N h i l n (k:Int)) λe=>match e with|.ret r=>r≠0|.nxt _=>(pg h.p i).k=1->∀a∈l.drop k,szA h.w a<=smC h.c
 |0,k,_,E=>by omega
 |n+1,k,O,E=>by
  refine Wn (λs=>?_) λs=>Wd ?_;rotate_left
  .grind
  have s:(k:Int)<l.length:=Ww s;have v:k<l.length:=ab;refine Ok.get ab s λp hp=>?_;have G:p=l[k]:=by rw[Xf,Wb v]at hp;exact(Wz hp).symm
  have z:p∈l:=Yr hp;rw[(j p z).1,Xa];rw[XQ,Xa,Xhn,Xa,(Xy h.w p).1];have I:wI ((k:Int)+1)=((k+1:Nat):Int):=by rw[Xe ab ab];omega
  rw[I];have ret:∀g,Xd l (k:Int)=some g->g≠0:=λg f=>(j g (Yr f)).2;have next:((pg h.p i).k=1->szA h.w p<=smC h.c)->Ok (QaU N h i l n ((k+1:Nat):Int)) λe=>match e with|.ret r=>r≠0|.nxt _=>(pg h.p i).k=1->∀a∈l.drop k,szA h.w a<=smC h.c:=by
   intro u
   refine(Xhs hN hb x y l D j n (k+1) ab ab).mono λe R=>?_
   cases e with
   |ret r=>omega
   |nxt _=>
    intro J a K
    rw[Wl v]at K
    grind
  refine Ok.get x y λq L=>?_;have A:=Yv L;refine Wn (λk1=>?_) λk1=>?_
  .refine Wn (λ_=>Ok.get ab s λg f=>Wd (ret g f)) λk2=>?_;have u:szA h.w p<=smC h.c:=by simpa using k2
   refine Ok.get x y λM B=>Wn (λ_=>Wn (λ_=>Ok.get ab s λg f=>Wd (ret g f)) λ_=>next λ_=>u) λ_=>next λ_=>u
  have u:(pg h.p i).k=1->szA h.w p<=smC h.c:=by intro e;rw[A]at e;rw[e]at k1;cases k1
  refine Ok.get x y λM B=>Wn (λ_=>Wn (λ_=>Ok.get ab s λg f=>Wd (ret g f)) λ_=>next u) λ_=>next u
def XnF{N:Nat}(hN:NB N){h:Wh}(hb:HB h){i:Int}(j:0<=i)(k:i<h.p.length){l:List Int}(s:l.length<=64)(f:∀a∈l,Qao N h a=some (hdA h.w a,0)/\a≠0):
 Ok (Qel N h i l) λr=>r=0->XdF h i l:=by have g:=hN;unfold NB at g;have:=Xhs hN hb j k l ab f N 0 ab ab;refine I4 this (λa q=>Wd λe=>absurd e q) λ_ q=>Wd λ_=>?_;assumption
def Xf7{N:Nat}{h:Wh}(i:Int)(l:List Int)(k:Int)(e:0<=k)(f:k<l.length)(x:Int)(g:x<=256):∀(n:Nat) (w:Int) (u:List Bool),0<=w->(x-w).toNat<n->u.length<=1000->Ok (QbR N h i l k x n w u) λr=>r.length=u.length
 |0,w,u,_,v,_=>by omega
 |n+1,w,u,A,v,j=>by
  refine Wn (λs=>?_) λ_=>Wd rfl;have s:w<x:=Ww s;refine Ok.get e f λp hp=>?_;rw[Xe (n:=w+1) ab ab];have next:=Xf7 (N:=N) (h:=h) i l k e f x g n (w+1) u ab ab j
  refine Wn (λy=>?_) λ_=>next
  refine Ue ab (Wn (λz=>?_) λ_=>next);refine Ok.get (Ww y) (Ww z) λq B=>?_;refine(Xf7 i l k e f x g n (w+1) _ ab ab (by rw[WL];exact j)).mono λr D=>?_;simp_all
def Xkb{N:Nat}(hN:NB N){h:Wh}(hb:HB h)(i:Int)(l:List Int)(q:l.length<=100000):∀(n:Nat) (k:Int) (u:List Bool),0<=k->k<=l.length->(l.length-k).toNat<n->u.length<=1000->Ok (Qdk N h i l n k u) λr=>r.length=u.length
 |0,k,u,_,_,s,_=>by omega
 |n+1,k,u,j,z,s,v=>by
  refine Wn (λe=>?_) λ_=>Wd rfl;have e:k<l.length:=Ww e;have f:=hN;unfold NB at f;refine Ok.get j e λp hp=>WJ (Xcw hN hb p) λy A B=>?_;rw[XQ,Xa];have D:=XnB y.1;have next:∀x:Int,x<=256->Ok (bnd (QbR N h i l k x N 0 u) λg=>Qdk N h i l n (wI (k+1)) g) λr=>r.length=u.length:=by intro x w;refine WJ (Xf7 i l k j e x w N 0 u ab ab v) λr E G=>?_;rw[Xe (n:=k+1) ab ab];exact(Xkb hN hb i l q n (k+1) r ab ab ab ab).mono λo I=>by omega
  exact Is (Wn (λ_=>next 1 ab) λ_=>next _ ab)
def Xf8(N:Nat){h:Wh}(e:(pg h.p 0).k≠3):∀(n:Nat) (i:Int),0<=i->i<h.p.length->h.p.length<=100000->i.toNat<n->Ok (QcM N h n i) λr=>0<=r/\r<h.p.length
 |0,i,_,_,_,j=>by omega
 |n+1,i,f,g,q,j=>by
  refine Ok.get f g λp hp=>Wn (λs=>?_) λ_=>Wd ⟨f,g⟩;have:i≠0:=by rintro rfl;exact e (by simp_all[Yv,hp])
  rw[Xe ab ab];exact Xf8 N e n (i-1) ab ab q ab
def Xkc{N:Nat}{h:Wh}(hb:HB h)(i:Int)(u:List Bool)(f:u.length<=1000):∀(n:Nat) (k:Int),0<=k->k<=u.length->(u.length-k).toNat<n->Ok (QcN N h i u n k) λ_=>True
 |0,k,_,_,g=>by omega
 |n+1,k,j,q,g=>by
  refine Wn (λe=>?_) λ_=>Wd trivial;have e:k<u.length:=Ww e;rw[Xe (n:=k+1) ab ab];have next:=Xkc (N:=N) hb i u f n (k+1) ab ab ab
  refine Ok.get j e λp hp=>Wn (λ_=>WJ (Xqz hb i k) λy _ _=>Wn (λ_=>?_) λ_=>next) λ_=>next
  rw[QfG,Xa];exact Wd trivial
def XqA{N:Nat}(hN:NB N){h:Wh}(hb:HB h)(hp:Uv h){i:Int}(k:0<=i)(q:i<h.p.length):Ok (Qed N h i) λ_=>True:=by
 have f:=hN;unfold NB at f;have g:=hb.2;have s:=Xh.1 hp.conf;refine WJ (WJ (Xf8 N hp.first N i k q g ab) λr _ e=>Wd e) λr _ e=>?_;refine WJ (QfE hN hb hp r e.1 e.2) λy _ v=>?_;refine WJ (Q:=λr=>r.length<=1000) (Ue ab (WJ (Xkb hN hb i y.1 ab N 0 _ ab ab ab (by grind)) λu _ j=>Wd ?_)) λu _ j=>?_
 .grind
 exact I4 (Xkc hb i u j N 0 ab ab ab) (λ_ _=>Wd trivial) λ_ _=>Wd trivial
def XnG{N:Nat}(hN:NB N){h:Wh}(hb:HB h)(hp:Uv h){i:Int}(g:0<=i)(j:i<h.p.length):Ok (Qee N h i) λf=>f.Fault=0->∀r,Qaf N h i=some r->XdF h i r.1/\r.2=0:=by
 have main:Ok (bnd (Qaf N h i) λq=>
  bif (q.2 != 0)then some (Un.mk 3 i 0)
  else bnd (Qel N h i q.1) λs=>
  bif (s != 0)then some (Un.mk 5 i s)
  else bnd (Qed N h i) λu=>
  bif (u != 0)then some (Un.mk 4 i u)
  else some (Un.mk 0 0 0)) λf=>f.Fault=0->∀r,Qaf N h i=some r->XdF h i r.1/\r.2=0:=by
  refine WJ (QfE hN hb hp i g j) λy x k=>?_
  refine Wn (λ_=>Wd λe=>by grind) λz=>?_
  refine WJ (XnF hN hb g j k.2 λa v=>⟨k.1.1.ev a v,by have:=(k.1.1.at_ a v).rng;omega⟩) λc _ A=>?_
  refine Wn (λ_=>Wd λe=>by grind) λB=>?_
  refine WJ (XqA hN hb hp g j) λd _ _=>?_
  refine Wn (λ_=>Wd λe=>by grind) λ_=>Wd λ_ r w=>?_
  rw[x]at w
  exact Wz w▸⟨A (by simp_all),by simp_all⟩
 refine Is (Ok.get g j λp hp=>Wn (λ_=>Ok.get g j λp hp=>Wn (λ_=>Wd λe=>by grind) λ_=>main) λ_=>main)
def Xcy{N:Nat}{h:Wh}(r g:List Int×Int)(y:r.1.length<=4096)(z:g.1.length<=256)(hN:1000000<N)(v:Int)(j:0<=v)(u:v<r.1.length)(w:Wy×Int):∀(n:Nat) (k:Int),0<=k->k<=g.1.length->(g.1.length-k).toNat<n->Ok (Qax N h r g v w n k) λe=>∀f,e=.ret f->f.Fault=6
 |0,k,_,_,A=>by omega
 |n+1,k,x,B,A=>by
  refine Ue ab (Wn (λs=>?_) λ_=>Wd λf e=>by grind);have s:k<g.1.length:=Ww s;rw[Xe (n:=k+1) ab ab];have next:=Xcy (N:=N) (h:=h) r g y z hN v j u w n (k+1) ab ab ab
  rw[KV,Xa];refine Wn (λ_=>Ok.get x s λp hp=>Wn (λ_=>Ok.get x s λp hp=>?_) λ_=>next) λ_=>next
  rw[XY p ab ab,Xa];refine Wn (λ_=>Ok.get j u λq D=>?_) λ_=>next
  rw[KR,Xa];exact Wd λf e=>by grind
def Xcz{N:Nat}(hN:NB N){h:Wh}(hb:HB h)(g:List Int×Int)(u:g.1.length<=4096):∀(n:Nat) (k:Int),0<=k->k<=g.1.length->(g.1.length-k).toNat<n->Ok (Qbv N h g n k) λe=>∀f,e=.ret f->f.Fault=6
 |0,k,_,_,v=>by omega
 |n+1,k,r,z,v=>by
  have s:=hN;unfold NB at s;refine Wn (λj=>?_) λ_=>Wd λf e=>by cases e
  have j:k<g.1.length:=Ww j;rw[Xe (n:=k+1) ab ab];refine Ok.get r j λp hp=>WJ (XdE hN hb p) λw _ _=>Ok.get r j λp hp=>WJ (XlF hN hb p) λx _ y=>?_;refine I4 (Xcy g x u y ab k r j w N 0 ab ab ab) (λa q=>Wd λf e=>?_) λ_ _=>Xcz hN hb g u n (k+1) ab ab ab;simp_all
def Xht{N:Nat}(hN:NB N){h:Wh}(hb:HB h):Ok (Qdw N h) λ_=>True:=by have e:=hN;unfold NB at e;refine WJ (Ks hN hb) λy _ f=>?_;have:=f.1.len;exact I4 (Xcz hN hb y f.1.len N 0 ab ab ab) (λ_ _=>Wd trivial) λ_ _=>Wd trivial
def Xhu{N:Nat}(hN:NB N){h:Wh}(hb:HB h)(hp:Uv h):∀(n:Nat) (i:Int),0<=i->i<=h.p.length->(h.p.length-i).toNat<n->Ok (Qbc N h n i) λe=>match e with|.ret f=>f.Fault≠0|.nxt _=>∀j,i<=j->j<h.p.length->∀r,Qaf N h j=some r->XdF h j r.1/\r.2=0
 |0,i,_,_,q=>by omega
 |n+1,i,s,y,q=>by
  have u:=hb.2;refine Wn (λg=>?_) λg=>Wd λj v k=>?_;rotate_left
  .grind
  have g:i<h.p.length:=Ww g;refine WJ (XnG hN hb hp s g) λf _ z=>Wn (λw=>Wd (by simp_all)) λw=>?_;rw[Xe ab ab];refine(Xhu hN hb hp n (i+1) ab ab ab).mono λe x=>?_;cases e with
  |ret f=>omega
  |nxt _=>
   intro j v k;by_cases A:j=i
   .grind
   exact x j ab k
def Xhv{N:Nat}{h:Wh}(g:h.p.length<=100000):∀(n:Nat) (c i:Int),0<=i->i<=h.p.length->(h.p.length-i).toNat<n->Ok (Qa3 N h n c i) λ_=>True
 |0,c,i,_,_,j=>by omega
 |n+1,c,i,f,q,j=>by
  refine Wn (λe=>?_) λ_=>Wd trivial;have e:i<h.p.length:=Ww e;rw[Xe (n:=i+1) ab ab];have next:=λk=>Xhv (N:=N) g n k (i+1) ab ab ab
  exact Ok.get f e λp hp=>Wn (λ_=>Ok.get f e λp hp=>Wn (λ_=>next _) λ_=>next _) λ_=>next _
structure OM(N:Nat)(h:Wh):Prop where
 prop:Uv h
 small:∀j:Int,0<=j->j<h.p.length->∀r,Qaf N h j=some r->XdF h j r.1/\r.2=0
def Kz{N:Nat}(hN:NB N){h:Wh}(hb:HB h):Ok (Qbk N h) λb=>b=true->OM N h:=by
 have g:=hN;unfold NB at g;have j:=hb.2;refine WJ (Q:=λf=>f.Fault=0->OM N h) (WJ (YK (N:=N) ab hb.1 hb.2) λb eb hp=>Wn (λ_=>Wd λe=>by cases e) λk=>?_) λf _ r=>Wd λe=>?_
 .have hp:=hp (by simpa using k);refine I4 (Xhu hN hb hp N 0 ab ab ab) (λa q=>Wd λe=>absurd e q) λ_ q=>?_;have p:OM N h:=⟨hp,q⟩
  refine WJ (Xht hN hb) λf _ _=>Wn (λ_=>Wd λ_=>p) λ_=>?_;exact WJ (Xhv j N 0 0 ab ab ab) λc _ _=>Wn (λ_=>Wd λ_=>p) λ_=>Wd λ_=>p
 simp_all
def OM.sz{N:Nat}{h:Wh}(e:OM N h){l:List Int}(g:ID N h l){a:Int}(j:a∈l)(q:(pg h.p (pgi h.c a)).k=1):szA h.w a<=h.c.W / 4:=by have⟨r,s,u⟩:=g.page a j;have f:=g.obj.at_ a j;have⟨_,v,x,_⟩:=XL e.prop.conf f.rng;have:=(e.small _ v (by have:=e.prop.pages;omega) r s).1 q a u;unfold smC at this;omega
def Xfc{N:Nat}(l:List Int)(g:l.length<=100000000)(y:List Int×Int)(h:y.1.length<=4096)(hN:1000000<N):∀(n:Nat) (k:Int),0<=k->k<=l.length->(l.length-k).toNat<n->Ok (QaC N l y n k) λ_=>True
 |0,k,_,_,j=>by omega
 |n+1,k,f,q,j=>by
  refine Wn (λe=>?_) λ_=>Wd trivial;have e:k<l.length:=Ww e;rw[Xe (n:=k+1) ab ab];have next:=Xfc (N:=N) l g y h hN n (k+1) ab ab ab
  refine Ok.get f e λp hp=>Wn (λ_=>Ok.get f e λp hp=>?_) λ_=>next
  rw[XY p ab ab,Xa];exact Wn (λ_=>Wd trivial) λ_=>next
def Xb4{N:Nat}(hN:NB N){h:Wh}(hb:HB h){l:List Int}(q:l.length<=1000000):Ok (QbD N h l) λb=>b=true->OM N h:=by have f:=hN;unfold NB at f;refine WJ (Kz hN hb) λb _ g=>Wn (λ_=>Wd λe=>by grind) λk=>?_;have j:=g (by simp_all);refine WJ (Ks hN hb) λy _ p=>?_;exact I4 (Xfc l ab y p.1.len ab N 0 ab ab ab) (λ_ _=>Wd λ_=>j) λ_ _=>Wd λ_=>j
def XnH(d:Wy):Zw d % 4=1:=by have e:Ke .u64 (wU d.Map) 16=wU (wU d.Map*65536):=rfl;unfold Zw;grind[Xcv]
def XqB(ws:List Int)(a:Int)(h:wd ws a % 4=2):szA ws a=1:=by
 have:okH (wd ws a)=false:=by
  unfold okH;have f:=XnH (Xb2 (wd ws a));have:(Zw (Xb2 (wd ws a))==wd ws a)=false:=by rw[beq_eq_false_iff_ne];intro e;rw[e]at f;omega
  rw[this,Bool.and_false]
 unfold szA hdA Zd;simp_all
structure OC(h0:Wh)(l:List Int)(w:Wu)(O:Int->Prop)(s:Int->Int):Prop where
 old:∀a∈l,O a/\s a=szA h0.w a
 queue:∀a∈w.q,O a
 fit:∀a,O a->4096<=a/\1<=s a/\a+s a<=4096+w.h.w.length/\szA w.h.w a<=s a
 apart:∀a b,O a->O b->a≠b->a+s a<=b\/b+s b<=a
 taken:∀a,O a->∀j∈w.t,a+s a<=Xc h0.c j (pg w.h.p j).u\/Xc h0.c (j+1) 0<=a
 free:∀a,O a->∀j:Int,0<=j->j<w.h.p.length->(pg w.h.p j).k=0->a+s a<=Xc h0.c j 0\/Xc h0.c (j+1) 0<=a
structure CI(h0:Wh)(l:List Int)(w:Wu):Prop where
 conf:w.h.c=h0.c
 wlen:w.h.w.length=h0.w.length
 plen:w.h.p.length=h0.p.length
 spc:w.h.s=h0.s
 old:w.o.Sublist l
 tk:∀j∈w.t,0<=j/\j<w.h.p.length/\(pg w.h.p j).k=1/\0<=(pg w.h.p j).u/\(pg w.h.p j).u<=h0.c.W
 tnd:w.t.Nodup
 knd:∀a∈l,(pg w.h.p (pgi h0.c a)).k=(pg h0.p (pgi h0.c a)).k
 qnd:w.q.Nodup
 obj:∃O s,OC h0 l w O s
def Xby:∀(n:Nat) (a:Int) (l:List Int),l.Nodup->(∀x∈l,a<=x/\x<a+n)->l.length<=n
 |0,a,l,_,h=>by
  cases l with
  |nil=>simp
  |cons x l=>have:=h x ac;omega
 |n+1,a,l,e,h=>by
  by_cases k:a+(n:Int)∈l
  .have g:=Xby n a (l.erase (a+(n:Int))) (e.erase _) λx f=>by have j:=(List.Nodup.mem_erase_iff e).1 f;have p:=h x j.2;omega
   simp_all
  have g:=Xby n a l e λx f=>by grind
  omega
section
variable {N:Nat}{h0:Wh}{l:List Int}
def CI.ql{w:Wu}(hb:HB h0)(e:CI h0 l w):w.q.length<=100000:=by
 have⟨O,s,f⟩:=e.obj;have:=Xby w.h.w.length 4096 w.q e.qnd λx g=>by have:=f.fit x (f.queue x g);omega
 have:=hb.1;have:=e.wlen;omega
def CI.tl{w:Wu}(hb:HB h0)(e:CI h0 l w):w.t.length<=100000:=by
 have:=Xby w.h.p.length 0 w.t e.tnd λx f=>by have:=e.tk x f;omega
 have:=hb.2;have:=e.plen;omega
def Xfd{w:Wu}(f:w.t.length<=100000)(i:Int):∀(n:Nat) (k:Int),0<=k->k<=w.t.length->(w.t.length-k).toNat<n->Ok (QcU N w i n k) λ_=>True
 |0,k,_,_,g=>by omega
 |n+1,k,h0,h,g=>by refine Wn (λe=>?_) λ_=>Wd trivial;have e:k<w.t.length:=Ww e;rw[Xe (n:=k+1) ab ab];exact Ok.get h0 e λp hp=>Wn (λ_=>Wd trivial) λ_=>Xfd f i n (k+1) ab ab ab
def XcA(hN:NB N){w:Wu}(j:w.t.length<=100000)(i:Int):Ok (QbW N w i) λb=>b=true->0<=i/\i<w.h.p.length:=by
 unfold NB at hN;refine Wn (λ_=>Wd λe=>by grind) λf=>Wn (λ_=>Wd λe=>by grind) λg=>?_;have f:0<=i:=by have:=WM f;omega
 have g:i<w.h.p.length:=by have:=WM g;omega
 refine Ok.get f g λp hp=>Wn (λ_=>Wn (λ_=>WJ (Q:=λ_=>True) ?_ λy _ _=>Wd λ_=>⟨f,g⟩) λ_=>Wd λe=>ab) λ_=>Wd λe=>by omega
 exact I4 (Xfd j i N 0 ab ab ab) (λ_ _=>Wd trivial) λ_ _=>Wd trivial
def Xfe(h0:Wh)(w:Wu)(n:Int):Prop:=∀i,w.t.getLast? = some i->h0.c.W<(pg w.h.p i).u+n
structure OL(h0:Wh)(w:Wu)(n:Int)(w':Wu)(at_ j u:Int):Prop where
 rng:0<=j/\j<w.h.p.length
 fit:0<=u/\u+n<=h0.c.W
 addr:at_=Xc h0.c j u
 conf:w'.h.c=w.h.c
 words:w'.h.w=w.h.w
 space:w'.h.s=w.h.s
 old:w'.o=w.o
 queue:w'.q=w.q
 scanned:w'.d=w.d
 plen:w'.h.p.length=w.h.p.length
 other:∀i,0<=i->i≠j->pg w'.h.p i=pg w.h.p i
 this:(pg w'.h.p j).k=1/\(pg w'.h.p j).u=u+n
 sp:(j∈w.t/\(pg w'.h.p j).s=(pg w.h.p j).s/\(pg w'.h.p j).P=(pg w.h.p j).P)\/((pg w'.h.p j).s=1-w.h.s/\(pg w'.h.p j).P=0)
 way:(j∈w.t/\w'.t=w.t/\u=(pg w.h.p j).u)\/((pg w.h.p j).k=0/\w'.t=w.t++[j]/\u=0)
 lst:(w'.t=w.t/\w.t.getLast? = some j)\/(w'.t=w.t++[j]/\Xfe h0 w n)
def XdG(hN:NB N)(hb:HB h0)(hp:Uv h0){w:Wu}(G:CI h0 l w){n:Int}(hn:1<=n)(hn2:n<=h0.c.W):Ok (QcB N w n) λr=>(r.2.2=true->∃j u,OL h0 w n r.1 r.2.1 j u)/\(r.2.2=false->Xfe h0 w n/\∀j:Int,0<=j->j<w.h.p.length->(pg w.h.p j).k≠0):=by
 have V:=hN;unfold NB at V;have hpl:=G.plen;have hv:=Xh.1 hp.conf;have htl:=G.tl hb;have hpp:=hp.pages;have new:Xfe h0 w n->Ok (bnd (Qbo N w.h.p 1) λI=>
  bif (decide (I<0))then some ((Wu.mk (Wh.mk (WP.mk 0 0) [] [] 0 0) [] [] [] 0 (WS.mk 0 0 0 0 0 0)),0,false)
  else bnd (QbX N w.h.p I (wI (1-w.h.s))) λU=>
  grd (w.t.length*8<=140737488355328) <|
  grd ((w.t.length+1)*8<=140737488355328) <|
  bnd (Xd U.1 I) λY=>
  bnd (Xd U.1 I) λZ=>
  bnd (Xd U.1 I) λK=>
  some ((Wu.mk (Wh.mk w.h.c w.h.w (U.1.set I.toNat (Wp.mk K.k K.s (wI (Z.u+n)) K.P)) w.h.s w.h.b) w.o (w.t++[I]) w.q w.d w.r),(wU (wI ((wI (4096+(wI (I*w.h.c.W))))+Y.u))),true)) λr=>(r.2.2=true->∃j u,OL h0 w n r.1 r.2.1 j u)/\(r.2.2=false->Xfe h0 w n/\∀j:Int,0<=j->j<w.h.p.length->(pg w.h.p j).k≠0):=λlf=>by
  refine WJ (Xe9 1 ab ab) λj _ x=>Wn (λR=>Wd ⟨λe=>by grind,λ_=>⟨lf,?_⟩⟩) λR=>?_
  .rcases x with x|x
   .exact x.2 rfl
   .have:=Ww R;have:=x.1;omega
  have hr:RunOK w.h.p j 1:=by
   rcases x with⟨rfl,_⟩|x
   .grind
   .exact x
  have hsp:=hp.space
  have hws:=G.spc
  rw[Xe (n:=1-w.h.s) ab ab]
  refine WJ (XdD j (1-w.h.s) ab ab) λy _ hy=>?_
  have hy0:=hy.2.2 hr ab ab
  obtain⟨z,q1,q2,q3⟩:=hy.1 hy0
  have hk:=hr.2.2.2 0 ab ab
  rw[Int.add_zero]at hk
  have f:j<y.1.length:=ab
  refine Ue ab (Ue ab (Ok.get z f λp1 L=>Ok.get z f λp2 A=>Ok.get z f λp3 M=>Wd ⟨λ_=>?_,λe=>by cases e⟩))
  have g1:=Yv L
  have g2:=Yv A
  have g3:=Yv M
  rw[q3 j z,Wm rfl]at g1 g2 g3
  subst g1;subst g2;subst g3
  have hm:=XE hp.conf (i:=j) z ab
  refine⟨j,0,⟨⟨z,ab⟩,⟨ab,ab⟩,?_,rfl,rfl,rfl,rfl,rfl,rfl,?_,λi D E=>?_,?_,.inr ?_,.inr ⟨hk,rfl,rfl⟩,.inr ⟨rfl,lf⟩⟩⟩
  .show wU (wI (wI (4096+wI (j*w.h.c.W))+0))=_
   rw[G.conf,Xe (n:=j*h0.c.W) ab ab,Xe (n:=4096+j*h0.c.W) ab ab,Xe ab ab,Xt ab ab]
   rfl
  .simp_all
  .show pg (y.1.set _ _) i=_
   rw[YW _ z f D,Wj E,q3 i D,Wj E,Wj ab]
  .show(pg (y.1.set _ _) j).k=1/\(pg (y.1.set _ _) j).u=_
   rw[YW _ z f z,Wm rfl]
   refine⟨rfl,?_⟩
   show wI (0+n)=0+n
   rw[Xe ab ab]
  .show(pg (y.1.set _ _) j).s=_/\(pg (y.1.set _ _) j).P=_
   rw[YW _ z f z,Wm rfl]
   simp
 refine Ue ab (Is (Wn (λht=>?_) λht=>new λi D=>by
  have:=WM ht
  rw[WG (l:=w.t) ab]at D;cases D))
 have ht:0<(w.t.length:Int):=Ww ht;rw[Xe (n:=(w.t.length:Int)-1) ab ab];refine Ok.get ab ab λj x=>?_;have S:w.t.getLast? = some j:=by rw[List.getLast?_eq_getElem?];have:=(Kx.1 x).2;rwa[show((w.t.length:Int)-1).toNat=w.t.length-1 by omega]at this
 have O:=Yr x;have⟨B,J,t2,t3,t4⟩:=G.tk j O;refine Ok.get B J λp A=>?_;have g:=Yv A;subst g;rw[Xe (n:=(pg w.h.p j).u+n) ab ab];refine Wn (λv=>?_) λv=>new λi D=>by obtain rfl:=Wz (S.symm.trans D);have:=WM v;rw[G.conf]at this;omega
 have v:(pg w.h.p j).u+n<=w.h.c.W:=Ww v;rw[G.conf]at v;refine Ok.get ab ab λj' hj'=>?_;obtain rfl:j=j':=Wz (x.symm.trans hj');refine Ok.get B J λp1 L=>Ok.get B J λp2 A=>Ok.get B J λp3 M=>Wd ⟨λ_=>?_,λe=>by cases e⟩;have g1:=Yv L;have g2:=Yv A;have g3:=Yv M;subst g1;subst g2;subst g3;have hm:=XE hp.conf (i:=j) B ab;refine⟨j,(pg w.h.p j).u,⟨⟨B,J⟩,⟨t3,v⟩,?_,rfl,rfl,rfl,rfl,rfl,rfl,?_,λi D E=>?_,?_,.inl ⟨O,?_⟩,.inl ⟨O,rfl,rfl⟩,.inl ⟨rfl,S⟩⟩⟩
 .show wU (wI (wI (4096+wI (j*w.h.c.W))+_))=_;rw[G.conf,Xe (n:=j*h0.c.W) ab ab,Xe (n:=4096+j*h0.c.W) ab ab,Xe ab ab,Xt ab ab];rfl
 .simp
 .simp[YW,B,J,D,Wj,E]
 .rw[YW _ B J B,Wm rfl];refine⟨t2,?_⟩;rw[Xe ab ab]
 rw[YW _ B J B,Wm rfl];simp
end
def XsD{a b:Int}(e:4096<=a)(hb:4096<=b)(h:ix a=ix b):a=b:=by unfold ix at h;omega
def Xb5{ws:List Int}{x a v:Int}(f:inW ws x)(g:4096<=a):wd (ws.set (ix x) v) a=if a=x then v else wd ws a:=by
 unfold wd;have j:ix x<ws.length:=by unfold inW at f;unfold ix;omega
 rw[Wk,Wk,U5];by_cases h:a=x
 .simp_all
 rw[Wj h,Wj];intro e;exact h (XsD g f.1 e.symm)
def XqC{ws:List Int}{f a x:Int}{k:Nat}(g:Yt ws a k)(j:Yt ws f k)(p:4096<=x):wd (ovr ws ((ws.drop (ix a)).take k) (ix f)) x=if f<=x/\x<f+k then wd ws (a+(x-f))else wd ws x:=by
 have e:((ws.drop (ix a)).take k).length=k:=by unfold Yt at g;simp[ix];omega
 unfold wd;rw[V2 (by rw[e];unfold Yt at j;unfold ix;omega),e];unfold Yt at g j;by_cases h:f<=x/\x<f+k
 .rw[Wm h,Wm (by unfold ix;omega),Wk,Ur,Wm (by unfold ix;omega),UN,←Wk];congr 1;unfold ix;omega
 rw[Wj h,Wj (by unfold ix;omega)]
def Xbz{ws:List Int}{f a:Int}{k:Nat}(g:Yt ws a k)(h:Yt ws f k):(ovr ws ((ws.drop (ix a)).take k) (ix f)).length=ws.length:=by
 have e:((ws.drop (ix a)).take k).length=k:=by unfold Yt at g;simp[ix];omega
 exact Zv (by rw[e];unfold Yt at h;unfold ix;omega)
def Vt{c:WP}(f:XU c=true){i j o p:Int}(h:i<j)(g:o<=c.W)(k:0<=p):Xc c i o<=Xc c j p:=by
 have q:=Xh.1 f;have:(i+1)*c.W<=j*c.W:=WW ab ab;have e:(i+1)*c.W=i*c.W+c.W:=by rw[U0,Oi]
 unfold Xc;omega
section
variable {N:Nat}{h0:Wh}{l:List Int}
structure OS(h0:Wh)(l:List Int)(w w':Wu)(O:Int->Prop)(s:Int->Int):Prop where
 ci:CI h0 l w'
 ob:∃O' s',OC h0 l w' O' s'/\∀a,O a->O' a/\s' a=s a
 sc:w'.d=w.d
 ql:w.q.length<=w'.q.length
def SameK(ps e:List Wp):Prop:=e.length=ps.length/\∀i,0<=i->(pg e i).k=(pg ps i).k/\(pg e i).u=(pg ps i).u
def SameK.refl(ps:List Wp):SameK ps ps:=⟨rfl,λ_ _=>⟨rfl,rfl⟩⟩
def SameK.set{ps f:List Wp}(h:SameK ps f){i:Int}(h0:0<=i)(p:i<f.length)(sp pins:Int):SameK ps (f.set i.toNat ⟨(pg f i).k,sp,(pg f i).u,pins⟩):=by
 refine⟨by rw[WL];exact h.1,λj g=>?_⟩;rw[YW _ h0 p g];split
 .rename_i e;subst e;exact h.2 j g
 exact h.2 j g
def Xf9(w:Wu)(a:Int){ps:List Wp}(h:ps.length<=100000):∀(n:Nat) (i:Int) (e:List Wp),0<=i->i<=ps.length->(ps.length-i).toNat<n->SameK ps e->Ok (QaK N w a n i e) λr=>SameK ps r
 |0,i,e,_,_,j,_=>by omega
 |n+1,i,e,h0,q,j,g=>by have s:=g.1;refine Ue ab (Wn (λf=>?_) λ_=>Wd g);have f:i<e.length:=Ww f;rw[Xe (n:=i+1) ab ab];refine Ok.get h0 f λp hp=>Wn (λ_=>Ok.get h0 f λp hp=>?_) λ_=>Wd g;have k:=Yv hp;subst k;exact Xf9 w a h n (i+1) _ ab ab ab (g.set h0 f _ _)
def CI.pages{w:Wu}(e:CI h0 l w){r:List Wp}(h:SameK w.h.p r):CI h0 l {w with h:={w.h with p:=r}}:=by
 have⟨O,s,f⟩:=e.obj;refine⟨e.conf,e.wlen,h.1.trans e.plen,e.spc,e.old,λj k=>?_,e.tnd,λa g=>?_,e.qnd,?_⟩
 .have:=e.tk j k;have q:=h.2 j this.1;rw[q.1,q.2,h.1];omega
 .have y:=e.knd a g;by_cases hp:0<=pgi h0.c a
  .rw[(h.2 _ hp).1];omega
  have u:∀ps:List Wp,pg ps (pgi h0.c a)=pg ps 0:=λps=>by unfold pg;grind
  rw[u,(h.2 0 ab).1,←u,y]
 refine⟨O,s,f.old,f.queue,f.fit,f.apart,λa g j k=>?_,λa g j v q x=>?_⟩
 .rw[(h.2 j (e.tk j k).1).2];exact f.taken a g j k
 rw[(h.2 j v).1]at x;exact f.free a g j v (by rw[←h.1];omega) x
def OC.pages{w:Wu}{O:Int->Prop}{s:Int->Int}(u:CI h0 l w)(e:OC h0 l w O s){g:List Wp}(h:SameK w.h.p g):OC h0 l {w with h:={w.h with p:=g}} O s:=by
 refine⟨e.old,e.queue,e.fit,e.apart,λa f j k=>?_,λa f j q v r=>?_⟩
 .rw[(h.2 j (u.tk j k).1).2];exact e.taken a f j k
 rw[(h.2 j q).1]at r;exact e.free a f j q (by rw[←h.1];omega) r
def CI.push{w:Wu}{O:Int->Prop}{s:Int->Int}(e:CI h0 l w)(g:OC h0 l w O s){a:Int}(p:O a)(u:a∉w.q)(k:WS):OS h0 l w {w with q:=w.q++[a],r:=k} O s:=by
 have j:OC h0 l {w with q:=w.q++[a],r:=k} O s:=by
  refine⟨g.old,λx f=>?_,g.fit,g.apart,g.taken,g.free⟩;rcases Wr.1 f with f|f
  .exact g.queue x f
  rw[Uc.1 f];exact p
 refine⟨⟨e.conf,e.wlen,e.plen,e.spc,e.old,e.tk,e.tnd,e.knd,?_,⟨O,s,j⟩⟩,⟨O,s,j,λa h=>⟨h,rfl⟩⟩,rfl,?_⟩
 .rw[UT];refine⟨e.qnd,ac,λx f y v=>?_⟩;rw[Uc.1 v];rintro rfl;exact u f
 simp
end
section
variable {N:Nat}{h0:Wh}{l:List Int}
def Xga(hp:Uv h0){w w':Wu}{O:Int->Prop}{s:Int->Int}(z:CI h0 l w)(k:OC h0 l w O s){a n at_ j u:Int}(q:a∈l)(hn:n=szA w.h.w a)(J:1<=n)(p:OL h0 w n w' at_ j u)(v:Int):
 Yt w.h.w a n.toNat/\Yt w.h.w at_ n.toNat/\(∀x,O x->x+s x<=at_\/Xc h0.c (j+1) 0<=x)/\¬O at_/\(∀x,O x->x+s x<=at_\/at_+n<=x)/\(∀x,4096<=x->wd ((ovr w.h.w ((w.h.w.drop (ix a)).take n.toNat) (ix at_)).set (ix a) v) x=if x=a then v else if at_<=x/\x<at_+n then wd w.h.w (a+(x-at_))else wd w.h.w x):=by
 have⟨r,K⟩:=k.old a q;have⟨L,M,R,S⟩:=k.fit a r;have U:=z.wlen;have V:=hp.words;have Y:=z.plen;have A:=hp.pages;have⟨B,Z⟩:=p.rng;have hm:=XE hp.conf (i:=j) B ab;have⟨u0,u1⟩:=p.fit;have g:at_=Xc h0.c j u:=p.addr;have D:at_=4096+j*h0.c.W+u:=g;have y:at_+n<=Xc h0.c (j+1) 0:=by
  have e:(j+1)*h0.c.W=j*h0.c.W+h0.c.W:=by rw[U0,Oi]
  unfold Xc;omega
 have E:Yt w.h.w a n.toNat:=by unfold Yt;omega
 have G:Yt w.h.w at_ n.toNat:=by unfold Yt;omega
 have away:∀x,O x->x+s x<=at_\/Xc h0.c (j+1) 0<=x:=by
  intro x f;rcases p.way with⟨g1,g2,g3⟩|⟨g1,g2,g3⟩
  .have:=k.taken x f j g1;rw[←g3,←g]at this;exact this
  have:=k.free x f j B Z g1;rw[g3]at g;rw[g];exact this
 have fresh:¬O at_:=by intro f;have:=away at_ f;have:=(k.fit at_ f).2.1;omega
 have aw2:∀x,O x->x+s x<=at_\/at_+n<=x:=λx f=>by have:=away x f;omega
 have I:(ovr w.h.w ((w.h.w.drop (ix a)).take n.toNat) (ix at_)).length=w.h.w.length:=Xbz E G;have hwd:∀x,4096<=x->wd ((ovr w.h.w ((w.h.w.drop (ix a)).take n.toNat) (ix at_)).set (ix a) v) x=if x=a then v else if at_<=x/\x<at_+n then wd w.h.w (a+(x-at_))else wd w.h.w x:=by intro x f;rw[Xb5 (by unfold inW;omega) f,XqC E G f];have:(n.toNat:Int)=n:=ab;rw[this]
 simp_all
def XnI(hp:Uv h0)(Y:∀a∈l,(pg h0.p (pgi h0.c a)).k=1\/(pg h0.p (pgi h0.c a)).k=2)(hpr:∀a∈l,0<=pgi h0.c a){w w':Wu}{O:Int->Prop}{s:Int->Int}(A:CI h0 l w)(J:OC h0 l w O s){a n at_ j u:Int}(Z:a∈l)(hn:n=szA w.h.w a)(hn1:1<=n)(g:OL h0 w n w' at_ j u)(v:Int)(hv:v % 4=2)(rp:WS):
 Yt w.h.w a n.toNat/\Yt w.h.w at_ n.toNat/\4096<=at_/\at_<=200000/\OS h0 l w {w' with h:={w'.h with w:=(ovr w.h.w ((w.h.w.drop (ix a)).take n.toNat) (ix at_)).set (ix a) v},q:=w'.q++[at_],r:=rp} O s:=by
 have⟨hOa,hsa⟩:=J.old a Z;have hwl:=A.wlen;have hw0:=hp.words;have hpl:=A.plen;have hpl0:=hp.pages;have⟨r1,r2⟩:=g.rng;have hm:=XE hp.conf (i:=j) r1 ab;have⟨u0,u1⟩:=g.fit;have hat:at_=Xc h0.c j u:=g.addr;have hat1:at_=4096+j*h0.c.W+u:=hat;have hend:at_+n=Xc h0.c j (u+n):=by rw[hat];unfold Xc;omega
 have⟨i1,i2,away,fresh,L,M⟩:=Xga hp A J Z hn hn1 g v;have hne:a≠at_:=λe=>fresh (e▸hOa);have hlen:(ovr w.h.w ((w.h.w.drop (ix a)).take n.toNat) (ix at_)).length=w.h.w.length:=Xbz i1 i2;have E:((ovr w.h.w ((w.h.w.drop (ix a)).take n.toNat) (ix at_)).set (ix a) v).length=w.h.w.length:=by rw[WL,hlen]
 have hsz:∀x,O x->szA ((ovr w.h.w ((w.h.w.drop (ix a)).take n.toNat) (ix at_)).set (ix a) v) x<=s x:=by
  intro x f;have hf:=J.fit x f;by_cases hxa:x=a
  .have:szA ((ovr w.h.w ((w.h.w.drop (ix a)).take n.toNat) (ix at_)).set (ix a) v) x=1:=by apply XqB;rw[M x hf.1,Wm hxa];exact hv
   omega
  have:szA ((ovr w.h.w ((w.h.w.drop (ix a)).take n.toNat) (ix at_)).set (ix a) v) x=szA w.h.w x:=by unfold szA hdA;rw[M x hf.1,Wj hxa,Wj];have:=L x f;omega
  omega
 have R:szA ((ovr w.h.w ((w.h.w.drop (ix a)).take n.toNat) (ix at_)).set (ix a) v) at_=n:=by refine Eq.trans ?_ hn.symm;unfold szA hdA;rw[M at_ ab,Wj (λe=>hne e.symm),Wm ab];rw[show a+(at_-at_)=a by omega]
 have G:=g.this;have hk0:∀i,0<=i->(pg w'.h.p i).k=0->i≠j/\(pg w.h.p i).k=0:=by
  intro i B hk;have z:i≠j:=by rintro rfl;rw[G.1]at hk;cases hk
  rw[g.other i B z]at hk;exact⟨z,hk⟩
 have htk:∀i∈w'.t,i=j\/(i∈w.t/\i≠j):=by
  intro i B;by_cases z:i=j
  .exact .inl z
  right;refine⟨?_,z⟩;rcases g.way with⟨_,g2,_⟩|⟨_,g2,_⟩
  .rwa[g2]at B
  rw[g2]at B;rcases Wr.1 B with B|B
  .exact B
  exact absurd (Uc.1 B) z
 have hqe:w'.q=w.q:=g.queue;refine⟨i1,i2,ab,ab,?_⟩;have hO:OC h0 l {w' with h:={w'.h with w:=(ovr w.h.w ((w.h.w.drop (ix a)).take n.toNat) (ix at_)).set (ix a) v},q:=w'.q++[at_],r:=rp} (λx=>O x\/x=at_) (λx=>if x=at_ then n else s x):=by
  have ne:∀x,O x->x≠at_:=λx f e=>fresh (e▸f);refine⟨λx f=>?_,λx f=>?_,λx f=>?_,λx y f I hxy=>?_,λx f i B=>?_,λx f i g1 g2 g3=>?_⟩
  .have⟨q1,q2⟩:=J.old x f;exact⟨.inl q1,by rw[Wj (ne x q1)];exact q2⟩
  .rcases Wr.1 f with f|f
   .rw[hqe]at f;exact .inl (J.queue x f)
   exact .inr (Uc.1 f)
  .rw[E];rcases f with f|rfl
   .rw[Wj (ne x f)];have⟨f1,f2,f3,f4⟩:=J.fit x f;exact⟨f1,f2,f3,hsz x f⟩
   rw[Wm rfl,R];omega
  .rcases f with f|rfl
   .rcases I with I|rfl
    .rw[Wj (ne x f),Wj (ne y I)];exact J.apart x y f I hxy
    have:=L x f;omega
   rcases I with I|rfl
   .have:=L y I;omega
   exact absurd rfl hxy
  .rcases htk i B with rfl|⟨K,S⟩
   .rw[G.2];rcases f with f|rfl
    .have:=away x f;omega
    omega
   have⟨t1,t2,t3,t4,t5⟩:=A.tk i K;rw[g.other i t1 S];rcases f with f|rfl
   .rw[Wj (ne x f)];exact J.taken x f i K
   by_cases U:i<j
   .have:=Vt hp.conf (o:=h0.c.W) (p:=u) U ab u0;have e:Xc h0.c (i+1) 0=Xc h0.c i h0.c.W:=by unfold Xc;rw[U0,Oi];omega
    omega
   have:=Vt hp.conf (i:=j) (j:=i) (o:=u+n) (p:=(pg w.h.p i).u) ab ab t4;omega
  have⟨k1,k2⟩:=hk0 i g1 g3;rcases f with f|rfl
  .rw[Wj (ne x f)];exact J.free x f i g1 (by rw[←g.plen];exact g2) k2
  by_cases U:i<j
  .have:=Vt hp.conf (o:=h0.c.W) (p:=u) U ab u0;have e:Xc h0.c (i+1) 0=Xc h0.c i h0.c.W:=by unfold Xc;rw[U0,Oi];omega
   omega
  have:=Vt hp.conf (i:=j) (j:=i) (o:=u+n) (p:=0) ab ab ab;omega
 refine⟨⟨?_,?_,?_,?_,?_,λi B=>?_,?_,λx f=>?_,?_,⟨_,_,hO⟩⟩,⟨_,_,hO,λx f=>⟨.inl f,?_⟩⟩,g.scanned,?_⟩
 .exact g.conf.trans A.conf
 .exact E.trans A.wlen
 .exact g.plen.trans A.plen
 .exact g.space.trans A.spc
 .exact(by rw[g.old];exact A.old)
 .rw[g.plen];rcases htk i B with rfl|⟨K,S⟩
  .rw[G.1,G.2];omega
  have:=A.tk i K;rw[g.other i this.1 S];exact this
 .rcases g.way with⟨_,g2,_⟩|⟨g1,g2,_⟩
  .rw[g2];exact A.tnd
  rw[g2,UT];refine⟨A.tnd,ac,λx f y I=>?_⟩;rw[Uc.1 I];rintro rfl;rw[(A.tk x f).2.2.1]at g1;cases g1
 .have D:=A.knd x f;have V:=Y x f;by_cases z:pgi h0.c x=j
  .rw[z]at D V⊢;rw[G.1];rcases g.way with⟨g1,_,_⟩|⟨g1,_,_⟩
   .rw[(A.tk j g1).2.2.1]at D;exact D
   rw[g1]at D;rw[←D]at V;rcases V with h|h<;>cases h
  rw[g.other _ (hpr x f) z];exact D
 .rw[hqe,UT];refine⟨A.qnd,ac,λx f y I=>?_⟩;rw[Uc.1 I];rintro rfl;exact fresh (J.queue x f)
 .exact Wj (λe=>fresh (by rw[←e];exact f))
 simp_all
structure Start(N:Nat)(h0:Wh)(l:List Int):Prop where
 hb:HB h0
 good:l≠[]->OM N h0
 prop:l≠[]->Uv h0
 st:ID N h0 l
def Xhw(a:Int)(h0:0<=a)(e:a<4294967296):wU (wU (4*a)+2) % 4=2:=by rw[Xt (n:=4*a) ab ab,Xt ab ab];omega
def YE{l:List Int}{a:Int}(h:l.contains a=false):a∉l:=by simp_all
def X5{l:List Int}{a:Int}(h:l.contains a=true):a∈l:=by simp_all
def CI.wl{w:Wu}(hb:HB h0)(e:CI h0 l w):w.h.w.length<=BIG:=by have:=hb.1;have:=e.wlen;unfold BIG;omega
def Xa9(hN:NB N)(A:Start N h0 l){w:Wu}{O:Int->Prop}{s:Int->Int}(g:CI h0 l w)(z:OC h0 l w O s)(a:Int):Ok (QaF N w a) λr=>r.2.2=0->OS h0 l w r.1 O s:=by
 have V:=hN;unfold NB at V;have hb:=A.hb;have hql:=g.ql hb;have J:=g.wl hb;have hww:=g.wlen;have hpl:=g.plen;have same:OS h0 l w w O s:=⟨g,⟨O,s,z,λ_ h=>⟨h,rfl⟩⟩,rfl,Uh _⟩
 refine Wn (λ_=>Wd λ_=>same) λ_=>?_;rw[XY a ab ab,Xa];refine Wn (λ_=>Wd λ_=>same) λU=>?_;have U:=YE U;have hol:=g.old.length_le;have hsl:=A.st.len;rw[XY a ab ab,Xa];refine Wn (λ_=>Wd λe=>by grind) λf=>?_;have f:a∈l:=g.old.subset (X5 (by simp_all));have K:l≠[]:=I8 f;have hp:=A.prop K;have hg:=A.good K;have W:=A.st.obj.at_ a f;have hwd0:=hp.words;have hpg0:=hp.pages;have hvc:=Xh.1 hp.conf;have B:=W.rng;have⟨_,Y,q1,_⟩:=XL hp.conf B;have L:inW w.h.w a:=by unfold inW;omega
 rw[Yg J,Xa,Wm L,Kr,Xa];have Z:Qca N w.h.c a=some (pgi h0.c a,pgo h0.c a,0):=by rw[KR,g.conf,hp.conf,Wj ac,Wm B];rfl
 rw[Z,Xa];refine Wn (λ_=>Wd λ_=>same) λ_=>?_;refine Wn (λ_=>Wd λe=>by grind) λ_=>?_;refine Wn (λ_=>Wd λe=>by grind) λ_=>?_;refine WJ (XcA hN (g.tl hb) _) λb _ _=>Wn (λ_=>?_) λ_=>?_
 .rw[QcO,Xb ab,Xb ab,Xa];exact Wd λ_=>g.push z (z.old a f).1 U _
 refine Ok.get Y ab λp E=>Wn (λ_=>?_) λhk2=>?_
 .refine Ue ab (Ok.get Y ab λp E=>?_);have G:=Yv E;subst G;rw[Xe (n:=pgi h0.c a+1) ab ab];refine WJ (Xf9 w a (ps:=w.h.p) ab N (pgi h0.c a+1) _ ab ab ab ((SameK.refl _).set Y ab _ _)) λqs _ M=>?_;rw[QcO,Xb (by grind),Xb (by grind),Xa];refine Wd λ_=>?_;have q:=λrp=>(g.pages M).push (z.pages g M) (z.old a f).1 U rp;exact⟨(q _).ci,(q _).ob,(q w.r).sc,(q w.r).ql⟩
 have G:=Yv E;have D:∀x∈l,(pg h0.p (pgi h0.c x)).k=1\/(pg h0.p (pgi h0.c x)).k=2:=λx hx=>(A.st.obj.at_ x hx).kind;have hpr:∀x∈l,0<=pgi h0.c x:=λx hx=>(XL hp.conf (A.st.obj.at_ x hx).rng).2.1;have hk1:(pg h0.p (pgi h0.c a)).k=1:=by
  rcases D a f with h|h
  .omega
  rw[←g.knd a f,G]at h;grind
 have hsz:=hg.sz A.st f hk1;have hso:=(z.old a f).2;have hfit:=z.fit a (z.old a f).1;have I:=Xy w.h.w a;rw[ZE,Xa,XQ,Xa];have e1:XB (Zd (w.h.w.getD (ix a) 0))=szA w.h.w a:=I.1;rw[e1];refine WJ (XdG hN hb hp g (n:=szA w.h.w a) I.2.1 ab) λy _ ⟨hy,_⟩=>Wn (λ_=>Wd λe=>by grind) λhy2=>?_;have⟨j,u,pq⟩:=hy (by grind);have q:=λv hv rp=>XnI (n:=szA w.h.w a) hp D hpr g z f rfl I.2.1 pq v hv rp;have⟨i1,i2,a1,a2,_⟩:=q 2 rfl y.1.r;rw[pq.words];have en:szA w.h.w a=(((szA w.h.w a).toNat:Nat):Int):=ab;have R:=Xf3 (N:=N) J y.2.1 a (szA w.h.w a).toNat ab ab;rw[←en,Wm ⟨i1,i2⟩]at R;rw[R,Xa,Vs,Xa,Wj ab];have ol:=Xbz i1 i2;rw[KE (by grind) ab,Xa];have S:inW (ovr w.h.w ((w.h.w.drop (ix a)).take (szA w.h.w a).toNat) (ix y.2.1)) a:=by unfold inW;rw[ol];exact L
 rw[Wm S];have hqe:=pq.queue;refine Ue (by grind) (Ue (by grind) (Wd λ_=>?_));exact(q _ (Xhw y.2.1 ab ab) _).2.2.2.2
end
section
variable {N:Nat}{h0:Wh}{l:List Int}
def XdH(h:Wh)(y:List Int×Int)(j:h.p.length<=100000):∀(n:Nat) (i:Int) (e:List Wp),0<=i->i<=h.p.length->(h.p.length-i).toNat<n->SameK h.p e->Ok (QbE N h y n i e) λr=>SameK h.p r
 |0,i,e,_,_,k,_=>by omega
 |n+1,i,e,h0,s,k,g=>by
  have u:=g.1;refine Ue ab (Wn (λf=>?_) λ_=>Wd g);have f:i<e.length:=Ww f;rw[Xe (n:=i+1) ab ab];have next:=XdH h y j n (i+1) e ab ab ab g
  refine Ok.get h0 f λp hp=>Wn (λ_=>Wn (λ_=>Ok.get h0 f λp hp=>?_) λ_=>next) λ_=>next
  have q:=Yv hp;subst q;exact XdH h y j n (i+1) _ ab ab ab (g.set h0 f _ _)
def Xi9{h:Wh}(hp:Uv h){a:Int}(f:IF h a){j:Int}(v:0<=j)(x:(pg h.p j).k=0):a+szA h.w a<=Xc h.c j 0\/Xc h.c (j+1) 0<=a:=by
 have⟨k,k1,k2,y,r⟩:=XcV hp f;have⟨z,A,B,s,D⟩:=XL hp.conf f.rng;have u:=f.kind;by_cases g:j<pgi h.c a
 .have:=Vt hp.conf (o:=h.c.W) (p:=pgo h.c a) g ab s;have e:Xc h.c (j+1) 0=Xc h.c j h.c.W:=by unfold Xc;rw[U0,Oi];omega
  omega
 by_cases E:j=pgi h.c a
 .grind
 by_cases q:j<pgi h.c a+k
 .have:=r (j-pgi h.c a) ab ab;grind
 have:(pgi h.c a+k)*h.c.W<=j*h.c.W:=WW ab ab;have G:Xc h.c (pgi h.c a+k) 0=4096+(pgi h.c a+k)*h.c.W+0:=rfl;have I:Xc h.c j 0=4096+j*h.c.W+0:=rfl;omega
def XdI{h:Wh}(hb:HB h)(hp:Uv h){l:List Int}(g:ID N h l){w:Wu}(y:w.h.c=h.c)(z:w.h.w=h.w)(e3:w.h.s=h.s)(k:SameK h.p w.h.p)(e4:w.o.Sublist l)(D:w.t=[])(E:w.q=[]):CI h l w:=by
 have A:OC h l w (λa=>a∈l) (szA h.w):=by
  refine⟨λa e=>⟨e,rfl⟩,λa e=>(by simp_all),λa e=>?_,λa b e r B=>?_,λa e j v=>(by simp_all),λa e j f G x=>?_⟩
  .rw[z];have f:=g.obj.at_ a e;exact⟨f.rng.1,(Xy h.w a).2.1,Ky hp f,Uu _⟩
  .have u:=g.obj.pw;rw[W7]at u;have⟨i,I,J⟩:=Wv e;have⟨j,v,K⟩:=Wv r;grind
  rw[(k.2 j f).1]at x;exact Xi9 hp (g.obj.at_ a e) f x
 refine⟨y,by grind,k.1,e3,e4,λj v=>(by simp_all),by simp_all,λa e=>?_,by simp_all,⟨_,_,A⟩⟩;exact(k.2 _ (XL hp.conf (g.obj.at_ a e).rng).2.1).1
def zW:Wu:=⟨zH,[],[],[],0,⟨0,0,0,0,0,0⟩⟩
def XnJ(N:Nat):Start N zH []:=⟨Kj,λh=>absurd rfl h,λh=>absurd rfl h,ID.nil N zH⟩
def XtU:CI zH [] zW:=by refine⟨rfl,rfl,rfl,rfl,.refl _,λj f=>(by cases f),List.nodup_nil,λa e=>(by rfl),List.nodup_nil,⟨λ_=>False,λ_=>0,?_⟩⟩;exact⟨λa e=>(by grind),λa e=>(by cases e),λa e=>e.elim,λa b e=>e.elim,λa e=>e.elim,λa e=>e.elim⟩
structure Se(N:Nat)(h:Wh)(l:List Int)(w:Wu):Prop where
 st:Start N h l
 ci:CI h l w
 sc:w.d=0
 pr:Uv h\/h.p=[]
def XnK(hN:NB N){h:Wh}(hb:HB h):Ok (QcZ N h) λr=>∃e l,Se N e l r.1:=by
 have f:=hN;unfold NB at f;have g:=hb.2;have zero:∃e l,Se N e l zW:=⟨zH,[],XnJ N,XtU,rfl,.inr rfl⟩
 refine WJ (YK (N:=N) ab hb.1 hb.2) λb eb hp=>Wn (λ_=>Wd zero) λs=>?_;have hp:=hp (by simp_all);refine WJ (Kz hN hb) λb _ j=>Wn (λ_=>Wd zero) λg=>?_;have j:=j (by simp_all);refine WJ (Ks hN hb) λy _ q=>Ue ab ?_;refine WJ (XdH h y ab N 0 h.p ab ab ab (SameK.refl _)) λu _ k=>Wd ?_;exact⟨h,y.1,⟨hb,λ_=>j,λ_=>hp,q.1⟩,XdI hb hp q.1 rfl rfl rfl k (.refl _) rfl rfl,rfl,.inl hp⟩
def Xhx(hN:NB N)(z:Start N h0 l)(rs:List Int)(A:rs.length<=1000000):∀(n:Nat) (i:Int) (w:Wu) (out:List Int),0<=i->i<=rs.length->(rs.length-i).toNat<n->CI h0 l w->(out.length:Int)=i ->
 Ok (Qa4 N rs n i w.h.c.W w.h.c.p w.h.w w.h.p w.h.s w.h.b w.o w.t w.q w.d w.r.j w.r.K w.r.F w.r.E w.r.f w.r.y out) λe=>match e with
  |.ret r=>r.2.2≠0
  |.nxt t=>∃(w':Wu) (g:List Int),CI h0 l w'/\w'.d=w.d/\g.length=rs.length/\t=(w'.h.c.W,w'.h.c.p,w'.h.w,w'.h.p,w'.h.s,w'.h.b,w'.o,w'.t,w'.q,w'.d,w'.r.j,w'.r.K,w'.r.F,w'.r.E,w'.r.f,w'.r.y,g)
 |0,i,w,out,_,_,B,_,_=>by omega
 |n+1,i,w,out,D,M,B,u,R=>by
  refine Wn (λk=>?_) λk=>Wd ⟨w,out,u,rfl,by grind,rfl⟩;have k:i<rs.length:=Ww k;rw[Xe (n:=i+1) ab ab];have⟨O,s,v⟩:=u.obj;refine Ok.get D k λp hp=>WJ (Xa9 hN z u v p) λy _ G=>Wn (λx=>Wd (by simp_all)) λx=>?_;have q:=G (by simp_all);refine Ue ab ((Xhx hN z rs A n (i+1) y.1 (out++[y.2.1]) ab ab ab q.ci (by simp_all)).mono λe x=>?_);cases e with
  |ret r=>omega
  |nxt t=>have⟨w',o',c1,I,J,L⟩:=x;exact⟨w',o',c1,I.trans q.sc,J,L⟩
def XnL(hN:NB N)(g:Start N h0 l){rs:List Int}(h:rs.length<=1000000){w:Wu}(j:CI h0 l w):Ok (Qc0 N w rs) λr=>r.2.2=0->CI h0 l r.1/\r.1.d=w.d/\r.2.1.length=rs.length:=by have f:=hN;unfold NB at f;refine I4 (Xhx hN g rs h N 0 w [] ab ab ab j rfl) (λa q=>Wd λe=>absurd e q) λb q=>Wd λ_=>?_;obtain⟨w',o',c1,k,p,rfl⟩:=q;exact⟨c1,k,p⟩
end
def Zn{d:Wy}{x:Int}(h:x∈XJ d):0<=x/\x<d.n:=by
 unfold XJ at h;by_cases e:XC d=true
 .rw[Wm e]at h;have:=KW h;omega
 simp_all
def J6(d:Wy):(XJ d).length<=255:=by
 unfold XJ;by_cases e:XC d=true
 .rw[Wm e];have:=Vr (d:=d) (k:=d.n.toNat) (i:=0);have:=XD e;omega
 simp_all
section
variable {N:Nat}{h0:Wh}{l:List Int}
def Xgb{w:Wu}{O:Int->Prop}{s:Int->Int}(e:CI h0 l w)(f:OC h0 l w O s){p x:Int}(hp:O p)(y:p<x)(z:x<p+s p)(v:Int):
 inW w.h.w x/\CI h0 l {w with h:={w.h with w:=w.h.w.set (ix x) v}}/\OC h0 l {w with h:={w.h with w:=w.h.w.set (ix x) v}} O s:=by
 have A:=f.fit p hp;have g:inW w.h.w x:=by unfold inW;omega
 have j:OC h0 l {w with h:={w.h with w:=w.h.w.set (ix x) v}} O s:=by
  refine⟨f.old,f.queue,λa k=>?_,f.apart,f.taken,f.free⟩;show 4096<=a/\1<=s a/\a+s a<=4096+(w.h.w.set (ix x) v).length/\szA (w.h.w.set (ix x) v) a<=s a;obtain⟨f1,f2,q,r⟩:=f.fit a k;rw[WL];refine⟨f1,f2,q,?_⟩;have:a≠x:=by
   rintro rfl;by_cases u:a=p
   .omega
   have:=f.apart a p k hp u;omega
  unfold szA hdA at *;rw[Xb5 g f1,Wj this];exact r
 refine⟨g,⟨e.conf,?_,e.plen,e.spc,e.old,e.tk,e.tnd,e.knd,e.qnd,⟨O,s,j⟩⟩,j⟩;rw[WL];exact e.wlen
def Xkd(hN:NB N)(g:Start N h0 l){p:Int}{ks:List Int}(A:ks.length<=255):∀(n:Nat) (i:Int) (w:Wu) (O:Int->Prop) (s:Int->Int),0<=i->i<=ks.length->(ks.length-i).toNat<n->CI h0 l w->OC h0 l w O s->O p->(∀k∈ks,0<=k/\k<255/\k+1<s p) ->
 Ok (Qbe N p ks n i w.h.c.W w.h.c.p w.h.w w.h.p w.h.s w.h.b w.o w.t w.q w.d w.r.j w.r.K w.r.F w.r.E w.r.f w.r.y) λe=>match e with
  |.ret r=>r.2.2≠0
  |.nxt t=>∃(w':Wu),CI h0 l w'/\w'.d=w.d/\w.q.length<=w'.q.length/\t=(w'.h.c.W,w'.h.c.p,w'.h.w,w'.h.p,w'.h.s,w'.h.b,w'.o,w'.t,w'.q,w'.d,w'.r.j,w'.r.K,w'.r.F,w'.r.E,w'.r.f,w'.r.y)
 |0,i,w,O,s,_,_,M,_,_,_,_=>by omega
 |n+1,i,w,O,s,R,hi,M,v,L,hp,S=>by
  have B:=hN;unfold NB at B;have U:=g.hb.1;refine Wn (λz=>?_) λz=>Wd ⟨w,v,rfl,Uh _,rfl⟩;have z:i<ks.length:=Ww z;rw[Xe (n:=i+1) ab ab];refine Ok.get R z λk D=>?_;have G:=Yr D;have⟨k0,k1,k2⟩:=S k G;have hf:=L.fit p hp;have V:=v.wlen;rw[Xt (n:=p+1) ab ab,Xt (n:=k) ab ab,Xt (n:=p+1+k) ab ab];rw[Yg (v.wl g.hb),Xa];refine WJ (Xa9 hN g v L _) λy _ Y=>Wn (λI=>Wd (by simp_all)) λI=>?_;have q:=Y (by simp_all);have⟨O',Z,J,hx⟩:=q.ob;have⟨u,hs'⟩:=hx p hp;have st:=Xgb q.ci J u (x:=p+1+k) ab ab y.2.1;rw[KE (q.ci.wl g.hb) ab,Xa,Wm st.1];refine(Xkd hN g A n (i+1) _ O' Z ab ab ab st.2.1 st.2.2 u (λk' hk'=>by simp_all)).mono λe I=>?_;cases e with
  |ret r=>omega
  |nxt t=>have⟨w',c1,c2,c3,c4⟩:=I;exact⟨w',c1,c2.trans q.sc,UL q.ql c3,c4⟩
def XqD(hN:NB N)(E:Start N h0 l){w:Wu}(g:CI h0 l w)(j:0<=w.d)(v:w.d<=w.q.length):Ok (Qef N w) λr=>r.2.2=0->CI h0 l r.1/\0<=r.1.d/\r.1.d<=r.1.q.length/\(r.2.1=true->r.1.d=w.d+1):=by
 have x:=hN;unfold NB at x;have hb:=E.hb;have G:=g.ql hb;refine Wn (λ_=>Wd λ_=>⟨g,j,v,λe=>by grind⟩) λf=>?_;have f:w.d<w.q.length:=by have:=WM f;omega
 refine Ok.get j f λp hp=>?_;have y:=Yr hp;have⟨O,s,z⟩:=g.obj;have u:=z.queue p y;have K:=z.fit p u;have A:inW w.h.w p:=by unfold inW;omega
 rw[Qdl,Yg (g.wl hb),Xa,Wm A,ZE,Xa,Xa,XdA ab,Xa];have B:=J6 (hdA w.h.w p);have D:=XD (ZX (wd w.h.w p));refine I4 (Xkd hN E (p:=p) (ks:=XJ (hdA w.h.w p)) B N 0 w O s ab ab ab g z u λk I=>?_) (λa q=>Wd λe=>absurd e q) λt q=>Wd λ_=>?_
 .have L:=Zn I;have M:szA w.h.w p=(hdA w.h.w p).n+1:=rfl;have R:(hdA w.h.w p).n<=255:=D.2.2.2;omega
 obtain⟨w',c1,J,S,rfl⟩:=q;have e:wI (w'.d+1)=w.d+1:=by rw[J,Xe ab ab]
 refine⟨⟨c1.conf,c1.wlen,c1.plen,c1.spc,c1.old,c1.tk,c1.tnd,c1.knd,c1.qnd,?_⟩,?_,?_,λ_=>e⟩
 .have⟨O,s,h⟩:=c1.obj;exact⟨O,s,⟨h.old,h.queue,h.fit,h.apart,h.taken,h.free⟩⟩
 .show 0<=wI (w'.d+1);omega
 grind
def XnM(hN:NB N)(g:Start N h0 l):∀(n:Nat) (w:Wu),CI h0 l w->0<=w.d->w.d<=w.q.length->(100001-w.d).toNat<n ->
 Ok (QbS N n w.h.c.W w.h.c.p w.h.w w.h.p w.h.s w.h.b w.o w.t w.q w.d w.r.j w.r.K w.r.F w.r.E w.r.f w.r.y) λr=>r.2=0->CI h0 l r.1
 |0,w,_,_,_,v=>by omega
 |n+1,w,x,z,g1,v=>by refine WJ (XqD hN g x z g1) λy _ A=>Wn (λB=>Wd λe=>absurd e (by simp_all)) λB=>?_;have⟨k,D,G,u⟩:=A (by simp_all);refine Wn (λ_=>Wd λ_=>k) λhb=>?_;have u:y.1.d=w.d+1:=u (by simp_all);have:=k.ql g.hb;exact XnM hN g n y.1 k D G ab
def XsE(hN:NB N)(f:Start N h0 l){w:Wu}(g:CI h0 l w)(h:0<=w.d)(g1:w.d<=w.q.length):Ok (Qem N w) λr=>r.2=0->CI h0 l r.1:=by have e:=hN;unfold NB at e;exact WJ (XnM hN f N w g h g1 ab) λy _ j=>Wd j
def XnN(hN:NB N)(f:Start N h0 l){w:Wu}(g:w.q.length<=100000)(hw:w.h.w.length<=BIG)(a:Int):Ok (QcC N w a) λ_=>True:=by have e:=hN;unfold NB at e;rw[QcC,XY a ab ab,Xa];refine Wn (λ_=>Wd trivial) λ_=>?_;rw[Yg hw,Xa,Kr,Xa];exact Wd trivial
def Xgc(hN:NB N){w:Wu}(hb:HB h0)(A:CI h0 l w){s:Int->Int}(u:w.o.length<=4096)(q:w.o.Pairwise λa b=>a+s a<=b)(f:∀a∈w.o,4096<=a/\1<=s a/\a+s a<=4096+h0.w.length):∀(n k:Nat) (v:List Int) (c:Int),k<=w.o.length->w.o.length-k<n->v.length=h0.w.length->(∀a∈w.o.drop k,szA v a<=s a) ->
 Ok (QaD N w n (k:Int) v c) λr=>r.1.length=h0.w.length
 |0,k,v,c,_,S,_,_=>by omega
 |n+1,k,v,c,hk,S,B,O=>by
  have D:=hN;unfold NB at D;have U:=hb.1;have V:=A.ql hb;have E:=A.tl hb;refine Wn (λy=>?_) λ_=>Wd B;have y:k<w.o.length:=by have:=Ww y;omega
  have g:(k:Int)<w.o.length:=ab;have hdr:=Wl y;rw[Xe (n:=(k:Int)+1) ab ab,show((k:Int)+1)=((k+1:Nat):Int) by omega];have R:∀p,Xd w.o (k:Int)=some p->p=w.o[k]:=by intro p hp;rw[Xf,Wb y]at hp;exact(Wz hp).symm
  have next:Ok (QaD N w n ((k+1:Nat):Int) v c) λr=>r.1.length=h0.w.length:=
   Xgc hN hb A u q f n (k+1) v c ab ab B λa G=>O a (by rw[hdr];exact WT _ G)
  refine Ok.get ab g λp hp=>?_;rw[KR,Xa];refine WJ (XcA hN (w:={w with h:={w.h with w:=v},r:=⟨_,_,_,_,_,_⟩}) E _) λb _ _=>Wn (λ_=>next) λ_=>?_;refine Ok.get ab g λp hp=>?_;rw[XY p ab ab,Xa];refine Wn (λ_=>next) λ_=>Ok.get ab g λp hp=>?_;have j:=R p hp;have I:p∈w.o:=by rw[j];exact Wt y
  have⟨f1,f2,f3⟩:=f p I;have W:=O p (by rw[hdr,←j];exact List.mem_cons_self);have J:inW v p:=by unfold inW;omega
  have Y:=Xy v p;rw[Qdl,Yg (by show v.length<=BIG;unfold BIG;omega),Xa,Wm J,ZE,Xa,Xa,KU,Xa];refine Ok.get ab g λp' K=>?_;obtain rfl:p=p':=j.trans (R p' K).symm;have e1:szA v p=(hdA v p).n+1:=rfl;have L:(Zd (v.getD (ix p) 0)).n=(hdA v p).n:=rfl;refine Ue (by rw[L];omega) (Ue (by rw[L];omega) ?_);have e:∀x:Int,([x]++List.replicate (Zd (v.getD (ix p) 0)).n.toNat (0:Int)).length=(szA v p).toNat:=by intro x;rw[WK,W9,L];simp only[Ul,IQ];omega
  rw[ZQ (by unfold BIG;omega) (by rw[e];unfold BIG;omega) (by rw[e];omega),Xa,e,Wm (by unfold Yt;omega)];have M:∀x:Int,(ovr v ([x]++List.replicate (Zd (v.getD (ix p) 0)).n.toNat (0:Int)) (ix p)).length=v.length:=by intro x;apply Zv;rw[e];unfold ix;omega
  refine Xgc hN hb A u q f n (k+1) _ _ ab ab ((M _).trans B) λa G=>?_;have Z:p+s p<=a:=by have z:=q.drop (i:=k);rw[hdr,U8]at z;rw[j];exact z.1 a G
  have:∀x:Int,szA (ovr v ([x]++List.replicate (Zd (v.getD (ix p) 0)).n.toNat (0:Int)) (ix p)) a=szA v a:=by intro x;unfold szA hdA wd;rw[V2 (by rw[e];unfold ix;omega),e,Wj];unfold ix;have:p+szA v p<=a:=ab;omega
  grind
def XqE(hN:NB N)(j:Start N h0 l){w:Wu}(e:CI h0 l w):Ok (Qeh N w) λr=>r.h.c=h0.c/\r.h.w.length=h0.w.length/\r.h.p=w.h.p/\r.h.p.length=h0.p.length/\r.t.length<=100000:=by
 have k:=hN;unfold NB at k;have hb:=j.hb;have⟨O,s,f⟩:=e.obj;have q:w.o.Pairwise λa b=>a+s a<=b:=by refine List.Pairwise.imp_of_mem ?_ (j.st.obj.pw.sublist e.old);intro a b g _ h;rw[(f.old a (e.old.subset g)).2];exact h
 have u:=UL e.old.length_le j.st.len;have v:=e.wlen;have:=Xgc hN (w:=w) hb e (s:=s) u q (λa g=>by have:=f.fit a (f.old a (e.old.subset g)).1;omega) N 0 w.h.w w.r.F ab ab v λa g=>(f.fit a (f.old a (e.old.subset (WR g))).1).2.2.2;have x:w.t.length<=100000:=e.tl hb;refine WJ this λr _ y=>Wd ⟨e.conf,y,rfl,e.plen,x⟩
def Xke{w:Wu}(e:List Wp)(f:Wp)(i c:Int)(hp:Uv h0)(g:w.h.c=h0.c)(j:0<=i)(g1:i<h0.c.p):∀(n:Nat) (k:Int) (v:List Int),0<=k->(65-k).toNat<n->v.length=h0.w.length->Ok (Qbf N w e f i c n k v) λr=>r.length=h0.w.length
 |0,k,v,_,s,_=>by omega
 |n+1,k,v,k0,s,u=>by have x:=Xh.1 hp.conf;have y:=XE hp.conf j g1;have hw:=hp.words;rw[Qbf,g];refine Wn (λq=>?_) λ_=>Wd u;have q:k<h0.c.W:=Ww q;rw[Xe (n:=k+1) ab ab,Xe (n:=i*h0.c.W) ab ab,Xe (n:=i*h0.c.W+k) ab ab];refine Ok.get ab ab λp _=>Xke e f i c hp g j g1 n (k+1) _ ab ab (by simp_all)
def Xgd(hN:NB N){w:Wu}(hb:HB h0)(hp:Uv h0\/h0.p=[])(g:w.h.c=h0.c):∀(n:Nat) (i c:Int) (v:List Int) (ps:List Wp),0<=i->i<=h0.p.length->(h0.p.length-i).toNat<n->v.length=h0.w.length->ps.length=h0.p.length->Ok (QaO N w n i c v ps) λr=>r.2.1.length=h0.w.length/\r.2.2.length=h0.p.length
 |0,i,c,v,ps,_,_,s,_,_=>by omega
 |n+1,i,c,v,ps,j,z,s,k,e=>by
  have q:=hN;unfold NB at q;have u:=hb.2;refine Ue ab (Wn (λf=>?_) λ_=>Wd ⟨k,e⟩);have f:i<ps.length:=Ww f;rw[Xe (n:=i+1) ab ab];have next:=Xgd hN (w:=w) hb hp g n (i+1) c v ps ab ab ab k e
  refine Ok.get j f λp _=>Wn (λ_=>next) λ_=>Wn (λ_=>next) λ_=>Ok.get j f λA _=>?_;rcases hp with hp|hp
  .have x:=hp.pages;refine WJ (Xke ps p i c hp g j ab N 0 v ab ab k) λr _ y=>?_;exact Xgd hN hb (.inl hp) g n (i+1) _ r _ ab ab ab y (by rw[WL];exact e)
  grind
def XqF(hN:NB N){w:Wu}(hb:HB h0)(hp:Uv h0\/h0.p=[])(g:w.h.c=h0.c)(hw:w.h.w.length=h0.w.length)(e:w.h.p.length=h0.p.length):Ok (Qeg N w) λr=>HB r.h/\r.t=w.t:=by
 have f:=hN;unfold NB at f;have j:=hb.1;have k:=hb.2;refine Ue ab (Ue ab (WJ (Xgd hN hb hp g N 0 _ _ _ ab ab ab hw e) λr _ q=>Wd ⟨⟨?_,?_⟩,rfl⟩))
 .show r.2.1.length<=_;omega
 simp_all
def Xkf(hN:NB N)(f:Start N h0 l)(ws:List Int)(q:ws.length<=1000000)(j:Wu×List Int×Int)(g:Wu×Int)(h:CI h0 l g.1):∀(n:Nat) (i c:Int) (out:List Int),0<=i->i<=ws.length->(ws.length-i).toNat<n->(out.length:Int)=i->Ok (QaL N ws j g n i c out) λr=>r.2.length=ws.length
 |0,i,c,out,_,_,s,_=>by omega
 |n+1,i,c,out,k,v,s,z=>by
  refine Wn (λe=>?_) λe=>Wd (by grind);have e:i<ws.length:=Ww e;rw[Xe (n:=i+1) ab ab];have next:=λu x=>Xkf hN f ws q j g h n (i+1) u (out++[x]) ab ab ab (by simp_all)
  refine Ok.get k e λp _=>Is (Wn (λ_=>Ok.get k e λp _=>?_) λ_=>Ue ab (next _ _));refine WJ (XnN hN f (w:=⟨_,_,_,_,_,_⟩) (h.ql f.hb) (h.wl f.hb) p) λy _ _=>Is (Wn (λ_=>Ue ab (next _ _)) λ_=>Ue ab (next _ _))
structure O9(rs ws:List Int)(r:Wh×List Int×List Int×WS×Int):Prop where
 hb:HB r.1
 len:r.2.2.2.2=0->r.2.1.length=rs.length/\r.2.2.1.length=ws.length
 no:r.2.2.2.2≠0->r.2.1=[]/\r.2.2.1=[]
def QjO(hN:NB N){h:Wh}(hb:HB h){rs ws:List Int}(M:rs.length<=1000000)(hw:ws.length<=1000000):Ok (Qcj N h rs ws) (O9 rs ws):=by
 have G:=hN;unfold NB at G;have bad:∀e:Int,e≠0->O9 rs ws (zH,[],[],⟨0,0,0,0,0,0⟩,e):=λe v=>⟨Kj,λh=>absurd h v,λ_=>⟨rfl,rfl⟩⟩
 refine WJ (YK (N:=N) ab hb.1 hb.2) λb _ _=>Wn (λ_=>Wd (bad 1 ag)) λ_=>Is ?_;refine WJ (Xb4 hN hb M) λb _ _=>Wn (λ_=>Wd (bad 19 ag)) λ_=>?_;refine WJ (Xb4 hN hb hw) λb _ _=>Wn (λ_=>Wd (bad 19 ag)) λ_=>?_;refine WJ (XnK hN hb) λy4 _ I=>?_;have⟨R,l,D⟩:=I;have z:=D.st;refine WJ (XnL hN z M D.ci) λS _ J=>Wn (λv=>Wd (bad _ (by simp_all))) λv=>?_;have⟨c1,c2,U⟩:=J (by simp_all);have V:=D.sc;refine WJ (XsE hN z c1 ab ab) λg _ L=>Wn (λv=>Wd (bad _ (by simp_all))) λv=>?_;have k:=L (by simp_all);refine WJ (Xkf hN z ws hw S g k N 0 _ [] ab ab ab rfl) λA _ B=>?_;have W:CI R l (Wu.mk g.1.h g.1.o g.1.t g.1.q g.1.d (WS.mk g.1.r.j g.1.r.K g.1.r.F g.1.r.E A.1 g.1.r.y)):=by obtain⟨O,s,u⟩:=k.obj;exact⟨k.conf,k.wlen,k.plen,k.spc,k.old,k.tk,k.tnd,k.knd,k.qnd,⟨O,s,⟨u.old,u.queue,u.fit,u.apart,u.taken,u.free⟩⟩⟩
 refine WJ (XqE hN z W) λY _ ⟨f1,f2,f3,Z,f5⟩=>?_;refine WJ (XqF hN (h0:=R) z.hb D.pr f1 f2 Z) λf _ ⟨g1,g2⟩=>?_;have fin:∀x:Int,O9 rs ws ((Wh.mk f.h.c f.h.w f.h.p (wI (1-f.h.s)) x),S.2.1,A.2,f.r,0):=λx=>⟨g1,λ_=>⟨U,B⟩,λh=>absurd rfl h⟩
 refine Is (Wn (λht=>?_) λ_=>Wd (fin _));have ht:0<(f.t.length:Int):=Ww ht;rw[g2]at ht⊢;rw[Xe ab ab];exact Ok.get ab ab λp _=>Wd (fin _)
end
def YH{α σ:Type}(q:σ->Nat->α->Bool)(nxp:σ->α->σ):σ->Nat->List α->Bool
 |_,_,[]=>true
 |s,k,x::l=>q s k x&&YH q nxp (nxp s x) (k+1) l
def Z0{α:Type}(q:α->Bool):∀(k:Nat) (l:List α),YH (λ(_:Unit) _ x=>q x) (λs _=>s) () k l=l.all q
 |_,[]=>rfl
 |k,x::l=>by rw[YH,Z0 q (k+1) l,Oc]
def J7{α σ:Type}{l:List α}{F:Nat->σ->Int->Option (Ex Bool Unit)}{q:σ->Nat->α->Bool}{nxp:σ->α->σ}{I:σ->Prop}(f:∀(n:Nat) (s:σ) (k:Nat) (p:α),I s->l[k]? = some p->F (n+1) s (k:Int)=bif q s k p then F n (nxp s p) ((k+1:Nat):Int)else some (.ret false))(g:∀(n:Nat) (s:σ),F (n+1) s (l.length:Int)=some (.nxt ()))(j:∀s k p,I s->l[k]? = some p->q s k p=true->I (nxp s p)):∀(n:Nat) (s:σ) (k:Nat),I s->k<=l.length->l.length-k<n->F n s (k:Int)=some (bif YH q nxp s k (l.drop k)then .nxt ()else .ret false)
 |0,s,k,_,_,u=>by omega
 |n+1,s,k,r,w,u=>by
  by_cases h:k<l.length
  .have e:=Wb h;rw[f n s k _ r e,Wl h,YH];cases v:q s k l[k]with
   |false=>rfl
   |true=>exact J7 f g j n _ (k+1) (j s k _ r e v) ab ab
  obtain rfl:k=l.length:=ab;rw[g,WZ (Uh _)];rfl
def Jx{α:Type}{l:List α}{F:Nat->Int->Option (Ex Bool Unit)}{q:Nat->α->Bool}(f:∀(n k:Nat) (p:α),l[k]? = some p->F (n+1) (k:Int)=bif q k p then F n ((k+1:Nat):Int)else some (.ret false))(g:∀(n:Nat),F (n+1) (l.length:Int)=some (.nxt ())){n:Nat}(j:l.length<n):F n 0=some (bif YH (λ(_:Unit)=>q) (λs _=>s) () 0 l then .nxt ()else .ret false):=by have h:=J7 (F:=λn (_:Unit) i=>F n i) (q:=λ_=>q) (nxp:=λs _=>s) (I:=λ_=>True) (l:=l) (λn s k p _ e=>f n k p e) (λn _=>g n) (λ_ _ _ _ _ _=>trivial) n () 0 trivial ab ab;assumption
def Xi{k n:Nat}(h:k<n):decide ((k:Int)<(n:Int))=true:=Wg ab
def Xw(n:Nat):decide ((n:Int)<(n:Int))=false:=We ab
def Xu{α:Type}{l:List α}{k:Nat}{p:α}(h:l[k]? = some p):k<l.length:=(Ia.1 h).1
def Xg{k:Nat}(h:k<=140737488355328):wI ((k:Int)+1)=((k+1:Nat):Int):=by rw[Xe ab ab];omega
def Jp(e:W6):Bool:=!decide (e.G<1)&&(!decide (e.G>4294967295)&&(e.V||!(e.a != 0)))
def Yh(l:List W6):Bool:=l.all Jp&&decide (l.length<=64)
def Xr(l:List W6):List Int:=(l.filter (·.V)).map (·.a)
def YP{N:Nat}{t:WD}(g:t.e.length<=1000000)(hN:1000000<N):Qcg N t=some (Yh t.e):=by
 have h:=Jx (l:=t.e) (F:=QcT N t) (q:=λ_=>Jp) (λn k p e=>?_) (λn=>?_) (n:=N) ab
 .rw[Qcg,h,Xa,Z0,Yh];cases t.e.all Jp
  .rw[Wa,Xq];rfl
  rw[Wc,Xl,Uf];congr 1;exact decide_eq_decide.2 ab
 .have f:=Xu e;rw[QcT,Xi f,Wc,Xf,e,Xa,Xg ab];unfold Jp;cases decide (p.G<1)<;>cases decide (p.G>4294967295)<;>cases p.V<;>cases (p.a != 0)<;>rfl
 simp[QcT,Xw,Wa]
def XdJ{N:Nat}{t:WD}(f:t.e.length<=1000000)(hN:1000000<N)(g:Yh t.e=true):∀(n k:Nat) (v:List Int),k<=t.e.length->t.e.length-k<n->v.length<=k ->
 QbQ N t n (k:Int) v=some (v++Xr (t.e.drop k))
 |0,k,v,_,j,_=>by omega
 |n+1,k,v,q,j,p=>by
  rw[QbQ];by_cases h:k<t.e.length
  .rw[Xi h,Wc,YP f hN,Xa,g,Wc,Xf,Wb h,Xa,Xa,Xg ab,Wl h,Xr];cases r:t.e[k].V
   .rw[Wa,XdJ f hN g n (k+1) v ab ab ab,UC (by simp_all)];rfl
   rw[Wc,Xb ab,XdJ f hN g n (k+1) _ ab ab (by simp_all),Uq ab];simp[Xr]
  obtain rfl:k=t.e.length:=ab;simp[Xr]
def XV{N:Nat}{t:WD}(f:t.e.length<=1000000)(hN:1000000<N):Qbu N t=some (bif Yh t.e then Xr t.e else[]):=by
 rw[Qbu];cases g:Yh t.e
 .obtain⟨m,rfl⟩:∃m,N=m+1:=⟨N-1,ab⟩
  rw[QbQ,YP f hN,g];by_cases h:0<t.e.length
  .rw[show decide ((0:Int)<(t.e.length:Int))=true from Wg ab,Wc,Xa,Wa,Xa];rfl
  rw[show decide ((0:Int)<(t.e.length:Int))=false from We ab,Wa,Xa];rfl
 have h:=XdJ f hN g N 0 [] ab ab ac;rw[show((0:Nat):Int)=0 from rfl,WX,W8]at h;simp[h,Xa]
def J8(l:List W6):(Xr l).length<=l.length:=by unfold Xr;grind
def Jq{l:List W6}(h:Yh l=true):l.length<=64:=by unfold Yh at h;simp_all
def XnO{l:List W6}(h:Yh l=true){e:W6}(f:e∈l):1<=e.G/\e.G<=4294967295/\(e.V=false->e.a=0):=by unfold Yh at h;rw[WH,WV]at h;have:=h.1 e f;unfold Jp at this;grind
def X6(l:List W6)(i g:Int):Int×Int:=
 if Yh l=false then(0,1)else if i<0\/(l.length:Int)<=i\/g<1 then(0,6)else
 match l[i.toNat]? with
 |none=>(0,6)
 |some e=>if g>e.G then(0,6)else if g<e.G then(0,8)else if e.V then(e.a,0)else(0,8)
def KY{N:Nat}{t:WD}(h:t.e.length<=1000000)(hN:1000000<N)(i g:Int):QdM N t i g=some (X6 t.e i g):=by
 rw[QdM,YP h hN,Xa,X6];cases k:Yh t.e
 .rfl
 simp only[Wi,Wa,UM,Bool.true_eq_false,if_false];by_cases h0:i<0
 .simp_all
 by_cases p:i>=(t.e.length:Int)
 .simp_all
 by_cases j:g<1
 .simp_all
 have f:i.toNat<t.e.length:=ab;rw[Wj j,Wj ab,X1 ab ab,Xa,Wb f];simp only[Xa];grind
def Y8{α σ:Type}{q:σ->Nat->α->Bool}{nxp:σ->α->σ}:∀(l:List α) (s:σ) (k:Nat),YH q nxp s k l=true↔∀i p,l[i]? = some p->q ((l.take i).foldl nxp s) (k+i) p=true
 |[],s,k=>by simp[YH]
 |x::l,s,k=>by
  rw[YH,WH,Y8 l (nxp s x) (k+1)];constructor
  .rintro⟨e,f⟩ i p hp;cases i with
   |zero=>simp_all
   |succ i=>grind
  intro h;refine⟨h 0 x rfl,λi p hp=>?_⟩;have:=h (i+1) p (by exact hp);grind
def XnP(l:List Int):Bool:=l.all λp=>!decide (p<0)&&!decide (p>4095)
def stQ(iss:List Int)(s:Int)(i:Nat)(p:UH):Bool:=!decide (p.J<=s)&&(!decide (p.J>(iss.length:Int))&&(!((iss.getD (p.J-1).toNat 0) != (i:Int))&&(p.V==(p.a != 0))))
def stB(iss:List Int)(l:List UH):Bool:=YH (stQ iss) (λ_ p=>p.J) 0 0 l
def neQ(n:Nat)(s:Int)(i:Nat)(p:UX):Bool:=(!((i:Int)==0)||(!(p.O != 0)&&p.B0))&&(!decide (p.O<s)&&(!decide (p.O>(n:Int))&&(!decide (p.C0<0)&&!decide (p.C0>64))))
def neB(n:Nat)(l:List UX):Bool:=YH (neQ n) (λ_ p=>p.O) 0 0 l
def YQ(l:List UH)(f t:Nat):Nat:=((l.drop f).take (t-f)).countP (·.V)
def toL(a:Wq)(i:Nat):Int:=match a.x[i+1]? with|some p=>p.O|none=>a.S.length
def Xhy(a:Wq)(_:Unit)(i:Nat)(p:UX):Bool:=!decide (((YQ a.S p.O.toNat (toL a i).toNat:Nat):Int)>p.C0)
def Xb6(a:Wq):Bool:=YH (Xhy a) (λs _=>s) () 0 a.x
def Ym(a:Wq):Bool:=!decide ((a.i.length:Int)>4096)&&(!decide ((a.x.length:Int)>64)&&((!((a.x.length:Int)==0)||!decide ((a.S.length:Int)>0))&&(XnP a.i&&(stB a.i a.S&&(neB a.S.length a.x&&Xb6 a)))))
def LBp(a:Wq):Prop:=a.S.length<=1000000/\a.x.length<=1000000/\a.i.length<=1000000
def KG{n:Nat}{l:List UX}(h:neB n l=true){i:Nat}{p:UX}(hp:l[i]? = some p):0<=p.O/\p.O<=n/\0<=p.C0/\p.C0<=64/\(i=0->p.O=0/\p.B0=true)/\∀g,l[i+1]? = some g->p.O<=g.O:=by
 have j:=(Y8 l (0:Int) 0).1 h;have inv:∀(k:Nat) (p:UX),l[k]? = some p->0<=p.O:=by
  intro k;induction k with
  |zero=>intro p hp;have:=j 0 p hp;unfold neQ at this;simp_all
  |succ k r=>
   intro p hp;have s:k<l.length:=by have:=Xu hp;omega
   have e:=Wb s;have u:=r _ e;have f:=j (k+1) p hp;rw[Im,e]at f;simp only[List.foldl_append,Option.toList,IA,List.foldl_nil]at f;unfold neQ at f;grind
 have h0:=j i p hp;unfold neQ at h0;simp at h0;refine⟨inv i p hp,ab,ab,ab,λv=>?_,λg q=>?_⟩
 .simp_all
 have f:=j (i+1) g q;rw[Im,hp]at f;unfold neQ at f;simp_all
def Xaz{iss:List Int}{l:List UH}(h:stB iss l=true){i:Nat}{p:UH}(hp:l[i]? = some p):(i:Int)+1<=p.J/\p.J<=iss.length/\iss.getD (p.J-1).toNat 0=i/\(p.V=true↔p.a≠0):=by
 have g:=(Y8 l (0:Int) 0).1 h;have inv:∀(k:Nat) (p:UH),l[k]? = some p->(k:Int)+1<=p.J:=by
  intro k;induction k with
  |zero=>intro p hp;have:=g 0 p hp;unfold stQ at this;simp at this;have:=WM this.1;omega
  |succ k j=>
   intro p hp;have q:k<l.length:=by have:=Xu hp;omega
   have e:=Wb q;have r:=j _ e;have f:=g (k+1) p hp;rw[Im,e]at f;simp only[List.foldl_append,Option.toList,IA,List.foldl_nil]at f;unfold stQ at f;simp at f;omega
 have h0:=g i p hp;unfold stQ at h0;simp_all
structure O0(a:Wq):Prop where
 iss:a.i.length<=4096
 sc:a.x.length<=64
 none:a.x.length=0->a.S.length=0
 issr:∀x∈a.i,0<=x/\x<=4095
 st:stB a.i a.S=true
 ne:neB a.S.length a.x=true
 cap:Xb6 a=true
def XW{a:Wq}:Ym a=true↔O0 a:=by
 unfold Ym XnP;simp only[WH,Ic,Ix,Ip,WV,beq_eq_false_iff_ne];constructor
 .rintro⟨p,q,r,s,g,j,k⟩;exact⟨ab,ab,λe=>ab,λx f=>by simp_all,g,j,k⟩
 intro h;exact⟨by have:=h.iss;omega,by have:=h.sc;omega,by have:=h.none;omega,λx f=>by have:=h.issr x f;omega,h.st,h.ne,h.cap⟩
def O0.slots{a:Wq}(h:O0 a):a.S.length<=a.i.length:=by
 by_cases f:a.S.length=0
 .omega
 have e:=Wb (show a.S.length-1<a.S.length by omega);have:=Xaz h.st e;omega
def Xge{N:Nat}{a:Wq}(j:a.S.length<=1000000)(t:Nat)(ht:t<=a.S.length):∀(n f c:Nat),t-f<n->c<=f->f<=1000000->QdY N a (t:Int) n (c:Int) (f:Int)=some (((c+YQ a.S f t:Nat):Int))
 |0,f,c,p,_,_=>by omega
 |n+1,f,c,p,q,r=>by
  rw[QdY];by_cases h:f<t
  .have g:f<a.S.length:=ab;rw[show decide ((f:Int)<(t:Int))=true from Wg ab,Wc,Xf,Wb g,Xa,Xg ab,Xg ab];have e:YQ a.S f t=(if a.S[f].V then 1 else 0)+YQ a.S (f+1) t:=by unfold YQ;rw[Wl g,show t-f=(t-(f+1))+1 by omega,List.take_succ_cons,U9];omega
   cases k:a.S[f].V
   .rw[Wa,Xge j t ht n (f+1) c ab ab ab,e,k];simp
   rw[Wc,Xge j t ht n (f+1) (c+1) ab ab ab,e,k];grind
  rw[show decide ((f:Int)<(t:Int))=false from We ab,Wa];unfold YQ;simp_all
def Xkg{N:Nat}{a:Wq}(e:a.S.length<=1000000)(hN:1000000<N){f t:Int}(f0:0<=f)(f1:f<=1000000)(g:0<=t)(h:t<=a.S.length):Qgi N a f t=some ((YQ a.S f.toNat t.toNat:Nat):Int):=by obtain⟨f,rfl⟩:=UP f0;obtain⟨t,rfl⟩:=UP g;rw[Qgi];have:=Xge (N:=N) e t ab N f 0 ab ab ab;rw[show((0:Nat):Int)=0 from rfl]at this;simp[this,Xa]
def XtV{N:Nat}{a:Wq}{i:Nat}(e:i<=1000000):Qhs N a (i:Int)=some (toL a i):=by
 rw[Qhs,Xg ab,toL];by_cases h:i+1<a.x.length
 .rw[Xi h,Wc,Xf,Wb h,Xa]
 grind
def XtW{a:Wq}(h:neB a.S.length a.x=true)(i:Nat):0<=toL a i/\toL a i<=a.S.length:=by
 unfold toL;cases e:a.x[i+1]? with
 |none=>simp
 |some p=>have:=KG h e;simp_all
def Ze{N:Nat}{a:Wq}(w:LBp a)(hN:1000000<N):Qcf N a=some (Ym a):=by
 have⟨h,y,hl3⟩:=w;have u:=Jx (l:=a.i) (F:=Qdt N a) (q:=λ_ p=>!decide (p<0)&&!decide (p>4095)) (λn k p e=>by
  have f:=Xu e
  rw[Qdt,Xi f,Wc,Xf,e,Xa,Xa,Xg ab]
  cases decide (p<0)<;>cases decide (p>4095)<;>rfl) (λn=>by rw[Qdt,Xw,Wa]) (n:=N) ab
 have z:=J7 (l:=a.S) (F:=λn s i=>Qay N a n s i) (q:=stQ a.i) (nxp:=λ_ p=>p.J) (I:=λs=>0<=s) (λn s k p v e=>by
  have f:=Xu e
  show Qay N a (n+1) s (k:Int)=_
  rw[Qay,Xi f,Wc,Xf,e,Xa,Xg ab]
  unfold stQ
  cases g1:decide (p.J<=s)
  .cases g2:decide (p.J>(a.i.length:Int))
   .have g1:=WM g1
    have g2:=WM g2
    rw[Wa,Wa,Xe ab ab,X1 ab ab,Xa]
    have ge:a.i[(p.J-1).toNat]'ab=a.i.getD (p.J-1).toNat 0:=by
     rw[Wk,Wb ab];rfl
    rw[ge]
    cases (a.i.getD (p.J-1).toNat 0 != (k:Int))<;>cases (p.V==(p.a != 0))<;>rfl
   .rfl
  .rfl) (λn s=>by show Qay N a (n+1) s _=_;rw[Qay,Xw,Wa]) (λs k p v e j=>by
   unfold stQ at j
   simp only[WH,Ic,Ix]at j
   have:=j.1
   omega) N 0 0 ab ab ab
 have A:=J7 (l:=a.x) (F:=λn s i=>Qat N a n s i) (q:=neQ a.S.length) (nxp:=λ_ p=>p.O) (I:=λ_=>True) (λn s k p v e=>by
  have f:=Xu e
  show Qat N a (n+1) s (k:Int)=_
  rw[Qat,Xi f,Wc,Xf,e,Xa,Xg ab]
  unfold neQ
  cases ((k:Int)==0)<;>cases (p.O != 0)<;>cases p.B0<;>cases decide (p.O<s)<;>cases decide (p.O>(a.S.length:Int))<;>cases decide (p.C0<0)<;>cases decide (p.C0>64)<;>rfl) (λn s=>by show Qat N a (n+1) s _=_;rw[Qat,Xw,Wa]) (λ_ _ _ _ _ _=>trivial) N 0 0 trivial ab ab
 rw[Z0]at u;rw[Qcf,Xv,u,Xa];have B:Qay N a N 0 0=some (bif stB a.i a.S then .nxt ()else .ret false):=z;have e3:Qat N a N 0 0=some (bif neB a.S.length a.x then .nxt ()else .ret false):=A;unfold Ym XnP;have main:(exK (bif (a.i.all λp=>!decide (p<0)&&!decide (p>4095))then Ex.nxt ()else Ex.ret false) (λr=>some r) λL=>
  bnd (Qay N a N 0 0) λe=>exK e (λr=>some r) λM=>
  bnd (Qat N a N 0 0) λe=>exK e (λr=>some r) λD=>
  bnd (QcS N a N 0) λe=>exK e (λr=>some r) λE=>some true)=some ((a.i.all λp=>!decide (p<0)&&!decide (p>4095))&&(stB a.i a.S&&(neB a.S.length a.x&&Xb6 a))):=by
  cases (a.i.all λp=>!decide (p<0)&&!decide (p>4095))
  .rw[Wa,Xq];rfl
  rw[Wc,Xl,Uf,B,Xa]
  cases stB a.i a.S
  .rw[Wa,Xq];rfl
  rw[Wc,Xl,Uf,e3,Xa]
  cases g:neB a.S.length a.x
  .rw[Wa,Xq];rfl
  rw[Wc,Xl,Uf]
  have G:=Jx (l:=a.x) (F:=QcS N a) (q:=Xhy a ()) (λn k p e=>by
   have f:=Xu e
   have K:=KG g e
   have ht:=XtW g k
   rw[QcS,Xi f,Wc,Xf,e,Xa,XtV ab,Xa,Xkg h hN K.1 ab ht.1 ht.2,Xa,Xa,Xg ab]
   unfold Xhy
   cases decide (((YQ a.S p.O.toNat (toL a k).toNat:Nat):Int)>p.C0)<;>rfl) (λn=>by rw[QcS,Xw,Wa]) (n:=N) ab
  rw[G,Xa]
  show exK (bif Xb6 a then Ex.nxt ()else Ex.ret false) _ _=_
  cases Xb6 a
  .rw[Wa,Xq]
  .rw[Wc,Xl]
 grind
def zL:Wq:=⟨[],[],[]⟩
def XA(l:List UH):List Int:=(l.filter (·.V)).map (·.a)
def XaA(l:List UH):(XA l).length<=l.length:=by unfold XA;grind
section
variable {N:Nat}{a:Wq}
def XdK(e:LBp a)(hN:1000000<N)(f:Ym a=true):∀(n k:Nat) (v:List Int),k<=a.S.length->a.S.length-k<n->v.length<=k ->
 QbP N a n (k:Int) v=some (v++XA (a.S.drop k))
 |0,k,v,_,g,_=>by omega
 |n+1,k,v,q,g,j=>by
  have p:=e.1;rw[QbP];by_cases h:k<a.S.length
  .rw[Xi h,Wc,Ze e hN,Xa,f,Wc,Xf,Wb h,Xa,Xa,Xg ab,Wl h,XA];cases r:a.S[k].V
   .rw[Wa,XdK e hN f n (k+1) v ab ab ab,UC (by simp_all)];rfl
   rw[Wc,Xb ab,XdK e hN f n (k+1) _ ab ab (by simp_all),Uq ab];simp[XA]
  obtain rfl:k=a.S.length:=ab;simp[XA]
def YR(e:LBp a)(hN:1000000<N):QcJ N a=some (bif Ym a then XA a.S else[]):=by
 rw[QcJ];cases f:Ym a
 .obtain⟨m,rfl⟩:∃m,N=m+1:=⟨N-1,ab⟩
  rw[QbP,Ze e hN,f];by_cases h:0<a.S.length
  .rw[show decide ((0:Int)<(a.S.length:Int))=true from Wg ab,Wc,Xa,Wa,Xa];rfl
  rw[show decide ((0:Int)<(a.S.length:Int))=false from We ab,Wa,Xa];rfl
 have h:=XdK e hN f N 0 [] ab (by have:=e.1;omega) ac;rw[show((0:Nat):Int)=0 from rfl,WX,W8]at h;simp[h,Xa]
def Z8(a:Wq):UX:=a.x.getD (a.x.length-1) ⟨0,0,false⟩
def XdL(h:a.x.length≠0)(e:a.x.length<=1000000):Xd a.x (wI ((a.x.length:Int)-1))=some (Z8 a):=by rw[Xe ab ab,show(a.x.length:Int)-1=((a.x.length-1:Nat):Int) by omega,Xf,Z8,Wk,Wb ab];rfl
def ZY(a:Wq)(id:Int):Wq×Int×Int×Int:=
 if Ym a=false then(zL,0,0,1)else if id=0 then(zL,0,0,1)else if a.x.length=0 then(zL,0,0,9)
 else if(Z8 a).C0<=((YQ a.S (Z8 a).O.toNat a.S.length:Nat):Int)then(zL,0,0,10)
 else if a.i.length=4096 then(zL,0,0,18)
 else(⟨a.S++[⟨(a.i.length:Int)+1,id,true⟩],a.x,a.i++[(a.S.length:Int)]⟩,(a.S.length:Int),(a.i.length:Int)+1,0)
def Xhz(f:Ym a=true)(h:a.x.length≠0):0<=(Z8 a).O/\(Z8 a).O<=a.S.length:=by
 have g:=XW.1 f;have e:=Wb (show a.x.length-1<a.x.length by omega);have:=KG g.ne e;have j:Z8 a=a.x[a.x.length-1]:=by unfold Z8;rw[Wk,e];rfl
 simp_all
def XaB(p:LBp a)(hN:1000000<N)(id:Int):Qeo N a id=some (ZY a id):=by
 have⟨e,f,hl3⟩:=p;rw[Qeo,Ze ⟨e,f,hl3⟩ hN,Xa,ZY];cases q:Ym a
 .rfl
 rw[Wi,Wa,Wj ac];by_cases k:id=0
 .subst k;rfl
 rw[Wj k,show(id==0)=false by simp_all,Wa];by_cases g:a.x.length=0
 .rw[Wm g,g];rfl
 rw[Wj g,show((a.x.length:Int)==0)=false by simp_all,Wa,XdL g f,Xa];have ht:=Xhz q g;rw[Xkg e hN ht.1 ab ab ab,Xa,Xa,Int.toNat_natCast];by_cases h:(Z8 a).C0<=((YQ a.S (Z8 a).O.toNat a.S.length:Nat):Int)
 .rw[Wm h,Wg (show((YQ a.S (Z8 a).O.toNat a.S.length:Nat):Int)>=_ from h),Wc];rfl
 rw[Wj h,We (show¬((YQ a.S (Z8 a).O.toNat a.S.length:Nat):Int)>=_ from h),Wa];by_cases j:a.i.length=4096
 .rw[Wm j,j];rfl
 rw[Wj j,show((a.i.length:Int)==4096)=false by grind,Wa,Xb ab,Xb ab,Xb ab,Xb ab,Xe ab ab]
def ZR:LBp zL:=⟨by simp[zL],by simp[zL],by simp[zL]⟩
def Xkh(g:LBp a)(id:Int):LBp (ZY a id).1:=by
 have⟨h,e,hl3⟩:=g;unfold ZY;cases j:Ym a
 .exact ZR
 have f:=XW.1 j;have k:=f.slots;have p:=f.iss;split
 .exact ZR
 split
 .exact ZR
 split
 .exact ZR
 split
 .exact ZR
 split
 .exact ZR
 refine⟨?_,e,?_⟩
 .simp;omega
 grind
def X9(a:Wq)(i g:Int):Int×Int:=
 if Ym a=false then(0,1)else if g<1\/(a.i.length:Int)<g then(0,6)else
 if a.i.getD (g-1).toNat 0≠i then(0,6)else if(a.S.length:Int)<=i then(0,7)else
 match a.S[i.toNat]? with
 |none=>(0,7)
 |some p=>if p.J≠g then(0,7)else if p.V then(p.a,0)else(0,8)
def XaC(r:LBp a)(hN:1000000<N)(i g:Int):Qer N a i g=some (X9 a i g):=by
 have h:=r;have⟨u,v,hl3⟩:=r;rw[Qer,Ze h hN,Xa,X9];cases w:Ym a
 .rfl
 have x:=XW.1 w;rw[Wi,Wa,Wj ac];by_cases j:g<1
 .rw[Wg j,Wc,Wm (.inl j)]
 rw[We j,Wa];by_cases k:g>(a.i.length:Int)
 .rw[Wg k,Wc,Wm (.inr k)]
 have e:(g-1).toNat<a.i.length:=ab;rw[We k,Wa,Wj ab,Xe ab ab,X1 ab ab,Xa];have ge:a.i[(g-1).toNat]=a.i.getD (g-1).toNat 0:=by rw[Wk,Wb e];rfl
 have s:=x.issr _ (Wt e);rw[ge]at s⊢;by_cases y:a.i.getD (g-1).toNat 0=i
 .rw[y]at s⊢;rw[show(i != i)=false by simp,Wa,Wj ac];by_cases p:i>=(a.S.length:Int)
  .rw[Wg p,Wc,Wm p]
  have f:i.toNat<a.S.length:=ab;rw[We p,Wa,Wj ab,X1 ab ab,Xa,Wb f];simp only[Xa];by_cases q:a.S[i.toNat].J=g
  .rw[q,show(g != g)=false by simp,Wa,Wj ac];cases a.S[i.toNat].V<;>rfl
  rw[show(a.S[i.toNat].J != g)=true by simpa using q,Wc,Wm q]
 grind
def XaD{i g:Int}(h:(X9 a i g).2=0):Ym a=true/\0<=i/\∃p,a.S[i.toNat]? = some p/\p.J=g/\p.V=true/\(X9 a i g).1=p.a:=by
 unfold X9 at h⊢;cases j:Ym a
 .rw[j]at h;cases h
 have u:=XW.1 j;rw[j]at h;by_cases q:g<1\/(a.i.length:Int)<g
 .rw[Wm q]at h;cases h
 rw[Wj q]at h⊢;have f:(g-1).toNat<a.i.length:=ab;have ge:a.i[(g-1).toNat]=a.i.getD (g-1).toNat 0:=by rw[Wk,Wb f];rfl
 have w:=u.issr _ (Wt f);by_cases k:a.i.getD (g-1).toNat 0≠i
 .rw[Wm k]at h;cases h
 rw[Wj k]at h⊢;by_cases r:(a.S.length:Int)<=i
 .rw[Wm r]at h;cases h
 rw[Wj r]at h⊢;have x:0<=i:=by have:a.i.getD (g-1).toNat 0=i:=Classical.not_not.1 k;omega
 have e:=Wb (show i.toNat<a.S.length by omega);rw[e]at h⊢;simp only at h⊢;by_cases s:a.S[i.toNat].J≠g
 .rw[Wm s]at h;cases h
 rw[Wj s]at h⊢;cases v:a.S[i.toNat].V
 .rw[v]at h;cases h
 simp_all
def JI(a:Wq)(i g:Int):Wq×Int:=
 if(X9 a i g).2≠0 then(zL,(X9 a i g).2)else(⟨a.S.set i.toNat ⟨g,0,false⟩,a.x,a.i⟩,0)
def Xgf(e:LBp a)(hN:1000000<N)(i g:Int):QdN N a i g=some (JI a i g):=by
 rw[QdN,XaC e hN,Xa,JI];by_cases h:(X9 a i g).2=0
 .have⟨_,h0,p,hp,_⟩:=XaD h;have:=Xu hp;have f:=e.1;rw[h,show((0:Int) != 0)=false from rfl,Wa,Wj ac,Xb ab,X1 h0 ab,Xa]
 rw[show((X9 a i g).2 != 0)=true by simp_all,Wc,Wm h];rfl
def Xki(e:LBp a)(i g:Int):LBp (JI a i g).1:=by
 unfold JI;split
 .exact ZR
 exact⟨by rw[WL];exact e.1,e.2⟩
def KA(a:Wq)(c:Int):Wq×Int:=
 if Ym a=false\/c<0\/64<c then(zL,1)else if a.x.length=0 then(zL,9)else if a.x.length=64 then(zL,17)else(⟨a.S,a.x++[⟨(a.S.length:Int),c,false⟩],a.i⟩,0)
def XbA(j:LBp a)(hN:1000000<N)(c:Int):Qei N a c=some (KA a c):=by
 have k:=j.2.1;rw[Qei,Qgl,Ze j hN,Xa,KA];cases p:Ym a
 .rw[Ub,Wc,Xa,Wm (.inl rfl)];rfl
 rw[Wi,Wa];by_cases e:c<0
 .rw[Wg e,Wc,Xa,Wm (.inr (.inl e))];rfl
 by_cases f:c>64
 .rw[We e,Wa,Wg f,Wc,Xa,Wm (.inr (.inr f))];rfl
 rw[We e,Wa,We f,Wa,Xv,Ub,Wc,Wj (by simp_all)];by_cases g:a.x.length=0
 .rw[Wm g,g];rw[show(((0:Nat):Int)==0)=true from rfl,Wc,Xa];rfl
 rw[Wj g,show((a.x.length:Int)==0)=false by simp_all,Wa];by_cases h:a.x.length=64
 .rw[Wm h,h];rw[show(((64:Nat):Int)==64)=true from rfl,Wc,Xa];rfl
 rw[Wj h,show((a.x.length:Int)==64)=false by grind,Wa,Xb ab,Xb ab,Xa]
def XhA(e:LBp a)(c:Int):LBp (KA a c).1:=by
 unfold KA;cases f:Ym a
 .exact ZR
 have:=(XW.1 f).sc;split
 .exact ZR
 split
 .exact ZR
 split
 .exact ZR
 exact⟨e.1,by grind,e.2.2⟩
def Zo(a:Wq):Wq×Int:=
 if Ym a=false then(zL,1)else if a.x.length=0 then(zL,9)else if(Z8 a).B0 then(zL,9)else(⟨a.S.take (Z8 a).O.toNat,a.x.take (a.x.length-1),a.i⟩,0)
def XcW(h:LBp a)(hN:1000000<N):QeX N a=some (Zo a):=by
 have⟨g,e,hl3⟩:=h;rw[QeX,Ze ⟨g,e,hl3⟩ hN,Xa,Zo];cases j:Ym a
 .rfl
 by_cases f:a.x.length=0
 .rw[Wm f,f];rfl
 have ht:=Xhz j f;rw[Wj f,show((a.x.length:Int)==0)=false by simpa using f,Wa,XdL f e,Xa];cases k:(Z8 a).B0
 .rw[Wa,QgK,XdL f e,Xa,Xe ab ab,Xb ab,Xb ab,Xb ab,Xb ab,Xa];rw[show((a.x.length:Int)-1).toNat=a.x.length-1 by omega];rfl
 rfl
def Xgg(e:LBp a):LBp (Zo a).1:=by
 unfold Zo;split
 .exact ZR
 split
 .exact ZR
 split
 .exact ZR
 have⟨f,g,hl3⟩:=e;exact⟨by grind,by grind,hl3⟩
def XdM(rs:List Int)(B:a.S.length<=1000000):∀(n k:Nat) (c:Int) (v:List UH),k<=a.S.length->a.S.length-k<n->v.length=a.S.length->v.drop k=a.S.drop k->0<=c->c+(XA (a.S.drop k)).length=rs.length->rs.length<=1000000 ->
 Ok (Qbg N a rs n c (k:Int) v) λe=>match e with|.ret r=>r=(zL,1)|.nxt v=>v.length=a.S.length
 |0,k,c,v,_,D,_,_,_,_,_=>by omega
 |n+1,k,c,v,I,D,w,hd,x,y,g=>by
  refine Ue ab (Wn (λh=>?_) λh=>Wd w);have h:k<a.S.length:=by have:=Ww h;omega
  have j:(k:Int)<v.length:=ab;rw[Xg ab];have f:=Wl (show k<v.length by omega);have s:=Wl h;rw[hd,s]at f;have E:a.S[k]=v[k]:=(IX f).1;have G:a.S.drop (k+1)=v.drop (k+1):=(IX f).2;refine Ok.get ab j λp hp=>?_;have z:p=a.S[k]:=by rw[Xf,Wb ab,←E]at hp;exact(Wz hp).symm
  rw[s]at y;refine Wn (λu=>?_) λu=>?_
  .refine XdM rs B n (k+1) c v ab ab w G.symm x ?_ g;rw[←y];unfold XA;grind
  have u:a.S[k].V=true:=by rw[←z];simpa using u
  have A:c+1+(XA (a.S.drop (k+1))).length=rs.length:=by rw[←y];unfold XA;rw[Uq (by rw[u]),UA,Ul];omega
  refine Ok.get x ab λq _=>Wn (λ_=>Wd rfl) λ_=>Ok.get x ab λq _=>Ok.get ab j λJ _=>?_;rw[Xe (n:=c+1) ab ab];refine XdM rs B n (k+1) (c+1) _ ab ab (by rw[WL];exact w) ?_ ab A g;rw[UV ab];simp_all
def XnQ(j:LBp a)(hN:1000000<N){rs:List Int}(p:rs.length<=1000000):Ok (Qda N a rs) λr=>LBp r.1:=by
 have e:=j;have⟨f,g,hl3⟩:=j;rw[Qda,Ze e hN,Xa];refine Wn (λ_=>Wd ZR) λh=>?_;have h:Ym a=true:=by simpa using h
 rw[YR e hN,Xa,h,Wc];refine Wn (λ_=>Wd ZR) λk=>Ue ab ?_;have k:(rs.length:Int)=(((XA a.S).length:Nat):Int):=by simpa using k
 refine I4 (XdM rs f N 0 0 a.S ab ab rfl rfl ab (by rw[WX];omega) p) (λr q=>Wd (by rw[q];exact ZR)) λv q=>Wd ⟨?_,g,hl3⟩;simp_all
end
def TB(t:WD):Prop:=t.e.length<=1000000
def zT:WD:=⟨[]⟩
def XbB:TB zT:=by simp[TB,zT]
section
variable {N:Nat}{t:WD}
def XhB(l:List W6):Option Nat:=l.findIdx? λe=>!e.V&&decide (e.G<4294967295)
def Zx(t:WD)(id:Int):WD×Int×Int×Int:=
 if Yh t.e=false then(zT,0,0,1)else
 match XhB t.e with
 |some k=>(⟨t.e.set k ⟨(t.e.getD k ⟨0,0,false⟩).G+1,id,true⟩⟩,(k:Int),(t.e.getD k ⟨0,0,false⟩).G+1,0)
 |none=>if t.e.length=64 then(zT,0,0,18)else(⟨t.e++[⟨1,id,true⟩]⟩,(t.e.length:Int),1,0)
def Xkj(g:TB t)(p:Yh t.e=true)(id:Int):∀(n k:Nat),k<=t.e.length->t.e.length-k<n->Qcc N t id n (k:Int)=some (match (t.e.drop k).findIdx? (λe=>!e.V&&decide (e.G<4294967295))with
 |some j=>.ret (⟨t.e.set (k+j) ⟨(t.e.getD (k+j) ⟨0,0,false⟩).G+1,id,true⟩⟩,((k+j:Nat):Int),(t.e.getD (k+j) ⟨0,0,false⟩).G+1,0)
 |none=>.nxt ())
 |0,k,_,r=>by omega
 |n+1,k,u,r=>by
  unfold TB at g;rw[Qcc,Xb ab];by_cases h:k<t.e.length
  .have e:=Wb h;have s:t.e.getD k ⟨0,0,false⟩=t.e[k]:=by rw[Wk,e];rfl
   have v:=XnO p (Wt h);rw[Xi h,Wc,Xf,e];simp only[Xa];rw[Xg ab,Wl h,List.findIdx?_cons];have next:=Xkj g p id n (k+1) ab ab
   have q:Qcc N t id n ((k+1:Nat):Int)=some (match Option.map (λi=>i+1) ((t.e.drop (k+1)).findIdx? (λe=>!e.V&&decide (e.G<4294967295)))with
    |some j=>.ret (⟨t.e.set (k+j) ⟨(t.e.getD (k+j) ⟨0,0,false⟩).G+1,id,true⟩⟩,((k+j:Nat):Int),(t.e.getD (k+j) ⟨0,0,false⟩).G+1,0)
    |none=>.nxt ()):=by
    rw[next]
    cases (t.e.drop (k+1)).findIdx? (λe=>!e.V&&decide (e.G<4294967295))with
    |none=>rfl
    |some j=>simp only[UZ];rw[show k+1+j=k+(j+1) by omega]
   cases w:t.e[k].V
   .cases x:decide (t.e[k].G<4294967295)
    .exact q
    rw[Ub,Wc,Wc,Bool.and_true,Wm rfl];have f:(k:Int).toNat=k:=ab;rw[Xe ab ab,f,Xf,U5,Wm rfl,Wm h,Xa];simp only[IT];rw[s]
   exact q
  grind
def Jy(f:TB t)(hN:1000000<N)(id:Int):QcV N t id=some (Zx t id):=by
 have g:=f;unfold TB at f;rw[QcV,YP f hN,Xa,Zx];cases p:Yh t.e
 .rfl
 have k:=Xkj (N:=N) g p id N 0 ab ab;rw[show((0:Nat):Int)=0 from rfl,WX]at k;rw[Wi,Wa,Xb ab,k,Xa,Wj ac,XhB];cases t.e.findIdx? (λe=>!e.V&&decide (e.G<4294967295))with
 |some j=>simp[Xq,UE]
 |none=>
  simp only[Xl];rw[Xb ab];by_cases h:t.e.length=64
  .rw[Wm h,h];rfl
  rw[Wj h,show((t.e.length:Int)==64)=false by grind,Wa,Xb ab,Xb ab]
def Xkk(g:TB t)(id:Int):TB (Zx t id).1:=by
 unfold Zx;cases f:Yh t.e
 .exact XbB
 have:=Jq f;rw[Wj ac];cases XhB t.e with
 |some k=>show(t.e.set _ _).length<=_;grind
 |none=>
  simp only;split
  .exact XbB
  show(t.e++[_]).length<=_;grind
def J9{i g:Int}(h:(X6 t.e i g).2=0):Yh t.e=true/\0<=i/\∃p,t.e[i.toNat]? = some p/\p.G=g/\p.V=true/\(X6 t.e i g).1=p.a:=by unfold X6 at h⊢;grind
def Z9(t:WD)(i g:Int):WD×Int:=
 if(X6 t.e i g).2≠0 then(zT,(X6 t.e i g).2)else(⟨t.e.set i.toNat ⟨g,0,false⟩⟩,0)
def XaE(f:TB t)(hN:1000000<N)(i g:Int):QcH N t i g=some (Z9 t i g):=by
 unfold TB at f;rw[QcH,KY f hN,Xa,Z9];by_cases h:(X6 t.e i g).2=0
 .have⟨_,h0,p,hp,_⟩:=J9 h;have:=Xu hp;rw[h,show((0:Int) != 0)=false from rfl,Wa,Wj ac,QgJ,Xb ab,X1 h0 ab,Xa,Xa]
 rw[show((X6 t.e i g).2 != 0)=true by simp_all,Wc,Wm h];rfl
def Xkl(f:TB t)(i g:Int):TB (Z9 t i g).1:=by
 unfold Z9;split
 .exact XbB
 show(t.e.set _ _).length<=_;rw[WL];exact f
def XdN(rs:List Int)(z:t.e.length<=1000000):∀(n k:Nat) (c:Int) (v:List W6),k<=t.e.length->t.e.length-k<n->v.length=t.e.length->v.drop k=t.e.drop k->0<=c->c+(Xr (t.e.drop k)).length=rs.length->rs.length<=1000000 ->
 Ok (Qbh N rs n c (k:Int) v) λv=>v.length=t.e.length
 |0,k,c,v,_,B,_,_,_,_,_=>by omega
 |n+1,k,c,v,G,B,u,hd,A,w,g=>by
  refine Ue ab (Wn (λh=>?_) λh=>Wd u);have h:k<t.e.length:=by have:=Ww h;omega
  have j:(k:Int)<v.length:=ab;rw[Xg ab];have f:=Wl (show k<v.length by omega);have r:=Wl h;rw[hd,r]at f;have D:t.e[k]=v[k]:=(IX f).1;have E:t.e.drop (k+1)=v.drop (k+1):=(IX f).2;refine Ok.get ab j λp hp=>?_;have x:p=t.e[k]:=by rw[Xf,Wb ab,←D]at hp;exact(Wz hp).symm
  rw[r]at w;refine Wn (λs=>?_) λs=>?_
  .have s:t.e[k].V=true:=by rw[←x];exact s
   have y:c+1+(Xr (t.e.drop (k+1))).length=rs.length:=by rw[←w];unfold Xr;rw[Uq (by rw[s]),UA,Ul];omega
   refine Ok.get A ab λq _=>Ok.get ab j λI _=>?_;rw[Xe (n:=c+1) ab ab];refine XdN rs z n (k+1) (c+1) _ ab ab (by rw[WL];exact u) ?_ ab y g;rw[UV ab];simp_all
  refine XdN rs z n (k+1) c v ab ab u E.symm A ?_ g;rw[←w];unfold Xr;grind
def Xff(f:TB t)(hN:1000000<N){rs:List Int}(j:rs.length<=1000000):Ok (Qb8 N t rs) λr=>r.1.e.length<=t.e.length:=by
 unfold TB at f;rw[Qb8,YP f hN,Xa];refine Wn (λ_=>Wd ac) λg=>?_;have g:Yh t.e=true:=by simpa using g
 have k:=J8 t.e;rw[XV f hN,Xa,g,Wc];refine Ue ab (Wn (λ_=>Wd ac) λh=>Ue ab ?_);have h:(rs.length:Int)=(((Xr t.e).length:Nat):Int):=by simpa using h
 refine WJ (XdN rs f N 0 0 t.e ab ab rfl rfl ab (by rw[WX];omega) j) λv _ q=>Wd ?_;simp_all
def XhC(e:TB t)(hN:1000000<N){rs:List Int}(f:rs.length<=1000000):Ok (Qb8 N t rs) λr=>TB r.1:=(Xff e hN f).mono λr h=>UL h e
def XhD{k:Nat}(g:t.e.length<=1000+k)(id:Int):(Zx t id).1.e.length<=1000+k:=by
 unfold Zx;cases f:Yh t.e
 .simp[zT]
 have:=Jq f;grind[WL,zT,WK]
def XhE{k:Nat}(f:t.e.length<=1000+k)(i g:Int):(Z9 t i g).1.e.length<=1000+k:=by unfold Z9;grind[zT,WL]
end
section
variable {N:Nat}
def YL(h:U3):Ok (Qcb N h) λ_=>True:=by refine WJ (Q:=λ_=>True) ?_ λb _ _=>Wn (λ_=>Wd trivial) λ_=>Wd trivial;exact Wn (λ_=>Wn (λ_=>Wn (λ_=>Wn (λ_=>Wn (λ_=>Wd trivial) λ_=>Wd trivial) λ_=>Wd trivial) λ_=>Wd trivial) λ_=>Wd trivial) λ_=>Wd trivial
def Xb7(a:Int):Ok (QcF N a) λ_=>True:=by exact Wn (λ_=>Wd trivial) λ_=>WJ (YL _) λ_ _ _=>Wn (λ_=>Wd trivial) λ_=>Wn (λ_=>Wd trivial) λ_=>Wd trivial
def XrI{l:List UB}(r:Int)(g:l.length<=1000000):∀(n:Nat) (k:Int),0<=k->k<=l.length->(l.length-k).toNat<n->Ok (Qe5 N l r n k) λe=>∀i,e=.ret i->0<=i/\i<l.length/\∃p∈l,p.a=r
 |0,k,_,_,j=>by omega
 |n+1,k,h0,q,j=>by
  refine Wn (λf=>?_) λ_=>Wd λi e=>by grind
  have f:k<l.length:=Ww f;rw[Xe (n:=k+1) ab ab];refine Ok.get h0 f λp hp=>Wn (λh=>Wd λi e=>?_) λ_=>XrI r g n (k+1) ab ab ab;cases e;exact⟨h0,f,p,Yr hp,by simp_all⟩
def XdO{l:List UB}(r:Int)(e:l.length<=1000000)(hN:1000000<N):Ok (QgG N l r) λi=>i = -1\/(0<=i/\i<l.length/\∃p∈l,p.a=r):=by exact I4 (XrI r e N 0 ab ab ab) (λi q=>Wd (.inr (q i rfl))) λ_ _=>Wd (.inl rfl)
def KZ{h:Wh}(hp:Uv h){a:Int}(e:IF h a):Qfw N h a=some (pgi h.c a)/\0<=pgi h.c a/\pgi h.c a<h.p.length:=by have⟨_,f,g,_⟩:=XL hp.conf e.rng;have:=hp.pages;refine⟨?_,f,ab⟩;rw[Qfw,KR,Xa,hp.conf,Wj ac,Wm e.rng];rfl
def XhF{h:Wh}{pins:List UB}(hN:NB N)(hp:Uv h)(y:List Int×Int)(j:ID N h y.1)(z:pins.length<=64)(hb:HB h):∀(n:Nat) (k:Int) (v:List Int),0<=k->k<=pins.length->(pins.length-k).toNat<n->v.length=h.p.length->Ok (Qbd N h pins y n k v) λe=>match e with|.ret b=>b=false|.nxt v=>v.length=h.p.length/\∀i,k<=i->∀p,Xd pins i=some p->IF h p.a
 |0,k,v,_,_,A,_=>by omega
 |n+1,k,v,h0,K,A,w=>by
  have r:=hN;unfold NB at r;have B:=j.len;refine Wn (λf=>?_) λf=>Wd ⟨w,λi L p hp=>?_⟩;rotate_left
  .have:=WM f;rw[XlE ab]at hp;cases hp
  have f:k<pins.length:=Ww f;rw[Xe (n:=k+1) ab ab];have D:0<=k+1:=ab;have E:k+1<=pins.length:=ab;have G:(pins.length-(k+1)).toNat<n:=ab;refine Ok.get h0 f λp s=>?_;have same:∀q,Xd pins k=some q->q=p:=λq g=>Wz (g.symm.trans s);rw[XY p.a ab ab,Xa];refine Wn (λ_=>Wd rfl) λI=>?_;have J:p.a∈y.1:=X5 (by simpa using I);have u:=j.obj.at_ _ J;refine Ok.get h0 f λq g=>?_;refine WJ (XdO _ ab ab) λ_ _ _=>Wn (λ_=>Wd rfl) λ_=>Ok.get h0 f λ_ _=>Wn (λ_=>Wd rfl) λ_=>Ok.get h0 f λ_ _=>Wn (λ_=>Wd rfl) λ_=>Ok.get h0 f λq g=>?_;obtain rfl:=same q g;have⟨e,x,M⟩:=KZ (N:=N) hp u;rw[e,Xa];refine Ok.get x ab λ_ _=>Ok.get h0 f λ_ _=>Ok.get x ab λ_ _=>?_;refine(XhF hN hp y j z hb n (k+1) _ D E G (by rw[WL];exact w)).mono λe O=>?_;grind
def XhG{h:Wh}(hb:HB h)(v:List Int)(g:v.length=h.p.length):∀(n:Nat) (k:Int),0<=k->k<=h.p.length->(h.p.length-k).toNat<n->Ok (QbC N h v n k) λe=>∀b,e=.ret b->b=false
 |0,k,_,_,j=>by omega
 |n+1,k,h0,q,j=>by
  have:=hb.2;refine Wn (λf=>?_) λ_=>Wd λb e=>by grind
  have f:k<h.p.length:=Ww f;rw[Xe (n:=k+1) ab ab];exact Ok.get h0 f λ_ _=>Ok.get h0 ab λ_ _=>Wn (λ_=>Wd λb e=>by simp_all) λ_=>XhG hb v g n (k+1) ab ab ab
structure O3(N:Nat)(h:Wh)(pins:List UB):Prop where
 good:OM N h
 len:pins.length<=64
 at_:∀p∈pins,IF h p.a
def Va(hN:NB N){h:Wh}(hb:HB h){pins:List UB}(w:pins.length<=1000000):Ok (Qch N h pins) λb=>b=true->O3 N h pins:=by
 have j:=hN;unfold NB at j;have k:=hb.2;refine WJ (Kz hN hb) λb _ g=>Wn (λ_=>Wd λe=>by grind) λr=>?_;have g:=g (by simp_all);refine Wn (λ_=>Wd λe=>by grind) λf=>?_;have f:=WM f;refine WJ (Ks hN hb) λy _ s=>Ue ab ?_;refine I4 (XhF hN g.prop y s.1 ab hb N 0 _ ab ab ab ac) (λb q=>Wd λe=>?_) λv q=>?_
 .simp_all
 refine I4 (XhG hb v q.1 N 0 ab ab ab) (λb q=>Wd λe=>?_) λ_ _=>Wd λ_=>⟨g,ab,λp hp=>?_⟩
 .simp_all
 have⟨i,u,e⟩:=Wv hp;exact q.2 (i:Int) ab p (by rw[Xf,Wb u,e])
def XhH{h:Wh}(hb:HB h)(hp:Uv h){a:Int}(j:IF h a)(d:Int):Ok (QbZ N h a d) HB:=by have k:=hb.2;have⟨e,f,g⟩:=KZ (N:=N) hp j;rw[QbZ,Xb ab,e,Xa];exact Ok.get f g λ_ _=>Ok.get f g λ_ _=>Wd ⟨hb.1,by simp_all⟩
def Xja(hN:NB N){h:Wh}(hb:HB h){pins:List UB}(w:pins.length<=1000000)(a:Int):Ok (Qdo N h pins a) λr=>HB r.1/\r.2.1.length<=1000000:=by
 have g:=hN;unfold NB at g;have zero:HB zH/\([]:List UB).length<=1000000:=⟨Kj,ac⟩
 refine WJ (Va hN hb w) λb _ f=>Wn (λ_=>Wd zero) λj=>?_;have f:=f (by simpa using j);refine Wn (λ_=>Wd zero) λ_=>WJ (XdO _ w ab) λi _ z=>Wn (λ_=>Wd zero) λh0=>?_;have h0:=WM h0;obtain⟨k,q,p,s,u⟩:0<=i/\i<pins.length/\∃p∈pins,p.a=a:=by
  rcases z with h|h
  .omega
  exact h
 have e:=f.at_ p s;rw[u]at e;have x:=XhH (N:=N) hb f.good.prop e (-1);refine Ue ab (Ok.get k q λ_ _=>Ok.get k q λ_ _=>Ok.get k (by rw[WL];exact q) λ_ _=>?_);rw[Xe (n:=i+1) ab ab];refine Wn (λ_=>Ue ab (Ue ab (Ue ab (WJ x λy _ v=>Wd ⟨v,?_⟩)))) λ_=>WJ x λy _ v=>Wd ⟨v,?_⟩
 .simp;omega
 simp_all
def XdP{h:Wh}(hb:HB h)(a:Int):∀(n:Nat) (c k:Int),0<=k->k<=h.p.length->(h.p.length-k).toNat<n->Ok (Qbq N h a n c k) λ_=>True
 |0,c,k,_,_,f=>by omega
 |n+1,c,k,h0,j,f=>by
  have:=hb.2;refine Wn (λe=>?_) λ_=>Wd trivial;have e:k<h.p.length:=Ww e;rw[Xe (n:=k+1) ab ab];have next:=λg=>XdP hb a n g (k+1) ab ab ab
  exact Ok.get h0 e λ_ _=>Wn (λ_=>Ok.get h0 e λ_ _=>Wn (λ_=>next _) λ_=>next _) λ_=>next _
def Vu(hN:NB N){h:Wh}(hb:HB h)(a:Int):Ok (QcQ N h a) λ_=>True:=by have f:=hN;unfold NB at f;have k:=hb.2;refine WJ (Kz hN hb) λb _ s=>Wn (λ_=>Wd trivial) λg=>?_;refine WJ (Xcx hN hb a) λb _ p=>Wn (λ_=>Wd trivial) λg=>?_;have⟨hp,j⟩:=p (by simp_all);have⟨e,q,r⟩:=KZ (N:=N) hp j;refine WJ (XdP hb a N 0 0 ab ab ab) λc _ _=>?_;rw[e,Xa];exact Ok.get q r λ_ _=>Wn (λ_=>Wn (λ_=>Wd trivial) λ_=>Wd trivial) λ_=>Wd trivial
def XlH(hN:NB N){h:Wh}(hb:HB h){pins:List UB}(v:pins.length<=1000000)(a:Int):Ok (Qft N h pins a) λr=>HB r.1/\r.2.1.length<=1000000:=by
 have g:=hN;unfold NB at g;have zero:HB zH/\([]:List UB).length<=1000000:=⟨Kj,ac⟩
 refine WJ (Va hN hb v) λb _ e=>Wn (λ_=>Wd zero) λj=>?_;have e:=e (by simp_all);refine Wn (λ_=>Wd zero) λ_=>WJ (Xcx hN hb a) λb _ A=>Wn (λ_=>Wd zero) λj=>?_;have⟨hp,k⟩:=A (by simp_all);have w:=XhH (N:=N) hb e.good.prop k 1;have B:=e.len;refine WJ (XdO _ v ab) λi _ x=>?_
 have rest:Ok (α:=Wh×List UB×Int×Int) (grd (pins.length*16<=140737488355328) <|
  jn (λ(p:List UB)=>
   bnd (QbZ N h a 1) λq=>
   some (q,p,(wU (a+1)),0)) λz=>
  bif (decide (i>=0))then(bnd (Xd pins i) λD=>
   bnd (Xd pins i) λs=>
   z (pins.set i.toNat (UB.mk s.a (wI (D.M+1)))))
  else grd ((pins.length+1)*16<=140737488355328) <|
  z (pins++[(UB.mk a 1)])) λr=>HB r.1/\r.2.1.length<=1000000:=by
  refine Ue ab (Is (Wn (λh0=>?_) λ_=>Ue ab (WJ w λy _ u=>Wd ⟨u,?_⟩)))
  .have h0:0<=i:=Ww h0
   have f:i<pins.length:=by rcases x with h|h;omega;exact h.2.1
   exact Ok.get h0 f λ_ _=>Ok.get h0 f λ_ _=>WJ w λy _ u=>Wd ⟨u,by simp_all⟩
  .grind
 refine Is (Wn (λh0=>?_) λ_=>Wn (λ_=>Wn (λ_=>Wd zero) λ_=>WJ (Vu hN hb a) λ_ _ _=>Wn (λ_=>Wd zero) λ_=>rest) λ_=>WJ (Vu hN hb a) λ_ _ _=>Wn (λ_=>Wd zero) λ_=>rest);have h0:0<=i:=Ww h0;have f:i<pins.length:=by rcases x with h|h;omega;exact h.2.1
 exact Ok.get h0 f λ_ _=>Wn (λ_=>Wd zero) λ_=>Wn (λ_=>Wn (λ_=>Wd zero) λ_=>WJ (Vu hN hb a) λ_ _ _=>Wn (λ_=>Wd zero) λ_=>rest) λ_=>WJ (Vu hN hb a) λ_ _ _=>Wn (λ_=>Wd zero) λ_=>rest
end
section
variable {N:Nat}
def Xkm(hN:NB N)(c:WP)(d:Wy):Ok (Qdd N c d) λb=>b=true->XC d=true/\d.k≠0/\Xx c (XB d)≠-1:=by
 have f:=hN;unfold NB at f;rw[Qdd,ZD,Xa];refine Wn (λg=>Wn (λh=>?_) λ_=>Wd λe=>by grind) λ_=>Wd λe=>by grind
 rw[XQ,Xa,KX ab,Xa];exact Wd λe=>⟨g,by simp_all,by simp_all⟩
def XhI(hN:NB N){h:Wh}(hb:HB h)(hp:Uv h)(n:Int):Ok (Qep N h n) λr=>HB r.1:=by
 have x:=hN;unfold NB at x;have z:=hb.2;have setP:∀(ps:List Wp) (i:Nat) (p:Wp) (s b:Int),ps.length<=100000->HB ⟨h.c,h.w,ps.set i p,s,b⟩:=λps i p s b M=>⟨hb.1,by simp_all⟩
 refine Ue ab ?_;rw[Xf4,Xa];refine WJ (XdC ab ab) λu _ _=>?_;have fresh:Ok (α:=Wh×Int×Bool) (bnd (Qbo N h.p 1) λe=>
  bif (decide (e<0))then some ((Wh.mk (WP.mk 0 0) [] [] 0 0),0,false)
  else bif (decide (u>=Xb3 h.c))then some ((Wh.mk (WP.mk 0 0) [] [] 0 0),0,false)
  else bnd (QbX N h.p e h.s) λv=>
  bnd (Xd v.1 e) λA=>
  bnd (Xd v.1 e) λB=>
  bnd (Xd v.1 e) λf=>
  some ((Wh.mk h.c h.w (v.1.set e.toNat (Wp.mk f.k f.s (wI (B.u+n)) f.P)) h.s e),(wU (wI ((wI (4096+(wI (e*h.c.W))))+A.u))),true)) λr=>HB r.1:=by
  refine WJ (KF 1 ab ab) λj _ G=>Wn (λ_=>Wd Kj) λJ=>Wn (λ_=>Wd Kj) λ_=>?_
  have K:RunOK h.p j 1:=by
   rcases G with rfl|G
   .grind
   .omega
  have L:=hp.space
  refine WJ (XdD j h.s ab ab) λy _ I=>?_
  obtain⟨D,O,R,S⟩:=I.1 (I.2.2 K ab ab)
  have g:j<y.1.length:=ab
  exact Ok.get D g λ_ _=>Ok.get D g λ_ _=>Ok.get D g λ_ _=>Wd (setP _ _ _ _ _ ab)
 refine Is (Wn (λ_=>fresh) λh0=>?_);have h0:=WM h0;have E:=hp.bump;have q:h.b<h.p.length:=by rcases E with h|h;omega;exact h.2.1
 have h0:0<=h.b:=ab;exact Ok.get h0 q λ_ _=>Wn (λ_=>fresh) λ_=>Ok.get h0 q λ_ _=>Wn (λ_=>fresh) λ_=>Wn (λ_=>fresh) λ_=>Ok.get h0 q λ_ _=>Ok.get h0 q λ_ _=>Ok.get h0 q λ_ _=>Wd (setP _ _ _ _ _ z)
def XhJ(hN:NB N){h:Wh}(hb:HB h)(hp:Uv h)(w k:Int):Ok (Qe7 N h w k) λr=>HB r.1:=by
 have e:=hN;unfold NB at e;have f:=hb.2;refine WJ (KF k ab ab) λj _ v=>Wn (λ_=>Wd Kj) λg=>WJ (XdC ab ab) λu _ _=>?_;rw[Xf4,Xa];refine Wn (λ_=>Wd Kj) λ_=>WJ (XnD h.c j h.s w ab ab) λy _ p=>Wd ⟨hb.1,?_⟩;show y.1.length<=_;by_cases q:y.2=0
 .have:=(p.1 q).2.2.2.1;omega
 simp_all
def Xkn(hN:NB N){h:Wh}(hb:HB h)(d:Wy):Ok (QeW N h d) λr=>HB r.1:=by
 have f:=hN;unfold NB at f;refine WJ (YK (N:=N) ab hb.1 hb.2) λb _ hp=>Wn (λ_=>Wd Kj) λj=>?_;have hp:=hp (by simp_all);refine WJ (Xkm hN _ _) λb _ _=>Wn (λ_=>Wd Kj) λ_=>?_;rw[XQ,Xa,KX ab,Xa];refine WJ (XhI hN hb hp _) λk _ p=>Is (Wn (λ_=>WJ (XhJ hN hb hp _ _) λq _ s=>?_) λ_=>?_)
 .exact Wn (λ_=>Wd Kj) λ_=>WJ (Xj9 hN (h:=q.1) s _ d) λg _ e=>Wd e
 exact Wn (λ_=>Wd Kj) λ_=>WJ (Xj9 hN (h:=k.1) p _ d) λg _ e=>Wd e
end
structure EB(x:Uj):Prop where
 heap:HB x.h
 loc:LBp x.l
 glo:TB x.g
 wea:TB x.v
 pins:x.P.length<=1000000
 roots:x.R.length<=100000
def zE:Uj:=⟨zH,zL,zT,zT,[],[]⟩
def XdQ:EB zE:=⟨Kj,ZR,XbB,XbB,by simp[zE],by simp[zE]⟩
section
variable {N:Nat}{x:Uj}
def YM{a:Wq}(h:LBp a):(bif Ym a then XA a.S else[]).length<=4096:=by
 cases f:Ym a
 .simp
 have e:=XW.1 f;have:=e.slots;have:=e.iss;have:=XaA a.S;grind
def XZ(l:List W6):(bif Yh l then Xr l else[]).length<=64:=by
 cases e:Yh l
 .simp
 have:=Jq e;have:=J8 l;grind
structure EV(N:Nat)(x:Uj):Prop where
 mat:O3 N x.h x.P
 loc:Ym x.l=true
 glo:Yh x.g.e=true
 wea:Yh x.v.e=true
def Kt(hN:NB N)(f:EB x):Ok (QbI N x) λb=>b=true->EV N x:=by have h:=hN;unfold NB at h;have p:=f.roots;refine WJ (Va hN f.heap f.pins) λb _ j=>Wn (λ_=>Wd λe=>by grind) λk=>?_;have j:=j (by simp_all);rw[Ze f.loc ab,Xa];refine Wn (λ_=>Wd λe=>by grind) λq=>?_;rw[YP f.glo ab,Xa];refine Wn (λ_=>Wd λe=>by grind) λr=>?_;rw[YP f.wea ab,Xa];refine Wn (λ_=>Wd λe=>by grind) λs=>?_;rw[XV f.glo ab,Xa];have u:=YM f.loc;have w:=XZ x.g.e;have y:=XZ x.v.e;rw[XY _ ab ab,Xa];refine Wn (λ_=>Wd λe=>by grind) λ_=>Ue ab ?_;rw[YR f.loc ab,Xa];refine Ue ab (Ue ab ?_);rw[XV f.wea ab,Xa];refine Ue ab (WJ (Xb4 hN f.heap (by grind)) λb _ _=>Wd λ_=>⟨j,by simp_all,by simp_all,by simp_all⟩)
def XdR(hp:x.P.length<=1000000):∀(n:Nat) (k:Int) (v:List Int),0<=k->k<=x.P.length->(x.P.length-k).toNat<n->v.length<=1000000+k->Ok (QbH N x n k v) λr=>(r.length:Int)=v.length+(x.P.length-k)
 |0,k,v,_,_,f,_=>by omega
 |n+1,k,v,h0,g,f,h=>by refine Wn (λe=>?_) λe=>Wd (by have:=WM e;omega);have e:k<x.P.length:=Ww e;rw[Xe (n:=k+1) ab ab];refine Ok.get h0 e λp _=>Ue ab ?_;refine(XdR hp n (k+1) _ ab ab ab ai).mono λr j=>?_;grind
def Xjb(hN:NB N)(f:EB x):Ok (Qb9 N x) λr=>r.length=x.R.length+(bif Ym x.l then XA x.l.S else[]).length+(bif Yh x.g.e then Xr x.g.e else[]).length+x.P.length:=by have h:=hN;unfold NB at h;have j:=f.roots;have hp:=f.pins;have k:=YM f.loc;have p:=XZ x.g.e;refine Ue ab ?_;rw[YR f.loc ab,Xa];refine Ue ab ?_;rw[XV f.glo ab,Xa];refine Ue ab (WJ (XdR hp N 0 _ ab ab ab ai) λr _ j=>Wd ?_);grind
def Xko(h:Wh×List Int×List Int×WS×Int)(e f:List Int)(j:Wq×Int)(q s:WD×Int)(hp:x.P.length<=1000000)(u:x.R.length<=100000)(w:e.length<=4096)(y:f.length<=64)(z:h.2.1.length=x.R.length+e.length+f.length+x.P.length):∀(n:Nat) (k:Int) (v:List UB),0<=k->k<=x.P.length->(x.P.length-k).toNat<n->(v.length:Int)=k->Ok (QaY N x h e f j q s n k v) λr=>r.length=x.P.length
 |0,k,v,_,_,A,_=>by omega
 |n+1,k,v,h0,B,A,D=>by refine Wn (λg=>?_) λg=>Wd (by grind);have g:k<x.P.length:=Ww g;rw[Xe (n:=k+1) ab ab,Xe (n:=(x.R.length:Int)+(e.length:Int)) ab ab,Xe (n:=(x.R.length:Int)+(e.length:Int)+(f.length:Int)) ab ab,Xe (n:=(x.R.length:Int)+(e.length:Int)+(f.length:Int)+k) ab ab];refine Ok.get ab ab λ_ _=>Ok.get h0 g λp _=>Ue ab ?_;exact Xko h e f j q s hp u w y z n (k+1) _ ab ab ab (by simp_all)
def XcB(hN:NB N)(f:EB x):Ok (QbA N x) λr=>EB r.1:=by
 have j:=hN;unfold NB at j;have y:=f.roots;have hp:=f.pins;refine WJ (Kt hN f) λb _ h=>Wn (λ_=>Wd XdQ) λk=>?_;have h:=h (by simpa using k);have z:=h.mat.len;have p:=YM f.loc;have q:=XZ x.g.e;have A:=XZ x.v.e;refine WJ (Xjb hN f) λV _ u=>?_;rw[h.loc,h.glo]at u;rw[h.loc]at p;rw[h.glo]at q;rw[XV f.wea ab,Xa];simp at u p q A⊢;refine WJ (QjO hN f.heap ab ab) λB _ w=>Wn (λ_=>Wd XdQ) λD=>?_;have⟨g1,g2⟩:=w.len (by simpa using D);rw[YR f.loc ab,Xa,XV f.glo ab,Xa,h.loc,h.glo];simp;have E:=Xe (n:=(x.R.length:Int)+(((XA x.l.S).length:Nat):Int)) ab ab;have G:=Xe (n:=(x.R.length:Int)+(((XA x.l.S).length:Nat):Int)+(((Xr x.g.e).length:Nat):Int)) ab ab;refine Ue ab (Ue ab (Ue ab (Ue ab ?_)));refine WJ (XnQ f.loc ab (by rw[Ws,WA];omega)) λI _ J=>Ue (by rw[E,G];omega) ?_;refine WJ (XhC f.glo ab (by rw[Ws,WA];omega)) λK _ L=>?_;refine WJ (XhC f.wea ab ab) λM _ O=>?_;refine WJ (Xko B (XA x.l.S) (Xr x.g.e) I K M hp y p q ab N 0 [] ab ab ab rfl) λs _ U=>Wd ⟨w.hb,J,L,O,?_,?_⟩
 .show s.length<=_;omega
 grind
def XlI(hN:NB N)(e:EB x)(d:Wy):Ok (Qeq N x d) λr=>EB r.1:=by
 refine WJ (Kt hN e) λb _ k=>Wn (λ_=>Wd XdQ) λg=>?_;refine WJ (Xkn hN e.heap d) λp _ h=>Is (Wn (λ_=>WJ (XcB hN e) λq _ f=>Wn (λ_=>Wd XdQ) λ_=>WJ (Xkn hN f.heap d) λs _ j=>?_) λ_=>?_)
 .exact Wn (λ_=>Wd XdQ) λ_=>Wd ⟨j,f.loc,f.glo,f.wea,f.pins,f.roots⟩
 exact Wn (λ_=>Wd XdQ) λ_=>Wd ⟨h,e.loc,e.glo,e.wea,e.pins,e.roots⟩
def Zy(hN:NB N)(e:EB x)(v:Int):Ok (QaG N x v) λr=>True:=by
 have f:=hN;unfold NB at f;refine WJ (Kt hN e) λb _ h=>Wn (λ_=>Wd trivial) λg=>Wn (λ_=>Wd trivial) λ_=>?_;refine WJ (Xb7 v) λy _ _=>Wn (λ_=>Wd trivial) λ_=>Wn (λ_=>?_) λ_=>Wn (λ_=>?_) λ_=>?_
 .rw[XaC e.loc ab,Xa];exact Wd trivial
 .rw[KY e.glo ab,Xa];exact Wd trivial
 rw[KY e.wea ab,Xa];exact Wd trivial
end
def Oo{β κ:Type}{P:β->Prop}{k:κ->Option β}{f:(κ->Option β)->Option β}(h:∀x,Ok (k x) P)(g:∀j:κ->Option β,(∀x,Ok (j x) P)->Ok (f j) P):Ok (Sx.jn k f) P:=by simp_all[Xv]
def Ut{β:Type}{P:β->Prop}{b:Bool}{x y:Option β}(e:Ok x P)(f:Ok y P):Ok (bif b then x else y) P:=by grind
def Uw{α β:Type}{P:β->Prop}{o:Option α}{Q:α->Prop}{f:α->Option β}(h:Ok o Q)(k:∀y,Q y->Ok (f y) P):Ok (Sx.bnd o f) P:=WJ h λy _ e=>k y e
def Ok.t{α:Type}{o:Option α}{P:α->Prop}(h:Ok o P):Ok o λ_=>True:=h.mono λ_ _=>trivial
section
variable {N:Nat}{x:Uj}
abbrev EP(r:Uj×Int×Int):Prop:=EB r.1
def XlJ(e:Int):Ok (Qab N e) EP:=by exact Wd XdQ
def Xz(e:Int):Ok (bnd (Qab N e) λy=>some (y.1,y.2.1,y.2.2)) EP:=Uw (XlJ e) λy f=>Wd f
def XnR(a b c:Int):Ok (QcD N a b c) λ_=>True:=by exact Ut (Ut (Wd trivial) (Wd trivial)) (Wd trivial)
def XaF(hN:NB N)(e:EB x)(a:Int):Ok (QcE N x a) EP:=by have f:=hN;unfold NB at f;refine Ut (Wd e) ?_;rw[XaB e.loc ab,Xa];exact Ut (Xz _) (Uw (YL _) λy _=>Wd ⟨e.heap,Xkh e.loc a,e.glo,e.wea,e.pins,e.roots⟩)
def Xjc(hN:NB N)(f:EB x)(a b c:Int):Ok (QdL N x a b c) EP:=by have e:=hN;unfold NB at e;refine Ut (Xz _) (Uw (XnR _ _ _) λy _=>Is (Ut (Xz _) (Uw (Xkm hN _ _) λz _=>Ut (Xz _) ?_)));rw[XaB f.loc ab,Xa];exact Ut (Xz _) (Uw (XlI hN f _) λj g=>Ut (Xz _) (Uw (XaF hN g _) λk h=>Wd h))
def XaG(hN:NB N)(e:EB x)(a:Int):Ok (QbY N x a) λ_=>True:=by exact Uw (Zy hN e a) λy _=>Ut (Ut (Wd trivial) (Wd trivial)) (Wd trivial)
def Xfg(hN:NB N)(e:EB x)(a b:Int)(c:Bool):Ok (Qc2 N x a b c) λ_=>True:=by refine Uw (XaG hN e a) λy _=>Ut (Wd trivial) (Uw (XdE hN e.heap _) λz _=>Ut (Wd trivial) ?_);rw[KV,Xa];exact Ut (Wd trivial) (Wd trivial)
def XlK(hN:NB N)(e:EB x)(a b c d:Int):Ok (Qc4 N x a b c d) EP:=by
 have k:∀i j v:Int,Ok (α:=Uj×Int×Int) (bnd (Qcl N x.h i j v) λf=>some ((Uj.mk f.1 x.l x.g x.v x.P x.R),0,0)) EP:=λi j v=>
  Uw (Xhr hN e.heap i j v) λy p=>Wd ⟨p,e.loc,e.glo,e.wea,e.pins,e.roots⟩
 refine Is (Ut (Uw (Xfg hN e _ _ _) λy _=>?_) (Uw (Xfg hN e _ _ _) λy _=>?_))<;>
 exact Ut (Xz _) (Uw (Xhq hN e.heap _ _) λz _=>Ut (Wd e) (Ut (Uw (XaF hN e _) λr q=>Wd q) (Is (Ut (Uw (Zy hN e _) λs _=>Ut (Xz _) (k _ _ _)) (k _ _ _)))))
def XlL(hN:NB N)(e:EB x)(a b c:Int):Ok (QcG N x a b c) EP:=by refine Oo (λh=>Ut (Uw (XaG hN e _) λy _=>Ut (Xz _) (Uw (XdE hN e.heap _) λz _=>Ut (Wd e) (Wd e))) (Ut (Uw (Zy hN e _) λy _=>Ut (Xz _) (Uw (Zy hN e _) λz _=>Ut (Xz _) (Ut (Wd e) (Wd e)))) (Uw (Zy hN e _) λy _=>Ut (Xz _) (Uw (XaF hN e _) λz g=>Wd g)))) λj f=>Ut (f _) (f _)
def XhK(hN:NB N)(f:EB x)(a b:Int):Ok (Qdn N x a b) EP:=by
 have j:=hN;unfold NB at j;refine Uw (XaG hN f _) λy _=>Ut (Xz _) (Is (Ut ?_ ?_))
 .show Ok (bnd (QcV N ⟨x.v.e⟩ y.1) _) EP;rw[Jy (t:=⟨x.v.e⟩) f.wea ab,Xa];have h:=Xkk (t:=⟨x.v.e⟩) f.wea y.1;exact Ut (Xz _) (Is (Ut (Uw (YL _) λz _=>Wd ⟨f.heap,f.loc,f.glo,h,f.pins,f.roots⟩) (Uw (YL _) λz _=>Wd ⟨f.heap,f.loc,h,f.wea,f.pins,f.roots⟩)))
 show Ok (bnd (QcV N ⟨x.g.e⟩ y.1) _) EP;rw[Jy (t:=⟨x.g.e⟩) f.glo ab,Xa];have h:=Xkk (t:=⟨x.g.e⟩) f.glo y.1;exact Ut (Xz _) (Is (Ut (Uw (YL _) λz _=>Wd ⟨f.heap,f.loc,f.glo,h,f.pins,f.roots⟩) (Uw (YL _) λz _=>Wd ⟨f.heap,f.loc,h,f.wea,f.pins,f.roots⟩)))
def Xjd(hN:NB N)(e:EB x)(a b:Int):Ok (QdO N x a b) EP:=by
 have f:=hN;unfold NB at f;refine Ut (Xz _) (Uw (Zy hN e _) λy _=>Ut (Xz _) (Uw (Xb7 _) λz _=>Oo (λ_=>Ut ?_ (Ut ?_ ?_)) λg h=>Oo (λ_=>Xz _) λj k=>?_))
 .rw[Xgf e.loc ab,Xa];exact Wd ⟨e.heap,Xki e.loc _ _,e.glo,e.wea,e.pins,e.roots⟩
 .rw[XaE e.glo ab,Xa];exact Wd ⟨e.heap,e.loc,Xkl e.glo _ _,e.wea,e.pins,e.roots⟩
 .rw[XaE e.wea ab,Xa];exact Wd ⟨e.heap,e.loc,e.glo,Xkl e.wea _ _,e.pins,e.roots⟩
 grind
def Xje(hN:NB N)(e:EB x)(a b:Int):Ok (QdP N x a b) EP:=by
 have f:=hN;unfold NB at f;refine Ut (Ut (Xz _) ?_) (Uw (Zy hN e _) λy _=>Ut (Xz _) ?_)
 .rw[XbA e.loc ab,Xa];exact Ut (Xz _) (Wd ⟨e.heap,XhA e.loc _,e.glo,e.wea,e.pins,e.roots⟩)
 rw[XcW e.loc ab,Xa];exact Ut (Xz _) (Uw (XaF hN (x:=⟨x.h,(Zo x.l).1,x.g,x.v,x.P,x.R⟩) ⟨e.heap,Xgg e.loc,e.glo,e.wea,e.pins,e.roots⟩ _) λz j=>Wd j)
def XnS(hN:NB N)(e:EB x)(a b:Int):Ok (QeY N x a b) EP:=by refine Uw (XaG hN e _) λy _=>Ut (Xz _) (Ut (Uw (Xja hN e.heap e.pins _) λz f=>Ut (Xz _) (Wd ⟨f.1,e.loc,e.glo,e.wea,f.2,e.roots⟩)) (Uw (XlH hN e.heap e.pins _) λz f=>Ut (Xz _) (Wd ⟨f.1,e.loc,e.glo,e.wea,f.2,e.roots⟩)))
def XnT(hN:NB N)(f:EB x)(op a b c:Int):Ok (Qag N x op a b c) EP:=by
 have thr:∀{o:Option (Uj×Int×Int)},Ok o EP->Ok (bnd o λy=>some (y.1,y.2.1,y.2.2)) EP:=λh=>Uw h λy k=>Wd k;refine Uw (Kt hN f) λp _=>Ut (Xz _) ?_;refine Oo (λe=>Ut (thr (Xjc hN f _ _ _)) ?_) λq g=>?_
 .refine Oo (λe=>Ut (thr (XlK hN f _ _ _ _)) ?_) λj h=>?_
  .refine Oo (λe=>Ut (thr (XlL hN f _ _ _)) ?_) λj h=>?_
   .refine Oo (λe=>Ut (thr (XhK hN f _ _)) ?_) λj h=>?_
    .refine Oo (λe=>Ut (thr (Xjd hN f _ _)) ?_) λj h=>?_
     .refine Oo (λe=>Ut (thr (Xje hN f _ _)) ?_) λj h=>?_
      .refine Oo (λe=>Ut (thr (XnS hN f _ _)) (Xz _)) λj h=>Ut (h _) (h _)
      exact Ut (h _) (h _)
     exact Ut (h _) (Oo (λe=>h _) λj h=>Ut (h _) (h _))
    grind
   exact Ut (h _) (Oo (λe=>h _) λj h=>Ut (h _) (Oo (λe=>h _) λj h=>Ut (h _) (h _)))
  exact Ut (h _) (Oo (λe=>h _) λj h=>Ut (h _) (Oo (λe=>h _) λj h=>Ut (h _) (h _)))
 exact Ut (g _) (Oo (λe=>g _) λj h=>Ut (h _) (h _))
end
structure WB(k:Nat)(w:WO):Prop where
 kk:k<=900
 things:w.T.length<=k
 fields:∀x∈w.T,x.D.length<=1000
 loc:LBp w.l
 gloK:w.g.e.length<=1000+k
 weaK:w.v.e.length<=1000+k
 marksK:w.m.length<=100+k
 rootsK:w.R.length<=100+k
def WB.glo{k:Nat}{w:WO}(h:WB k w):TB w.g:=by have:=h.kk;have:=h.gloK;unfold TB;omega
def WB.wea{k:Nat}{w:WO}(h:WB k w):TB w.v:=by have:=h.kk;have:=h.weaK;unfold TB;omega
def WB.marks{k:Nat}{w:WO}(h:WB k w):w.m.length<=1000:=by have:=h.kk;have:=h.marksK;omega
def WB.roots{k:Nat}{w:WO}(h:WB k w):w.R.length<=1000:=by have:=h.kk;have:=h.rootsK;omega
def V4(d:Wy):Nat->List Int->List Int
 |_,[]=>[]
 |k,f::e=>if Kg d k then f::V4 d (k+1) e else V4 d (k+1) e
def Xfh(x:UY):List Int:=V4 x.H 0 x.D
def Xb8(d:Wy):∀(k:Nat) (l:List Int),(V4 d k l).length<=l.length
 |k,[]=>by simp[V4]
 |k,f::e=>by have:=Xb8 d (k+1) e;unfold V4;grind
def ZU(n:Nat)(l:List Int):Bool:=l.all λp=>!decide (p>(n:Int))
def ZK(l:List IC)(id:Int):Int:=match l.findIdx? (λm=>m.I==id)with|some k=>(k:Int)|none=>-1
def XdS(n:Nat)(x:UY):Bool:=XC x.H&&(!(x.H.k==0)&&(!((x.D.length:Int) != x.H.n)&&ZU n (Xfh x)))
def Xkp(n:Nat)(l:List IC)(_:Unit)(i:Nat)(m:IC):Bool:=!decide (m.I<1)&&(!decide (m.I>(n:Int))&&(!(ZK l m.I != (i:Int))&&(!decide (m.M<1)&&!decide (m.M>1000))))
def Xgh(n:Nat)(l:List IC):Bool:=YH (Xkp n l) (λs _=>s) () 0 l
def YI(w:WO):Bool:=XU w.c&&(Ym w.l&&(Yh w.g.e&&(Yh w.v.e&&(!decide ((w.m.length:Int)>64)&&(w.T.all (XdS w.T.length)&&(((Xr w.g.e).all λp=>!(p==0))&&(Xgh w.T.length w.m&&(ZU w.T.length w.R&&(ZU w.T.length (XA w.l.S)&&(ZU w.T.length (Xr w.g.e)&&ZU w.T.length (Xr w.v.e)))))))))))
section
variable {N:Nat}{w:WO}
def Vb(ht:w.T.length<=1000){l:List Int}(g:l.length<=1000000)(hN:1000000<N):Qdc N w l=some (ZU w.T.length l):=by
 have h:=Jx (l:=l) (F:=Qdb N w l) (q:=λ_ p=>!decide (p>(w.T.length:Int))) (λn k p e=>by
  have f:=Xu e
  rw[Qdb,Xi f,Wc,Xf,e,Xa,Xg ab,Xt ab ab]
  cases decide (p>(w.T.length:Int))<;>rfl) (λn=>by rw[Qdb,Xw,Wa]) (n:=N) ab
 rw[Z0]at h;rw[Qdc,h,Xa,ZU];cases l.all λp=>!decide (p>(w.T.length:Int))
 .rw[Wa,Xq]
 simp[Wc,Xl]
def XdT{x:UY}(e:x.D.length<=1000000):∀(n k:Nat) (v:List Int),k<=x.D.length->x.D.length-k<n->v.length<=k->Qd0 N x n (k:Int) v=some (v++V4 x.H k (x.D.drop k))
 |0,k,v,_,f,_=>by omega
 |n+1,k,v,j,f,g=>by
  rw[Qd0];by_cases h:k<x.D.length
  .rw[Xi h,Wc,KV,Xa,Xg ab,Wl h,V4];cases hp:Kg x.H (k:Int)
   .rw[Wa,Wj ac,XdT e n (k+1) v ab ab ab]
   rw[Wc,Wm rfl,Xf,Wb h,Xa,Xb ab,XdT e n (k+1) _ ab ab (by simp_all)];simp
  obtain rfl:k=x.D.length:=ab;simp[V4]
def XhL{x:UY}(e:x.D.length<=1000000)(hN:1000000<N):Qgk N x=some (Xfh x):=by have h:=XdT (N:=N) (x:=x) e N 0 [] ab ab ac;rw[show((0:Nat):Int)=0 from rfl,WX,W8]at h;rw[Qgk,h,Xa];rfl
def Xkq(id:Int)(e:w.m.length<=1000000):∀(n k:Nat),k<=w.m.length->w.m.length-k<n->QeJ N w id n (k:Int)=some (match (w.m.drop k).findIdx? (λm=>m.I==id)with|some j=>.ret ((k+j:Nat):Int)|none=>.nxt ())
 |0,k,_,f=>by omega
 |n+1,k,g,f=>by
  rw[QeJ];by_cases h:k<w.m.length
  .rw[Xi h,Wc,Xf,Wb h,Xa,Xg ab,Wl h,List.findIdx?_cons];cases p:(w.m[k].I==id)
   .rw[Wa,Xkq id e n (k+1) ab ab,Wj ac];cases (w.m.drop (k+1)).findIdx? (λm=>m.I==id)with
    |none=>rfl
    |some j=>simp only[UZ];rw[show k+1+j=k+(j+1) by omega]
   simp
  grind
def Xgi(e:w.m.length<=1000000)(hN:1000000<N)(id:Int):Qfy N w id=some (ZK w.m id):=by
 have h:=Xkq (N:=N) id e N 0 ab ab;rw[show((0:Nat):Int)=0 from rfl,WX]at h;rw[Qfy,h,Xa,ZK];cases w.m.findIdx? (λm=>m.I==id)with
 |none=>simp[Xl]
 |some j=>simp[Xq,UE]
def XhM{a:Wq}(h:Ym a=true):(XA a.S).length<=4096:=by have e:=XW.1 h;have:=e.slots;have:=e.iss;have:=XaA a.S;omega
def XbC{l:List W6}(h:Yh l=true):(Xr l).length<=64:=by have:=Jq h;have:=J8 l;omega
def XcX{k:Nat}(hw:WB k w)(hN:1000000<N):Qen N w=some (YI w):=by
 have f:=hw.kk;have ht:=hw.things;have E:=hw.marks;have G:=hw.roots;rw[Qen,Zg,Xa,YI];cases XU w.c
 .rfl
 rw[Wi,Wa,Ze hw.loc hN,Xa,Uf];cases h:Ym w.l
 .rfl
 rw[Wi,Wa,YP hw.glo hN,Xa,Uf];cases j:Yh w.g.e
 .rfl
 rw[Wi,Wa,YP hw.wea hN,Xa,Uf];cases r:Yh w.v.e
 .rfl
 rw[Wi,Wa,Uf];cases decide ((w.m.length:Int)>64);rotate_left
 .rfl
 rw[Wa,Ub,Uf];have s:=Jx (l:=w.T) (F:=Qdx N w) (q:=λ_=>XdS w.T.length) (λn k p e=>by
  have f:=Xu e
  have y:=hw.fields p (W5 e)
  have z:=Xb8 p.H 0 p.D
  rw[Qdx,Xi f,Wc,Xf,e,Xa,ZD,Xa,XhL ab hN,Xa,Vb ab (by unfold Xfh;omega) hN,Xa,Xg ab]
  unfold XdS
  grind) (λn=>by rw[Qdx,Xw,Wa]) (n:=N) ab
 rw[Z0]at s;rw[s,Xa];cases w.T.all (XdS w.T.length)
 .simp[Wa,Xq]
 rw[Wc,Xl,XV hw.glo hN,Xa,j,Wc,Uf];have A:=XbC j;have u:=Jx (l:=Xr w.g.e) (F:=Qdy N w (Xr w.g.e)) (q:=λ_ p=>!(p==0)) (λn k p e=>by
  have f:=Xu e
  rw[Qdy,Xb ab,Xi f,Wc,Xf,e,Xa,Xg ab]
  simp) (λn=>by rw[Qdy,Xb ab,Xw,Wa]) (n:=N) ab
 rw[Z0]at u;rw[u,Xa];cases (Xr w.g.e).all λp=>!(p==0)
 .simp[Wa,Xq]
 rw[Wc,Xl,Uf];have B:=Jx (l:=w.m) (F:=Qdz N w (Xr w.g.e)) (q:=Xkp w.T.length w.m ()) (λn k p e=>by
  have f:=Xu e
  rw[Qdz,Xi f,Wc,Xf,e,Xa,Xgi ab hN,Xa,Xg ab,Xt ab ab]
  unfold Xkp
  grind) (λn=>by rw[Qdz,Xw,Wa]) (n:=N) ab
 rw[B,Xa];show exK (bif Xgh w.T.length w.m then Ex.nxt ()else Ex.ret false) _ _=_;cases Xgh w.T.length w.m
 .simp[Wa,Xq]
 rw[Wc,Xl,Vb ab ab hN,Xa,Uf];cases ZU w.T.length w.R
 .rfl
 have I:=XhM h;rw[Wc,YR hw.loc hN,Xa,h,Wc,Vb ab ab hN,Xa,Uf];cases ZU w.T.length (XA w.l.S)
 .rfl
 rw[Wc,Vb ab ab hN,Xa,Uf];cases ZU w.T.length (Xr w.g.e)
 .rfl
 have s3:=XbC r;rw[Wc,XV hw.wea hN,Xa,r,Wc,Vb ab ab hN,Xa,Uf]
end
end Go.Sx
