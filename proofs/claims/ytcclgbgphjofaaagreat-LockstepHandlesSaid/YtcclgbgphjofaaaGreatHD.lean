import Derived.KernelRfl
import Derived.Test.YtcclgbgphjofaaaGreatHC
set_option linter.all false
namespace Go.Sx
def Ok{α:Type}(o:Option α)(P:α->Prop):Prop:=∃r,o=some r/\P r
section
variable {α β γ:Type}{P:β->Prop}
def Xa(x:α)(f:α->Option β):bnd (some x) f=f x:=by unfold bnd;rfl
def V4(f:α->Option β):bnd none f=none:=by unfold bnd;rfl
def Xe{p:Prop}[Decidable p](h:p)(x:Option α):grd p x=x:=by unfold grd;simp_all
theorem Xr{κ:Type}(k:κ)(f:κ->γ):jn k f=f k:=by unfold jn;rfl
theorem Xs(a:α)(f:α->γ)(k:β->γ):exK (.ret a) f k=f a:=by unfold exK;rfl
theorem Xo(b:β)(f:α->γ)(k:β->γ):exK (.nxt b) f k=k b:=by unfold exK;rfl
def Xc(l:List α)(k:Nat):Xd l (k:Int)=l[k]?:=by unfold Xd;simp
def X7{l:List α}{i:Int}(e:0<=i)(f:i<l.length):Xd l i=some (l[i.toNat]'aa):=by unfold Xd;simp_all
def XaV{l:List α}{i:Int}{p:α}:Xd l i=some p↔0<=i/\l[i.toNat]? = some p:=by unfold Xd;simp
def YI{l:List α}{i:Int}{p:α}(h:Xd l i=some p):p∈l:=WW (XaV.1 h).2
def XkA{l:List α}{i:Int}(h:¬(0<=i/\i<l.length)):Xd l i=none:=by unfold Xd;simp_all
def Wd{x:β}(h:P x):Ok (some x) P:=⟨x,rfl,h⟩
def WQ{o:Option α}{f:α->Option β}{Q:α->Prop}(h:Ok o Q)(k:∀y,o=.some y->Q y->Ok (f y) P):Ok (Sx.bnd o f) P:=by obtain⟨y,rfl,e⟩:=h;simp_all[Xa]
def Uk{p:Prop}[Decidable p]{x:Option β}(h:p)(k:Ok x P):Ok (Sx.grd p x) P:=by simp_all[Xe,h]
def IP{κ:Type}{k:κ}{f:κ->Option β}(h:Ok (f k) P):Ok (Sx.jn k f) P:=by simp_all[Xr]
def Wo{b:Bool}{x y:Option β}(e:b=true->Ok x P)(f:b=false->Ok y P):Ok (bif b then x else y) P:=by grind
def Ok.get{l:List α}{i:Int}{f:α->Option β}(e:0<=i)(g:i<l.length)(k:∀p,Xd l i=.some p->Ok (f p) P):Ok (Sx.bnd (Xd l i) f) P:=by simp_all[X7,e,g,Xa]
def Ok.mono{o:Option β}{Q:β->Prop}(h:Ok o Q)(k:∀x,Q x->P x):Ok o P:=by obtain⟨y,rfl,e⟩:=h;exact⟨y,rfl,k y e⟩
def Ok.get_eq{o:Option β}{x:β}(h:Ok o P)(e:o=.some x):P x:=by have⟨y,f,g⟩:=h;simp_all
def Ok.isSome{o:Option β}(h:Ok o P):o≠none:=by obtain⟨y,rfl,_⟩:=h;simp
def Oa{α':Type}{o:Option (Ex α' α)}{f:α'->Option β}{k:α->Option β}{Q:Ex α' α->Prop}(h:Ok o Q)(g:∀a,Q (.ret a)->Ok (f a) P)(j:∀b,Q (.nxt b)->Ok (k b) P):Ok (Sx.bnd o λe=>exK e f k) P:=by
 obtain⟨y,rfl,l⟩:=h;rw[Xa];cases y with
 |ret a=>simp_all[Xs]
 |nxt b=>simp_all[Xo]
end
def Xf{n:Int}(h:-9223372036854775808<=n)(j:n<=9223372036854775807):wI n=n:=by
 have e:wI n=if n % 18446744073709551616>=9223372036854775808 then n % 18446744073709551616-18446744073709551616 else n % 18446744073709551616:=by have f:IntKind.bits .i64=64:=rfl;have g:IntKind.signed .i64=true:=rfl;simp[wI,IntKind.wrap,f,g]
 omega
theorem Xdr(n:Int):wU n=n % 18446744073709551616:=by rfl
def Xz{n:Int}(e:0<=n)(f:n<=18446744073709551615):wU n=n:=by grind[Xdr]
def J9(n:Int):0<=wU n/\wU n<=18446744073709551615:=by grind[Xdr]
theorem Xms(n:Int):wW n=n % 4294967296:=by rfl
def XqC{n:Int}(e:0<=n)(f:n<=4294967295):wW n=n:=by grind[Xms]
def Xmt{n:Int}(g:0<=n)(j:n<=63):JT .u64 1 n=2 ^ n.toNat:=by
 have e:IntKind.bits .u64=64:=rfl;have h:min n.toNat 64=n.toNat:=aa;have hp:(2:Int) ^ n.toNat<=2 ^ 63:=by have:2 ^ n.toNat<=2 ^ 63:=Nat.pow_le_pow_right aa aa;exact_mod_cast this
 have f:(0:Int)<=2 ^ n.toNat:=Int.pow_nonneg ae;show IntKind.wrap .u64 (1*2 ^ min n.toNat (IntKind.bits .u64))=_;rw[e,h,Int.one_mul];exact Xz f aa
def ZN(a:Int)(k:Nat)(e:k<=64)(f:0<=a):Y5 .u64 a k=a / 2 ^ k:=by have g:IntKind.bits .u64=64:=rfl;show a.fdiv (2 ^ min (k:Int).toNat (IntKind.bits .u64))=_;grind
def ZT(a:Int)(k:Nat)(f:k<=63)(g:0<=a)(h:a<=18446744073709551615):ZI .u64 a (2 ^ k-1)=a % 2 ^ k:=by
 obtain⟨n,rfl⟩:=IB g;have hb:IntKind.u64.bits=64:=rfl;show IntKind.u64.wrap ((BitVec.ofInt IntKind.u64.bits n &&& BitVec.ofInt IntKind.u64.bits (2 ^ k-1)).toNat:Int)=_;rw[hb];have e:(2:Int) ^ k-1=((2 ^ k-1:Nat):Int):=by
  have h:=Nat.one_le_two_pow (n:=k);have j:(2:Int) ^ k=((2 ^ k:Nat):Int):=by simp
  rw[j];omega
 have l:BitVec.ofInt 64 (n:Int)=BitVec.ofNat 64 n:=by simp
 have o:BitVec.ofInt 64 ((2 ^ k-1:Nat):Int)=BitVec.ofNat 64 (2 ^ k-1):=by simp
 rw[e,l,o,BitVec.toNat_and,BitVec.toNat_ofNat,BitVec.toNat_ofNat];have p:n % 2 ^ 64=n:=Nat.mod_eq_of_lt aa;have hp:2 ^ k<=2 ^ 63:=Nat.pow_le_pow_right aa f;have q:(2 ^ k-1) % 2 ^ 64=2 ^ k-1:=Nat.mod_eq_of_lt aa;rw[p,q,Nat.and_two_pow_sub_one_eq_mod];show wU _=_;rw[Xz aa aa];simp
def PT{α:Type}(o:Option α)(P:α->Prop):Prop:=∀r,o=some r->P r
def tU(n:Int):Prop:=0<=n/\n<=18446744073709551615
def tW(n:Int):Prop:=0<=n/\n<=4294967295
def tL{α:Type}(T:α->Prop)(l:List α):Prop:=∀x∈l,T x
def tE{α β:Type}(A:α->Prop)(B:β->Prop):Ex α β->Prop
 |.ret a=>A a
 |.nxt b=>B b
section
variable {α β γ:Type}{P:β->Prop}{T:α->Prop}
def Wk{x:β}(h:P x):PT (some x) P:=λr e=>WT e▸h
def Ox:PT none P:=λr e=>by grind
def Wz{o:Option α}{f:α->Option β}{Q:α->Prop}(h:PT o Q)(k:∀y,Q y->PT (f y) P):PT (Sx.bnd o f) P:=by
 cases o with
 |none=>rw[V4];exact Ox
 |some y=>rw[Xa];exact k y (h y rfl)
def W9{o:Option α}{f:α->Option β}(k:∀y,PT (f y) P):PT (Sx.bnd o f) P:=by
 cases o with
 |none=>rw[V4];exact Ox
 |some y=>simp_all[Xa]
def Un{p:Prop}[Decidable p]{x:Option β}(k:PT x P):PT (Sx.grd p x) P:=by
 unfold Sx.grd;split
 .omega
 exact Ox
def Ih{κ:Type}{k:κ}{f:κ->Option β}{Q:κ->Prop}(h:Q k)(g:∀j,Q j->PT (f j) P):PT (Sx.jn k f) P:=by simp_all[Xr]
def Wn{b:Bool}{x y:Option β}(e:PT x P)(f:PT y P):PT (bif b then x else y) P:=by grind
def PT.get{l:List α}{i:Int}{f:α->Option β}(h:tL T l)(k:∀p,T p->PT (f p) P):PT (Sx.bnd (Xd l i) f) P:=
 Wz (Q:=T) (λr e=>h r (YI e)) k
def OQ{α':Type}{o:Option (Ex α' α)}{f:α'->Option β}{k:α->Option β}{A:α'->Prop}(h:PT o (tE A T))(j:∀a,A a->PT (f a) P)(l:∀b,T b->PT (k b) P):PT (Sx.bnd o λe=>exK e f k) P:=by
 refine Wz h λy g=>?_;cases y with
 |ret a=>rw[Xs];exact j a g
 |nxt b=>rw[Xo];exact l b g
def Sk{o:Option β}{r:β}(h:PT o P)(e:o=.some r):P r:=h r e
end
@[simp] def XtG{α β:Type}(A:α->Prop)(B:β->Prop)(a:α):tE A B (.ret a)=A a:=rfl
@[simp] def XtH{α β:Type}(A:α->Prop)(B:β->Prop)(b:β):tE A B (.nxt b)=B b:=rfl
@[simp] def XtI(n:Nat):tU (no_index (OfNat.ofNat n):Int)=((OfNat.ofNat n:Nat)<=18446744073709551615):=by have:(no_index (OfNat.ofNat n):Int)=(n:Int):=rfl;simp only[eq_iff_iff];show(0:Int)<=n/\(n:Int)<=18446744073709551615↔n<=18446744073709551615;omega
@[simp] def XtJ(n:Nat):tW (no_index (OfNat.ofNat n):Int)=((OfNat.ofNat n:Nat)<=4294967295):=by have:(no_index (OfNat.ofNat n):Int)=(n:Int):=rfl;simp only[eq_iff_iff];show(0:Int)<=n/\(n:Int)<=4294967295↔n<=4294967295;omega
@[simp] def XuD(n:Int):tU (wU n):=J9 n
@[simp] def XsA(n:Int):tW (wW n):=by unfold tW;rw[Xms];omega
def Xbs(n:Int):tU (IntKind.wrap .u64 n):=J9 n
def Xmu(n:Int):tW (IntKind.wrap .u32 n):=XsA n
@[simp] def Xtp(a b:Int):tU (ZI .u64 a b):=Xbs _
@[simp] def XtK(a b:Int):tU (bOr .u64 a b):=Xbs _
@[simp] def Xtq(a b:Int):tU (XqS .u64 a b):=Xbs _
@[simp] def Xtr(a b:Int):tU (JT .u64 a b):=Xbs _
@[simp] def Xts(a b:Int):tW (ZI .u32 a b):=Xmu _
def XqD{a b:Int}(h:0<=a)(k:IntKind):0<=Y5 k a b/\Y5 k a b<=a:=by show 0<=a.fdiv _/\a.fdiv _<=a;have hp:(0:Int)<2 ^ min b.toNat (IntKind.bits k):=Int.pow_pos ae;rw[Int.fdiv_eq_ediv_of_nonneg _ aa];exact⟨Int.ediv_nonneg h aa,Int.ediv_le_self _ h⟩
@[simp] def Xtt{a b:Int}(h:tU a):tU (Y5 .u64 a b):=by have:=XqD (b:=b) h.1 .u64;unfold tU at *;omega
@[simp] def Xtu{a b:Int}(h:tW a):tW (Y5 .u32 a b):=by have:=XqD (b:=b) h.1 .u32;unfold tW at *;omega
@[simp] def Xtv{a b:Int}(h:tU a):tU (a.tmod b):=by
 unfold tU at *;rw[Int.tmod_eq_emod_of_nonneg h.1];by_cases hb:b=0
 .subst hb;rw[Int.emod_zero];exact h
 have h1:=Int.emod_nonneg a hb;have h2:a % b<=a:=by
  obtain⟨n,rfl⟩:=IB h.1;rcases Int.natAbs_eq b with e|e
  .rw[e,←Int.natCast_emod];have:=Nat.mod_le n b.natAbs;omega
  rw[e,Int.emod_neg,←Int.natCast_emod];have:=Nat.mod_le n b.natAbs;omega
 omega
section
variable {α:Type}{T:α->Prop}
@[simp] def XtL:tL T ([]:List α):=λx h=>by grind
@[simp] def Xtw{x:α}{l:List α}:tL T (x::l)↔T x/\tL T l:=by unfold tL;simp
@[simp] def Xr9{a b:List α}:tL T (a++b)↔tL T a/\tL T b:=by unfold tL;simp;exact⟨λh=>⟨λx hx=>h x (.inl hx),λx hx=>h x (.inr hx)⟩,λh x hx=>hx.elim (h.1 x) (h.2 x)⟩
@[simp] def Xds{l:List α}{i:Nat}{x:α}(h:tL T l)(hx:T x):tL T (l.set i x):=λy hy=>by
 rcases W7 hy with h1|h1
 .exact h y h1
 simp_all
@[simp] def Xtx{l:List α}{i:Nat}(h:tL T l):tL T (l.take i):=λy hy=>h y (Uc hy)
@[simp] def Xty{l:List α}{i:Nat}(h:tL T l):tL T (l.drop i):=λy hy=>h y (Ud hy)
@[simp] def XtM{n:Nat}{x:α}(h:T x):tL T (List.replicate n x):=λy hy=>by simp_all
end
@[simp] def XtN{p:Prop}[Decidable p]{a b:Int}(ha:tU a)(hb:tU b):tU (if p then a else b):=by split;exact ha;exact hb
set_option maxHeartbeats 1000000
def XY(s:Wp):Prop:=(tL tU) s.w
def Zc(s:UW):Prop:=tU s.a
def XR(s:WD):Prop:=(tL Zc) s.S
def XK(s:Ul):Prop:=tU s.a
def Yg(s:W4):Prop:=(tL XK) s.e
def ZO(s:UQ):Prop:=tU s.a
def Yz(s:Uw):Prop:=XY s.h/\XR s.l/\Yg s.g/\Yg s.v/\(tL ZO) s.P/\(tL tU) s.R
def Zv(s:WH):Prop:=tW s.Map
def ZU(s:UO):Prop:=Zv s.H/\(tL tU) s.D
def KE(s:U5):Prop:=tU s.I/\tU s.B0
def XE(s:WE):Prop:=(tL ZU) s.T/\XR s.l/\Yg s.g/\Yg s.v/\(tL KE) s.m/\(tL tU) s.R
def Xa4(s:IV):Prop:=Yz s.N/\XE s.z/\(tL tU) s.w
def Xph(s:WS):Prop:=tU s.Addr/\tU s.I
def Xdt(s:OG):Prop:=tU s.A/\tU s.B/\tU s.C
def Xig(s:OD):Prop:=tU s.B0
def Xmv(s:OB):Prop:=XR s.l
def X3(s:W8):Prop:=XY s.h/\(tL tU) s.o/\(tL tU) s.q
def XkB(s:Ut):Prop:=tU s.Addr
def Xpi(s:U8):Prop:=tU s.addr/\Zv s.hd
@[simp] def Xpj{l:List UW}{i:Nat}{x:UW}(h:tL Zc l)(hx:tU x.a):tL Zc (l.set i x):=Xds h hx
@[simp] def Xn7{l:List Ul}{i:Nat}{x:Ul}(h:tL XK l)(hx:tU x.a):tL XK (l.set i x):=Xds h hx
@[simp] def XqE{l:List UQ}{i:Nat}{x:UQ}(h:tL ZO l)(hx:tU x.a):tL ZO (l.set i x):=Xds h hx
@[simp] def Xpk{l:List U5}{i:Nat}{x:U5}(h:tL KE l)(hx:tU x.I/\tU x.B0):tL KE (l.set i x):=Xds h hx
@[simp] def Xn8{l:List UO}{i:Nat}{x:UO}(h:tL ZU l)(hx:tW x.H.Map/\(tL tU) x.D):tL ZU (l.set i x):=Xds h hx
attribute [local simp] XY Zc XR XK Yg ZO Yz Zv ZU KE XE Xa4 Xph Xdt Xig Xmv X3 XkB Xpi
def QmL{N e}:PT (QfS N e) (λr=>XY r.1):=by rw[QfS];refine(W9 λf=>(Wn (Wk ?_) (Un (Un (Wk ?_)))));all_goals simp_all (maxDischargeDepth:=9)
def QmM{N e}:PT (QeD N e) (λr=>Yz r.1):=by rw[QeD];refine(Wz (QmL) λf g=>(Wk ?_));all_goals simp_all (maxDischargeDepth:=9)
def QmN{N e}:PT (QeE N e) (λr=>XE r.1):=by rw[QeE];refine(W9 λf=>(Wn (Wk ?_) (Wk ?_)));all_goals simp_all (maxDischargeDepth:=9)
def Qin{N e}:PT (Qbl N e) (λr=>Xa4 r.1):=by rw[Qbl];refine(W9 λf=>(Wz (QmM) λg h=>(Wz (QmN) λj l=>(W9 λo=>(Wk ?_)))));all_goals simp_all (maxDischargeDepth:=9)
def Qhi{N a0}(e:XR a0):∀n h f,(tL tU) f->PT (Qbw N a0 n h f) (tL tU)
 |0,_,_,_=>by rw[Qbw];exact Ox
 |n+1,h,f,j=>by have g:=Qhi (N:=N) (a0:=a0) e n;rw[Qbw];refine(Wn (W9 λl=>(Wn (PT.get (T:=Zc) ?_ λo p=>(Wn (PT.get (T:=Zc) ?_ λq r=>(Un (g _ _ ?_))) (g _ _ ?_))) (Wk ?_))) (Wk ?_));all_goals (clear g;simp_all (maxDischargeDepth:=9))
def QiZ{N g n j h}(e:XR g)(f:(tL tU) h):PT (Qbw N g n j h) (tL tU):=Qhi e n _ _ f
def Qg6{N e}(f:XR e):PT (Qcy N e) (tL tU):=by rw[Qcy];refine(Wz (QiZ ?_ ?_) λg h=>(Wk ?_));all_goals simp_all (maxDischargeDepth:=9)
def Qhj{N a0}(e:Yg a0):∀n h f,(tL tU) f->PT (Qbx N a0 n h f) (tL tU)
 |0,_,_,_=>by rw[Qbx];exact Ox
 |n+1,h,f,j=>by have g:=Qhj (N:=N) (a0:=a0) e n;rw[Qbx];refine(Wn (W9 λl=>(Wn (PT.get (T:=XK) ?_ λo p=>(Wn (PT.get (T:=XK) ?_ λq r=>(Un (g _ _ ?_))) (g _ _ ?_))) (Wk ?_))) (Wk ?_));all_goals (clear g;simp_all (maxDischargeDepth:=9))
def Qi0{N g n j h}(e:Yg g)(f:(tL tU) h):PT (Qbx N g n j h) (tL tU):=Qhj e n _ _ f
def Qfx{N e}(f:Yg e):PT (Qbr N e) (tL tU):=by rw[Qbr];refine(Wz (Qi0 ?_ ?_) λg h=>(Wk ?_));all_goals simp_all (maxDischargeDepth:=9)
def Qg4{N a0}(e:Yz a0):∀n g f,(tL tU) f->PT (Qbm N a0 n g f) (tL tU)
 |0,_,_,_=>by rw[Qbm];exact Ox
 |n+1,g,f,j=>by have h:=Qg4 (N:=N) (a0:=a0) e n;rw[Qbm];refine(Wn (PT.get (T:=ZO) ?_ λl o=>(Un (h _ _ ?_))) (Wk ?_));all_goals (clear h;simp_all (maxDischargeDepth:=9))
def Qio{N g n j h}(e:Yz g)(f:(tL tU) h):PT (Qbm N g n j h) (tL tU):=Qg4 e n _ _ f
def Qj0{N e}(f:Yz e):PT (QcW N e) (tL tU):=by rw[QcW];refine(Un (Wz (Qg6 ?_) λg h=>(Un (Wz (Qfx ?_) λj l=>(Un (Wz (Qio ?_ ?_) λo p=>(Wk ?_)))))));all_goals simp_all (maxDischargeDepth:=9)
def QeC{N e f}(g:(tL tU) e)(h:tU f):PT (Qbn N e f) (λr=>tU r.1):=by rw[Qbn];refine(W9 λj=>(Wn (Wk ?_) (PT.get (T:=tU) ?_ λl o=>(Wk ?_))));all_goals simp_all (maxDischargeDepth:=9) []
def QgN{N e}(f:Zv e):PT (QcX N e) (λr=>tU r.1):=by rw[QcX];refine(W9 λg=>(Wn (Wk ?_) (Wk ?_)));all_goals simp_all (maxDischargeDepth:=9)
def QgO{N e}(f:tU e):PT (Qcr N e) (λr=>Zv r.1):=by rw[Qcr];refine(Wz (QgN ?_) λg h=>(Wn (Wk ?_) (Wn (Wk ?_) (Wk ?_))));all_goals simp_all (maxDischargeDepth:=9)
def QhI{N f g}(h:XY f)(j:tU g):PT (Qax N f g) (λr=>Zv r.1):=by rw[Qax];refine(W9 λl=>(Wn (Wk ?_) (W9 λo=>(Wn (Wk ?_) (W9 λp=>(Wz (QeC ?_ ?_) λq s=>(Wz (QgO ?_) λt u=>(Ih (Q:=λk=>∀_,PT (k ()) _) (λ_=>(W9 λw=>(Wn (Wn (Wk ?_) (Wn (Wn (Wk ?_) (Wn (Wk ?_) (Wk ?_))) (Wk ?_))) (Wn (Wn (Wk ?_) (Wn (Wk ?_) (Wk ?_))) (Wk ?_))))) λx e=>(Wn (Wn (Wk ?_) (Wn (Wk ?_) (Wn (Wk ?_) (e ())))) (Wn (Wk ?_) (Wn (Wk ?_) (e ()))))))))))));all_goals simp_all (maxDischargeDepth:=9)
def Qi1{N e f g}:PT (Qcb N e f g) (λr=>tU r.1):=by rw[Qcb];refine(W9 λh=>(Wn (Wk ?_) (Wn (Wk ?_) (Wn (Wk ?_) (Wn (Wk ?_) (Wn (Wk ?_) (Wk ?_)))))));all_goals simp_all (maxDischargeDepth:=9) []
def Qhk{N a0 a1 p2}(e:XY a0):∀n g f,(tL tU) f->PT (Qau N a0 a1 p2 n g f) (tE (λr=>(tL tU) r.1) (tL tU))
 |0,_,_,_=>by rw[Qau];exact Ox
 |n+1,g,f,j=>by have h:=Qhk (N:=N) (a0:=a0) (a1:=a1) (p2:=p2) e n;rw[Qau];refine(Wn (Wz (Qi1) λl o=>(Wz (QhI ?_ ?_) λp q=>(Wn (Wk ?_) (Un (Wn (Wk ?_) (W9 λs=>(h _ _ ?_))))))) (Wk ?_));all_goals (clear h;simp_all (maxDischargeDepth:=9))
def Qi2{N g j l n o h}(e:XY g)(f:(tL tU) h):PT (Qau N g j l n o h) (tE (λr=>(tL tU) r.1) (tL tU)):=Qhk e n _ _ f
def QlI{N e f}(g:XY e):PT (Qal N e f) (λr=>(tL tU) r.1):=by rw[Qal];refine(W9 λh=>(Wn (Wk ?_) (Wn (Wk ?_) (Wn (Wk ?_) (W9 λj=>(Wn (Wk ?_) (Wn (Wk ?_) (OQ (Qi2 ?_ ?_) (λr l=>(Wk ?_)) λo p=>(Wk ?_)))))))));all_goals simp_all (maxDischargeDepth:=9)
def Qg5{N a0}(e:XY a0):∀n g f,(tL tU) f->PT (QaP N a0 n g f) (tE (λr=>(tL tU) r.1) (tL tU))
 |0,_,_,_=>by rw[QaP];exact Ox
 |n+1,g,f,j=>by have h:=Qg5 (N:=N) (a0:=a0) e n;rw[QaP];refine(Wn (Wz (QlI ?_) λl o=>(Wn (Wk ?_) (Un (h _ _ ?_)))) (Wk ?_));all_goals (clear h;simp_all (maxDischargeDepth:=9))
def Qip{N g n j h}(e:XY g)(f:(tL tU) h):PT (QaP N g n j h) (tE (λr=>(tL tU) r.1) (tL tU)):=Qg5 e n _ _ f
def Qj1{N e}(f:XY e):PT (Qb4 N e) (λr=>(tL tU) r.1):=by rw[Qb4];refine(W9 λg=>(Wn (Wk ?_) (OQ (Qip ?_ ?_) (λr h=>(Wk ?_)) λj l=>(Wk ?_))));all_goals simp_all (maxDischargeDepth:=9)
def QgR{N a0 y1}(e:XY a0)(f:(λr=>(tL tU) r.1) y1):∀n j g,(tL tU) g->PT (QaT N a0 y1 n j g) (tL tU)
 |0,_,_,_=>by rw[QaT];exact Ox
 |n+1,j,g,l=>by have h:=QgR (N:=N) (a0:=a0) (y1:=y1) e f n;rw[QaT];refine(Wn (PT.get (T:=tU) ?_ λo p=>(Wz (QhI ?_ ?_) λq s=>(Wn (PT.get (T:=tU) ?_ λt u=>(Un (h _ _ ?_))) (h _ _ ?_)))) (Wk ?_));all_goals (clear h;simp_all (maxDischargeDepth:=9))
def Qh0{N h j n o l}(e:XY h)(f:(λr=>(tL tU) r.1) j)(g:(tL tU) l):PT (QaT N h j n o l) (tL tU):=QgR e f n _ _ g
def Qi3{N e}(f:XY e):PT (Qaj N e) (λr=>(tL tU) r.1):=by rw[Qaj];refine(Wz (Qj1 ?_) λg h=>(Wz (Qh0 ?_ ?_ ?_) λj l=>(Wk ?_)));all_goals simp_all (maxDischargeDepth:=9)
def Qhl{N e f}(g:XY e)(h:tU f):PT (Qb0 N e f) (λr=>Zv r.1):=by rw[Qb0];refine(W9 λj=>(Wn (Wk ?_) (Wn (Wk ?_) (Wz (QhI ?_ ?_) λl o=>(Wn (Wn (Wk ?_) (Wk ?_)) (Wk ?_))))));all_goals simp_all (maxDischargeDepth:=9)
def QlJ{N e f g}(h:(tL tU) e)(j:tU f):PT (QcY N e f g) (λr=>(tL tU) r.1):=by rw[QcY];refine(Wn (Wk ?_) (W9 λl=>(Wn (Wk ?_) (Un (Un (Wk ?_))))));all_goals simp_all (maxDischargeDepth:=9) []
def QkY{N e}(f:XY e):PT (Qeb N e) (λr=>X3 r.1):=by rw[Qeb];refine(W9 λg=>(Wn (Wk ?_) (W9 λh=>(Wn (Wk ?_) (Wz (Qi3 ?_) λj l=>(Un (W9 λo=>(Wk ?_))))))));all_goals simp_all (maxDischargeDepth:=9)
def QhE{N e}(f:tU e):PT (QdJ N e) (λr=>tU r.1):=by rw[QdJ];refine(Wn (Wk ?_) (Wn (Wk ?_) (Wk ?_)));all_goals simp_all (maxDischargeDepth:=9) []
def Qha{N a2 y1}(e:(tL tU) a2):∀n g f,(tL tU) f->PT (QbP N a2 y1 n g f) (tL tU)
 |0,_,_,_=>by rw[QbP];exact Ox
 |n+1,g,f,j=>by have h:=Qha (N:=N) (a2:=a2) (y1:=y1) e n;rw[QbP];refine(Wn (PT.get (T:=tU) ?_ λl o=>(PT.get (T:=tU) ?_ λp q=>(h _ _ ?_))) (Wk ?_));all_goals (clear h;simp_all (maxDischargeDepth:=9) [])
def QiH{N g j n l h}(e:(tL tU) g)(f:(tL tU) h):PT (QbP N g j n l h) (tL tU):=Qha e n _ _ f
def Qgg{N e f g}(h:(tL tU) e)(j:tU f)(l:(tL tU) g):PT (QcQ N e f g) (λr=>(tL tU) r.1):=by rw[QcQ];refine(W9 λo=>(Wn (Wk ?_) (Un (Wz (QiH ?_ ?_) λp q=>(Wk ?_)))));all_goals simp_all (maxDischargeDepth:=9) []
def QgV{N e f g}(h:(tL tU) e)(j:tU f)(l:tU g):PT (QdB N e f g) (λr=>(tL tU) r.1):=by rw[QdB];refine(Wz (Qgg ?_ ?_ ?_) λo p=>(Wk ?_));all_goals simp_all (maxDischargeDepth:=9) []
def QhY{N e f}(g:X3 e)(h:tU f):PT (QdC N e f) X3:=by rw[QdC];refine(Un (Un (Wk ?_)));all_goals simp_all (maxDischargeDepth:=9)
def QkZ{N f g}(h:X3 f):PT (QfB N f g) (λr=>X3 r.1/\tU r.2.1):=by rw[QfB];refine(Un (Ih (Q:=λk=>∀_,PT (k ()) _) (λ_=>(W9 λt=>(Wn (Wk ?_) (W9 λu=>(Un (Un (W9 λj=>(W9 λl=>(W9 λo=>(Wk ?_)))))))))) λw e=>(Wn (W9 λx=>(W9 λy=>(Wn (W9 λz=>(W9 λp=>(W9 λq=>(W9 λs=>(Wk ?_))))) (e ())))) (e ()))));all_goals simp_all (maxDischargeDepth:=9)
def QlK{N e f g h}(j:(tL tU) e)(l:tU f)(o:tU g):PT (Qfk N e f g h) (λr=>(tL tU) r.1):=by rw[Qfk];refine(Wz (QlJ ?_ ?_) λp q=>(Wn (Wk ?_) (Wz (Qgg ?_ ?_ ?_) λs t=>(Wk ?_))));all_goals simp_all (maxDischargeDepth:=9) []
def Qi4{N e}(f:tU e):PT (QdW N e) (λr=>tU r.1):=by rw[QdW];refine(Wn (Wk ?_) (Wk ?_));all_goals simp_all (maxDischargeDepth:=9) []
def Qhm{N e f}(g:X3 e)(h:tU f):PT (Qce N e f) (λr=>X3 r.1/\tU r.2.1):=by rw[Qce];refine(Wn (Wk ?_) (W9 λw=>(Wn (Wk ?_) (W9 λx=>(Wn (Wk ?_) (Wz (QeC ?_ ?_) λy z=>(Wz (QhE ?_) λA B=>(Wn (Wk ?_) (W9 λD=>(Wn (Wk ?_) (Wn (Wk ?_) (W9 λE=>(Wn (Wz (QhY ?_ ?_) λG H=>(Wk ?_)) (W9 λI=>(Wn (Un (W9 λJ=>(W9 λj=>(Wz (QhY ?_ ?_) λl K=>(Wk ?_))))) (Wz (QgO ?_) λo L=>(W9 λp=>(Wz (QkZ ?_) λq M=>(Wn (Wk ?_) (Wz (QlK ?_ ?_ ?_) λs O=>(Wz (Qi4 ?_) λt Q=>(Wz (QgV ?_ ?_ ?_) λu R=>(Un (Un (Wk ?_)))))))))))))))))))))))));all_goals simp_all (maxDischargeDepth:=9)
def Qhb{N a1}(s:(tL tU) a1):∀n w x y t z A B u D e g h j l o p q f,(tL tU) t->(tL tU) u->(tL tU) e->(tL tU) f->PT (QbD N a1 n w x y t z A B u D e g h j l o p q f) (tE (λr=>X3 r.1/\(tL tU) r.2.1) (λr=>(tL tU) r.2.2.1/\(tL tU) r.2.2.2.2.2.2.1/\(tL tU) r.2.2.2.2.2.2.2.2.1/\(tL tU) r.2.2.2.2.2.2.2.2.2.2.2.2.2.2.2.2))
 |0,_,_,_,_,_,_,_,_,_,_,_,_,_,_,_,_,_,_,_,_,_,_=>by rw[QbD];exact Ox
 |n+1,w,x,y,t,z,A,B,u,D,e,g,h,j,l,o,p,q,f,I,J,E,G=>by have H:=Qhb (N:=N) (a1:=a1) s n;rw[QbD];refine(Wn (PT.get (T:=tU) ?_ λK M=>(Wz (Qhm ?_ ?_) λL O=>(Wn (Wk ?_) (Un (H _ _ _ _ _ _ _ _ _ _ _ _ _ _ _ _ _ _ ?_ ?_ ?_ ?_))))) (Wk ?_));all_goals (clear H;simp_all (maxDischargeDepth:=9))
def QiI{N y n B D E z G H I A J e j l o p q s t f}(u:(tL tU) y)(w:(tL tU) z)(x:(tL tU) A)(g:(tL tU) e)(h:(tL tU) f):PT (QbD N y n B D E z G H I A J e j l o p q s t f) (tE (λr=>X3 r.1/\(tL tU) r.2.1) (λr=>(tL tU) r.2.2.1/\(tL tU) r.2.2.2.2.2.2.1/\(tL tU) r.2.2.2.2.2.2.2.2.1/\(tL tU) r.2.2.2.2.2.2.2.2.2.2.2.2.2.2.2.2)):=Qhb u n _ _ _ _ _ _ _ _ _ _ _ _ _ _ _ _ _ _ w x g h
def Qk0{N e f}(g:X3 e)(h:(tL tU) f):PT (QeT N e f) (λr=>X3 r.1/\(tL tU) r.2.1):=by rw[QeT];refine(OQ (QiI ?_ ?_ ?_ ?_ ?_) (λr l=>(Wk ?_)) λj o=>(Wk ?_));all_goals simp_all (maxDischargeDepth:=9)
def Qiq{N e f}(g:X3 e)(h:tU f):PT (Qec N e f) Zv:=by rw[Qec];refine(Wz (QeC ?_ ?_) λj l=>(Wz (QgO ?_) λo p=>(Wk ?_)));all_goals simp_all (maxDischargeDepth:=9)
def Qhn{N p1 y3}(u:tU p1):∀n x y z w A B g e h f j l o p q s t,(tL tU) w->(tL tU) e->(tL tU) f->PT (QbL N p1 y3 n x y z w A B g e h f j l o p q s t) (tE (λr=>X3 r.1) (λr=>(tL tU) r.2.2.1/\(tL tU) r.2.2.2.2.2.2.1/\(tL tU) r.2.2.2.2.2.2.2.2.1))
 |0,_,_,_,_,_,_,_,_,_,_,_,_,_,_,_,_,_,_,_,_=>by rw[QbL];exact Ox
 |n+1,x,y,z,w,A,B,g,e,h,f,j,l,o,p,q,s,t,H,D,E=>by have G:=Qhn (N:=N) (p1:=p1) (y3:=y3) u n;rw[QbL];refine(Wn (W9 λI=>(Wz (QeC ?_ ?_) λJ M=>(Wz (Qhm ?_ ?_) λK O=>(Wn (Wk ?_) (Wz (QgV ?_ ?_ ?_) λL Q=>(G _ _ _ _ _ _ _ _ _ _ _ _ _ _ _ _ _ ?_ ?_ ?_)))))) (Wk ?_));all_goals (clear G;simp_all (maxDischargeDepth:=9))
def Qi5{N z B n D E G A H I j e l f o p q s t u w}(x:tU z)(y:(tL tU) A)(g:(tL tU) e)(h:(tL tU) f):PT (QbL N z B n D E G A H I j e l f o p q s t u w) (tE (λr=>X3 r.1) (λr=>(tL tU) r.2.2.1/\(tL tU) r.2.2.2.2.2.2.1/\(tL tU) r.2.2.2.2.2.2.2.2.1)):=Qhn x n _ _ _ _ _ _ _ _ _ _ _ _ _ _ _ _ _ y g h
def QlL{N e}(f:X3 e):PT (QeI N e) (λr=>X3 r.1):=by rw[QeI];refine(Wn (Wk ?_) (PT.get (T:=tU) ?_ λh j=>(Wz (Qiq ?_ ?_) λl o=>(W9 λp=>(OQ (Qi5 ?_ ?_ ?_ ?_) (λr q=>(Wk ?_)) λg s=>(Wk ?_))))));all_goals simp_all (maxDischargeDepth:=9)
def QhF{N}:∀n t u p w x y q z s e f g h j l o,(tL tU) p->(tL tU) q->(tL tU) s->PT (Qcs N n t u p w x y q z s e f g h j l o) (λr=>X3 r.1)
 |0,_,_,_,_,_,_,_,_,_,_,_,_,_,_,_,_,_,_,_=>by rw[Qcs];exact Ox
 |n+1,t,u,p,w,x,y,q,z,s,e,f,g,h,j,l,o,B,D,E=>by have A:=QhF (N:=N) n;rw[Qcs];refine(Wz (QlL ?_) λG H=>(Wn (Wk ?_) (Wn (Wk ?_) (A _ _ _ _ _ _ _ _ _ _ _ _ _ _ _ _ ?_ ?_ ?_))));all_goals (clear A;simp_all (maxDischargeDepth:=9))
def Qj2{N n x y t z A B u D w e f g h j l o}(p:(tL tU) t)(q:(tL tU) u)(s:(tL tU) w):PT (Qcs N n x y t z A B u D w e f g h j l o) (λr=>X3 r.1):=QhF n _ _ _ _ _ _ _ _ _ _ _ _ _ _ _ _ p q s
def QmO{N e}(f:X3 e):PT (QfU N e) (λr=>X3 r.1):=by rw[QfU];refine(Wz (Qj2 ?_ ?_ ?_) λr g=>(Wk ?_));all_goals simp_all (maxDischargeDepth:=9)
def Qk1{N e f}(g:X3 e)(h:tU f):PT (QdE N e f) tU:=by rw[QdE];refine(W9 λj=>(Wn (Wk ?_) (Wz (QeC ?_ ?_) λl o=>(Wz (QhE ?_) λp q=>(Wk ?_)))));all_goals simp_all (maxDischargeDepth:=9)
def Qho{N a0 v4 p5 v1 v2}(e:X3 a0):∀n g f,(tL tU) f->PT (Qby N a0 v4 p5 v1 v2 n g f) (tL tU)
 |0,_,_,_=>by rw[Qby];exact Ox
 |n+1,g,f,j=>by have h:=Qho (N:=N) (a0:=a0) (v4:=v4) (p5:=p5) (v1:=v1) (v2:=v2) e n;rw[Qby];refine(Wn (PT.get (T:=tU) ?_ λl o=>(h _ _ ?_)) (Wk ?_));all_goals (clear h;simp_all (maxDischargeDepth:=9))
def Qi6{N g j l o p n q h}(e:X3 g)(f:(tL tU) h):PT (Qby N g j l o p n q h) (tL tU):=Qho e n _ _ f
def Qhp{N a0}(f:X3 a0):∀n h j g l,(tL tU) g->PT (Qa4 N a0 n h j g l) (λr=>(tL tU) r.2.1)
 |0,_,_,_,_,_=>by rw[Qa4];exact Ox
 |n+1,h,j,g,l,o=>by have e:=Qhp (N:=N) (a0:=a0) f n;rw[Qa4];refine(Un (Wn (W9 λq=>(Wn (e _ _ _ _ ?_) (Wn (e _ _ _ _ ?_) (W9 λs=>(Wz (Qi6 ?_ ?_) λp t=>(e _ _ _ _ ?_)))))) (Wk ?_)));all_goals (clear e;simp_all (maxDischargeDepth:=9))
def Qi7{N g n j l h o}(e:X3 g)(f:(tL tU) h):PT (Qa4 N g n j l h o) (λr=>(tL tU) r.2.1):=Qhp e n _ _ _ _ f
def QlM{N e}(f:X3 e):PT (Qfl N e) X3:=by rw[Qfl];refine(Un (Un (Wz (Qi7 ?_ ?_) λg h=>(Wk ?_))));all_goals simp_all (maxDischargeDepth:=9)
def Qhq{N a0}(f:X3 a0):∀n h g j,(tL tU) g->PT (QaJ N a0 n h g j) (λr=>(tL tU) r.1)
 |0,_,_,_,_=>by rw[QaJ];exact Ox
 |n+1,h,g,j,l=>by have e:=Qhq (N:=N) (a0:=a0) f n;rw[QaJ];refine(Wn (PT.get (T:=tU) ?_ λt u=>(W9 λw=>(W9 λx=>(Wn (e _ _ _ ?_) (PT.get (T:=tU) ?_ λy z=>(W9 λA=>(Wn (e _ _ _ ?_) (PT.get (T:=tU) ?_ λB D=>(Wz (Qiq ?_ ?_) λo E=>(Wz (QgN ?_) λp G=>(PT.get (T:=tU) ?_ λq H=>(Un (Un (Wz (Qgg ?_ ?_ ?_) λs I=>(e _ _ _ ?_))))))))))))))) (Wk ?_));all_goals (clear e;simp_all (maxDischargeDepth:=9))
def Qi8{N g n j h l}(e:X3 g)(f:(tL tU) h):PT (QaJ N g n j h l) (λr=>(tL tU) r.1):=Qhq e n _ _ _ f
def QlN{N e}(f:X3 e):PT (Qfm N e) X3:=by rw[Qfm];refine(Wz (Qi8 ?_ ?_) λg h=>(Wk ?_));all_goals simp_all (maxDischargeDepth:=9)
def QgS{N a2 y5 y6}(l:(tL tU) a2)(o:(λr=>X3 r.1/\(tL tU) r.2.1) y5)(p:(λr=>X3 r.1) y6):∀n s t q,(tL tU) q->PT (QaU N a2 y5 y6 n s t q) (λr=>(tL tU) r.2)
 |0,_,_,_,_=>by rw[QaU];exact Ox
 |n+1,s,t,q,w=>by have u:=QgS (N:=N) (a2:=a2) (y5:=y5) (y6:=y6) l o p n;rw[QaU];refine(Wn (PT.get (T:=tU) ?_ λx A=>(Ih (Q:=λk=>∀e f,tU e->PT (k e f) _) (λe f B=>(Un (u _ _ _ ?_))) λD g=>(Wn (PT.get (T:=tU) ?_ λy E=>(Wz (Qk1 ?_ ?_) λz G=>(Ih (Q:=λk=>∀h,PT (k h) _) (λh=>(g _ _ ?_)) λH j=>(Wn (j _) (j _))))) (g _ _ ?_)))) (Wk ?_));all_goals (clear u;simp_all (maxDischargeDepth:=9))
def Qh1{N j l o n q s p}(e:(tL tU) j)(f:(λr=>X3 r.1/\(tL tU) r.2.1) l)(g:(λr=>X3 r.1) o)(h:(tL tU) p):PT (QaU N j l o n q s p) (λr=>(tL tU) r.2):=QgS e f g n _ _ _ h
def Qi9{N h j l}(o:XY h)(p:(tL tU) j)(q:(tL tU) l):PT (Qdd N h j l) (λr=>XY r.1/\(tL tU) r.2.1/\(tL tU) r.2.2.1):=by rw[Qdd];refine(W9 λx=>(Wn (Wk ?_) (Ih (Q:=λk=>∀_,PT (k ()) _) (λ_=>(Wk ?_)) λy e=>(W9 λz=>(Wn (e ()) (W9 λA=>(Wn (e ()) (Wz (QkY ?_) λB D=>(Wz (Qk0 ?_ ?_) λE G=>(Wn (Wk ?_) (Wz (QmO ?_) λH I=>(Wn (Wk ?_) (Wz (Qh1 ?_ ?_ ?_ ?_) λs J=>(Wz (QlN ?_) λt K=>(Wz (QlM ?_) λu L=>(Ih (Q:=λk=>∀f,PT (k f) _) (λf=>(Wk ?_)) λM g=>(Wn (W9 λw=>(g _)) (g _))))))))))))))))));all_goals simp_all (maxDischargeDepth:=9)
def Qhr{N a0 a1}(e:XR a0)(f:(tL tU) a1):∀n j l g,(tL Zc) g->PT (Qbz N a0 a1 n j l g) (tE (λr=>XR r.1) (tL Zc))
 |0,_,_,_,_=>by rw[Qbz];exact Ox
 |n+1,j,l,g,o=>by have h:=Qhr (N:=N) (a0:=a0) (a1:=a1) e f n;rw[Qbz];refine(Un (Wn (PT.get (T:=Zc) ?_ λp q=>(Wn (h _ _ _ ?_) (PT.get (T:=tU) ?_ λs t=>(Wn (Wk ?_) (PT.get (T:=tU) ?_ λu w=>(PT.get (T:=Zc) ?_ λx y=>(h _ _ _ ?_))))))) (Wk ?_)));all_goals (clear h;simp_all (maxDischargeDepth:=9))
def Qja{N h j n o p l}(e:XR h)(f:(tL tU) j)(g:(tL Zc) l):PT (Qbz N h j n o p l) (tE (λr=>XR r.1) (tL Zc)):=Qhr e f n _ _ _ g
def QlO{N e f}(g:XR e)(h:(tL tU) f):PT (Qd6 N e f) (λr=>XR r.1):=by rw[Qd6];refine(W9 λl=>(Wn (Wk ?_) (Wz (Qg6 ?_) λo p=>(Wn (Wk ?_) (Un (OQ (Qja ?_ ?_ ?_) (λr q=>(Wk ?_)) λj s=>(Wk ?_)))))));all_goals simp_all (maxDischargeDepth:=9)
def Qhs{N a1}(e:(tL tU) a1):∀n h j f,(tL XK) f->PT (QbA N a1 n h j f) (tL XK)
 |0,_,_,_,_=>by rw[QbA];exact Ox
 |n+1,h,j,f,l=>by have g:=Qhs (N:=N) (a1:=a1) e n;rw[QbA];refine(Un (Wn (PT.get (T:=XK) ?_ λo p=>(Wn (PT.get (T:=tU) ?_ λq r=>(PT.get (T:=XK) ?_ λs t=>(g _ _ _ ?_))) (g _ _ _ ?_))) (Wk ?_)));all_goals (clear g;simp_all (maxDischargeDepth:=9))
def Qjb{N g n j l h}(e:(tL tU) g)(f:(tL XK) h):PT (QbA N g n j l h) (tL XK):=Qhs e n _ _ _ f
def Qg7{N e f}(g:Yg e)(h:(tL tU) f):PT (QcD N e f) (λr=>Yg r.1):=by rw[QcD];refine(W9 λj=>(Wn (Wk ?_) (Wz (Qfx ?_) λl o=>(Un (Wn (Wk ?_) (Un (Wz (Qjb ?_ ?_) λp q=>(Wk ?_))))))));all_goals simp_all (maxDischargeDepth:=9)
def QgT{N a0 y4 y5 y6 y7 y8 y9}(g:Yz a0)(h:(λr=>XY r.1/\(tL tU) r.2.1/\(tL tU) r.2.2.1) y4)(j:(tL tU) y5)(l:(tL tU) y6)(o:(λr=>XR r.1) y7)(p:(λr=>Yg r.1) y8)(q:(λr=>Yg r.1) y9):∀n f e,(tL ZO) e->PT (Qa6 N a0 y4 y5 y6 y7 y8 y9 n f e) (tL ZO)
 |0,_,_,_=>by rw[Qa6];exact Ox
 |n+1,f,e,s=>by have t:=QgT (N:=N) (a0:=a0) (y4:=y4) (y5:=y5) (y6:=y6) (y7:=y7) (y8:=y8) (y9:=y9) g h j l o p q n;rw[Qa6];refine(Wn (PT.get (T:=tU) ?_ λu x=>(PT.get (T:=ZO) ?_ λw y=>(Un (t _ _ ?_)))) (Wk ?_));all_goals (clear t;simp_all (maxDischargeDepth:=9))
def Qh2{N t u w x y z A n g e}(h:Yz t)(j:(λr=>XY r.1/\(tL tU) r.2.1/\(tL tU) r.2.2.1) u)(l:(tL tU) w)(o:(tL tU) x)(p:(λr=>XR r.1) y)(q:(λr=>Yg r.1) z)(s:(λr=>Yg r.1) A)(f:(tL ZO) e):PT (Qa6 N t u w x y z A n g e) (tL ZO):=QgT h j l o p q s n _ _ f
def Qht{N e}(f:Yz e):PT (Qcf N e) (λr=>Yz r.1):=by rw[Qcf];refine(W9 λh=>(Wn (Wk ?_) (Wz (Qj0 ?_) λj l=>(Wz (Qfx ?_) λo p=>(Wz (Qi9 ?_ ?_ ?_) λq s=>(Wn (Wk ?_) (Wz (Qg6 ?_) λt u=>(Wz (Qfx ?_) λw x=>(Un (Un (Un (Un (Wz (QlO ?_ ?_) λy z=>(Un (Wz (Qg7 ?_ ?_) λA B=>(Wz (Qg7 ?_ ?_) λD E=>(Wz (Qh2 ?_ ?_ ?_ ?_ ?_ ?_ ?_ ?_) λg G=>(Wk ?_))))))))))))))))));all_goals simp_all (maxDischargeDepth:=9)
def QgU{N a0 y2}(f:XE a0):∀n h g,(tL tU) g->PT (QaH N a0 y2 n h g) (tL tU)
 |0,_,_,_=>by rw[QaH];exact Ox
 |n+1,h,g,j=>by have e:=QgU (N:=N) (a0:=a0) (y2:=y2) f n;rw[QaH];refine(Un (Wn (PT.get (T:=tU) ?_ λl o=>(Wn (PT.get (T:=tU) ?_ λp q=>(W9 λr=>(Wn (PT.get (T:=tU) ?_ λs t=>(e _ _ ?_)) (e _ _ ?_)))) (e _ _ ?_))) (Wk ?_)));all_goals (clear e;simp_all (maxDischargeDepth:=9))
def Qh3{N g j n l h}(e:XE g)(f:(tL tU) h):PT (QaH N g j n l h) (tL tU):=QgU e n _ _ f
def Qhu{N e}(f:XE e):PT (QbB N e) (λr=>XE r.1):=by rw[QbB];refine(W9 λj=>(Wn (Wk ?_) (W9 λl=>(Wz (Qfx ?_) λo p=>(Wz (Qh3 ?_ ?_) λg q=>(Wz (Qg7 ?_ ?_) λh s=>(Wk ?_)))))));all_goals simp_all (maxDischargeDepth:=9)
def Qae{N e}:PT (Qaa N e) (λr=>Yz r.1/\tU r.2.1):=by rw[Qaa];refine(Wk ?_);all_goals simp_all (maxDischargeDepth:=9)
def QhN{N g e f}(h:tU e)(j:tU f):PT (Qcg N g e f) (λr=>Zv r.1):=by rw[Qcg];refine(Wn (Wn (Wk ?_) (Wk ?_)) (Wk ?_));all_goals simp_all (maxDischargeDepth:=9)
def Qhv{N e f}(g:XR e)(h:tU f):PT (Qee N e f) (λr=>XR r.1):=by rw[Qee];refine(W9 λj=>(Wn (Wk ?_) (Wn (Wk ?_) (Wn (Wk ?_) (W9 λl=>(W9 λo=>(W9 λp=>(Wn (Wk ?_) (Wn (Wk ?_) (Un (Un (Un (Un (Wk ?_))))))))))))));all_goals simp_all (maxDischargeDepth:=9)
def Qk2{N f g}(h:XY f):PT (Qef N f g) (λr=>XY r.1/\tU r.2.1):=by rw[Qef];refine(Un (W9 λt=>(W9 λu=>(Ih (Q:=λk=>∀_,PT (k ()) _) (λ_=>(W9 λw=>(Wn (Wk ?_) (Wn (Wk ?_) (W9 λx=>(W9 λj=>(W9 λl=>(W9 λo=>(Wk ?_))))))))) λy e=>(Wn (e ()) (W9 λz=>(Wn (e ()) (W9 λA=>(Wn (e ()) (Wn (e ()) (W9 λp=>(W9 λq=>(W9 λs=>(Wk ?_))))))))))))));all_goals simp_all (maxDischargeDepth:=9)
def Qk3{N e f g}(h:XY e):PT (QeV N e f g) (λr=>XY r.1/\tU r.2.1):=by rw[QeV];refine(W9 λj=>(Wn (Wk ?_) (W9 λl=>(W9 λo=>(Wn (Wk ?_) (W9 λp=>(Wk ?_)))))));all_goals simp_all (maxDischargeDepth:=9)
def QlP{N e f g}(h:XY e)(j:tU f)(l:Zv g):PT (QcE N e f g) (λr=>XY r.1):=by rw[QcE];refine(Wz (QgN ?_) λo p=>(W9 λq=>(Wn (Wk ?_) (Wn (Wk ?_) (Un (Un (Wz (Qgg ?_ ?_ ?_) λs t=>(Wn (Wk ?_) (Wk ?_)))))))));all_goals simp_all (maxDischargeDepth:=9)
def Qir{N p q}(u:XY p)(w:Zv q):PT (QeJ N p q) (λr=>XY r.1/\tU r.2.1):=by rw[QeJ];refine(W9 λy=>(Wn (Wk ?_) (W9 λz=>(Wn (Wk ?_) (W9 λA=>(W9 λB=>(Wz (Qk2 ?_) λD E=>(Ih (Q:=λk=>∀o s t f e g h j,tU o->(tL tU) e->PT (k o s t f e g h j) _) (λo s t f e g h j G H=>(Wn (Wk ?_) (Wz (QlP ?_ ?_ ?_) λx I=>(Wk ?_)))) λJ l=>(Wn (Wz (Qk3 ?_) λK L=>(l _ _ _ _ _ _ _ _ ?_ ?_)) (l _ _ _ _ _ _ _ _ ?_ ?_))))))))));all_goals simp_all (maxDischargeDepth:=9)
def Qk4{N E G}(K:Yz E)(L:Zv G):PT (Qeg N E G) (λr=>Yz r.1/\tU r.2.1):=by rw[Qeg];refine(W9 λR=>(Wn (Wk ?_) (Wz (Qir ?_ ?_) λS U=>(Ih (Q:=λk=>∀B H I J D o p q e s t f g h j u w l x y z,tU B->(tL tU) D->(tL Zc) e->(tL XK) f->(tL XK) g->(tL ZO) h->(tL tU) j->(tL tU) l->PT (k B H I J D o p q e s t f g h j u w l x y z) _) (λB H I J D o p q e s t f g h j u w l x y z V W Y Z h6 h7 h8 h9=>(Wn (Wk ?_) (Wk ?_))) λj1 A=>(Wn (Wz (Qht ?_) λy3 M=>(Wn (Wk ?_) (Wz (Qir ?_ ?_) λy4 O=>(A _ _ _ _ _ _ _ _ _ _ _ _ _ _ _ _ _ _ _ _ _ ?_ ?_ ?_ ?_ ?_ ?_ ?_ ?_)))) (A _ _ _ _ _ _ _ _ _ _ _ _ _ _ _ _ _ _ _ _ _ ?_ ?_ ?_ ?_ ?_ ?_ ?_ ?_))))));all_goals simp_all (maxDischargeDepth:=9)
def QfN{N e}:PT (Qb6 N e) (λr=>tU r.1):=by rw[Qb6];refine(W9 λf=>(Wn (Wk ?_) (Wk ?_)));all_goals simp_all (maxDischargeDepth:=9) []
def Qgh{N e f}(g:Yz e)(h:tU f):PT (Qct N e f) (λr=>Yz r.1/\tU r.2.1):=by rw[Qct];refine(Wn (Wk ?_) (Wz (Qhv ?_ ?_) λj l=>(Wn (Wz (Qae) λo p=>(Wk ?_)) (Wz (QfN) λq s=>(Wk ?_)))));all_goals simp_all (maxDischargeDepth:=9)
def Qj3{N f j g h}(l:Yz f)(o:tU g)(p:tU h):PT (QdK N f j g h) (λr=>Yz r.1/\tU r.2.1):=by rw[QdK];refine(Wn (Wz (Qae) λq s=>(Wk ?_)) (Wz (QhN ?_ ?_) λt u=>(Ih (Q:=λk=>∀_,PT (k ()) _) (λ_=>(Wz (Qae) λw x=>(Wk ?_))) λy e=>(Wn (e ()) (W9 λz=>(Wn (e ()) (Wz (Qhv ?_ ?_) λA B=>(Wn (Wz (Qae) λD E=>(Wk ?_)) (Wz (Qk4 ?_ ?_) λG H=>(Wn (Wz (Qae) λI J=>(Wk ?_)) (Wz (Qgh ?_ ?_) λK L=>(Wk ?_))))))))))));all_goals simp_all (maxDischargeDepth:=9)
def Qhw{N e f g}(h:XR e):PT (QeK N e f g) (λr=>tU r.1):=by rw[QeK];refine(W9 λj=>(Wn (Wk ?_) (Wn (Wk ?_) (Wn (Wk ?_) (W9 λl=>(Wn (Wk ?_) (Wn (Wk ?_) (PT.get (T:=Zc) ?_ λo p=>(Wn (Wk ?_) (PT.get (T:=Zc) ?_ λq s=>(Wn (Wk ?_) (PT.get (T:=Zc) ?_ λt u=>(Wk ?_)))))))))))));all_goals simp_all (maxDischargeDepth:=9)
def Qf1{N e f g}(h:Yg e):PT (QdL N e f g) (λr=>tU r.1):=by rw[QdL];refine(W9 λj=>(Wn (Wk ?_) (Wn (Wk ?_) (Wn (Wk ?_) (Wn (Wk ?_) (PT.get (T:=XK) ?_ λl o=>(Wn (Wk ?_) (PT.get (T:=XK) ?_ λp q=>(Wn (Wk ?_) (PT.get (T:=XK) ?_ λs t=>(Wn (Wk ?_) (PT.get (T:=XK) ?_ λu w=>(Wk ?_)))))))))))));all_goals simp_all (maxDischargeDepth:=9)
def QcJ{N e f}(g:Yz e)(h:tU f):PT (QaF N e f) (λr=>tU r.1):=by rw[QaF];refine(W9 λj=>(Wn (Wk ?_) (Wn (Wk ?_) (W9 λl=>(Wn (Wk ?_) (Wn (Wz (Qhw ?_) λo p=>(Wk ?_)) (Wn (Wz (Qf1 ?_) λq s=>(Wk ?_)) (Wz (Qf1 ?_) λt u=>(Wk ?_)))))))));all_goals simp_all (maxDischargeDepth:=9)
def Qgi{N e f}(g:Yz e)(h:tU f):PT (QbQ N e f) (λr=>tU r.1):=by rw[QbQ];refine(Wz (QcJ ?_ ?_) λj l=>(Wn (Wn (Wk ?_) (Wk ?_)) (Wk ?_)));all_goals simp_all (maxDischargeDepth:=9)
def QhO{N e f g h}(j:Yz e)(l:tU f)(o:tU g):PT (QcS N e f g h) (λr=>tU r.1):=by rw[QcS];refine(Wz (Qgi ?_ ?_) λp q=>(Wn (Wk ?_) (Wz (Qhl ?_ ?_) λs t=>(Wn (Wk ?_) (W9 λu=>(Wn (Wk ?_) (Wk ?_)))))));all_goals simp_all (maxDischargeDepth:=9)
def QhP{N e f g}(h:XY e)(j:tU f):PT (QcT N e f g) (λr=>tU r.1):=by rw[QcT];refine(Wz (Qhl ?_ ?_) λl o=>(Wn (Wk ?_) (Wn (Wk ?_) (Wn (Wk ?_) (Wz (QeC ?_ ?_) λp q=>(Wk ?_))))));all_goals simp_all (maxDischargeDepth:=9)
def QiJ{N e f h g}(j:XY e)(l:tU f)(o:tU g):PT (Qci N e f h g) (λr=>XY r.1):=by rw[Qci];refine(Wz (QhP ?_ ?_) λp q=>(Wn (Wk ?_) (Wz (QgV ?_ ?_ ?_) λs t=>(Wk ?_))));all_goals simp_all (maxDischargeDepth:=9)
def Qk5{N j t l o p}(u:Yz j)(w:tU l)(x:tU o)(y:tU p):PT (QcU N j t l o p) (λr=>Yz r.1/\tU r.2.1):=by rw[QcU];refine(Ih (Q:=λk=>∀h q s,tU h->PT (k h q s) _) (λh q s D=>(Wn (Wz (Qae) λE G=>(Wk ?_)) (Wz (QhP ?_ ?_) λH I=>(Wn (Wk ?_) (Wn (Wz (Qgh ?_ ?_) λJ K=>(Wk ?_)) (Ih (Q:=λk=>∀e,tU e->PT (k e) _) (λe L=>(Wz (QiJ ?_ ?_ ?_) λz M=>(Wk ?_))) λO f=>(Wn (Wz (QcJ ?_ ?_) λR S=>(Wn (Wz (Qae) λA U=>(Wk ?_)) (f _ ?_))) (f _ ?_)))))))) λV g=>(Wn (Wz (QhO ?_ ?_ ?_) λW Y=>(g _ _ _ ?_)) (Wz (QhO ?_ ?_ ?_) λZ B=>(g _ _ _ ?_))));all_goals simp_all (maxDischargeDepth:=9)
def Qk6{N f l g h}(o:Yz f)(p:tU g)(q:tU h):PT (Qcv N f l g h) (λr=>Yz r.1/\tU r.2.1):=by rw[Qcv];refine(Ih (Q:=λk=>∀j,PT (k j) _) (λj=>(Wn (Wz (Qgi ?_ ?_) λw x=>(Wn (Wz (Qae) λy z=>(Wk ?_)) (Wz (Qhl ?_ ?_) λA B=>(Wn (Wk ?_) (Wk ?_))))) (Wn (Wz (QcJ ?_ ?_) λD E=>(Wn (Wz (Qae) λG H=>(Wk ?_)) (Wz (QcJ ?_ ?_) λI J=>(Wn (Wz (Qae) λK L=>(Wk ?_)) (Wn (Wk ?_) (Wk ?_)))))) (Wz (QcJ ?_ ?_) λM O=>(Wn (Wz (Qae) λs R=>(Wk ?_)) (Wz (Qgh ?_ ?_) λt u=>(Wk ?_))))))) λS e=>(Wn (e _) (e _)));all_goals simp_all (maxDischargeDepth:=9)
def QhG{N a0 a1}(e:Yg a0)(f:tU a1):∀n h,PT (QbM N a0 a1 n h) (tE (λr=>Yg r.1) (λ_=>True))
 |0,_=>by rw[QbM];exact Ox
 |n+1,h=>by have g:=QhG (N:=N) (a0:=a0) (a1:=a1) e f n;rw[QbM];refine(Un (Wn (PT.get (T:=XK) ?_ λj l=>(Wn (PT.get (T:=XK) ?_ λo p=>(Wn (PT.get (T:=XK) ?_ λq s=>(PT.get (T:=XK) ?_ λt u=>(PT.get (T:=XK) ?_ λw x=>(Wk ?_)))) (g _))) (g _))) (Wk ?_)));all_goals (clear g;simp_all (maxDischargeDepth:=9))
def Qj4{N g h n j}(e:Yg g)(f:tU h):PT (QbM N g h n j) (tE (λr=>Yg r.1) (λ_=>True)):=QhG e f n _
def Qhx{N e f}(g:Yg e)(h:tU f):PT (QcN N e f) (λr=>Yg r.1):=by rw[QcN];refine(W9 λj=>(Wn (Wk ?_) (Un (OQ (Qj4 ?_ ?_) (λr l=>(Wk ?_)) λo p=>(Un (Wn (Wk ?_) (Un (Un (Wk ?_)))))))));all_goals simp_all (maxDischargeDepth:=9)
def Qjc{N l q o}(s:Yz l)(t:tU o):PT (Qde N l q o) (λr=>Yz r.1/\tU r.2.1):=by rw[Qde];refine(Wz (Qgi ?_ ?_) λu w=>(Wn (Wz (Qae) λx y=>(Wk ?_)) (Ih (Q:=λk=>∀p g,(tL XK) g->PT (k p g) _) (λp g z=>(Wz (Qhx ?_ ?_) λA B=>(Wn (Wz (Qae) λD E=>(Wk ?_)) (Ih (Q:=λk=>∀h j,(tL XK) h->(tL XK) j->PT (k h j) _) (λh j G H=>(Wz (QfN) λI J=>(Wk ?_))) λK e=>(Wn (e _ _ ?_ ?_) (e _ _ ?_ ?_)))))) λL f=>(Wn (f _ _ ?_) (f _ _ ?_)))));all_goals simp_all (maxDischargeDepth:=9)
def QhH{N e f g}(h:XR e):PT (QdM N e f g) (λr=>XR r.1):=by rw[QdM];refine(Wz (Qhw ?_) λj l=>(Wn (Wk ?_) (Un (PT.get (T:=Zc) ?_ λo p=>(Wk ?_)))));all_goals simp_all (maxDischargeDepth:=9)
def QmP{N e g f}(h:Yg e)(j:XK f):PT (Qgy N e g f) Yg:=by rw[Qgy];refine(Un (PT.get (T:=XK) ?_ λl o=>(Wk ?_)));all_goals simp_all (maxDischargeDepth:=9)
def QfO{N e f g}(h:Yg e):PT (Qcw N e f g) (λr=>Yg r.1):=by rw[Qcw];refine(Wz (Qf1 ?_) λj l=>(Wn (Wk ?_) (Wz (QmP ?_ ?_) λo p=>(Wk ?_))));all_goals simp_all (maxDischargeDepth:=9)
def Qj5{N g j h}(l:Yz g)(o:tU h):PT (Qc4 N g j h) (λr=>Yz r.1/\tU r.2.1):=by rw[Qc4];refine(Wn (Wz (Qae) λp q=>(Wk ?_)) (Wz (QcJ ?_ ?_) λs t=>(Wn (Wz (Qae) λu w=>(Wk ?_)) (W9 λx=>(Ih (Q:=λk=>∀_,PT (k ()) _) (λ_=>(Wn (Wz (QhH ?_) λy z=>(Wk ?_)) (Wn (Wz (QfO ?_) λA B=>(Wk ?_)) (Wz (QfO ?_) λD E=>(Wk ?_))))) λG e=>(Ih (Q:=λk=>∀_,PT (k ()) _) (λ_=>(Wz (Qae) λH I=>(Wk ?_))) λJ f=>(Wn (Wn (f ()) (Wn (Wn (f ()) (Wn (Wn (f ()) (e ())) (e ()))) (Wn (Wn (f ()) (e ())) (e ())))) (Wn (Wn (f ()) (Wn (Wn (f ()) (e ())) (e ()))) (Wn (Wn (f ()) (e ())) (e ()))))))))));all_goals simp_all (maxDischargeDepth:=9)
def QlQ{N f g h}(j:XR f):PT (Qf8 N f g h) (λr=>XR r.1):=by rw[Qf8];refine(W9 λl=>(Wn (Wk ?_) (Wn (Wk ?_) (Wn (Wk ?_) (Ih (Q:=λk=>∀_,PT (k ()) _) (λ_=>(Wn (Wk ?_) (Un (Un (Wk ?_))))) λo e=>(Wn (Wn (Wk ?_) (e ())) (e ())))))));all_goals simp_all (maxDischargeDepth:=9)
def QhZ{N e f}(g:XR e):PT (Qd7 N e f) (λr=>XR r.1):=by rw[Qd7];refine(Wz (QlQ ?_) λh j=>(Wk ?_));all_goals simp_all (maxDischargeDepth:=9)
def QmQ{N e f}(g:XR e):PT (Qgz N e f) XR:=by rw[Qgz];refine(W9 λh=>(Un (Un (Un (Un (Wk ?_))))));all_goals simp_all (maxDischargeDepth:=9)
def Qis{N e}(f:XR e):PT (QeL N e) (λr=>XR r.1):=by rw[QeL];refine(W9 λg=>(Wn (Wk ?_) (Wn (Wk ?_) (W9 λh=>(Wn (Wk ?_) (Wz (QmQ ?_) λj l=>(Wk ?_)))))));all_goals simp_all (maxDischargeDepth:=9)
def Qj6{N e g f}(h:Yz e)(j:tU f):PT (QdN N e g f) (λr=>Yz r.1/\tU r.2.1):=by rw[QdN];refine(Wn (Wn (Wz (Qae) λl o=>(Wk ?_)) (Wz (QhZ ?_) λp q=>(Wn (Wz (Qae) λs t=>(Wk ?_)) (Wk ?_)))) (Wz (QcJ ?_ ?_) λu w=>(Wn (Wz (Qae) λx y=>(Wk ?_)) (Wz (Qis ?_) λz A=>(Wn (Wz (Qae) λB D=>(Wk ?_)) (Wz (Qgh ?_ ?_) λE G=>(Wk ?_)))))));all_goals simp_all (maxDischargeDepth:=9)
def QgW{N e f g}(h:XY e)(j:tU f):PT (QbR N e f g) XY:=by rw[QbR];refine(Un (W9 λl=>(W9 λo=>(W9 λp=>(Wk ?_)))));all_goals simp_all (maxDischargeDepth:=9)
def Qjd{N e f g}(h:XY e)(j:(tL ZO) f)(l:tU g):PT (Qdf N e f g) (λr=>XY r.1/\(tL ZO) r.2.1):=by rw[Qdf];refine(W9 λo=>(Wn (Wk ?_) (Wn (Wk ?_) (W9 λp=>(Wn (Wk ?_) (Un (PT.get (T:=ZO) ?_ λq s=>(PT.get (T:=ZO) ?_ λt u=>(PT.get (T:=ZO) ?_ λw x=>(Wn (Un (Un (Un (Wz (QgW ?_ ?_) λy z=>(Wk ?_))))) (Wz (QgW ?_ ?_) λA B=>(Wk ?_))))))))))));all_goals simp_all (maxDischargeDepth:=9)
def QmR{N h j l}(o:XY h)(p:(tL ZO) j)(q:tU l):PT (Qfh N h j l) (λr=>XY r.1/\(tL ZO) r.2.1/\tU r.2.2.1):=by rw[Qfh];refine(W9 λu=>(Wn (Wk ?_) (Wn (Wk ?_) (W9 λw=>(Wn (Wk ?_) (W9 λx=>(Ih (Q:=λk=>∀_,PT (k ()) _) (λ_=>(Un (Ih (Q:=λk=>∀f,(tL ZO) f->PT (k f) _) (λf y=>(Wz (QgW ?_ ?_) λs z=>(Wk ?_))) λA g=>(Wn (PT.get (T:=ZO) ?_ λB D=>(PT.get (T:=ZO) ?_ λt E=>(g _ ?_))) (Un (g _ ?_)))))) λG e=>(Wn (PT.get (T:=ZO) ?_ λH I=>(Wn (Wk ?_) (Wn (Wn (Wk ?_) (W9 λJ=>(Wn (Wk ?_) (e ())))) (W9 λK=>(Wn (Wk ?_) (e ())))))) (Wn (Wn (Wk ?_) (W9 λL=>(Wn (Wk ?_) (e ())))) (W9 λM=>(Wn (Wk ?_) (e ()))))))))))));all_goals simp_all (maxDischargeDepth:=9)
def QlR{N e g f}(h:Yz e)(j:tU f):PT (QeM N e g f) (λr=>Yz r.1/\tU r.2.1):=by rw[QeM];refine(Wz (Qgi ?_ ?_) λl o=>(Wn (Wz (Qae) λp q=>(Wk ?_)) (Wn (Wz (Qjd ?_ ?_ ?_) λs t=>(Wn (Wz (Qae) λu w=>(Wk ?_)) (Wk ?_))) (Wz (QmR ?_ ?_ ?_) λx y=>(Wn (Wz (Qae) λz A=>(Wk ?_)) (Wk ?_))))));all_goals simp_all (maxDischargeDepth:=9)
def QlS{N H U I J K}(V:Yz H)(W:tU I)(Y:tU J)(Z:tU K):PT (Qad N H U I J K) (λr=>Yz r.1/\tU r.2.1):=by rw[Qad];refine(W9 λy1=>(Wn (Wz (Qae) λy2 h1=>(Wk ?_)) (Ih (Q:=λk=>∀L,PT (k L) _) (λL=>(Wn (Wz (Qj3 ?_ ?_ ?_) λy5 h2=>(Wk ?_)) (Ih (Q:=λk=>∀M,PT (k M) _) (λM=>(Wn (Wz (Qk5 ?_ ?_ ?_ ?_) λy9 h3=>(Wk ?_)) (Ih (Q:=λk=>∀j,PT (k j) _) (λj=>(Wn (Wz (Qk6 ?_ ?_ ?_) λy13 h4=>(Wk ?_)) (Ih (Q:=λk=>∀l,PT (k l) _) (λl=>(Wn (Wz (Qjc ?_ ?_) λy15 h5=>(Wk ?_)) (Ih (Q:=λk=>∀o,PT (k o) _) (λo=>(Wn (Wz (Qj5 ?_ ?_) λy18 h6=>(Wk ?_)) (Ih (Q:=λk=>∀p,PT (k p) _) (λp=>(Wn (Wz (Qj6 ?_ ?_) λy20 h7=>(Wk ?_)) (Ih (Q:=λk=>∀q,PT (k q) _) (λq=>(Wn (Wz (QlR ?_ ?_) λy22 h8=>(Wk ?_)) (Wz (Qae) λy23 h9=>(Wk ?_)))) λj13 e=>(Wn (e _) (e _))))) λj12 f=>(Wn (f _) (f _))))) λj11 g=>(Wn (g _) (Ih (Q:=λk=>∀s,PT (k s) _) (λs=>(g _)) λj10 h=>(Wn (h _) (h _))))))) λj9 t=>(Wn (t _) (t _))))) λj8 u=>(Wn (u _) (Ih (Q:=λk=>∀w,PT (k w) _) (λw=>(u _)) λj7 x=>(Wn (x _) (Ih (Q:=λk=>∀y,PT (k y) _) (λy=>(x _)) λj6 z=>(Wn (z _) (z _))))))))) λj5 A=>(Wn (A _) (Ih (Q:=λk=>∀O,PT (k O) _) (λO=>(A _)) λj4 B=>(Wn (B _) (Ih (Q:=λk=>∀R,PT (k R) _) (λR=>(B _)) λj3 D=>(Wn (D _) (D _))))))))) λj2 E=>(Wn (E _) (Ih (Q:=λk=>∀S,PT (k S) _) (λS=>(E _)) λj1 G=>(Wn (G _) (G _)))))));all_goals simp_all (maxDischargeDepth:=9)
def Qje{N g h p j q}(r:Yz g)(s:Yz h)(t:tU j):PT (Qdg N g h p j q) Xig:=by rw[Qdg];refine(Ih (Q:=λk=>∀l,PT (k l) _) (λl=>(Ih (Q:=λk=>∀o,PT (k o) _) (λo=>(Wn (Wn (Wk ?_) (Wk ?_)) (Wk ?_))) λu f=>(Wn (f _) (f _)))) λw e=>(Wn (e _) (Wn (e _) (e _))));all_goals simp_all (maxDischargeDepth:=9)
def Qfo{N e f}(g:XE e)(h:tU f):PT (Qaz N e f) (λr=>tU r.1):=by rw[Qaz];refine(W9 λj=>(Wn (Wk ?_) (Wn (Wk ?_) (W9 λl=>(Wn (Wk ?_) (Wn (Wz (Qhw ?_) λo p=>(Wk ?_)) (Wn (Wz (Qf1 ?_) λq s=>(Wk ?_)) (Wz (Qf1 ?_) λt u=>(Wk ?_)))))))));all_goals simp_all (maxDischargeDepth:=9)
def Qgj{N e f}(g:XE e)(h:tU f):PT (QbF N e f) (λr=>XE r.1/\tU r.2):=by rw[QbF];refine(Wn (Wk ?_) (Wz (Qhv ?_ ?_) λj l=>(Wz (QfN) λo p=>(Wk ?_))));all_goals simp_all (maxDischargeDepth:=9)
def Qit{N e f h g}(j:XE e)(l:tU f)(o:tU g):PT (Qei N e f h g) XE:=by rw[Qei];refine(Un (PT.get (T:=ZU) ?_ λp q=>(Un (PT.get (T:=tU) ?_ λr s=>(PT.get (T:=ZU) ?_ λt u=>(Wk ?_))))));all_goals simp_all (maxDischargeDepth:=9)
def Qjf{N h q j}(s:XE h)(t:tU j):PT (Qdh N h q j) (λr=>XE r.1/\tU r.2):=by rw[Qdh];refine(Ih (Q:=λk=>∀f g l o p,(tL XK) f->(tL XK) g->PT (k f g l o p) _) (λf g l o p u w=>(Wz (QfN) λx y=>(Wk ?_))) λz e=>(Wn (Wz (Qhx ?_ ?_) λA B=>(e _ _ _ _ _ ?_ ?_)) (Wz (Qhx ?_ ?_) λD E=>(e _ _ _ _ _ ?_ ?_))));all_goals simp_all (maxDischargeDepth:=9)
def Qj7{N e f}(g:XE e)(h:tU f):PT (Qc5 N e f) XE:=by rw[Qc5];refine(W9 λj=>(Wn (Wz (QhH ?_) λl o=>(Wk ?_)) (Wn (Wz (QfO ?_) λp q=>(Wk ?_)) (Wz (QfO ?_) λr s=>(Wk ?_)))));all_goals simp_all (maxDischargeDepth:=9)
def QlT{N e h f g}(j:XE e)(l:tU f)(o:tU g):PT (Qd8 N e h f g) (λr=>XE r.1/\tU r.2):=by rw[Qd8];refine(W9 λp=>(Un (Wn (PT.get (T:=KE) ?_ λq s=>(PT.get (T:=KE) ?_ λt u=>(PT.get (T:=KE) ?_ λw x=>(Wn (Un (Un (Un (Wk ?_)))) (Wk ?_))))) (Wn (PT.get (T:=KE) ?_ λy z=>(PT.get (T:=KE) ?_ λA B=>(PT.get (T:=KE) ?_ λD E=>(Wk ?_)))) (Un (Wk ?_))))));all_goals simp_all (maxDischargeDepth:=9)
def QlU{N E R G H I J}(S:XE E)(U:tU G)(V:tU H)(W:tU I)(Y:Xig J):PT (Qar N E R G H I J) (λr=>XE r.1/\tU r.2.1):=by rw[Qar];refine(W9 λy1=>(Wn (Wk ?_) (Ih (Q:=λk=>∀B,tU B->PT (k B) _) (λB h1=>(Ih (Q:=λk=>∀K,PT (k K) _) (λK=>(Wn (Ih (Q:=λk=>∀L M D e o p f g h j,(tL ZU) D->(tL Zc) e->(tL XK) f->(tL XK) g->(tL KE) h->(tL tU) j->PT (k L M D e o p f g h j) _) (λL M D e o p f g h j h2 h3 h4 h5 h6 h7=>(Wz (QhN ?_ ?_) λZ h8=>(Un (Un (Un (Un (Wz (Qgj ?_ ?_) λy18 h9=>(Wk ?_)))))))) λj4 q=>(Wn (Wz (Qhu ?_) λy6 h10=>(q _ _ _ _ _ _ _ _ _ _ ?_ ?_ ?_ ?_ ?_ ?_)) (q _ _ _ _ _ _ _ _ _ _ ?_ ?_ ?_ ?_ ?_ ?_))) (Wn (PT.get (T:=ZU) ?_ λp19 h11=>(Wk ?_)) (Wn (PT.get (T:=ZU) ?_ λp20 h12=>(Wk ?_)) (Wn (PT.get (T:=ZU) ?_ λp21 h13=>(PT.get (T:=tU) ?_ λp22 h14=>(Wk ?_))) (Wn (Wz (Qit ?_ ?_ ?_) λy23 h15=>(Wk ?_)) (Wn (PT.get (T:=ZU) ?_ λp24 h16=>(PT.get (T:=tU) ?_ λp25 h17=>(Wz (Qgj ?_ ?_) λy26 h18=>(Wk ?_)))) (Wn (Wz (Qfo ?_ ?_) λy27 h19=>(Wz (Qit ?_ ?_ ?_) λy28 h20=>(Wk ?_))) (Wn (Wz (Qfo ?_ ?_) λy29 h21=>(Wn (Wk ?_) (Wk ?_))) (Wn (Wz (Qgj ?_ ?_) λy30 h22=>(Wk ?_)) (Ih (Q:=λk=>∀s,PT (k s) _) (λs=>(Wn (Wz (Qjf ?_ ?_) λy32 h23=>(Wk ?_)) (Ih (Q:=λk=>∀t,PT (k t) _) (λt=>(Wn (Wz (Qj7 ?_ ?_) λy35 h24=>(Wk ?_)) (Wn (Wz (QhZ ?_) λy36 h25=>(Wk ?_)) (Wn (Wz (Qis ?_) λy37 h26=>(Wz (Qgj ?_ ?_) λy38 h27=>(Wk ?_))) (Wz (QlT ?_ ?_ ?_) λy39 h28=>(Wk ?_)))))) λj7 u=>(Wn (u _) (Ih (Q:=λk=>∀w,PT (k w) _) (λw=>(u _)) λj6 x=>(Wn (x _) (x _))))))) λj5 y=>(Wn (y _) (y _))))))))))))) λj3 z=>(Wn (z _) (Ih (Q:=λk=>∀O,PT (k O) _) (λO=>(z _)) λj2 A=>(Wn (A _) (A _)))))) λj1 l=>(Wn (Wn (Wz (Qfo ?_ ?_) λy2 h29=>(l _ ?_)) (l _ ?_)) (l _ ?_)))));all_goals simp_all (maxDischargeDepth:=9)
def Qj8{N U V}(ka0:Xa4 U)(ka1:Xdt V):PT (QbN N U V) (λr=>Xa4 r.1/\tU r.2.1):=by rw[QbN];refine(Wn (Wz (Qht ?_) λy1 h1=>(Ih (Q:=λk=>∀W Y R Z x7 x8 S A B e f g h D E j l G H o p q s,(tL tU) R->(tL Zc) S->(tL XK) e->(tL XK) f->(tL ZO) g->(tL tU) h->(tL ZU) j->(tL Zc) l->(tL XK) o->(tL XK) p->(tL KE) q->(tL tU) s->PT (k W Y R Z x7 x8 S A B e f g h D E j l G H o p q s) _) (λW Y R Z x7 x8 S A B e f g h D E j l G H o p q s h2 h3 h4 h5 h6 h7 h8 h9 h10 h11 h12 h13=>(Wk ?_)) λj1 I=>(Wn (Wz (Qhu ?_) λy2 h14=>(I _ _ _ _ _ _ _ _ _ _ _ _ _ _ _ _ _ _ _ _ _ _ _ ?_ ?_ ?_ ?_ ?_ ?_ ?_ ?_ ?_ ?_ ?_ ?_)) (I _ _ _ _ _ _ _ _ _ _ _ _ _ _ _ _ _ _ _ _ _ _ _ ?_ ?_ ?_ ?_ ?_ ?_ ?_ ?_ ?_ ?_ ?_ ?_)))) (Wz (QlS ?_ ?_ ?_ ?_) λy26 h15=>(Wz (Qje ?_ ?_ ?_) λy27 h16=>(Wz (QlU ?_ ?_ ?_ ?_ ?_) λy28 h17=>(Ih (Q:=λk=>∀J K t u L M w x y z,(tL ZU) t->(tL Zc) u->(tL XK) w->(tL XK) x->(tL KE) y->(tL tU) z->PT (k J K t u L M w x y z) _) (λJ K t u L M w x y z h18 h19 h20 h21 h22 h23=>(Wn (Wn (Un (Un (Wk ?_))) (Wk ?_)) (Wk ?_))) λj2 O=>(Wn (O _ _ _ _ _ _ _ _ _ _ ?_ ?_ ?_ ?_ ?_ ?_) (O _ _ _ _ _ _ _ _ _ _ ?_ ?_ ?_ ?_ ?_ ?_)))))));all_goals simp_all (maxDischargeDepth:=9)
def Qe3{N g l}(o:Xa4 g):PT (QbS N g l) (λr=>tU r.1):=by rw[QbS];refine(W9 λt=>(Wn (W9 λu=>(PT.get (T:=tU) ?_ λw x=>(Wk ?_))) (Wn (W9 λy=>(PT.get (T:=tU) ?_ λz A=>(W9 λB=>(Wk ?_)))) (Ih (Q:=λk=>∀h,PT (k h) _) (λh=>(Wn (W9 λD=>(PT.get (T:=tU) ?_ λp E=>(Wk ?_))) (W9 λq=>(PT.get (T:=tU) ?_ λs G=>(Wk ?_))))) λH e=>(Wn (e _) (Ih (Q:=λk=>∀j,PT (k j) _) (λj=>(e _)) λI f=>(Wn (f _) (f _))))))));all_goals simp_all (maxDischargeDepth:=9)
def QiK{N l p}(q:Xa4 l):PT (Qdt N l p) (λr=>Xdt r.1):=by rw[Qdt];refine(W9 λA=>(W9 λB=>(Wn (W9 λD=>(Un (W9 λE=>(Wk ?_)))) (Ih (Q:=λk=>∀o,PT (k o) _) (λo=>(Wn (W9 λG=>(W9 λH=>(Wn (W9 λI=>(Wk ?_)) (Wk ?_)))) (Wn (W9 λJ=>(Wk ?_)) (Wz (Qe3 ?_) λs K=>(W9 λt=>(W9 λu=>(Ih (Q:=λk=>∀g h e,tU e->PT (k g h e) _) (λg h e L=>(Wn (Wz (Qe3 ?_) λw M=>(Wk ?_)) (Wk ?_))) λO f=>(Wn (Wz (Qe3 ?_) λx R=>(f _ _ _ ?_)) (W9 λy=>(Wn (Wz (Qe3 ?_) λz S=>(f _ _ _ ?_)) (f _ _ _ ?_))))))))))) λU j=>(Wn (j _) (j _))))));all_goals simp_all (maxDischargeDepth:=9)
def BIG:Nat:=1099511627776
def XfH{ws:List Int}(e:ws.length<=BIG)(N:Nat)(a k:Int)(h:-1<=k/\k<=1000000000000000000):QdA N ws a k =
 some (if 4096<=a/\a<=4096+ws.length then(a-4096,decide (a+k<=4096+ws.length))else(0,false)):=by
 unfold BIG at e;simp only[QdA,US];rw[Xz (n:=(ws.length:Int)) aa aa,Xz (n:=4096+(ws.length:Int)) aa aa];by_cases f:a<4096
 .grind
 rw[Wg f];by_cases g:a>4096+ws.length
 .grind
 rw[Wg g,Wj aa,Xz (n:=a-4096) aa aa,Xf (n:=a-4096) aa aa,Xf aa aa];grind
def inW(ws:List Int)(a:Int):Prop:=4096<=a/\a<4096+ws.length
instance(ws:List Int)(a:Int):Decidable (inW ws a):=by unfold inW;infer_instance
def ix(a:Int):Nat:=(a-4096).toNat
def YX{ws:List Int}(g:ws.length<=BIG)(N:Nat)(a:Int):Qbn N ws a=some (if inW ws a then(ws.getD (ix a) 0,0)else(0,2)):=by
 simp only[Qbn,Qfz,XfH g N a 1 aa,Xa];by_cases h:4096<=a/\a<=4096+ws.length
 .simp only[Wj h];by_cases e:inW ws a
  .have f:a+1<=4096+ws.length:=by unfold inW at e;omega
   simp only[Wj e,f,decide_true,Wl,Wa,Xa];have j:(a-4096).toNat<ws.length:=by unfold inW at e;omega
   rw[show((0:Int) != 0)=false from rfl,Wa,X7 aa aa,Xa];simp[ix,List.getD,j]
  have f:¬a+1<=4096+ws.length:=by unfold inW at e;omega
  simp[Wg,e,f,decide_false,WY,Wc,Xa]
 have e:¬inW ws a:=by unfold inW;omega
 simp[Wg,h,e,WY,Wc,Xa]
def ovr(ws l:List Int)(i:Nat):List Int:=ws.take i++l++ws.drop (i+l.length)
def Kf{ws l:List Int}{i:Nat}(h:i+l.length<=ws.length):(ovr ws l i).length=ws.length:=by grind[ovr]
def XfI{ws l:List Int}{i:Nat}(h:i+l.length<=ws.length)(j:Nat):(ovr ws l i)[j]? = if i<=j/\j<i+l.length then l[j-i]? else ws[j]?:=by
 unfold ovr;have e:(ws.take i).length=i:=by simp only[Wx];omega
 grind
def Xbt{ws l:List Int}{i:Nat}(h:i+l.length<=ws.length)(j:Nat):(ovr ws l i).getD j 0=if i<=j/\j<i+l.length then l.getD (j-i) 0 else ws.getD j 0:=by simp only[We,XfI h];grind
def XgO{l:List Int}(y:Int×Bool)(i N:Nat)(ws:List Int)(o:y.1=i)(h:i+l.length<=ws.length)(r:ws.length<=BIG):∀(n k:Nat) (v:List Int),k<=l.length->l.length-k<n->v=ovr ws (l.take k) i ->
 QbP N l y n (k:Int) v=some (ovr ws l i)
 |0,k,v,_,s,_=>by omega
 |n+1,k,v,z,s,p=>by
  unfold BIG at r;rw[QbP];have g:(l.take k).length=k:=by simp;omega
  have t:v.length=ws.length:=by rw[p];exact Kf aa
  by_cases u:k<l.length
  .have w:decide ((k:Int)<(l.length:Int))=true:=by simp;omega
   have x:wI (y.1+(k:Int))=((i+k:Nat):Int):=by rw[o,Xf aa aa];simp
   have e3:wI ((k:Int)+1)=((k+1:Nat):Int):=by rw[Xf aa aa];simp
   rw[w,Wc,X7 aa aa,Xa,x,X7 aa aa,Xa,e3];refine XgO y i N ws o h (by unfold BIG;omega) n (k+1) _ aa aa ?_;rw[p];simp only[IS];apply Om;intro j;have e:(l.take (k+1)).length=k+1:=by simp only[Wx];omega
   rw[UJ,Kf aa,XfI aa,XfI aa,g,e];by_cases q:i+k=j
   .subst q;rw[Wj rfl,Wj aa,Wj aa,Ua,Wj aa,Nat.add_sub_cancel_left,Wb u]
   rw[Wg q];by_cases f:i<=j/\j<i+k
   .rw[Wj f,Wj aa,Ua,Ua,Wj aa,Wj aa]
   rw[Wg f,Wg aa]
  grind
def YZ(ws:List Int)(a:Int)(k:Nat):Prop:=4096<=a/\a+k<=4096+ws.length
instance(ws:List Int)(a:Int)(k:Nat):Decidable (YZ ws a k):=by unfold YZ;infer_instance
def Va{ws l:List Int}(e:ws.length<=BIG)(j:l.length<=BIG){N:Nat}(hN:l.length<N)(a:Int):QcQ N ws a l=some (if YZ ws a l.length then(ovr ws l (ix a),0)else([],2)):=by
 simp only[QcQ];rw[XfH e N a _ (by unfold BIG at j;omega),Xa];by_cases h:YZ ws a l.length
 .have f:4096<=a/\a<=4096+ws.length:=by unfold YZ at h;omega
  have g:a+(l.length:Int)<=4096+ws.length:=by unfold YZ at h;omega
  simp only[Wj h,Wj f,g,decide_true,Wl,Wa];rw[Xe (by unfold BIG at e;omega)];have:=XgO (l:=l) (a-4096,true) (ix a) N ws (by unfold ix;omega) (by unfold ix;omega) e N 0 ws aa aa (by simp[ovr]);rw[show((0:Nat):Int)=0 from rfl]at this;rw[this,Xa]
 by_cases f:4096<=a/\a<=4096+ws.length
 .have g:¬a+(l.length:Int)<=4096+ws.length:=by unfold YZ at h;omega
  simp only[Wg h,Wj f,g,decide_false,WY,Wc]
 grind
def Vb{ws:List Int}(g:ws.length<=BIG){N:Nat}(hN:1<N)(a v:Int):QdB N ws a v=some (if inW ws a then(ws.set (ix a) v,0)else([],2)):=by
 simp only[QdB];rw[Va (l:=[v]) g (by unfold BIG;simp) aa,Xa];by_cases h:inW ws a
 .have f:YZ ws a [v].length:=by unfold inW at h;unfold YZ;simp only[Uq,Ib];omega
  simp only[Wj h,Wj f];unfold ovr;have e:ix a<ws.length:=by unfold inW at h;unfold ix;omega
  simp[Ic,e]
 have f:¬YZ ws a [v].length:=by unfold inW at h;unfold YZ;simp only[Uq,Ib];omega
 simp_all
def XcK{ws:List Int}(g:ws.length<=BIG)(N:Nat)(a:Int)(k:Nat)(o:k<=1000000000):QcY N ws a (k:Int)=some (if YZ ws a k then((ws.drop (ix a)).take k,0)else([],2)):=by
 simp only[QcY];have j:decide ((k:Int)<0)=false:=Wh aa;rw[j,Wa,XfH g N a _ aa,Xa];unfold BIG at g;by_cases h:YZ ws a k
 .have e:4096<=a/\a<=4096+ws.length:=by unfold YZ at h;omega
  have f:a+(k:Int)<=4096+ws.length:=by unfold YZ at h;omega
  simp only[Wj h,Wj e,f,decide_true,Wl,Wa];rw[Xf (n:=a-4096+(k:Int)) aa aa,Xe aa,Xe aa];have l:(a-4096+(k:Int)).toNat-(a-4096).toNat=k:=aa;rw[l];rfl
 by_cases e:4096<=a/\a<=4096+ws.length
 .have f:¬a+(k:Int)<=4096+ws.length:=by unfold YZ at h;omega
  simp only[Wg h,Wj e,f,decide_false,WY,Wc]
 grind
def Xjd{ws:List Int}(j:ws.length<=BIG){N:Nat}(f a:Int)(k:Nat)(l:k<=1000000000)(hN:k<N):Qfk N ws f a (k:Int) =
 some (if YZ ws a k/\YZ ws f k then(ovr ws ((ws.drop (ix a)).take k) (ix f),0)else([],2)):=by
 simp only[Qfk];rw[XcK j N a k l,Xa];by_cases h:YZ ws a k
 .have e:((ws.drop (ix a)).take k).length=k:=by unfold YZ at h;simp[ix];omega
  simp only[Wj h];rw[show((0:Int) != 0)=false from rfl,Wa,Va j (by unfold BIG;omega) (by rw[e];exact hN),Xa,e];by_cases g:YZ ws f k
  .rw[Wj g,Wj ⟨h,g⟩]
  rw[Wg g,Wg (λo=>g o.2)]
 simp_all
def XM(d:WH):Bool:=decide (0<=d.k/\d.k<=3/\0<=d.n/\d.n<=255)&&(if d.k=1 then decide (d.n<=32)&&decide (d.Map % 18446744073709551616<2 ^ d.n.toNat)else decide (d.Map=0))
def ZV(N:Nat)(d:WH):QcP N d=some (XM d):=by
 simp only[QcP,US,XM];by_cases f:d.k<0
 .rw[Wj f,Wh aa,Uh]
 rw[Wg f];by_cases g:d.k>3
 .rw[Wj g,Wh aa,Uh]
 rw[Wg g];by_cases h:d.n<0
 .rw[Wj h,Wh aa,Uh]
 rw[Wg h];by_cases j:d.n>255
 .rw[Wj j,Wh aa,Uh]
 rw[Wg j,Wi (p:=0<=d.k/\d.k<=3/\0<=d.n/\d.n<=255) aa,WI];by_cases l:d.k=1
 .rw[Wj l,l,show((1:Int) != 1)=false from rfl,Wa];by_cases e:d.n<=32
  .rw[Wj e,Xz (n:=d.n) aa aa,Xe aa,Xmt aa aa,Xdr,Wi e,WI]
  rw[Wg e,Wh e,Uh]
 grind
def XO{d:WH}(h:XM d=true):0<=d.k/\d.k<=3/\0<=d.n/\d.n<=255:=by unfold XM at h;simp_all
def Xy(d:WH):Int:=if XM d then d.n+1 else 0
def Yr(N:Nat)(d:WH):QcA N d=some (Xy d):=by
 simp only[QcA,ZV,Xa,Xy];cases h:XM d with
 |false=>rfl
 |true=>have:=XO h;simp[Xf (n:=d.n+1) aa aa]
def Xmw(d:WH):0<=Xy d/\Xy d<=256:=by
 unfold Xy;split
 .rename_i h;have:=XO h;omega
 omega
def Kz(d:WH):Int:=wU (wU (wU (1+wU (4*wU d.k))+wU (16*wU d.n))+JT .u64 (wU d.Map) 16)
def Xbu(N:Nat)(d:WH):QcX N d=some (if XM d then(Kz d,0)else(0,1)):=by simp only[QcX,ZV,Xa];cases h:XM d<;>rfl
def Xb3(w:Int):WH:=⟨wI (ZI .u64 (Y5 .u64 w 2) 3),wI (ZI .u64 (Y5 .u64 w 4) 4095),wW (Y5 .u64 w 16)⟩
def okH(w:Int):Bool:=XM (Xb3 w)&&(Kz (Xb3 w)==w)
def Z0(w:Int):WH:=if okH w then Xb3 w else⟨0,0,0⟩
def K9(N:Nat)(w:Int):Qcr N w=some (Z0 w,okH w):=by simp only[Qcr];rw[Xbu N (WH.mk _ _ _),Xa];unfold Z0 okH Xb3;grind
def Jy(w:Int):XM (Z0 w)=true:=by
 unfold Z0;split
 .rename_i h;unfold okH at h;simp_all
 rfl
def XeK(w:Int):Xy (Z0 w)=(Z0 w).n+1/\1<=Xy (Z0 w)/\Xy (Z0 w)<=256:=by have h:=Jy w;have:=XO h;unfold Xy;grind
def ZP(d:WH)(i:Int):Bool:=XM d&&(decide (0<=i/\i<d.n)&&(decide (d.k=2)||(decide (d.k=1)&&(ZI .u32 (Y5 .u32 d.Map (wU i)) 1==1))))
def JI(N:Nat)(d:WH)(i:Int):QbK N d i=some (ZP d i):=by
 simp only[QbK,ZV,Xa,ZP,US];cases h:XM d with
 |false=>rfl
 |true=>
  simp only[Wl,Wa,WI];by_cases e:i<0
  .rw[Wj e,Wh aa,Uh]
  rw[Wg e];by_cases f:i>=d.n
  .rw[Wj f,Wh aa,Uh]
  rw[Wg f,Wi (p:=0<=i/\i<d.n) aa,WI,Xe (J9 i).1];grind
def Yd(d:WH):Nat->Int->List Int
 |0,_=>[]
 |k+1,i=>(if ZP d i then[i]else[])++Yd d k (i+1)
def XN(d:WH):List Int:=if XM d then Yd d d.n.toNat 0 else[]
def Ja{d:WH}:∀{k:Nat} {i x:Int},x∈Yd d k i->i<=x/\x<i+k/\ZP d x=true
 |0,i,x,h=>by simp_all[Yd]
 |k+1,i,x,h=>by
  simp only[Yd,Ws]at h;rcases h with h|h
  .grind
  have:=Ja h;grind
def Vv{d:WH}:∀{k:Nat} {i:Int},(Yd d k i).length<=k
 |0,i=>by simp[Yd]
 |k+1,i=>by have:=Vv (d:=d) (k:=k) (i:=i+1);grind[Yd,Wu]
def V5(N:Nat)(d:WH)(f:XM d=true):∀(n:Nat) (i:Int) (v:List Int),0<=i->i<=d.n->(d.n-i).toNat<n->v.length<=1000-(d.n-i).toNat->v.length+(d.n-i).toNat<=1000 ->
 Qb1 N d n i v=some (v++Yd d (d.n-i).toNat i)
 |0,i,v,_,_,h,_,_=>by omega
 |n+1,i,v,j,l,o,p,q=>by
  have hb:=XO f;rw[Qb1];by_cases h:i<d.n
  .obtain⟨k,g⟩:∃k,(d.n-i).toNat=k+1:=⟨(d.n-i).toNat-1,aa⟩
   have e:(d.n-(i+1)).toNat=k:=aa;rw[Wi h,Wc,ZV,Xa,f,Wc,JI,Xa,g,Xf (n:=i+1) aa aa];simp only[Yd];cases hp:ZP d i with
   |true=>rw[Wc,Xe aa,V5 N d f n (i+1) _ aa aa aa (by grind) (by grind),e];simp
   |false=>rw[Wa,V5 N d f n (i+1) _ aa aa aa aa aa,e];simp
  rw[Wh h,Wa,show(d.n-i).toNat=0 by omega];simp[Yd]
def XgP{N:Nat}(hN:300<N)(d:WH):Qe6 N d=some (XN d):=by
 simp only[Qe6,XN];cases e:XM d with
 |true=>have hb:=XO e;rw[V5 N d e N 0 [] aa aa aa ab (by grind),Xa];simp
 |false=>
  obtain⟨n,rfl⟩:∃n,N=n+1:=⟨N-1,aa⟩
  simp[Qb1,ZV,Xa,e,Wa]
def XeL(w:Int):Bool:=decide (w.tmod 4=2)&&decide (Y5 .u64 w 2<4294967296)
def Xau(N:Nat)(w:Int):QdJ N w=some (if XeL w then(Y5 .u64 w 2,true)else(0,false)):=by simp only[QdJ,XeL,US];grind
def Xdu(N:Nat)(a:Int):QdW N a=some (if a>=4294967296 then(0,1)else(wU (wU (4*a)+2),0)):=by simp only[QdW,US];grind
def X5(c:Uj):Bool:=decide (16<=c.W/\c.W<=64/\c.W % 4=0/\8<=c.p/\c.p<=64)
def Xi{c:Uj}:X5 c=true↔16<=c.W/\c.W<=64/\c.W % 4=0/\8<=c.p/\c.p<=64:=by simp[X5]
def YQ(N:Nat)(c:Uj):QaA N c=some (X5 c):=by simp only[QaA,US,X5];grind
def VO(c:Uj):Int:=if X5 c then c.p / 4 else 0
def XfJ(N:Nat)(c:Uj):QfC N c=some (VO c):=by
 simp only[QfC,YQ,Xa,VO];cases h:X5 c with
 |false=>rfl
 |true=>have:=Xi.1 h;simp;rw[U3 aa,Xf aa aa]
def smC(c:Uj):Int:=if X5 c then c.W / 4 else 0
def XgQ(N:Nat)(c:Uj):Qb3 N c=some (smC c):=by
 simp only[Qb3,YQ,Xa,smC];cases h:X5 c with
 |false=>rfl
 |true=>have:=Xi.1 h;simp;rw[U3 aa,Xf aa aa]
def XI(c:Uj)(w:Int):Int:=
 if X5 c=true/\1<=w then(if w<=c.W / 4 then 0 else if c.W>=w then 1 else if 2*c.W>=w then 2 else if 3*c.W>=w then 3 else if 4*c.W>=w then 4 else -1)else -1
def XcL(N:Nat)(c:Uj)(w:Int)(e:X5 c=true)(k:Int)(f:1<=k/\k<=4)(n:Nat):Qcz N c w (n+1) k=if k*c.W>=w then some (.ret k)else Qcz N c w n (k+1):=by
 have h:=Xi.1 e;have g:0<=k*c.W/\k*c.W<=256:=by
  constructor
  .exact Int.mul_nonneg aa aa
  have:=Int.mul_le_mul (a:=k) (b:=c.W) (c:=4) (d:=64) aa aa aa aa;omega
 rw[Qcz,Wi aa,Wc,US,Xf (n:=k*c.W) aa aa,Xf (n:=k+1) aa aa]
def Jb{N:Nat}(hN:10<=N)(c:Uj)(w:Int):QeF N c w=some (XI c w):=by
 simp only[QeF,YQ,XgQ,Xa,XI,smC];cases e:X5 c with
 |false=>simp
 |true=>
  simp only[Wl,Wa,if_true,US];by_cases g:w<1
  .rw[Wj g,Wg (show¬(True/\1<=w)fromλh=>aa)]
  rw[Wg g,Wj (show True/\1<=w from⟨trivial,aa⟩)];by_cases f:w<=c.W / 4
  .rw[Wj f,Wj f]
  rw[Wg f,Wg f];obtain⟨n,rfl⟩:∃n,N=n+5:=⟨N-5,aa⟩
  rw[XcL _ c w e 1 aa,XcL _ c w e (1+1) aa,XcL _ c w e (1+1+1) aa,XcL _ c w e (1+1+1+1) aa];rw[show Qcz (n+5) c w (n+1) (1+1+1+1+1)=some (.nxt ()) by rw[Qcz,Wh aa,Wa]];simp;by_cases j:c.W>=w
  .simp only[Wj j,Xa,Xs]
  simp only[Wg j];by_cases l:2*c.W>=w
  .simp only[Wj l,Xa,Xs]
  simp only[Wg l];by_cases o:3*c.W>=w
  .simp only[Wj o,Xa,Xs]
  simp only[Wg o];by_cases p:4*c.W>=w
  .simp only[Wj p,Xa,Xs]
  simp[Wg,p,Xa,Xo]
def JJ(c:Uj)(w:Int):-1<=XI c w/\XI c w<=4:=by unfold XI;omega
def XV{c:Uj}(e:X5 c=true){i:Int}(f:0<=i)(g:i<c.p):0<=i*c.W/\i*c.W+c.W<=c.p*c.W/\c.p*c.W<=4096:=by
 have h:=Xi.1 e;refine⟨Int.mul_nonneg f aa,?_,?_⟩
 .have:=UF (a:=i+1) (b:=c.p) (c:=c.W) aa aa;grind
 have:=Int.mul_le_mul (a:=c.p) (b:=c.W) (c:=64) (d:=64) aa aa aa aa;omega
def Xb(c:Uj)(p o:Int):Int:=4096+p*c.W+o
def KK(N:Nat)(c:Uj)(p o:Int):Qcb N c p o=some (if X5 c=false then(0,1)else if 0<=p/\p<c.p/\0<=o/\o<c.W then(Xb c p o,0)else(0,2)):=by
 simp only[Qcb,YQ,Xa,US];cases e:X5 c with
 |false=>simp
 |true=>
  rw[Wg (show¬(true=false) by simp)];by_cases f:p<0
  .grind
  rw[Wg f];by_cases g:p>=c.p
  .grind
  rw[Wg g];by_cases h:o<0
  .grind
  rw[Wg h];by_cases j:o>=c.W
  .simp_all
  rw[Wg j,Wj aa];have l:=XV e (i:=p) aa aa;rw[Xf (n:=p*c.W) aa aa,Xf (n:=4096+p*c.W) aa aa,Xf (n:=4096+p*c.W+o) aa aa,Xz aa aa];rfl
def VK(N:Nat)(c:Uj)(a:Int):QcI N c a=some (if X5 c=false then(0,0,1)else if 4096<=a/\a<4096+c.p*c.W then((a-4096) / c.W,(a-4096) % c.W,0)else(0,0,2)):=by
 simp only[QcI,YQ,Xa,US];cases e:X5 c with
 |false=>simp
 |true=>
  have h:=Xi.1 e;have l:=XV e (i:=0) aa aa;simp only[Wl,Wa];rw[Wg (show¬(true=false) by simp)];rw[Xf (n:=c.p*c.W) aa aa,Xf (n:=4096+c.p*c.W) aa aa,Xz (n:=4096+c.p*c.W) aa aa];by_cases f:a<4096
  .grind
  rw[Wg f];by_cases g:a>=4096+c.p*c.W
  .simp_all
  rw[Wg g,Wj aa,Xe aa,Xe aa];rw[Xz (n:=a-4096) aa aa,Xf (n:=a-4096) aa aa,U3 aa,Int.tmod_eq_emod_of_nonneg aa];have hd:0<=(a-4096) / c.W:=Int.ediv_nonneg aa aa;have j:(a-4096) / c.W<=a-4096:=Int.ediv_le_self _ aa;rw[Xf aa aa]
def XfK{c:Uj}(e:X5 c=true){a:Int}(f:4096<=a)(g:a<4096+c.p*c.W):
 0<=(a-4096) / c.W/\(a-4096) / c.W<c.p/\0<=(a-4096) % c.W/\(a-4096) % c.W<c.W/\a=Xb c ((a-4096) / c.W) ((a-4096) % c.W):=by have h:=Xi.1 e;refine⟨Int.ediv_nonneg aa aa,Int.ediv_lt_of_lt_mul aa aa,Int.emod_nonneg _ aa,Int.emod_lt_of_pos _ aa,?_⟩;have:=Int.mul_ediv_add_emod (a-4096) c.W;unfold Xb;grind
def Xpl{c:Uj}(h:X5 c=true){p o:Int}(f:0<=o)(g:o<c.W):(Xb c p o-4096) / c.W=p/\(Xb c p o-4096) % c.W=o:=by
 have e:Xb c p o-4096=o+c.W*p:=by unfold Xb;rw[Int.mul_comm p];omega
 rw[e,Int.add_mul_ediv_left _ _ aa,Int.add_mul_emod_self_left,Int.ediv_eq_zero_of_lt f g,Int.emod_eq_of_lt f g];omega
def Z8:WJ:=⟨0,0,0,0⟩
def pg(ps:List WJ)(i:Int):WJ:=ps.getD i.toNat Z8
def YB{ps:List WJ}{i:Int}{p:WJ}(h:Xd ps i=some p):pg ps i=p:=by have:=(XaV.1 h).2;simp[pg,this]
def XQ{ps:List WJ}{i:Int}(e:0<=i)(f:i<ps.length):Xd ps i=some (pg ps i):=by rw[X7 e f];have:i.toNat<ps.length:=aa;simp[pg,List.getD,this]
def XgR(N:Nat)(ps:List WJ)(sp:Int)(t:ps.length<=BIG):∀(n:Nat) (c i:Int),0<=i->0<=c->c<=BIG*2->i<=BIG*2->(ps.length:Int)+c-i<=BIG*2->(ps.length-i).toNat<n ->
 Ok (Qdm N ps sp n c i) λr=>c<=r/\∀m,0<=m->m<r-c->i+m<ps.length/\(pg ps (i+m)).k=3
 |0,c,i,_,_,_,_,_,h=>by omega
 |n+1,c,i,g,u,l,w,x,y=>by
  unfold BIG at *;refine Wo (λh=>?_) λh=>Wd ⟨Uo _,λm e f=>aa⟩;have e:i<ps.length:=by simpa using h
  refine Ok.get g e λp hp=>Wo (λj=>?_) λj=>Wd ⟨Uo _,λm e f=>aa⟩;refine Ok.get g e λz o=>Wo (λq=>?_) λj=>Wd ⟨Uo _,λm e f=>aa⟩;rw[Xf (n:=c+1) aa aa,Xf (n:=i+1) aa aa];refine(XgR N ps sp ag n (c+1) (i+1) aa aa (by unfold BIG;omega) (by unfold BIG;omega) (by unfold BIG;omega) aa).mono λr s=>⟨aa,λm f A=>?_⟩
  by_cases B:m=0
  .simp_all[Int.add_zero,YB,hp]
  have:=s.2 (m-1) aa aa;grind
def Xmx{N:Nat}{ps:List WJ}(sp i:Int)(f:ps.length<N)(e:ps.length<=100000000)(g:0<=i)(j:i<=100000000):Ok (QeR N ps i sp) λr=>0<=r/\∀m,1<=m->m<=r->i+m<ps.length/\(pg ps (i+m)).k=3:=by rw[QeR,Xf (n:=i+1) aa aa];refine WQ (XgR N ps sp (by unfold BIG;omega) N 0 (i+1) aa aa aa (by unfold BIG;omega) (by unfold BIG;omega) aa) λr _ h=>Wd ⟨h.1,λm l o=>?_⟩;have:=h.2 (m-1) aa aa;grind
def XcM(N:Nat)(n:Int):QgF N n=some (decide (0<=n/\n<=2147483647)):=by simp only[QgF,US];grind
structure Sb(h:Wp)(i:Int):Prop where
 kind:0<=(pg h.p i).k/\(pg h.p i).k<=3
 space:0<=(pg h.p i).s/\(pg h.p i).s<=1
 pins:0<=(pg h.p i).P/\(pg h.p i).P<=2147483647
 free:(pg h.p i).k=0->pg h.p i=Z8
 small:(pg h.p i).k=1->0<=(pg h.p i).u/\(pg h.p i).u<=h.c.W
 large:(pg h.p i).k=2->1<=XI h.c (pg h.p i).u/\∀m,1<=m->m<XI h.c (pg h.p i).u->i+m<h.p.length/\(pg h.p (i+m)).k=3
structure UP(h:Wp):Prop where
 conf:X5 h.c=true
 words:(h.w.length:Int)=h.c.p*h.c.W
 pages:(h.p.length:Int)=h.c.p
 space:0<=h.s/\h.s<=1
 bump:h.b = -1\/(0<=h.b/\h.b<h.p.length/\(pg h.p h.b).k=1)
 pgs:∀i:Int,0<=i->i<h.p.length->Sb h i
 first:(pg h.p 0).k≠3
def PL(h:Wp)(i:Int):Ex Bool Unit->Prop
 |.ret a=>a=false
 |.nxt _=>(∀j,i<=j->j<h.p.length->Sb h j)/\(i=0->(0:Int)<h.p.length->(pg h.p 0).k≠3)
def XeM{N:Nat}{h:Wp}(B:X5 h.c=true)(hN:100000<N)(J:(h.p.length:Int)=h.c.p):∀(n:Nat) (due i:Int),0<=i->0<=due->due<=4->(h.p.length-i).toNat<n->(i=0->due=0) ->
 Ok (QaB N h n due i) (PL h i)
 |0,due,i,_,_,_,K,_=>by omega
 |n+1,due,i,D,hd,g,K,L=>by
  have W:=Xi.1 B;refine Wo (λE=>?_) λE=>Wd ⟨λj M l=>?_,λO o=>?_⟩;rotate_left
  .grind
  .grind
  have x:i<h.p.length:=by simpa using E
  refine Ok.get D x λp hp=>?_;have y:=YB hp;refine Wo (λ_=>Wd rfl) λg1=>?_;refine Wo (λ_=>Wd rfl) λg2=>?_;refine Wo (λ_=>Wd rfl) λg3=>?_;rw[XcM,Xa];refine Wo (λ_=>Wd rfl) λg4=>?_;simp at g1 g2 g3 g4;have next:∀(f:Int),0<=f->f<=4->Sb h i->Ok (QaB N h n (if 0<wI (f-1)then wI (f-1)else 0) (wI (i+1))) (PL h i):=by
   intro f Q R z;rw[Xf (n:=i+1) aa aa,Xf (n:=f-1) aa aa];refine(XeM B hN J n _ (i+1) aa aa aa aa aa).mono λe G=>?_;cases e with
   |ret a=>exact G
   |nxt b=>
   have⟨k1,k2⟩:=G;refine⟨λj M l=>?_,λO o Y=>?_⟩
   .by_cases A:j=i
    .subst A;exact z
    exact k1 j aa l
   simp_all
  refine IP ?_;refine Wo (λS=>Wo (λ_=>Wd rfl) λq=>?_) λS=>IP (Wo (λq=>Wo (λ_=>Wd rfl) λH=>Wo (λ_=>Wd rfl) λw=>?_) λq=>IP (Wo (λH=>?_) λH=>Wo (λw=>Wo (λ_=>Wd rfl) λI=>Wo (λ_=>Wd rfl) λZ=>?_) λw=>Wd rfl))
  .refine next due hd g ?_
   simp at q;have r:pg h.p i=Z8:=by rw[y];cases p;simp only at q;obtain⟨rfl,rfl,rfl,rfl⟩:=q;rfl
   refine⟨by rw[r];decide,by rw[r];decide,by rw[r];decide,λ_=>r,λe=>?_,λe=>?_⟩
   .rw[r]at e;cases e
   simp_all
  .refine next due hd g ?_
   exact⟨by simp_all,by simp_all,by simp_all,λe=>by simp_all,λ_=>by simp_all,λe=>by simp_all⟩
  .rw[Jb aa,Xa];refine Wo (λ_=>Wd rfl) λw=>?_;refine WQ (Xmx (N:=N) (ps:=h.p) p.s i aa aa D aa) λt _ ht=>?_;refine Wo (λ_=>Wd rfl) λI=>?_;have hr:=JJ h.c p.u;have U:1<=XI h.c p.u:=by have:=W5 w;omega
   have V:XI h.c p.u-1<=t:=by have:=W5 I;rw[Xf aa aa]at this;omega
   refine next _ aa aa ?_
   exact⟨by simp_all,by simp_all,by simp_all,λe=>by simp_all,λe=>by simp_all,λ_=>by grind⟩
  refine next due hd g ?_
  exact⟨by simp_all,by simp_all,by simp_all,λe=>by simp_all,λe=>by simp_all,λe=>by simp_all⟩
def Y2{N:Nat}(hN:100000<N){h:Wp}(hw:h.w.length<=100000)(hp:h.p.length<=100000):Ok (Qab N h) λb=>b=true->UP h:=by
 rw[Qab,YQ,Xa];refine Wo (λ_=>Wd λe=>by cases e) λg1=>?_;have f:X5 h.c=true:=by simpa using g1
 have x:=Xi.1 f;have y:=XV f (i:=0) aa aa;refine Wo (λ_=>Wd λe=>by cases e) λg2=>?_;refine Wo (λ_=>Wd λe=>by cases e) λg3=>?_;refine Wo (λ_=>Wd λe=>by cases e) λg4=>?_;refine Wo (λ_=>Wd λe=>by cases e) λg5=>?_;have o:(h.w.length:Int)=h.c.p*h.c.W:=by
  have:(h.w.length:Int)=wI (h.c.p*h.c.W):=by simpa using g2
  rwa[Xf aa aa]at this
 have e3:(h.p.length:Int)=h.c.p:=by simpa using g3
 have e4:0<=h.s/\h.s<=1:=⟨by simpa using g4,by simpa using g5⟩
 have main:(h.b = -1\/(0<=h.b/\h.b<h.p.length/\(pg h.p h.b).k=1))->Ok (bnd (QaB N h N 0 0) λe=>exK e (λr=>some r) λq=>some true) λb=>b=true->UP h:=by
  intro hb;refine Oa (XeM (N:=N) (h:=h) f hN e3 N 0 0 aa aa aa aa aa) (λa g=>?_) λb g=>Wd λ_=>?_
  .have t:a=false:=g;subst t;exact Wd λe=>by cases e
  have⟨k1,k2⟩:=g;exact⟨f,o,e3,e4,hb,k1,k2 rfl aa⟩
 refine IP (Wo (λb1=>Wo (λ_=>Wd λe=>by cases e) λb2=>Wo (λ_=>Wd λe=>by cases e) λu=>?_) λb1=>main (.inl (by simpa using b1)));have j:0<=h.b:=by simpa using b2
 have l:h.b<h.p.length:=by simpa using u
 refine Ok.get j l λp hp=>Wo (λ_=>Wd λe=>by cases e) λz=>main (.inr ⟨j,l,?_⟩);rw[YB hp];grind
def dlt{a b:Int}(h:decide (a<b)=true):a<b:=WA h
def ZQ{ps:List WJ}{i j:Int}(p:WJ)(f:0<=i)(e:i<ps.length)(g:0<=j):pg (ps.set i.toNat p) j=if j=i then p else pg ps j:=by unfold pg;grind
def Xdv(N:Nat)(ps:List WJ)(e:ps.length<=100000000):∀(n:Nat) (c i:Int),0<=i->0<=c->c<=i->i<=ps.length->(ps.length-i).toNat<n->Ok (Qek N ps n c i) λr=>0<=r/\r<=ps.length
 |0,c,i,_,_,_,_,h=>by omega
 |n+1,c,i,f,g,j,o,q=>by
  refine Wo (λh=>?_) λh=>Wd ⟨g,aa⟩;have l:i<ps.length:=dlt h;refine Ok.get f l λp hp=>?_;rw[Xf (n:=c+1) aa aa,Xf (n:=i+1) aa aa];refine Wo (λ_=>?_) λ_=>?_
  .exact Xdv N ps e n (c+1) (i+1) aa aa aa aa aa
  exact Xdv N ps e n c (i+1) aa aa aa aa aa
def Xdw{N:Nat}{ps:List WJ}(e:ps.length<=100000000)(hN:ps.length<N):Ok (QfD N ps) λr=>0<=r/\r<=ps.length:=
 WQ (Xdv N ps e N 0 0 aa aa aa aa aa) λr _ h=>Wd h
def RunOK(ps:List WJ)(i k:Int):Prop:=0<=i/\1<=k/\i+k<=ps.length/\∀m,0<=m->m<k->(pg ps (i+m)).k=0
def XcN(N:Nat)(ps:List WJ)(s:ps.length<=100000000):∀(n:Nat) (i:Int) (rs:List OP),0<=i->i<=ps.length->(ps.length-i).toNat<n->rs.length<=i->(∀r∈rs,RunOK ps r.O r.Len) ->
 Ok (Qdc N ps n i rs) λout=>out.length<=ps.length/\∀r∈out,RunOK ps r.O r.Len
 |0,i,rs,_,_,h,_,_=>by omega
 |n+1,i,rs,x,E,G,y,g=>by
  refine Wo (λh=>?_) λh=>Wd ⟨aa,g⟩;have l:i<ps.length:=dlt h;refine Ok.get x l λp hp=>?_;have A:=YB hp;rw[Xf (n:=i+1) aa aa];refine Wo (λ_=>XcN N ps s n (i+1) rs aa aa aa aa g) λH=>?_;have new:Ok (grd ((rs.length+1)*16<=140737488355328) (Qdc N ps n (i+1) (rs++[OP.mk i 1]))) λout=>out.length<=ps.length/\∀r∈out,RunOK ps r.O r.Len:=by
   refine Uk aa (XcN N ps s n (i+1) _ aa aa aa (by simp_all) λr f=>?_);rcases Ws.1 f with f|f
   .simp_all
   have:r=OP.mk i 1:=by simpa using f
   subst this;refine⟨x,by show(1:Int)<=1;omega,by show i+1<=_;omega,λm l B=>?_⟩;grind
  refine Uk aa (IP (Wo (λj=>?_) λ_=>new));have j:0<(rs.length:Int):=WA j;rw[Xf (n:=(rs.length:Int)-1) aa aa];refine Ok.get aa aa λq o=>Ok.get aa aa λq' t=>?_;obtain rfl:q=q':=WT (o.symm.trans t);have e:=g q (YI o);have hb:=e.2.2.1;rw[Xf (n:=q.O+q.Len) (by have:=e.1;have:=e.2.1;omega) aa];refine Wo (λz=>?_) λ_=>new;have z:q.O+q.Len=i:=by simpa using z
  refine Ok.get aa aa λq2 u=>Ok.get aa aa λq3 w=>?_;obtain rfl:q=q2:=WT (o.symm.trans u);obtain rfl:q=q3:=WT (o.symm.trans w);have:=e.1;have:=e.2.1;rw[Xf (n:=q.Len+1) aa aa];refine XcN N ps s n (i+1) _ aa aa aa (by grind) λr f=>?_;rcases W7 f with f|f
  .simp_all
  subst f;refine⟨e.1,by show 1<=q.Len+1;omega,by show q.O+(q.Len+1)<=_;omega,λm l B=>?_⟩;by_cases D:m<q.Len
  .exact e.2.2.2 m l D
  grind
def Xpm{N:Nat}{ps:List WJ}(e:ps.length<=100000000)(hN:ps.length<N):Ok (Qhc N ps) λout=>out.length<=ps.length/\∀r∈out,RunOK ps r.O r.Len:=
 WQ (XcN N ps e N 0 [] aa aa aa ab ab) λr _ h=>Wd h
def RunOK.less{ps:List WJ}{i k j:Int}(h:RunOK ps i k)(e:1<=j)(f:j<=k):RunOK ps i j:=⟨h.1,e,by have:=h.2.2.1;omega,λm a b=>h.2.2.2 m a aa⟩
def XgS(N:Nat)(ps:List WJ)(k:Int)(rs:List OP)(s:rs.length<=100000000)(g:∀r∈rs,RunOK ps r.O r.Len):∀(n:Nat) (i:Int),0<=i->i<=rs.length->(rs.length-i).toNat<n ->
 Ok (Qej N k rs n i) λe=>∀a,e=.ret a->RunOK ps a k
 |0,i,_,_,h=>by omega
 |n+1,i,o,t,u=>by
  refine Wo (λh=>?_) λh=>Wd λa e=>by grind
  have q:i<rs.length:=dlt h;rw[Xf (n:=i+1) aa aa];have next:=XgS N ps k rs s g n (i+1) aa aa aa
  refine Wo (λj=>?_) λ_=>next
  refine Ok.get o q λp hp=>Wo (λf=>?_) λ_=>next
  refine Ok.get o q λp' l=>Wd λa e=>?_;obtain rfl:p=p':=WT (hp.symm.trans l);cases e;have j:1<=k:=WA j;have f:k<=p.Len:=WA f;exact(g p (YI hp)).less j f
def KR{N:Nat}{ps:List WJ}(k:Int)(e:ps.length<=100000000)(hN:ps.length<N):Ok (QcR N ps k) λi=>i = -1\/RunOK ps i k:=by refine WQ (Xpm e hN) λrs _ h=>?_;refine Oa (XgS N ps k rs aa h.2 N 0 aa aa aa) (λa q=>Wd (.inr (q a rfl))) λ_ _=>Wd (.inl rfl)
def Taken(ps out:List WJ)(i k:Int)(first rest:WJ):Prop:=out.length=ps.length/\∀j,0<=j->pg out j=if j=i then first else if i<=j/\j<i+k then rest else pg ps j
def Xje(N:Nat)(ps:List WJ)(i k:Int)(f r:WJ)(y:ps.length<=100000000)(z:0<=i)(A:i+k<=ps.length):∀(n:Nat) (m:Int) (v:List WJ),0<=m->(m<=k\/m=0)->(k-m).toNat<n->v.length=ps.length->(∀j,0<=j->pg v j=if i<=j/\j<i+m then r else pg ps j) ->
 Ok (QdV N i k f r n m v) λe=>(∀o,e=.nxt o->o.length=ps.length/\∀j,0<=j->pg o j=if i<=j/\j<i+k then r else pg ps j)/\(∀o,e=.ret o->o.2=20/\o.1=[])/\((∀j,m<=j->j<k->(pg ps (i+j)).k=0)->∀o,e≠.ret o)
 |0,m,v,_,_,h,_,_=>by omega
 |n+1,m,v,E,G,H,w,l=>by
  refine Wo (λh=>?_) λh=>Wd ⟨λo e=>?_,λo e=>(by cases e),λ_ o e=>(by cases e)⟩;rotate_left
  .cases e;have:¬m<k:=W5 h;refine⟨w,λj s=>?_⟩;rw[l j s];by_cases x:i<=j/\j<i+m
   .rw[Wj x,Wj aa]
   rw[Wg x,Wg aa]
  have B:m<k:=dlt h;rw[Xf (n:=i+m) aa aa,Xf (n:=m+1) aa aa];refine Ok.get aa aa λp hp=>?_;have t:p=pg ps (i+m):=by rw[←YB hp,l _ aa,Wg aa]
  refine Wo (λq=>Wd ⟨λo e=>(by cases e),λo e=>(by cases e;exact⟨rfl,rfl⟩),λg=>?_⟩) λq=>?_
  .have:=g m aa B;rw[←t]at this;simp[this]at q
  refine Ok.get aa aa λI D=>?_;refine(Xje N ps i k f r y z A n (m+1) _ aa aa aa (by rw[Ww];exact w) λj s=>?_).mono λe u=>⟨u.1,u.2.1,λg=>u.2.2 λj a b=>g j aa b⟩
  rw[ZQ r aa aa s,l j s];grind
def Xjf{N:Nat}{ps:List WJ}(i k:Int)(f r:WJ)(A:ps.length<=1000000)(hN:1000000<N)(x:1<=k)(y:k<=1000000):Ok (QeH N ps i k f r) λo=>(o.2=0->0<=i/\i+k<=ps.length/\Taken ps o.1 i k f r)/\(o.2≠0->o.1=[])/\(RunOK ps i k->o.2=0):=by
 refine Wo (λh=>Wd ⟨λe=>aa,λ_=>rfl,λg=>?_⟩) λt=>?_
 .have:=WA h;have:=g.1;omega
 have t:¬i<0:=W5 t;refine Wo (λh=>Wd ⟨λe=>aa,λ_=>rfl,λg=>?_⟩) λu=>?_
 .have:=WA h;have:=g.2.2.1;omega
 have u:¬i>=(ps.length:Int):=W5 u;rw[Xf (n:=(ps.length:Int)-i) aa aa];refine Wo (λh=>Wd ⟨λe=>aa,λ_=>rfl,λg=>?_⟩) λw=>?_
 .have:=WA h;have:=g.2.2.1;omega
 have w:¬k>(ps.length:Int)-i:=W5 w;refine Uk aa (Oa (Xje N ps i k f r aa aa aa N 0 ps aa aa aa rfl λj l=>(by grind)) (λa q=>?_) λo q=>?_)
 .have⟨z,s⟩:=q.2.1 a rfl;refine Wd ⟨λe=>aa,λ_=>s,λg=>?_⟩;exact absurd rfl (q.2.2 (λj a b=>g.2.2.2 j a b) a)
 have⟨z,s⟩:=q.1 o rfl;refine Ok.get aa aa λp hp=>Wd ⟨λ_=>⟨aa,aa,⟨by simp_all,λj l=>?_⟩⟩,λe=>absurd rfl e,λ_=>rfl⟩;rw[ZQ f aa aa l,s j l]
def XgT{N:Nat}{ps:List WJ}(i sp:Int)(l:ps.length<=1000000)(hN:1000000<N):Ok (QdD N ps i sp) λo=>(o.2=0->0<=i/\i+1<=ps.length/\Taken ps o.1 i 1 ⟨1,sp,0,0⟩ ⟨0,0,0,0⟩)/\(o.2≠0->o.1=[])/\(RunOK ps i 1->0<=sp->sp<=1->o.2=0):=by
 refine Wo (λh=>Wd ⟨λe=>aa,λ_=>rfl,λ_ g j=>?_⟩) λg=>?_
 .grind
 refine Wo (λh=>Wd ⟨λe=>aa,λ_=>rfl,λ_ g j=>?_⟩) λj=>?_
 .grind
 refine WQ (Xjf i 1 ⟨1,sp,0,0⟩ ⟨0,0,0,0⟩ l hN aa aa) λy _ f=>Wd ⟨f.1,f.2.1,λp _ _=>f.2.2 p⟩
def Xmy{N:Nat}{ps:List WJ}(c:Uj)(i sp w:Int)(g:ps.length<=1000000)(hN:1000000<N):Ok (QeU N c ps i sp w) λo=>(o.2=0->0<=i/\i+XI c w<=ps.length/\1<=XI c w/\Taken ps o.1 i (XI c w) ⟨2,sp,w,0⟩ ⟨3,sp,0,0⟩)/\(o.2≠0->o.1=[]):=by rw[QeU,Jb aa,Xa];refine Wo (λh=>Wd ⟨λe=>(by cases e),λ_=>rfl⟩) λf=>?_;have f:¬XI c w<1:=W5 f;refine Wo (λh=>Wd ⟨λe=>(by cases e),λ_=>rfl⟩) λl=>?_;refine Wo (λh=>Wd ⟨λe=>(by cases e),λ_=>rfl⟩) λp=>?_;have q:=JJ c w;refine WQ (Xjf i (XI c w) ⟨2,sp,w,0⟩ ⟨3,sp,0,0⟩ g hN aa aa) λy _ j=>Wd ⟨λe=>?_,j.2.1⟩;simp_all
def HB(h:Wp):Prop:=h.w.length<=100000/\h.p.length<=100000
def NB(N:Nat):Prop:=10000000<N
def zH:Wp:=⟨⟨0,0⟩,[],[],0,0⟩
def KB:HB zH:=⟨ae,ae⟩
def wd(ws:List Int)(a:Int):Int:=ws.getD (ix a) 0
def hdA(ws:List Int)(a:Int):WH:=Z0 (wd ws a)
def szA(ws:List Int)(a:Int):Int:=(hdA ws a).n+1
def XJ(ws:List Int)(a:Int):Xy (hdA ws a)=szA ws a/\1<=szA ws a/\szA ws a<=256:=by have:=XeK (wd ws a);unfold szA hdA;omega
def pgi(c:Uj)(a:Int):Int:=(a-4096) / c.W
def pgo(c:Uj)(a:Int):Int:=(a-4096) % c.W
structure I5(h:Wp)(a:Int):Prop where
 rng:4096<=a/\a<4096+h.c.p*h.c.W
 kind:(pg h.p (pgi h.c a)).k=1\/(pg h.p (pgi h.c a)).k=2
 ok:okH (wd h.w a)=true
 used:pgo h.c a<(pg h.p (pgi h.c a)).u
 small:(pg h.p (pgi h.c a)).k=1->pgo h.c a+szA h.w a<=(pg h.p (pgi h.c a)).u
 large:(pg h.p (pgi h.c a)).k=2->pgo h.c a=0/\szA h.w a=(pg h.p (pgi h.c a)).u
def Xdx{N:Nat}(hN:NB N){h:Wp}(hb:HB h)(a:Int):Ok (Qax N h a) λr=>r.2=0->UP h/\Qab N h=some true/\I5 h a/\r.1=hdA h.w a:=by
 unfold NB at hN;refine WQ (Y2 (N:=N) aa hb.1 hb.2) λb eb hp=>?_;refine Wo (λ_=>Wd λe=>by cases e) λq=>?_;have s:b=true:=by simpa using q
 subst s;have hp:=hp rfl;rw[VK,Xa,hp.conf,Wg ab];have K:=Xi.1 hp.conf;by_cases l:4096<=a/\a<4096+h.c.p*h.c.W;rotate_left
 .rw[Wg l];exact Wo (λ_=>Wd λe=>by cases e) λe=>by cases e
 rw[Wj l,show(a-4096) / h.c.W=pgi h.c a from rfl,show(a-4096) % h.c.W=pgo h.c a from rfl];have j:=XfK hp.conf l.1 l.2;have L:=hp.pages;have G:0<=pgi h.c a:=j.1;have H:pgi h.c a<h.p.length:=by have:pgi h.c a<h.c.p:=j.2.1;omega
 refine Ok.get G H λp t=>?_;have f:=YB t;have x:inW h.w a:=by unfold inW;have:=hp.words;omega
 rw[YX (by unfold BIG;have:=hb.1;omega),Xa,Wj x];show Ok (bnd (Qcr N (wd h.w a)) _) _;rw[K9,Xa];have y:=XJ h.w a;have I:pgo h.c a<h.c.W:=j.2.2.2.1;have A:0<=pgo h.c a:=j.2.2.1;have rest:okH (wd h.w a)=true->(p.k=1\/p.k=2)->pgo h.c a<p.u->Ok (α:=WH×Int) (bnd (QcA N (Z0 (wd h.w a))) λz=>
  bif (p.k==1)then(bif (decide ((wI (pgo h.c a+z))>p.u))then some ((WH.mk 0 0 0),19)
   else bif (p.k==2)then(bif (pgo h.c a != 0)then some ((WH.mk 0 0 0),19)
    else bif (z != p.u)then some ((WH.mk 0 0 0),19)
    else some (Z0 (wd h.w a),0))
   else some (Z0 (wd h.w a),0))
  else bif (p.k==2)then(bif (pgo h.c a != 0)then some ((WH.mk 0 0 0),19)
   else bif (z != p.u)then some ((WH.mk 0 0 0),19)
   else some (Z0 (wd h.w a),0))
  else some (Z0 (wd h.w a),0)) λr=>r.2=0->UP h/\Qab N h=some true/\I5 h a/\r.1=hdA h.w a:=by
  intro B D E
  rw[Yr,Xa]
  have J:Xy (Z0 (wd h.w a))=szA h.w a:=y.1
  rw[J,Xf aa aa]
  refine Wo (λk1=>?_) λk1=>?_
  .have k1:p.k=1:=by simpa using k1
   refine Wo (λ_=>Wd λe=>by cases e) λk2=>?_
   have k2:¬pgo h.c a+szA h.w a>p.u:=W5 k2
   refine Wo (λg=>by rw[k1]at g;cases g) λ_=>Wd λ_=>⟨hp,eb,⟨l,by rw[f];exact D,B,by rw[f];exact E,λ_=>by rw[f];omega,λe=>by rw[f,k1]at e;cases e⟩,rfl⟩
  .have k1:¬p.k=1:=by simpa using k1
   have k2:p.k=2:=aa
   refine Wo (λ_=>?_) λg=>by rw[k2]at g;cases g
   refine Wo (λ_=>Wd λe=>by cases e) λg=>?_
   refine Wo (λ_=>Wd λe=>by cases e) λo=>Wd λ_=>⟨hp,eb,⟨l,by rw[f];exact D,B,by rw[f];exact E,λe=>by rw[f]at e;omega,λ_=>⟨by simpa using g,by rw[f];simpa using o⟩⟩,rfl⟩
 refine IP (Wo (λk1=>Wo (λ_=>Wd λe=>by cases e) λk2=>Wo (λ_=>Wd λe=>by cases e) λg=>Wo (λ_=>Wd λe=>by cases e) λo=>?_) λk1=>Wo (λ_=>Wd λe=>by cases e) λg=>Wo (λ_=>Wd λe=>by cases e) λo=>?_)
 .exact rest (by simpa using o) (.inr (by simpa using k2)) (by have M:¬(pgo h.c a>=p.u):=W5 g;omega)
 grind
def Xdy{N:Nat}(hN:NB N){h:Wp}(hb:HB h)(a:Int):Ok (Qb0 N h a) λr=>r.2=0->UP h/\Qab N h=some true/\I5 h a/\r.1=hdA h.w a/\r.1.k≠0:=by
 have f:=hN;unfold NB at hN;refine WQ (Y2 (N:=N) aa hb.1 hb.2) λb eb hp=>?_;refine Wo (λ_=>Wd λe=>by cases e) λg=>?_;refine Wo (λ_=>Wd λe=>by cases e) λ_=>?_;refine WQ (Xdx f hb a) λy s j=>?_;refine Wo (λk1=>Wo (λ_=>Wd λe=>by cases e) λk2=>Wd λe=>?_) λk1=>Wd λe=>?_
 .have⟨l,o,p,q⟩:=j e;exact⟨l,o,p,q,by simpa using k2⟩
 simp_all
def XgU{N:Nat}(hN:NB N){h:Wp}(hb:HB h)(a i:Int):Ok (QcT N h a i) λr=>r.2=0->UP h/\I5 h a/\0<=i/\i<(hdA h.w a).n:=by
 refine WQ (Xdy hN hb a) λy l f=>?_;refine Wo (λk=>Wd λe=>absurd e (by simpa using k)) λk1=>?_;refine Wo (λ_=>Wd λe=>by cases e) λk2=>?_;refine Wo (λ_=>Wd λe=>by cases e) λo=>?_;have⟨g,p,j,q,s⟩:=f (by simpa using k1);rw[YX (by unfold BIG;have:=hb.1;omega),Xa];refine Wd λ_=>⟨g,j,?_,?_⟩
 .have:=W5 k2;omega
 simp_all
def XgV{N:Nat}(hN:NB N){h:Wp}(hb:HB h)(a i v:Int):Ok (Qci N h a i v) λr=>HB r.1:=by
 refine WQ (XgU hN hb a i) λy f g=>?_;refine Wo (λ_=>Wd KB) λk1=>?_;have e:=hN;unfold NB at e;rw[Vb (by unfold BIG;have:=hb.1;omega) aa,Xa];refine Wd ?_;split
 .exact⟨by rw[Ww];exact hb.1,hb.2⟩
 exact⟨ab,hb.2⟩
def XkC{N:Nat}(hN:NB N){h:Wp}(hb:HB h)(a:Int):Ok (QcZ N h a) λr=>r.1.length<=256:=by
 refine WQ (Xdy hN hb a) λy o f=>?_;refine Wo (λ_=>Wd ab) λk1=>?_;have⟨p,q,s,g,t⟩:=f (by simpa using k1);have j:=XJ h.w a;have e:y.1.n=szA h.w a-1:=by rw[g];unfold szA;omega
 have⟨k,l⟩:=IB (a:=y.1.n) aa;rw[l,XcK (by unfold BIG;have:=hb.1;omega) N _ k aa,Xa];refine Wd ?_;grind
def Xjg{N:Nat}(hN:NB N){h:Wp}(hb:HB h)(a:Int)(hd:WH):Ok (QcE N h a hd) λr=>HB r.1:=by
 have f:=hN;unfold NB at f;rw[QcE,Xbu,Xa];refine WQ (Y2 (N:=N) aa hb.1 hb.2) λb eb hp=>?_;refine Wo (λ_=>Wd KB) λ_=>?_;refine Wo (λ_=>Wd KB) λk1=>?_;have g:XM hd=true:=by
  cases g:XM hd with
  |true=>rfl
  |false=>simp_all
 have l:=XO g;refine Uk aa (Uk aa ?_);rw[Wj g,Va (by unfold BIG;have:=hb.1;omega) (by unfold BIG;grind) (by grind),Xa];split
 .rename_i j;refine Wo (λe=>by grind) λ_=>Wd ⟨?_,hb.2⟩;have o:=hb.1;rw[Kf]
  .omega
  unfold YZ at j;unfold ix;omega
 exact Wo (λ_=>Wd KB) λe=>by grind
def Xmz(N:Nat)(l:List Int)(v:Int)(g:l.length<=1000000000):∀(n k:Nat),k<=l.length->l.length-k<n->Qe5 N l v n (k:Int)=some (if(l.drop k).contains v then .ret true else .nxt ())
 |0,k,_,h=>by omega
 |n+1,k,o,p=>by
  rw[Qe5];by_cases h:k<l.length
  .have j:decide ((k:Int)<(l.length:Int))=true:=Wi aa;rw[j,Wc,Xc,Wb h,Xa,Xf aa aa];rw[show((k:Int)+1)=((k+1:Nat):Int) by omega,Xmz N l v g n (k+1) aa aa];rw[Wm h,List.contains_cons];by_cases f:l[k]=v
   .subst f;simp
   rw[show(l[k]==v)=false by simpa using f,Wa,show(v==l[k])=false by simpa usingλe=>f e.symm,U1]
  grind
def Ym{N:Nat}{l:List Int}(v:Int)(e:l.length<=1000000000)(hN:l.length<N):Qba N l v=some (l.contains v):=by have h:=Xmz N l v e N 0 aa aa;rw[show((0:Nat):Int)=0 from rfl,WL]at h;rw[Qba,h,Xa];grind[Xo,Xs]
structure OT(N:Nat)(h:Wp)(l:List Int):Prop where
 at_:∀a∈l,I5 h a
 ev:∀a∈l,Qax N h a=some (hdA h.w a,0)
 pw:l.Pairwise λa b=>a+szA h.w a<=b
def Xih(h:Wp)(i:Int)(l:List Int):Prop:=∀a∈l,Xb h.c i 0<=a/\pgi h.c a=i
def XeN{c:Uj}{i o p:Int}(h:o<=p):Xb c i o<=Xb c i p:=by unfold Xb;omega
def Yu{c:Uj}(e:X5 c=true){p o:Int}(f:0<=o)(g:o<c.W):pgi c (Xb c p o)=p/\pgo c (Xb c p o)=o:=Xpl e f g
def Yv{c:Uj}(e:X5 c=true){a:Int}(h:4096<=a/\a<4096+c.p*c.W):a=Xb c (pgi c a) (pgo c a)/\0<=pgi c a/\pgi c a<c.p/\0<=pgo c a/\pgo c a<c.W:=by have:=XfK e h.1 h.2;exact⟨this.2.2.2.2,this.1,this.2.1,this.2.2.1,this.2.2.2.1⟩
def XtO(N:Nat)(h:Wp)(i o:Int)(l:List Int):Prop:=OT N h l/\Xih h i l/\(∀a∈l,a+szA h.w a<=Xb h.c i o)/\(l.length:Int)<=o
def OT.snoc{N:Nat}{h:Wp}{l:List Int}{a:Int}(f:OT N h l)(o:I5 h a)(g:Qax N h a=some (hdA h.w a,0))(j:∀b∈l,b+szA h.w b<=a):OT N h (l++[a]):=by
 refine⟨λx e=>?_,λx e=>?_,?_⟩
 .rcases Ws.1 e with e|e
  .exact f.at_ x e
  simp_all
 .rcases Ws.1 e with e|e
  .exact f.ev x e
  simp_all
 rw[Oq];refine⟨f.pw,ab,λb hb c p=>?_⟩;simp_all
def PageL(N:Nat)(h:Wp)(i:Int)(l:List Int):Prop:=OT N h l/\Xih h i l/\(l.length:Int)<=64
def XsB(N:Nat)(h:Wp)(i:Int):Ex (List Int×Int) (List Int)->Prop
 |.ret r=>r=([],19)
 |.nxt l=>PageL N h i l
def Qk7{N:Nat}(hN:NB N){h:Wp}(hb:HB h)(hp:UP h){i:Int}(J:0<=i)(K:i<h.p.length)(g:(pg h.p i).k=1\/(pg h.p i).k=2):∀(n:Nat) (o:Int) (l:List Int),0<=o->(65-o).toNat<n->XtO N h i o l->((pg h.p i).k=1->o<=(pg h.p i).u)->((pg h.p i).k=2->o=0) ->
 Ok (Qau N h i (pg h.p i) n o l) (XsB N h i)
 |0,o,l,_,L,j,k1,k2=>by omega
 |n+1,o,l,t,L,j,k1,k2=>by
  have Y:=Xi.1 hp.conf;have M:=(hp.pgs i J K).small;have O:=hp.pages;have r:(l.length:Int)<=64:=by
   have:=j.2.2.2;rcases g with g|g
   .omega
   omega
  refine Wo (λz=>?_) λ_=>Wd ⟨j.1,j.2.1,r⟩;have z:o<(pg h.p i).u:=WA z;have A:o<h.c.W:=by
   rcases g with g|g
   .omega
   omega
  rw[KK,hp.conf,Xa,Wg ab,Wj aa];dsimp only;refine WQ (Xdx hN hb (Xb h.c i o)) λy Q R=>?_;refine Wo (λ_=>Wd rfl) λS=>?_;have⟨_,_,B,D⟩:=R (by simp_all);have s:=Yu hp.conf (p:=i) t A;have G:=XJ h.w (Xb h.c i o);have H:Qax N h (Xb h.c i o)=some (hdA h.w (Xb h.c i o),0):=by rw[Q];congr 1;exact Prod.ext D (by simp_all)
  have q:OT N h (l++[Xb h.c i o]):=j.1.snoc B H j.2.2.1;have E:Xih h i (l++[Xb h.c i o]):=by
   intro x f;rcases Ws.1 f with f|f
   .exact j.2.1 x f
   have:x=Xb h.c i o:=by simpa using f
   subst this;exact⟨XeN t,s.1⟩
  have I:((l++[Xb h.c i o]).length:Int)=l.length+1:=by simp
  have U:=j.2.2.2;refine Uk aa (Wo (λkk=>Wd ⟨q,E,aa⟩) λkk=>?_);have kk:(pg h.p i).k=1:=by
   rcases g with g|g
   .omega
   simp_all
  rw[D,Yr,Xa];rw[G.1];have V:=B.small (by simp_all);rw[s.1,s.2]at V;rw[Xf aa aa];refine Qk7 hN hb hp J K g n _ _ aa aa ⟨q,E,λx f=>?_,aa⟩ (λ_=>aa) (λe=>aa);rcases Ws.1 f with f|f
  .have:=j.2.2.1 x f;have:=XeN (c:=h.c) (i:=i) (o:=o) (p:=o+szA h.w (Xb h.c i o)) aa;omega
  have:x=Xb h.c i o:=by simpa using f
  subst this;unfold Xb;omega
def PageL.nil(N:Nat)(h:Wp)(i:Int):PageL N h i []:=⟨⟨ab,ab,ab⟩,λa e=>by simp_all,ab⟩
def Qk8{N:Nat}(hN:NB N){h:Wp}(hb:HB h)(i:Int):Ok (Qal N h i) λr=>(r.2≠0->r.1=[])/\r.1.length<=64/\(UP h->PageL N h i r.1):=by
 have j:=hN;unfold NB at j;refine WQ (Y2 (N:=N) aa hb.1 hb.2) λb eb hp=>?_;refine Wo (λ_=>Wd ⟨λ_=>rfl,ab,λ_=>PageL.nil N h i⟩) λu=>?_;have hp:=hp (by simp_all);refine Wo (λ_=>Wd ⟨λ_=>rfl,ab,λ_=>PageL.nil N h i⟩) λf=>?_;refine Wo (λ_=>Wd ⟨λ_=>rfl,ab,λ_=>PageL.nil N h i⟩) λg=>?_;have f:0<=i:=by have:=W5 f;omega
 have g:i<h.p.length:=by have:=W5 g;omega
 refine Ok.get f g λp o=>?_;have s:=YB o;subst s;refine Wo (λ_=>Wd ⟨λ_=>rfl,ab,λ_=>PageL.nil N h i⟩) λk0=>?_;refine Wo (λ_=>Wd ⟨λ_=>rfl,ab,λ_=>PageL.nil N h i⟩) λt=>?_;have w:=(hp.pgs i f g).kind;have k0:¬(pg h.p i).k=0:=by simpa using k0
 have t:¬(pg h.p i).k=3:=by simpa using t
 refine Oa (Qk7 hN hb hp f g aa N 0 [] aa aa ⟨⟨ab,ab,ab⟩,λa x=>by simp_all,ab,ab⟩ (λk=>((hp.pgs i f g).small k).1) (λ_=>rfl)) (λa q=>?_) λl q=>?_
 .have:a=([],19):=q;subst this;exact Wd ⟨λ_=>rfl,ab,λ_=>PageL.nil N h i⟩
 exact Wd ⟨λe=>absurd rfl e,by have:=q.2.2;grind,λ_=>q⟩
def Xjh{c:Uj}(e:X5 c=true){w:Int}(h:1<=XI c w):w<=XI c w*c.W:=by unfold XI at h⊢;grind
def XcO{h:Wp}(hp:UP h){a:Int}(g:I5 h a):∃k,1<=k/\pgi h.c a+k<=h.c.p/\a+szA h.w a<=Xb h.c (pgi h.c a+k) 0/\∀m,1<=m->m<k->(pg h.p (pgi h.c a+m)).k=3:=by
 have⟨e,l,x,y,z⟩:=Yv hp.conf g.rng;have s:=hp.pages;rcases g.kind with f|f
 .have A:=g.small f;have:=(hp.pgs _ l aa).small f;refine⟨1,aa,aa,?_,λm j o=>aa⟩;have B:Xb h.c (pgi h.c a+1) 0=4096+pgi h.c a*h.c.W+h.c.W:=by unfold Xb;rw[Ou];omega
  have e3:a=4096+pgi h.c a*h.c.W+pgo h.c a:=e;omega
 have⟨D,E⟩:=g.large f;have⟨q,r⟩:=(hp.pgs _ l aa).large f;have t:=Xjh hp.conf q;refine⟨_,q,?_,?_,λm j o=>(r m j o).2⟩
 .by_cases j:XI h.c (pg h.p (pgi h.c a)).u=1
  .omega
  have:=(r (XI h.c (pg h.p (pgi h.c a)).u-1) aa aa).1;omega
 have e3:a=4096+pgi h.c a*h.c.W+pgo h.c a:=e;unfold Xb;grind
def JK{h:Wp}(hp:UP h){a:Int}(e:I5 h a):a+szA h.w a<=4096+h.w.length:=by have⟨k,j,f,g,_⟩:=XcO hp e;have l:=Xi.1 hp.conf;have:=hp.words;have o:(pgi h.c a+k)*h.c.W<=h.c.p*h.c.W:=UF f aa;unfold Xb at g;omega
def XkD{h:Wp}(hp:UP h){a b:Int}(g:I5 h a)(hb:I5 h b)(j:pgi h.c a<pgi h.c b):a+szA h.w a<=b:=by
 have⟨k,r,s,l,o⟩:=XcO hp g;have⟨e,t,u,x,y⟩:=Yv hp.conf hb.rng;have f:pgi h.c a+k<=pgi h.c b:=by
  rcases(by omega:pgi h.c b<pgi h.c a+k\/pgi h.c a+k<=pgi h.c b)with p|p
  .have:=o (pgi h.c b-pgi h.c a) aa aa;rw[show pgi h.c a+(pgi h.c b-pgi h.c a)=pgi h.c b by omega]at this;rcases hb.kind with q|q<;>omega
  omega
 have z:(pgi h.c a+k)*h.c.W<=pgi h.c b*h.c.W:=UF f aa;unfold Xb at l e;omega
def Qf2{N:Nat}(hN:NB N){h:Wp}(hb:HB h)(hp:UP h)(i:Int)(f:0<=i)(g:i<h.p.length):Ok (Qal N h i) λr=>PageL N h i r.1/\r.1.length<=64:=(Qk8 hN hb i).mono λr e=>⟨e.2.2 hp,e.2.1⟩
structure Oy(N:Nat)(h:Wp)(l:List Int):Prop where
 obj:OT N h l
 page:∀a∈l,∃r,Qal N h (pgi h.c a)=some r/\a∈r.1
 len:l.length<=4096
def Oy.nil(N:Nat)(h:Wp):Oy N h []:=⟨⟨ab,ab,ab⟩,ab,ab⟩
def XeO{N:Nat}(hN:NB N){h:Wp}(hb:HB h)(hp:UP h):∀(n:Nat) (i:Int) (l:List Int),0<=i->i<=h.p.length->(h.p.length-i).toNat<n->OT N h l->(∀a∈l,∃r,Qal N h (pgi h.c a)=some r/\a∈r.1)->(∀a∈l,pgi h.c a<i)->(l.length:Int)<=64*i ->
 Ok (QaP N h n i l) λe=>match e with|.ret r=>r.1=[]/\r.2≠0|.nxt l=>Oy N h l
 |0,i,l,_,_,z,_,_,_,_=>by omega
 |n+1,i,l,A,E,z,g,j,t,w=>by
  have G:=Xi.1 hp.conf;have B:=hp.pages;refine Wo (λu=>?_) λ_=>Wd ⟨g,j,aa⟩;have u:i<h.p.length:=WA u;refine WQ (Qf2 hN hb hp i A u) λy D o=>?_;refine Wo (λx=>Wd ⟨rfl,by simpa using x⟩) λx=>?_;refine Uk aa ?_;rw[Xf aa aa];have q:∀a∈y.1,pgi h.c a=i:=λa f=>(o.1.2.1 a f).2;refine XeO hN hb hp n (i+1) _ aa aa aa ⟨λa f=>?_,λa f=>?_,?_⟩ (λa f=>?_) (λa f=>?_) (by rw[Wu];omega)
  .rcases Ws.1 f with f|f
   .exact g.at_ a f
   exact o.1.1.at_ a f
  .rcases Ws.1 f with f|f
   .exact g.ev a f
   exact o.1.1.ev a f
  .rw[Oq];refine⟨g.pw,o.1.1.pw,λa f b s=>?_⟩;exact XkD hp (g.at_ a f) (o.1.1.at_ b s) (by rw[q b s];exact t a f)
  .rcases Ws.1 f with f|f
   .exact j a f
   exact⟨y,by rw[q a f];exact D,f⟩
  grind
def Xav{N:Nat}(hN:NB N){h:Wp}(hb:HB h):Ok (Qb4 N h) λr=>Oy N h r.1/\(r.2=0->UP h)/\(r.2≠0->r.1=[]):=by have f:=hN;unfold NB at f;refine WQ (Y2 (N:=N) aa hb.1 hb.2) λb eb hp=>?_;refine Wo (λ_=>Wd ⟨Oy.nil N h,λe=>aa,λ_=>rfl⟩) λg=>?_;have hp:=hp (by simp_all);have j:=hb.2;refine Oa (XeO hN hb hp N 0 [] aa aa aa ⟨ab,ab,ab⟩ ab ab ab) (λa q=>?_) λl q=>Wd ⟨q,λ_=>hp,λe=>absurd rfl e⟩;refine Wd ⟨?_,λe=>absurd e q.2,λ_=>q.1⟩;rw[q.1];exact Oy.nil N h
def Oy.sub{N:Nat}{h:Wp}{l l':List Int}(e:Oy N h l)(f:l'.Sublist l):Oy N h l':=
 ⟨⟨λa g=>e.obj.at_ a (f.subset g),λa g=>e.obj.ev a (f.subset g),e.obj.pw.sublist f⟩,λa g=>e.page a (f.subset g),Ii f.length_le e.len⟩
def Xa5{N:Nat}(hN:NB N){h:Wp}(hb:HB h)(y:List Int×Int)(r:y.1.length<=4096):∀(n k:Nat) (l:List Int),k<=y.1.length->y.1.length-k<n->l.Sublist (y.1.take k)->Ok (QaT N h y n (k:Int) l) λo=>o.Sublist y.1
 |0,k,l,_,t,_=>by omega
 |n+1,k,l,x,t,j=>by
  have s:l.length<=4096:=Ii j.length_le (by rw[Wx];omega);refine Wo (λg=>?_) λ_=>Wd (j.trans (List.take_sublist _ _));have g:(k:Int)<y.1.length:=WA g;have e:k<y.1.length:=aa;refine Ok.get aa g λp hp=>?_;refine WQ (Xdx hN hb p) λz A B=>?_;have u:wI ((k:Int)+1)=((k+1:Nat):Int):=by rw[Xf aa aa];omega
  rw[u];refine Wo (λ_=>?_) λ_=>Xa5 hN hb y r n (k+1) l aa aa (j.trans (List.take_sublist_take_left aa));refine Ok.get aa g λw f=>Uk aa (Xa5 hN hb y r n (k+1) _ aa aa ?_);have q:w=y.1[k]:=by rw[Xc,Wb e]at f;exact(WT f).symm
  simp_all[List.take_succ_eq_append_getElem,e,q]
def KF{N:Nat}(hN:NB N){h:Wp}(hb:HB h):Ok (Qaj N h) λr=>Oy N h r.1/\(r.2=0->UP h)/\(r.1≠[]->UP h):=by refine WQ (Xav hN hb) λy p e=>?_;have f:=hN;unfold NB at f;have g:=e.1.len;have:=Xa5 hN hb y g N 0 [] aa aa ab;refine WQ this λo q j=>Wd ⟨e.1.sub j,e.2.1,λl=>?_⟩;grind
def Xcs{N:Nat}(hN:NB N){h:Wp}(hb:HB h)(a:Int):Ok (Qds N h a) λb=>b=true->UP h/\I5 h a:=by
 have f:=hN;unfold NB at f;refine WQ (KF hN hb) λy l g=>?_;have o:=g.1.len;rw[Ym a aa aa,Xa];refine Wd λe=>?_;have j:a∈y.1:=by simpa using e
 exact⟨g.2.2 (List.ne_nil_of_mem j),g.1.obj.at_ a j⟩
def Xpn{N:Nat}{h:Wp}(hb:HB h)(i o:Int):Ok (Qfi N h i o) λ_=>True:=by rw[Qfi,QgH,KK,Xa,YX (by unfold BIG;have:=hb.1;omega),Xa,Xa];exact Wd trivial
def Xdz(h:Wp)(i:Int)(l:List Int):Prop:=(pg h.p i).k=1->∀a∈l,szA h.w a<=smC h.c
def XgW{N:Nat}(hN:NB N){h:Wp}(hb:HB h){i:Int}(u:0<=i)(x:i<h.p.length)(l:List Int)(B:l.length<=4096)(j:∀a∈l,Qax N h a=some (hdA h.w a,0)/\a≠0):∀(n k:Nat),k<=l.length->l.length-k<n ->
 Ok (QaQ N h i l n (k:Int)) λe=>match e with|.ret r=>r≠0|.nxt _=>(pg h.p i).k=1->∀a∈l.drop k,szA h.w a<=smC h.c
 |0,k,_,D=>by omega
 |n+1,k,L,D=>by
  refine Wo (λo=>?_) λo=>Wd ?_;rotate_left
  .grind
  have o:(k:Int)<l.length:=WA o;have t:k<l.length:=aa;refine Ok.get aa o λp hp=>?_;have E:p=l[k]:=by rw[Xc,Wb t]at hp;exact(WT hp).symm
  have y:p∈l:=YI hp;rw[(j p y).1,Xa];rw[Yr,Xa,XgQ,Xa,(XJ h.w p).1];have G:wI ((k:Int)+1)=((k+1:Nat):Int):=by rw[Xf aa aa];omega
  rw[G];have ret:∀g,Xd l (k:Int)=some g->g≠0:=λg f=>(j g (YI f)).2;have next:((pg h.p i).k=1->szA h.w p<=smC h.c)->Ok (QaQ N h i l n ((k+1:Nat):Int)) λe=>match e with|.ret r=>r≠0|.nxt _=>(pg h.p i).k=1->∀a∈l.drop k,szA h.w a<=smC h.c:=by
   intro s
   refine(XgW hN hb u x l B j n (k+1) aa aa).mono λe M=>?_
   cases e with
   |ret r=>omega
   |nxt _=>
    intro H a I
    rw[Wm t]at I
    grind
  refine Ok.get u x λq J=>?_;have z:=YB J;refine Wo (λk1=>?_) λk1=>?_
  .refine Wo (λ_=>Ok.get aa o λg f=>Wd (ret g f)) λk2=>?_;have s:szA h.w p<=smC h.c:=by simpa using k2
   refine Ok.get u x λK A=>Wo (λ_=>Wo (λ_=>Ok.get aa o λg f=>Wd (ret g f)) λ_=>next λ_=>s) λ_=>next λ_=>s
  have s:(pg h.p i).k=1->szA h.w p<=smC h.c:=by intro e;rw[z]at e;rw[e]at k1;cases k1
  refine Ok.get u x λK A=>Wo (λ_=>Wo (λ_=>Ok.get aa o λg f=>Wd (ret g f)) λ_=>next s) λ_=>next s
def XmA{N:Nat}(hN:NB N){h:Wp}(hb:HB h){i:Int}(j:0<=i)(o:i<h.p.length){l:List Int}(s:l.length<=64)(f:∀a∈l,Qax N h a=some (hdA h.w a,0)/\a≠0):
 Ok (Qea N h i l) λr=>r=0->Xdz h i l:=by have g:=hN;unfold NB at g;have:=XgW hN hb j o l aa f N 0 aa aa;refine Oa this (λa q=>Wd λe=>absurd e q) λ_ q=>Wd λ_=>?_;assumption
def XfL{N:Nat}{h:Wp}(i:Int)(l:List Int)(k:Int)(e:0<=k)(f:k<l.length)(x:Int)(g:x<=256):∀(n:Nat) (w:Int) (u:List Bool),0<=w->(x-w).toNat<n->u.length<=1000->Ok (QbJ N h i l k x n w u) λr=>r.length=u.length
 |0,w,u,_,s,_=>by omega
 |n+1,w,u,z,s,j=>by
  refine Wo (λo=>?_) λ_=>Wd rfl;have o:w<x:=WA o;refine Ok.get e f λp hp=>?_;rw[Xf (n:=w+1) aa aa];have next:=XfL (N:=N) (h:=h) i l k e f x g n (w+1) u aa aa j
  refine Wo (λt=>?_) λ_=>next
  refine Uk aa (Wo (λy=>?_) λ_=>next);refine Ok.get (WA t) (WA y) λq A=>?_;refine(XfL i l k e f x g n (w+1) _ aa aa (by rw[Ww];exact j)).mono λr B=>?_;simp_all
def Xji{N:Nat}(hN:NB N){h:Wp}(hb:HB h)(i:Int)(l:List Int)(q:l.length<=100000):∀(n:Nat) (k:Int) (u:List Bool),0<=k->k<=l.length->(l.length-k).toNat<n->u.length<=1000->Ok (Qdb N h i l n k u) λr=>r.length=u.length
 |0,k,u,_,_,s,_=>by omega
 |n+1,k,u,j,z,s,t=>by
  refine Wo (λe=>?_) λ_=>Wd rfl;have e:k<l.length:=WA e;have f:=hN;unfold NB at f;refine Ok.get j e λp hp=>WQ (Xdx hN hb p) λy A B=>?_;rw[Yr,Xa];have D:=Xmw y.1;have next:∀x:Int,x<=256->Ok (bnd (QbJ N h i l k x N 0 u) λg=>Qdb N h i l n (wI (k+1)) g) λr=>r.length=u.length:=by intro x w;refine WQ (XfL i l k j e x w N 0 u aa aa t) λr E G=>?_;rw[Xf (n:=k+1) aa aa];exact(Xji hN hb i l q n (k+1) r aa aa aa aa).mono λo H=>by omega
  exact IP (Wo (λ_=>next 1 aa) λ_=>next _ aa)
def XfM(N:Nat){h:Wp}(e:(pg h.p 0).k≠3):∀(n:Nat) (i:Int),0<=i->i<h.p.length->h.p.length<=100000->i.toNat<n->Ok (QcB N h n i) λr=>0<=r/\r<h.p.length
 |0,i,_,_,_,j=>by omega
 |n+1,i,f,g,l,j=>by
  refine Ok.get f g λp hp=>Wo (λo=>?_) λ_=>Wd ⟨f,g⟩;have:i≠0:=by rintro rfl;exact e (by simp_all[YB,hp])
  rw[Xf aa aa];exact XfM N e n (i-1) aa aa l aa
def Xjj{N:Nat}{h:Wp}(hb:HB h)(i:Int)(u:List Bool)(f:u.length<=1000):∀(n:Nat) (k:Int),0<=k->k<=u.length->(u.length-k).toNat<n->Ok (QcC N h i u n k) λ_=>True
 |0,k,_,_,g=>by omega
 |n+1,k,j,l,g=>by
  refine Wo (λe=>?_) λ_=>Wd trivial;have e:k<u.length:=WA e;rw[Xf (n:=k+1) aa aa];have next:=Xjj (N:=N) hb i u f n (k+1) aa aa aa
  refine Ok.get j e λp hp=>Wo (λ_=>WQ (Xpn hb i k) λy _ _=>Wo (λ_=>?_) λ_=>next) λ_=>next
  rw[Qfq,Xa];exact Wd trivial
def Xpo{N:Nat}(hN:NB N){h:Wp}(hb:HB h)(hp:UP h){i:Int}(l:0<=i)(o:i<h.p.length):Ok (Qd4 N h i) λ_=>True:=by
 have f:=hN;unfold NB at f;have g:=hb.2;have q:=Xi.1 hp.conf;refine WQ (WQ (XfM N hp.first N i l o g aa) λr _ e=>Wd e) λr _ e=>?_;refine WQ (Qf2 hN hb hp r e.1 e.2) λy _ s=>?_;refine WQ (Q:=λr=>r.length<=1000) (Uk aa (WQ (Xji hN hb i y.1 aa N 0 _ aa aa aa (by grind)) λu _ j=>Wd ?_)) λu _ j=>?_
 .grind
 exact Oa (Xjj hb i u j N 0 aa aa aa) (λ_ _=>Wd trivial) λ_ _=>Wd trivial
def XmB{N:Nat}(hN:NB N){h:Wp}(hb:HB h)(hp:UP h){i:Int}(g:0<=i)(j:i<h.p.length):Ok (Qd5 N h i) λf=>f.Fault=0->∀r,Qal N h i=some r->Xdz h i r.1/\r.2=0:=by
 have main:Ok (bnd (Qal N h i) λo=>
  bif (o.2 != 0)then some (Ut.mk 3 i 0)
  else bnd (Qea N h i o.1) λq=>
  bif (q != 0)then some (Ut.mk 5 i q)
  else bnd (Qd4 N h i) λs=>
  bif (s != 0)then some (Ut.mk 4 i s)
  else some (Ut.mk 0 0 0)) λf=>f.Fault=0->∀r,Qal N h i=some r->Xdz h i r.1/\r.2=0:=by
  refine WQ (Qf2 hN hb hp i g j) λy w l=>?_
  refine Wo (λ_=>Wd λe=>by grind) λx=>?_
  refine WQ (XmA hN hb g j l.2 λa t=>⟨l.1.1.ev a t,by have:=(l.1.1.at_ a t).rng;omega⟩) λc _ z=>?_
  refine Wo (λ_=>Wd λe=>by grind) λA=>?_
  refine WQ (Xpo hN hb hp g j) λd _ _=>?_
  refine Wo (λ_=>Wd λe=>by grind) λ_=>Wd λ_ r u=>?_
  rw[w]at u
  exact WT u▸⟨z (by simp_all),by simp_all⟩
 refine IP (Ok.get g j λp hp=>Wo (λ_=>Ok.get g j λp hp=>Wo (λ_=>Wd λe=>by grind) λ_=>main) λ_=>main)
def Xct{N:Nat}{h:Wp}(l g:List Int×Int)(u:l.1.length<=4096)(w:g.1.length<=256)(hN:1000000<N)(v:Int)(j:0<=v)(r:v<l.1.length)(s:WH×Int):∀(n:Nat) (k:Int),0<=k->k<=g.1.length->(g.1.length-k).toNat<n->Ok (Qaw N h l g v s n k) λe=>∀f,e=.ret f->f.Fault=6
 |0,k,_,_,x=>by omega
 |n+1,k,t,y,x=>by
  refine Wo (λo=>?_) λ_=>Wd λf e=>by grind
  have o:k<g.1.length:=WA o;rw[Xf (n:=k+1) aa aa];have next:=Xct (N:=N) (h:=h) l g u w hN v j r s n (k+1) aa aa aa
  rw[JI,Xa];refine Wo (λ_=>Ok.get t o λp hp=>Wo (λ_=>Ok.get t o λp hp=>?_) λ_=>next) λ_=>next
  rw[Ym p aa aa,Xa];refine Wo (λ_=>Ok.get j r λq z=>?_) λ_=>next
  rw[VK,Xa];exact Wd λf e=>by grind
def Xcu{N:Nat}(hN:NB N){h:Wp}(hb:HB h)(g:List Int×Int)(r:g.1.length<=4096):∀(n:Nat) (k:Int),0<=k->k<=g.1.length->(g.1.length-k).toNat<n->Ok (Qbs N h g n k) λe=>∀f,e=.ret f->f.Fault=6
 |0,k,_,_,s=>by omega
 |n+1,k,l,x,s=>by
  have o:=hN;unfold NB at o;refine Wo (λj=>?_) λ_=>Wd λf e=>by cases e
  have j:k<g.1.length:=WA j;rw[Xf (n:=k+1) aa aa];refine Ok.get l j λp hp=>WQ (Xdy hN hb p) λt _ _=>Ok.get l j λp hp=>WQ (XkC hN hb p) λu _ w=>?_;refine Oa (Xct g u r w aa k l j t N 0 aa aa aa) (λa q=>Wd λf e=>?_) λ_ _=>Xcu hN hb g r n (k+1) aa aa aa;simp_all
def XgX{N:Nat}(hN:NB N){h:Wp}(hb:HB h):Ok (Qdn N h) λ_=>True:=by have e:=hN;unfold NB at e;refine WQ (KF hN hb) λy _ f=>?_;have:=f.1.len;exact Oa (Xcu hN hb y f.1.len N 0 aa aa aa) (λ_ _=>Wd trivial) λ_ _=>Wd trivial
def XgY{N:Nat}(hN:NB N){h:Wp}(hb:HB h)(hp:UP h):∀(n:Nat) (i:Int),0<=i->i<=h.p.length->(h.p.length-i).toNat<n->Ok (Qbj N h n i) λe=>match e with|.ret f=>f.Fault≠0|.nxt _=>∀j,i<=j->j<h.p.length->∀r,Qal N h j=some r->Xdz h j r.1/\r.2=0
 |0,i,_,_,o=>by omega
 |n+1,i,q,x,o=>by
  have s:=hb.2;refine Wo (λg=>?_) λg=>Wd λj t l=>?_;rotate_left
  .grind
  have g:i<h.p.length:=WA g;refine WQ (XmB hN hb hp q g) λf _ y=>Wo (λu=>Wd (by simp_all)) λu=>?_;rw[Xf aa aa];refine(XgY hN hb hp n (i+1) aa aa aa).mono λe w=>?_;cases e with
  |ret f=>omega
  |nxt _=>
   intro j t l;by_cases z:j=i
   .grind
   exact w j aa l
def XgZ{N:Nat}{h:Wp}(g:h.p.length<=100000):∀(n:Nat) (c i:Int),0<=i->i<=h.p.length->(h.p.length-i).toNat<n->Ok (Qa1 N h n c i) λ_=>True
 |0,c,i,_,_,j=>by omega
 |n+1,c,i,f,o,j=>by
  refine Wo (λe=>?_) λ_=>Wd trivial;have e:i<h.p.length:=WA e;rw[Xf (n:=i+1) aa aa];have next:=λl=>XgZ (N:=N) g n l (i+1) aa aa aa
  exact Ok.get f e λp hp=>Wo (λ_=>Ok.get f e λp hp=>Wo (λ_=>next _) λ_=>next _) λ_=>next _
structure OR(N:Nat)(h:Wp):Prop where
 prop:UP h
 small:∀j:Int,0<=j->j<h.p.length->∀r,Qal N h j=some r->Xdz h j r.1/\r.2=0
def Jd{N:Nat}(hN:NB N){h:Wp}(hb:HB h):Ok (Qb2 N h) λb=>b=true->OR N h:=by
 have g:=hN;unfold NB at g;have j:=hb.2;refine WQ (Q:=λf=>f.Fault=0->OR N h) (WQ (Y2 (N:=N) aa hb.1 hb.2) λb eb hp=>Wo (λ_=>Wd λe=>by cases e) λl=>?_) λf _ p=>Wd λe=>?_
 .have hp:=hp (by simpa using l);refine Oa (XgY hN hb hp N 0 aa aa aa) (λa q=>Wd λe=>absurd e q) λ_ q=>?_;have o:OR N h:=⟨hp,q⟩
  refine WQ (XgX hN hb) λf _ _=>Wo (λ_=>Wd λ_=>o) λ_=>?_;exact WQ (XgZ j N 0 0 aa aa aa) λc _ _=>Wo (λ_=>Wd λ_=>o) λ_=>Wd λ_=>o
 simp_all
def OR.sz{N:Nat}{h:Wp}(e:OR N h){l:List Int}(g:Oy N h l){a:Int}(j:a∈l)(o:(pg h.p (pgi h.c a)).k=1):szA h.w a<=h.c.W / 4:=by have⟨r,q,s⟩:=g.page a j;have f:=g.obj.at_ a j;have⟨_,t,u,_⟩:=Yv e.prop.conf f.rng;have:=(e.small _ t (by have:=e.prop.pages;omega) r q).1 o a s;unfold smC at this;omega
def XeP{N:Nat}(l:List Int)(g:l.length<=100000000)(y:List Int×Int)(h:y.1.length<=4096)(hN:1000000<N):∀(n:Nat) (k:Int),0<=k->k<=l.length->(l.length-k).toNat<n->Ok (QaC N l y n k) λ_=>True
 |0,k,_,_,j=>by omega
 |n+1,k,f,o,j=>by
  refine Wo (λe=>?_) λ_=>Wd trivial;have e:k<l.length:=WA e;rw[Xf (n:=k+1) aa aa];have next:=XeP (N:=N) l g y h hN n (k+1) aa aa aa
  refine Ok.get f e λp hp=>Wo (λ_=>Ok.get f e λp hp=>?_) λ_=>next
  rw[Ym p aa aa,Xa];exact Wo (λ_=>Wd trivial) λ_=>next
def Xb4{N:Nat}(hN:NB N){h:Wp}(hb:HB h){l:List Int}(q:l.length<=1000000):Ok (Qb5 N h l) λb=>b=true->OR N h:=by have f:=hN;unfold NB at f;refine WQ (Jd hN hb) λb _ g=>Wo (λ_=>Wd λe=>by grind) λo=>?_;have j:=g (by simp_all);refine WQ (KF hN hb) λy _ p=>?_;exact Oa (XeP l aa y p.1.len aa N 0 aa aa aa) (λ_ _=>Wd λ_=>j) λ_ _=>Wd λ_=>j
def XmC(d:WH):Kz d % 4=1:=by have e:JT .u64 (wU d.Map) 16=wU (wU d.Map*65536):=rfl;unfold Kz;grind[Xdr]
def Xpp(ws:List Int)(a:Int)(h:wd ws a % 4=2):szA ws a=1:=by
 have:okH (wd ws a)=false:=by
  unfold okH;have f:=XmC (Xb3 (wd ws a));have:(Kz (Xb3 (wd ws a))==wd ws a)=false:=by rw[IG];intro e;rw[e]at f;omega
  rw[this,Bool.and_false]
 unfold szA hdA Z0;simp_all
structure OJ(h0:Wp)(l:List Int)(w:W8)(O:Int->Prop)(s:Int->Int):Prop where
 old:∀a∈l,O a/\s a=szA h0.w a
 queue:∀a∈w.q,O a
 fit:∀a,O a->4096<=a/\1<=s a/\a+s a<=4096+w.h.w.length/\szA w.h.w a<=s a
 apart:∀a b,O a->O b->a≠b->a+s a<=b\/b+s b<=a
 taken:∀a,O a->∀j∈w.t,a+s a<=Xb h0.c j (pg w.h.p j).u\/Xb h0.c (j+1) 0<=a
 free:∀a,O a->∀j:Int,0<=j->j<w.h.p.length->(pg w.h.p j).k=0->a+s a<=Xb h0.c j 0\/Xb h0.c (j+1) 0<=a
structure CI(h0:Wp)(l:List Int)(w:W8):Prop where
 conf:w.h.c=h0.c
 wlen:w.h.w.length=h0.w.length
 plen:w.h.p.length=h0.p.length
 spc:w.h.s=h0.s
 old:w.o.Sublist l
 tk:∀j∈w.t,0<=j/\j<w.h.p.length/\(pg w.h.p j).k=1/\0<=(pg w.h.p j).u/\(pg w.h.p j).u<=h0.c.W
 tnd:w.t.Nodup
 knd:∀a∈l,(pg w.h.p (pgi h0.c a)).k=(pg h0.p (pgi h0.c a)).k
 qnd:w.q.Nodup
 obj:∃O s,OJ h0 l w O s
def Xbv:∀(n:Nat) (a:Int) (l:List Int),l.Nodup->(∀x∈l,a<=x/\x<a+n)->l.length<=n
 |0,a,l,_,h=>by
  cases l with
  |nil=>simp
  |cons x l=>have:=h x ab;omega
 |n+1,a,l,e,h=>by
  by_cases o:a+(n:Int)∈l
  .have g:=Xbv n a (l.erase (a+(n:Int))) (e.erase _) λx f=>by have j:=(List.Nodup.mem_erase_iff e).1 f;have p:=h x j.2;omega
   simp_all
  have g:=Xbv n a l e λx f=>by grind
  omega
section
variable {N:Nat}{h0:Wp}{l:List Int}
def CI.ql{w:W8}(hb:HB h0)(e:CI h0 l w):w.q.length<=100000:=by
 have⟨O,s,f⟩:=e.obj;have:=Xbv w.h.w.length 4096 w.q e.qnd λx g=>by have:=f.fit x (f.queue x g);omega
 have:=hb.1;have:=e.wlen;omega
def CI.tl{w:W8}(hb:HB h0)(e:CI h0 l w):w.t.length<=100000:=by
 have:=Xbv w.h.p.length 0 w.t e.tnd λx f=>by have:=e.tk x f;omega
 have:=hb.2;have:=e.plen;omega
def XeQ{w:W8}(f:w.t.length<=100000)(i:Int):∀(n:Nat) (k:Int),0<=k->k<=w.t.length->(w.t.length-k).toNat<n->Ok (QcM N w i n k) λ_=>True
 |0,k,_,_,g=>by omega
 |n+1,k,h0,h,g=>by refine Wo (λe=>?_) λ_=>Wd trivial;have e:k<w.t.length:=WA e;rw[Xf (n:=k+1) aa aa];exact Ok.get h0 e λp hp=>Wo (λ_=>Wd trivial) λ_=>XeQ f i n (k+1) aa aa aa
def Xcv(hN:NB N){w:W8}(j:w.t.length<=100000)(i:Int):Ok (Qdo N w i) λb=>b=true->0<=i/\i<w.h.p.length:=by
 unfold NB at hN;refine Wo (λ_=>Wd λe=>by grind) λf=>Wo (λ_=>Wd λe=>by grind) λg=>?_;have f:0<=i:=by have:=W5 f;omega
 have g:i<w.h.p.length:=by have:=W5 g;omega
 refine Ok.get f g λp hp=>Wo (λ_=>Wo (λ_=>WQ (Q:=λ_=>True) ?_ λy _ _=>Wd λ_=>⟨f,g⟩) λ_=>Wd λe=>aa) λ_=>Wd λe=>by omega
 exact Oa (XeQ j i N 0 aa aa aa) (λ_ _=>Wd trivial) λ_ _=>Wd trivial
structure OO(h0:Wp)(w:W8)(n:Int)(w':W8)(at_ j u:Int):Prop where
 rng:0<=j/\j<w.h.p.length
 fit:0<=u/\u+n<=h0.c.W
 addr:at_=Xb h0.c j u
 conf:w'.h.c=w.h.c
 words:w'.h.w=w.h.w
 space:w'.h.s=w.h.s
 old:w'.o=w.o
 queue:w'.q=w.q
 scanned:w'.d=w.d
 plen:w'.h.p.length=w.h.p.length
 other:∀i,0<=i->i≠j->pg w'.h.p i=pg w.h.p i
 this:(pg w'.h.p j).k=1/\(pg w'.h.p j).u=u+n
 sp:(j∈w.t/\(pg w'.h.p j).s=(pg w.h.p j).s/\(pg w'.h.p j).P=(pg w.h.p j).P)\/((pg w'.h.p j).s=1-w.h.s/\(pg w'.h.p j).P=0)
 way:(j∈w.t/\w'.t=w.t/\u=(pg w.h.p j).u)\/((pg w.h.p j).k=0/\w'.t=w.t++[j]/\u=0)
def Xg0(hN:NB N)(hb:HB h0)(hp:UP h0){w:W8}(H:CI h0 l w){n:Int}(hn:1<=n)(hn2:n<=h0.c.W):Ok (QfB N w n) λr=>r.2.2=true->∃j u,OO h0 w n r.1 r.2.1 j u:=by
 have R:=hN;unfold NB at R;have hpl:=H.plen;have hv:=Xi.1 hp.conf;have htl:=H.tl hb;have hpp:=hp.pages;have new:Ok (bnd (QcR N w.h.p 1) λE=>
  bif (decide (E<0))then some ((W8.mk (Wp.mk (Uj.mk 0 0) [] [] 0 0) [] [] [] 0 (UI.mk 0 0 0 0 0 0)),0,false)
  else bnd (QdD N w.h.p E (wI (1-w.h.s))) λO=>
  grd (w.t.length*8<=140737488355328) <|
  grd ((w.t.length+1)*8<=140737488355328) <|
  bnd (Xd O.1 E) λS=>
  bnd (Xd O.1 E) λU=>
  bnd (Xd O.1 E) λI=>
  some ((W8.mk (Wp.mk w.h.c w.h.w (O.1.set E.toNat (WJ.mk I.k I.s (wI (U.u+n)) I.P)) w.h.s w.h.b) w.o (w.t++[E]) w.q w.d w.r),(wU (wI ((wI (4096+(wI (E*w.h.c.W))))+S.u))),true)) λr=>r.2.2=true->∃j u,OO h0 w n r.1 r.2.1 j u:=by
  refine WQ (KR 1 aa aa) λj _ M=>Wo (λ_=>Wd λe=>by grind) λhj0=>?_
  have Z:RunOK w.h.p j 1:=by
   rcases M with rfl|M
   .grind
   .omega
  have hsp:=hp.space
  have hws:=H.spc
  rw[Xf (n:=1-w.h.s) aa aa]
  refine WQ (XgT j (1-w.h.s) aa aa) λy _ hy=>?_
  have V:=hy.2.2 Z aa aa
  obtain⟨x,q1,q2,q3⟩:=hy.1 V
  have hk:=Z.2.2.2 0 aa aa
  rw[Int.add_zero]at hk
  have f:j<y.1.length:=aa
  refine Uk aa (Uk aa (Ok.get x f λp1 J=>Ok.get x f λp2 z=>Ok.get x f λp3 K=>Wd λ_=>?_))
  have g1:=YB J
  have g2:=YB z
  have g3:=YB K
  rw[q3 j x,Wj rfl]at g1 g2 g3
  subst g1;subst g2;subst g3
  have hm:=XV hp.conf (i:=j) x aa
  refine⟨j,0,⟨⟨x,aa⟩,⟨aa,aa⟩,?_,rfl,rfl,rfl,rfl,rfl,rfl,?_,λi Q B=>?_,?_,.inr ?_,.inr ⟨hk,rfl,rfl⟩⟩⟩
  .show wU (wI (wI (4096+wI (j*w.h.c.W))+0))=_
   rw[H.conf,Xf (n:=j*h0.c.W) aa aa,Xf (n:=4096+j*h0.c.W) aa aa,Xf aa aa,Xz aa aa]
   rfl
  .simp_all
  .show pg (y.1.set _ _) i=_
   rw[ZQ _ x f Q,Wg B,q3 i Q,Wg B,Wg aa]
  .show(pg (y.1.set _ _) j).k=1/\(pg (y.1.set _ _) j).u=_
   rw[ZQ _ x f x,Wj rfl]
   refine⟨rfl,?_⟩
   show wI (0+n)=0+n
   rw[Xf aa aa]
  .show(pg (y.1.set _ _) j).s=_/\(pg (y.1.set _ _) j).P=_
   rw[ZQ _ x f x,Wj rfl]
   simp
 refine Uk aa (IP (Wo (λht=>?_) λ_=>new));have ht:0<(w.t.length:Int):=WA ht;rw[Xf (n:=(w.t.length:Int)-1) aa aa];refine Ok.get aa aa λj M=>?_;have L:=YI M;have⟨A,G,t2,t3,t4⟩:=H.tk j L;refine Ok.get A G λp z=>?_;have g:=YB z;subst g;rw[Xf (n:=(pg w.h.p j).u+n) aa aa];refine Wo (λD=>?_) λ_=>new;have D:(pg w.h.p j).u+n<=w.h.c.W:=WA D;rw[H.conf]at D;refine Ok.get aa aa λj' Y=>?_;obtain rfl:j=j':=WT (M.symm.trans Y);refine Ok.get A G λp1 J=>Ok.get A G λp2 z=>Ok.get A G λp3 K=>Wd λ_=>?_;have g1:=YB J;have g2:=YB z;have g3:=YB K;subst g1;subst g2;subst g3;have hm:=XV hp.conf (i:=j) A aa;refine⟨j,(pg w.h.p j).u,⟨⟨A,G⟩,⟨t3,D⟩,?_,rfl,rfl,rfl,rfl,rfl,rfl,?_,λi Q B=>?_,?_,.inl ⟨L,?_⟩,.inl ⟨L,rfl,rfl⟩⟩⟩
 .show wU (wI (wI (4096+wI (j*w.h.c.W))+_))=_;rw[H.conf,Xf (n:=j*h0.c.W) aa aa,Xf (n:=4096+j*h0.c.W) aa aa,Xf aa aa,Xz aa aa];rfl
 .simp
 .simp[ZQ,A,G,Q,Wg,B]
 .rw[ZQ _ A G A,Wj rfl];refine⟨t2,?_⟩;rw[Xf aa aa]
 rw[ZQ _ A G A,Wj rfl];simp
end
def Xrw{a b:Int}(e:4096<=a)(hb:4096<=b)(h:ix a=ix b):a=b:=by unfold ix at h;omega
def XdA{ws:List Int}{x a v:Int}(f:inW ws x)(g:4096<=a):wd (ws.set (ix x) v) a=if a=x then v else wd ws a:=by
 unfold wd;have j:ix x<ws.length:=by unfold inW at f;unfold ix;omega
 rw[We,We,UJ];by_cases h:a=x
 .simp_all
 rw[Wg h,Wg];intro e;exact h (Xrw g f.1 e.symm)
def Xpq{ws:List Int}{f a x:Int}{k:Nat}(g:YZ ws a k)(j:YZ ws f k)(o:4096<=x):wd (ovr ws ((ws.drop (ix a)).take k) (ix f)) x=if f<=x/\x<f+k then wd ws (a+(x-f))else wd ws x:=by
 have e:((ws.drop (ix a)).take k).length=k:=by unfold YZ at g;simp[ix];omega
 unfold wd;rw[Xbt (by rw[e];unfold YZ at j;unfold ix;omega),e];unfold YZ at g j;by_cases h:f<=x/\x<f+k
 .rw[Wj h,Wj (by unfold ix;omega),We,Ua,Wj (by unfold ix;omega),UC,←We];congr 1;unfold ix;omega
 rw[Wg h,Wg (by unfold ix;omega)]
def XcP{ws:List Int}{f a:Int}{k:Nat}(g:YZ ws a k)(h:YZ ws f k):(ovr ws ((ws.drop (ix a)).take k) (ix f)).length=ws.length:=by
 have e:((ws.drop (ix a)).take k).length=k:=by unfold YZ at g;simp[ix];omega
 exact Kf (by rw[e];unfold YZ at h;unfold ix;omega)
def Vw{c:Uj}(f:X5 c=true){i j o p:Int}(h:i<j)(g:o<=c.W)(q:0<=p):Xb c i o<=Xb c j p:=by
 have r:=Xi.1 f;have:(i+1)*c.W<=j*c.W:=UF aa aa;have e:(i+1)*c.W=i*c.W+c.W:=by rw[Ou,Int.one_mul]
 unfold Xb;omega
section
variable {N:Nat}{h0:Wp}{l:List Int}
structure O5(h0:Wp)(l:List Int)(w w':W8)(O:Int->Prop)(s:Int->Int):Prop where
 ci:CI h0 l w'
 ob:∃O' s',OJ h0 l w' O' s'/\∀a,O a->O' a/\s' a=s a
 sc:w'.d=w.d
 ql:w.q.length<=w'.q.length
def SameK(ps e:List WJ):Prop:=e.length=ps.length/\∀i,0<=i->(pg e i).k=(pg ps i).k/\(pg e i).u=(pg ps i).u
def SameK.refl(ps:List WJ):SameK ps ps:=⟨rfl,λ_ _=>⟨rfl,rfl⟩⟩
def SameK.set{ps f:List WJ}(h:SameK ps f){i:Int}(h0:0<=i)(o:i<f.length)(sp pins:Int):SameK ps (f.set i.toNat ⟨(pg f i).k,sp,(pg f i).u,pins⟩):=by
 refine⟨by rw[Ww];exact h.1,λj g=>?_⟩;rw[ZQ _ h0 o g];split
 .rename_i e;subst e;exact h.2 j g
 exact h.2 j g
def Xii(w:W8)(a:Int){ps:List WJ}(h:ps.length<=100000):∀(n:Nat) (i:Int) (e:List WJ),0<=i->i<=ps.length->(ps.length-i).toNat<n->SameK ps e->Ok (QbG N w a n i e) λr=>SameK ps r
 |0,i,e,_,_,j,_=>by omega
 |n+1,i,e,h0,q,j,g=>by have s:=g.1;refine Uk aa (Wo (λf=>?_) λ_=>Wd g);have f:i<e.length:=WA f;rw[Xf (n:=i+1) aa aa];refine Ok.get h0 f λp hp=>Wo (λ_=>Ok.get h0 f λp hp=>?_) λ_=>Wd g;have o:=YB hp;subst o;exact Xii w a h n (i+1) _ aa aa aa (g.set h0 f _ _)
def CI.pages{w:W8}(e:CI h0 l w){r:List WJ}(h:SameK w.h.p r):CI h0 l {w with h:={w.h with p:=r}}:=by
 have⟨O,s,f⟩:=e.obj;refine⟨e.conf,e.wlen,h.1.trans e.plen,e.spc,e.old,λj o=>?_,e.tnd,λa g=>?_,e.qnd,?_⟩
 .have:=e.tk j o;have q:=h.2 j this.1;rw[q.1,q.2,h.1];omega
 .have y:=e.knd a g;by_cases hp:0<=pgi h0.c a
  .rw[(h.2 _ hp).1];omega
  have t:∀ps:List WJ,pg ps (pgi h0.c a)=pg ps 0:=λps=>by unfold pg;grind
  rw[t,(h.2 0 aa).1,←t,y]
 refine⟨O,s,f.old,f.queue,f.fit,f.apart,λa g j o=>?_,λa g j u q x=>?_⟩
 .rw[(h.2 j (e.tk j o).1).2];exact f.taken a g j o
 rw[(h.2 j u).1]at x;exact f.free a g j u (by rw[←h.1];omega) x
def OJ.pages{w:W8}{O:Int->Prop}{s:Int->Int}(t:CI h0 l w)(e:OJ h0 l w O s){g:List WJ}(h:SameK w.h.p g):OJ h0 l {w with h:={w.h with p:=g}} O s:=by
 refine⟨e.old,e.queue,e.fit,e.apart,λa f j o=>?_,λa f j q u r=>?_⟩
 .rw[(h.2 j (t.tk j o).1).2];exact e.taken a f j o
 rw[(h.2 j q).1]at r;exact e.free a f j q (by rw[←h.1];omega) r
def CI.push{w:W8}{O:Int->Prop}{s:Int->Int}(e:CI h0 l w)(g:OJ h0 l w O s){a:Int}(p:O a)(t:a∉w.q)(o:UI):O5 h0 l w {w with q:=w.q++[a],r:=o} O s:=by
 have j:OJ h0 l {w with q:=w.q++[a],r:=o} O s:=by
  refine⟨g.old,λx f=>?_,g.fit,g.apart,g.taken,g.free⟩;rcases Ws.1 f with f|f
  .exact g.queue x f
  rw[WM.1 f];exact p
 refine⟨⟨e.conf,e.wlen,e.plen,e.spc,e.old,e.tk,e.tnd,e.knd,?_,⟨O,s,j⟩⟩,⟨O,s,j,λa h=>⟨h,rfl⟩⟩,rfl,?_⟩
 .rw[U6];refine⟨e.qnd,ab,λx f y u=>?_⟩;rw[WM.1 u];rintro rfl;exact t f
 simp
end
section
variable {N:Nat}{h0:Wp}{l:List Int}
def Xij(hp:UP h0){w w':W8}{O:Int->Prop}{s:Int->Int}(y:CI h0 l w)(o:OJ h0 l w O s){a n at_ j u:Int}(q:a∈l)(V:n=szA w.h.w a)(E:1<=n)(p:OO h0 w n w' at_ j u)(v:Int):
 YZ w.h.w a n.toNat/\YZ w.h.w at_ n.toNat/\(∀x,O x->x+s x<=at_\/Xb h0.c (j+1) 0<=x)/\¬O at_/\(∀x,O x->x+s x<=at_\/at_+n<=x)/\(∀x,4096<=x->wd ((ovr w.h.w ((w.h.w.drop (ix a)).take n.toNat) (ix at_)).set (ix a) v) x=if x=a then v else if at_<=x/\x<at_+n then wd w.h.w (a+(x-at_))else wd w.h.w x):=by
 have⟨r,G⟩:=o.old a q;have⟨H,I,J,K⟩:=o.fit a r;have L:=y.wlen;have M:=hp.words;have Q:=y.plen;have z:=hp.pages;have⟨A,R⟩:=p.rng;have Y:=XV hp.conf (i:=j) A aa;have⟨Z,u1⟩:=p.fit;have g:at_=Xb h0.c j u:=p.addr;have B:at_=4096+j*h0.c.W+u:=g;have t:at_+n<=Xb h0.c (j+1) 0:=by
  have e:(j+1)*h0.c.W=j*h0.c.W+h0.c.W:=by rw[Ou,Int.one_mul]
  unfold Xb;omega
 have i1:YZ w.h.w a n.toNat:=by unfold YZ;omega
 have i2:YZ w.h.w at_ n.toNat:=by unfold YZ;omega
 have away:∀x,O x->x+s x<=at_\/Xb h0.c (j+1) 0<=x:=by
  intro x f;rcases p.way with⟨g1,g2,g3⟩|⟨g1,g2,g3⟩
  .have:=o.taken x f j g1;rw[←g3,←g]at this;exact this
  have:=o.free x f j A R g1;rw[g3]at g;rw[g];exact this
 have fresh:¬O at_:=by intro f;have:=away at_ f;have:=(o.fit at_ f).2.1;omega
 have S:∀x,O x->x+s x<=at_\/at_+n<=x:=λx f=>by have:=away x f;omega
 have D:(ovr w.h.w ((w.h.w.drop (ix a)).take n.toNat) (ix at_)).length=w.h.w.length:=XcP i1 i2;have U:∀x,4096<=x->wd ((ovr w.h.w ((w.h.w.drop (ix a)).take n.toNat) (ix at_)).set (ix a) v) x=if x=a then v else if at_<=x/\x<at_+n then wd w.h.w (a+(x-at_))else wd w.h.w x:=by intro x f;rw[XdA (by unfold inW;omega) f,Xpq i1 i2 f];have:(n.toNat:Int)=n:=aa;rw[this]
 simp_all
def Xrx(hp:UP h0)(U:∀a∈l,(pg h0.p (pgi h0.c a)).k=1\/(pg h0.p (pgi h0.c a)).k=2)(hpr:∀a∈l,0<=pgi h0.c a){w w':W8}{O:Int->Prop}{s:Int->Int}(A:CI h0 l w)(E:OJ h0 l w O s){a n at_ j u:Int}(V:a∈l)(hn:n=szA w.h.w a)(hn1:1<=n)(g:OO h0 w n w' at_ j u)(v:Int)(hv:v % 4=2)(rp:UI):
 YZ w.h.w a n.toNat/\YZ w.h.w at_ n.toNat/\4096<=at_/\at_<=200000/\O5 h0 l w {w' with h:={w'.h with w:=(ovr w.h.w ((w.h.w.drop (ix a)).take n.toNat) (ix at_)).set (ix a) v},q:=w'.q++[at_],r:=rp} O s:=by
 have⟨Y,hsa⟩:=E.old a V;have⟨fa1,fa2,fa3,fa4⟩:=E.fit a Y;have hwl:=A.wlen;have hw0:=hp.words;have hpl:=A.plen;have hpl0:=hp.pages;have⟨r1,r2⟩:=g.rng;have hm:=XV hp.conf (i:=j) r1 aa;have⟨u0,u1⟩:=g.fit;have Z:at_=Xb h0.c j u:=g.addr;have hat1:at_=4096+j*h0.c.W+u:=Z;have hend:at_+n=Xb h0.c j (u+n):=by rw[Z];unfold Xb;omega
 have⟨i1,i2,away,fresh,K,L⟩:=Xij hp A E V hn hn1 g v;have hne:a≠at_:=λe=>fresh (e▸Y);have hlen:(ovr w.h.w ((w.h.w.drop (ix a)).take n.toNat) (ix at_)).length=w.h.w.length:=XcP i1 i2;have G:((ovr w.h.w ((w.h.w.drop (ix a)).take n.toNat) (ix at_)).set (ix a) v).length=w.h.w.length:=by rw[Ww,hlen]
 have hsz:∀x,O x->szA ((ovr w.h.w ((w.h.w.drop (ix a)).take n.toNat) (ix at_)).set (ix a) v) x<=s x:=by
  intro x f;have hf:=E.fit x f;by_cases hxa:x=a
  .have:szA ((ovr w.h.w ((w.h.w.drop (ix a)).take n.toNat) (ix at_)).set (ix a) v) x=1:=by apply Xpp;rw[L x hf.1,Wj hxa];exact hv
   omega
  have:szA ((ovr w.h.w ((w.h.w.drop (ix a)).take n.toNat) (ix at_)).set (ix a) v) x=szA w.h.w x:=by unfold szA hdA;rw[L x hf.1,Wg hxa,Wg];have:=K x f;omega
  omega
 have M:szA ((ovr w.h.w ((w.h.w.drop (ix a)).take n.toNat) (ix at_)).set (ix a) v) at_=n:=by refine Eq.trans ?_ hn.symm;unfold szA hdA;rw[L at_ aa,Wg (λe=>hne e.symm),Wj aa];rw[show a+(at_-at_)=a by omega]
 have H:=g.this;have hk0:∀i,0<=i->(pg w'.h.p i).k=0->i≠j/\(pg w.h.p i).k=0:=by
  intro i B hk;have z:i≠j:=by rintro rfl;rw[H.1]at hk;cases hk
  rw[g.other i B z]at hk;exact⟨z,hk⟩
 have htk:∀i∈w'.t,i=j\/(i∈w.t/\i≠j):=by
  intro i B;by_cases z:i=j
  .exact .inl z
  right;refine⟨?_,z⟩;rcases g.way with⟨_,g2,_⟩|⟨_,g2,_⟩
  .rwa[g2]at B
  rw[g2]at B;rcases Ws.1 B with B|B
  .exact B
  exact absurd (WM.1 B) z
 have hqe:w'.q=w.q:=g.queue;refine⟨i1,i2,aa,aa,?_⟩;have hO:OJ h0 l {w' with h:={w'.h with w:=(ovr w.h.w ((w.h.w.drop (ix a)).take n.toNat) (ix at_)).set (ix a) v},q:=w'.q++[at_],r:=rp} (λx=>O x\/x=at_) (λx=>if x=at_ then n else s x):=by
  have ne:∀x,O x->x≠at_:=λx f e=>fresh (e▸f);refine⟨λx f=>?_,λx f=>?_,λx f=>?_,λx y f I hxy=>?_,λx f i B=>?_,λx f i g1 g2 g3=>?_⟩
  .have⟨q1,q2⟩:=E.old x f;exact⟨.inl q1,by rw[Wg (ne x q1)];exact q2⟩
  .rcases Ws.1 f with f|f
   .rw[hqe]at f;exact .inl (E.queue x f)
   exact .inr (WM.1 f)
  .rw[G];rcases f with f|rfl
   .rw[Wg (ne x f)];have⟨f1,f2,f3,f4⟩:=E.fit x f;exact⟨f1,f2,f3,hsz x f⟩
   rw[Wj rfl,M];omega
  .rcases f with f|rfl
   .rcases I with I|rfl
    .rw[Wg (ne x f),Wg (ne y I)];exact E.apart x y f I hxy
    have:=K x f;omega
   rcases I with I|rfl
   .have:=K y I;omega
   exact absurd rfl hxy
  .rcases htk i B with rfl|⟨J,Q⟩
   .rw[H.2];rcases f with f|rfl
    .have:=away x f;omega
    omega
   have⟨t1,t2,t3,t4,t5⟩:=A.tk i J;rw[g.other i t1 Q];rcases f with f|rfl
   .rw[Wg (ne x f)];exact E.taken x f i J
   by_cases R:i<j
   .have:=Vw hp.conf (o:=h0.c.W) (p:=u) R aa u0;have e:Xb h0.c (i+1) 0=Xb h0.c i h0.c.W:=by unfold Xb;rw[Ou,Int.one_mul];omega
    omega
   have:=Vw hp.conf (i:=j) (j:=i) (o:=u+n) (p:=(pg w.h.p i).u) aa aa t4;omega
  have⟨k1,k2⟩:=hk0 i g1 g3;rcases f with f|rfl
  .rw[Wg (ne x f)];exact E.free x f i g1 (by rw[←g.plen];exact g2) k2
  by_cases R:i<j
  .right;have:=Vw hp.conf (o:=h0.c.W) (p:=u) R aa u0;have e:Xb h0.c (i+1) 0=Xb h0.c i h0.c.W:=by unfold Xb;rw[Ou,Int.one_mul];omega
   omega
  left;have:=Vw hp.conf (i:=j) (j:=i) (o:=u+n) (p:=0) aa aa aa;omega
 refine⟨⟨?_,?_,?_,?_,?_,λi B=>?_,?_,λx f=>?_,?_,⟨_,_,hO⟩⟩,⟨_,_,hO,λx f=>⟨.inl f,?_⟩⟩,g.scanned,?_⟩
 .exact g.conf.trans A.conf
 .exact G.trans A.wlen
 .exact g.plen.trans A.plen
 .exact g.space.trans A.spc
 .exact(by show w'.o.Sublist l;rw[g.old];exact A.old)
 .show 0<=i/\i<w'.h.p.length/\(pg w'.h.p i).k=1/\0<=(pg w'.h.p i).u/\(pg w'.h.p i).u<=h0.c.W;rw[g.plen];rcases htk i B with rfl|⟨J,Q⟩
  .rw[H.1,H.2];omega
  have:=A.tk i J;rw[g.other i this.1 Q];exact this
 .show w'.t.Nodup;rcases g.way with⟨_,g2,_⟩|⟨g1,g2,_⟩
  .rw[g2];exact A.tnd
  rw[g2,U6];refine⟨A.tnd,ab,λx f y I=>?_⟩;rw[WM.1 I];rintro rfl;rw[(A.tk x f).2.2.1]at g1;cases g1
 .show(pg w'.h.p _).k=_;have D:=A.knd x f;have S:=U x f;by_cases z:pgi h0.c x=j
  .rw[z]at D S⊢;rw[H.1];rcases g.way with⟨g1,_,_⟩|⟨g1,_,_⟩
   .rw[(A.tk j g1).2.2.1]at D;exact D
   rw[g1]at D;rw[←D]at S;rcases S with h|h<;>cases h
  rw[g.other _ (hpr x f) z];exact D
 .show(w'.q++[at_]).Nodup;rw[hqe,U6];refine⟨A.qnd,ab,λx f y I=>?_⟩;rw[WM.1 I];rintro rfl;exact fresh (E.queue x f)
 .show(if x=at_ then n else s x)=s x;exact Wg (λe=>fresh (by rw[←e];exact f))
 simp_all
structure Start(N:Nat)(h0:Wp)(l:List Int):Prop where
 hb:HB h0
 good:l≠[]->OR N h0
 prop:l≠[]->UP h0
 st:Oy N h0 l
def XmD(a:Int)(h0:0<=a)(e:a<4294967296):wU (wU (4*a)+2) % 4=2:=by rw[Xz (n:=4*a) aa aa,Xz aa aa];omega
def YR{l:List Int}{a:Int}(h:l.contains a=false):a∉l:=by simp_all
def Yp{l:List Int}{a:Int}(h:l.contains a=true):a∈l:=by simp_all
def CI.wl{w:W8}(hb:HB h0)(e:CI h0 l w):w.h.w.length<=BIG:=by have:=hb.1;have:=e.wlen;unfold BIG;omega
def Xa6(hN:NB N)(t:Start N h0 l){w:W8}{O:Int->Prop}{s:Int->Int}(g:CI h0 l w)(o:OJ h0 l w O s)(a:Int):Ok (Qce N w a) λr=>r.2.2=0->O5 h0 l w r.1 O s:=by
 have Q:=hN;unfold NB at Q;have hb:=t.hb;have hql:=g.ql hb;have G:=g.wl hb;have hww:=g.wlen;have hpl:=g.plen;have same:O5 h0 l w w O s:=⟨g,⟨O,s,o,λ_ h=>⟨h,rfl⟩⟩,rfl,Uu _⟩
 refine Wo (λ_=>Wd λ_=>same) λ_=>?_;rw[Ym a aa aa,Xa];refine Wo (λ_=>Wd λ_=>same) λM=>?_;have M:=YR M;have hol:=g.old.length_le;have hsl:=t.st.len;rw[Ym a aa aa,Xa];refine Wo (λ_=>Wd λe=>by grind) λf=>?_;have f:a∈l:=g.old.subset (Yp (by simp_all));have H:l≠[]:=List.ne_nil_of_mem f;have hp:=t.prop H;have hg:=t.good H;have R:=t.st.obj.at_ a f;have hwd0:=hp.words;have hpg0:=hp.pages;have hvc:=Xi.1 hp.conf;have z:=R.rng;have⟨_,S,q1,_⟩:=Yv hp.conf z;have I:inW w.h.w a:=by unfold inW;omega
 rw[YX G,Xa,Wj I,Xau,Xa];have U:QcI N w.h.c a=some (pgi h0.c a,pgo h0.c a,0):=by rw[VK,g.conf,hp.conf,Wg ab,Wj z];rfl
 rw[U,Xa];refine Wo (λ_=>Wd λ_=>same) λ_=>?_;refine Wo (λ_=>Wd λe=>by grind) λ_=>?_;refine Wo (λ_=>Wd λe=>by grind) λ_=>?_;refine WQ (Xcv hN (g.tl hb) _) λb _ _=>Wo (λ_=>?_) λ_=>?_
 .rw[QdC,Xe aa,Xe aa,Xa];exact Wd λ_=>g.push o (o.old a f).1 M _
 refine Ok.get S aa λp B=>Wo (λ_=>?_) λhk2=>?_
 .refine Uk aa (Ok.get S aa λp B=>?_);have D:=YB B;subst D;rw[Xf (n:=pgi h0.c a+1) aa aa];refine WQ (Xii w a (ps:=w.h.p) aa N (pgi h0.c a+1) _ aa aa aa ((SameK.refl _).set S aa _ _)) λqs _ J=>?_;rw[QdC,Xe (by grind),Xe (by grind),Xa];refine Wd λ_=>?_;have q:=λV=>(g.pages J).push (o.pages g J) (o.old a f).1 M V;exact⟨(q _).ci,(q _).ob,(q w.r).sc,(q w.r).ql⟩
 have D:=YB B;have A:∀x∈l,(pg h0.p (pgi h0.c x)).k=1\/(pg h0.p (pgi h0.c x)).k=2:=λx W=>(t.st.obj.at_ x W).kind;have Y:∀x∈l,0<=pgi h0.c x:=λx W=>(Yv hp.conf (t.st.obj.at_ x W).rng).2.1;have Z:(pg h0.p (pgi h0.c a)).k=1:=by
  rcases A a f with h|h
  .omega
  exfalso;rw[←g.knd a f,D]at h;grind
 have hsz:=hg.sz t.st f Z;have hso:=(o.old a f).2;have hfit:=o.fit a (o.old a f).1;have E:=XJ w.h.w a;rw[K9,Xa,Yr,Xa];have e1:Xy (Z0 (w.h.w.getD (ix a) 0))=szA w.h.w a:=E.1;rw[e1];refine WQ (Xg0 hN hb hp g (n:=szA w.h.w a) E.2.1 aa) λy _ hy=>Wo (λ_=>Wd λe=>by grind) λhy2=>?_;have⟨j,u,pq⟩:=hy (by grind);have q:=λv hv V=>Xrx (n:=szA w.h.w a) hp A Y g o f rfl E.2.1 pq v hv V;have⟨i1,i2,a1,a2,_⟩:=q 2 rfl y.1.r;rw[pq.words];have en:szA w.h.w a=(((szA w.h.w a).toNat:Nat):Int):=aa;have K:=Xjd (N:=N) G y.2.1 a (szA w.h.w a).toNat aa aa;rw[←en,Wj ⟨i1,i2⟩]at K;rw[K,Xa,Xdu,Xa,Wg aa];have ol:=XcP i1 i2;rw[Vb (by grind) aa,Xa];have L:inW (ovr w.h.w ((w.h.w.drop (ix a)).take (szA w.h.w a).toNat) (ix y.2.1)) a:=by unfold inW;rw[ol];exact I
 rw[Wj L];have hqe:=pq.queue;refine Uk (by grind) (Uk (by grind) (Wd λ_=>?_));exact(q _ (XmD y.2.1 aa aa) _).2.2.2.2
end
section
variable {N:Nat}{h0:Wp}{l:List Int}
def XdB(h:Wp)(y:List Int×Int)(j:h.p.length<=100000):∀(n:Nat) (i:Int) (e:List WJ),0<=i->i<=h.p.length->(h.p.length-i).toNat<n->SameK h.p e->Ok (Qch N h y n i e) λr=>SameK h.p r
 |0,i,e,_,_,o,_=>by omega
 |n+1,i,e,h0,s,o,g=>by
  have t:=g.1;refine Uk aa (Wo (λf=>?_) λ_=>Wd g);have f:i<e.length:=WA f;rw[Xf (n:=i+1) aa aa];have next:=XdB h y j n (i+1) e aa aa aa g
  refine Ok.get h0 f λp hp=>Wo (λ_=>Wo (λ_=>Ok.get h0 f λp hp=>?_) λ_=>next) λ_=>next
  have q:=YB hp;subst q;exact XdB h y j n (i+1) _ aa aa aa (g.set h0 f _ _)
def Xik{h:Wp}(hp:UP h){a:Int}(f:I5 h a){j:Int}(u:0<=j)(x:(pg h.p j).k=0):a+szA h.w a<=Xb h.c j 0\/Xb h.c (j+1) 0<=a:=by
 have⟨k,k1,k2,y,r⟩:=XcO hp f;have⟨z,A,B,s,D⟩:=Yv hp.conf f.rng;have t:=f.kind;by_cases g:j<pgi h.c a
 .have:=Vw hp.conf (o:=h.c.W) (p:=pgo h.c a) g aa s;have e:Xb h.c (j+1) 0=Xb h.c j h.c.W:=by unfold Xb;rw[Ou,Int.one_mul];omega
  omega
 by_cases E:j=pgi h.c a
 .grind
 by_cases q:j<pgi h.c a+k
 .have:=r (j-pgi h.c a) aa aa;grind
 have:(pgi h.c a+k)*h.c.W<=j*h.c.W:=UF aa aa;have G:Xb h.c (pgi h.c a+k) 0=4096+(pgi h.c a+k)*h.c.W+0:=rfl;have H:Xb h.c j 0=4096+j*h.c.W+0:=rfl;omega
def Xg1{h:Wp}(hb:HB h)(hp:UP h){l:List Int}(g:Oy N h l){w:W8}(A:w.h.c=h.c)(B:w.h.w=h.w)(e3:w.h.s=h.s)(r:SameK h.p w.h.p)(e4:w.o.Sublist l)(G:w.t=[])(H:w.q=[]):CI h l w:=by
 have D:OJ h l w (λa=>a∈l) (szA h.w):=by
  refine⟨λa e=>⟨e,rfl⟩,λa e=>(by simp_all),λa e=>?_,λa b e u E=>?_,λa e j y=>(by simp_all),λa e j f I z=>?_⟩
  .rw[B];have f:=g.obj.at_ a e;exact⟨f.rng.1,(XJ h.w a).2.1,JK hp f,Uo _⟩
  .have x:=g.obj.pw;rw[Uf]at x;have⟨i,J,K⟩:=Wv e;have⟨j,y,L⟩:=Wv u;grind
  rw[(r.2 j f).1]at z;exact Xik hp (g.obj.at_ a e) f z
 refine⟨A,by grind,r.1,e3,e4,λj y=>(by simp_all),by simp_all,λa e=>?_,by simp_all,⟨_,_,D⟩⟩;exact(r.2 _ (Yv hp.conf (g.obj.at_ a e).rng).2.1).1
def zW:W8:=⟨zH,[],[],[],0,⟨0,0,0,0,0,0⟩⟩
def XmE(N:Nat):Start N zH []:=⟨KB,λh=>absurd rfl h,λh=>absurd rfl h,Oy.nil N zH⟩
def XsC:CI zH [] zW:=by refine⟨rfl,rfl,rfl,rfl,.refl _,λj f=>(by cases f),List.nodup_nil,λa e=>(by rfl),List.nodup_nil,⟨λ_=>False,λ_=>0,?_⟩⟩;exact⟨λa e=>(by grind),λa e=>(by cases e),λa e=>e.elim,λa b e=>e.elim,λa e=>e.elim,λa e=>e.elim⟩
structure Sc(N:Nat)(h:Wp)(l:List Int)(w:W8):Prop where
 st:Start N h l
 ci:CI h l w
 sc:w.d=0
 pr:UP h\/h.p=[]
def XmF(hN:NB N){h:Wp}(hb:HB h):Ok (Qeb N h) λr=>∃e l,Sc N e l r.1:=by
 have f:=hN;unfold NB at f;have g:=hb.2;have zero:∃e l,Sc N e l zW:=⟨zH,[],XmE N,XsC,rfl,.inr rfl⟩
 refine WQ (Y2 (N:=N) aa hb.1 hb.2) λb eb hp=>Wo (λ_=>Wd zero) λs=>?_;have hp:=hp (by simp_all);refine WQ (Jd hN hb) λb _ j=>Wo (λ_=>Wd zero) λg=>?_;have j:=j (by simp_all);refine WQ (KF hN hb) λy _ q=>Uk aa ?_;refine WQ (XdB h y aa N 0 h.p aa aa aa (SameK.refl _)) λt _ o=>Wd ?_;exact⟨h,y.1,⟨hb,λ_=>j,λ_=>hp,q.1⟩,Xg1 hb hp q.1 rfl rfl rfl o (.refl _) rfl rfl,rfl,.inl hp⟩
def Xg2(hN:NB N)(B:Start N h0 l)(rs:List Int)(D:rs.length<=1000000):∀(n:Nat) (i:Int) (w:W8) (out:List Int),0<=i->i<=rs.length->(rs.length-i).toNat<n->CI h0 l w->(out.length:Int)=i ->
 Ok (QbD N rs n i w.h.c.W w.h.c.p w.h.w w.h.p w.h.s w.h.b w.o w.t w.q w.d w.r.j w.r.K w.r.F w.r.E w.r.f w.r.y out) λe=>match e with
  |.ret r=>r.2.2≠0
  |.nxt t=>∃(w':W8) (g:List Int),CI h0 l w'/\w'.d=w.d/\g.length=rs.length/\t=(w'.h.c.W,w'.h.c.p,w'.h.w,w'.h.p,w'.h.s,w'.h.b,w'.o,w'.t,w'.q,w'.d,w'.r.j,w'.r.K,w'.r.F,w'.r.E,w'.r.f,w'.r.y,g)
 |0,i,w,out,_,_,G,_,_=>by omega
 |n+1,i,w,out,H,Q,G,x,R=>by
  refine Wo (λu=>?_) λu=>Wd ⟨w,out,x,rfl,by grind,rfl⟩;have u:i<rs.length:=WA u;rw[Xf (n:=i+1) aa aa];have⟨O,s,z⟩:=x.obj;refine Ok.get H u λp hp=>WQ (Xa6 hN B x z p) λy _ I=>Wo (λA=>Wd (by simp_all)) λA=>?_;have q:=I (by simp_all);refine Uk aa ((Xg2 hN B rs D n (i+1) y.1 (out++[y.2.1]) aa aa aa q.ci (by simp_all)).mono λe A=>?_);cases e with
  |ret r=>omega
  |nxt t=>have⟨w',o',c1,J,L,M⟩:=A;exact⟨w',o',c1,J.trans q.sc,L,M⟩
def XmG(hN:NB N)(g:Start N h0 l){rs:List Int}(h:rs.length<=1000000){w:W8}(j:CI h0 l w):Ok (QeT N w rs) λr=>r.2.2=0->CI h0 l r.1/\r.1.d=w.d/\r.2.1.length=rs.length:=by have f:=hN;unfold NB at f;refine Oa (Xg2 hN g rs h N 0 w [] aa aa aa j rfl) (λa q=>Wd λe=>absurd e q) λb q=>Wd λ_=>?_;obtain⟨w',o',c1,o,p,rfl⟩:=q;exact⟨c1,o,p⟩
end
def YC{d:WH}{x:Int}(h:x∈XN d):0<=x/\x<d.n:=by
 unfold XN at h;by_cases e:XM d=true
 .rw[Wj e]at h;have:=Ja h;omega
 simp_all
def Xaw(d:WH):(XN d).length<=255:=by
 unfold XN;by_cases e:XM d=true
 .rw[Wj e];have:=Vv (d:=d) (k:=d.n.toNat) (i:=0);have:=XO e;omega
 simp_all
section
variable {N:Nat}{h0:Wp}{l:List Int}
def Xjk{w:W8}{O:Int->Prop}{s:Int->Int}(e:CI h0 l w)(f:OJ h0 l w O s){p x:Int}(hp:O p)(u:p<x)(y:x<p+s p)(v:Int):
 inW w.h.w x/\CI h0 l {w with h:={w.h with w:=w.h.w.set (ix x) v}}/\OJ h0 l {w with h:={w.h with w:=w.h.w.set (ix x) v}} O s:=by
 have z:=f.fit p hp;have g:inW w.h.w x:=by unfold inW;omega
 have j:OJ h0 l {w with h:={w.h with w:=w.h.w.set (ix x) v}} O s:=by
  refine⟨f.old,f.queue,λa o=>?_,f.apart,f.taken,f.free⟩;show 4096<=a/\1<=s a/\a+s a<=4096+(w.h.w.set (ix x) v).length/\szA (w.h.w.set (ix x) v) a<=s a;obtain⟨f1,f2,q,r⟩:=f.fit a o;rw[Ww];refine⟨f1,f2,q,?_⟩;have:a≠x:=by
   rintro rfl;by_cases t:a=p
   .omega
   have:=f.apart a p o hp t;omega
  unfold szA hdA at *;rw[XdA g f1,Wg this];exact r
 refine⟨g,⟨e.conf,?_,e.plen,e.spc,e.old,e.tk,e.tnd,e.knd,e.qnd,⟨O,s,j⟩⟩,j⟩;rw[Ww];exact e.wlen
def Xjl(hN:NB N)(g:Start N h0 l){p:Int}{ks:List Int}(B:ks.length<=255):∀(n:Nat) (i:Int) (w:W8) (O:Int->Prop) (s:Int->Int),0<=i->i<=ks.length->(ks.length-i).toNat<n->CI h0 l w->OJ h0 l w O s->O p->(∀k∈ks,0<=k/\k<255/\k+1<s p) ->
 Ok (QbL N p ks n i w.h.c.W w.h.c.p w.h.w w.h.p w.h.s w.h.b w.o w.t w.q w.d w.r.j w.r.K w.r.F w.r.E w.r.f w.r.y) λe=>match e with
  |.ret r=>r.2.2≠0
  |.nxt t=>∃(w':W8),CI h0 l w'/\w'.d=w.d/\w.q.length<=w'.q.length/\t=(w'.h.c.W,w'.h.c.p,w'.h.w,w'.h.p,w'.h.s,w'.h.b,w'.o,w'.t,w'.q,w'.d,w'.r.j,w'.r.K,w'.r.F,w'.r.E,w'.r.f,w'.r.y)
 |0,i,w,O,s,_,_,M,_,_,_,_=>by omega
 |n+1,i,w,O,s,Q,hi,M,z,L,hp,R=>by
  have D:=hN;unfold NB at D;have S:=g.hb.1;refine Wo (λA=>?_) λA=>Wd ⟨w,z,rfl,Uu _,rfl⟩;have A:i<ks.length:=WA A;rw[Xf (n:=i+1) aa aa];refine Ok.get Q A λk G=>?_;have H:=YI G;have⟨k0,k1,k2⟩:=R k H;have hf:=L.fit p hp;have U:=z.wlen;rw[Xz (n:=p+1) aa aa,Xz (n:=k) aa aa,Xz (n:=p+1+k) aa aa];rw[YX (z.wl g.hb),Xa];refine WQ (Xa6 hN g z L _) λy _ V=>Wo (λI=>Wd (by simp_all)) λI=>?_;have q:=V (by simp_all);have⟨O',Y,J,Z⟩:=q.ob;have⟨u,hs'⟩:=Z p hp;have st:=Xjk q.ci J u (x:=p+1+k) aa aa y.2.1;rw[Vb (q.ci.wl g.hb) aa,Xa,Wj st.1];refine(Xjl hN g B n (i+1) _ O' Y aa aa aa st.2.1 st.2.2 u (λk' hk'=>by simp_all)).mono λe I=>?_;cases e with
  |ret r=>omega
  |nxt t=>have⟨w',c1,c2,c3,c4⟩:=I;exact⟨w',c1,c2.trans q.sc,Ii q.ql c3,c4⟩
def Xpr(hN:NB N)(E:Start N h0 l){w:W8}(g:CI h0 l w)(j:0<=w.d)(u:w.d<=w.q.length):Ok (QeI N w) λr=>r.2.2=0->CI h0 l r.1/\0<=r.1.d/\r.1.d<=r.1.q.length/\(r.2.1=true->r.1.d=w.d+1):=by
 have x:=hN;unfold NB at x;have hb:=E.hb;have G:=g.ql hb;refine Wo (λ_=>Wd λ_=>⟨g,j,u,λe=>by grind⟩) λf=>?_;have f:w.d<w.q.length:=by have:=W5 f;omega
 refine Ok.get j f λp hp=>?_;have y:=YI hp;have⟨O,s,z⟩:=g.obj;have o:=z.queue p y;have J:=z.fit p o;have A:inW w.h.w p:=by unfold inW;omega
 rw[Qec,YX (g.wl hb),Xa,Wj A,K9,Xa,Xa,XgP aa,Xa];have B:=Xaw (hdA w.h.w p);have D:=XO (Jy (wd w.h.w p));refine Oa (Xjl hN E (p:=p) (ks:=XN (hdA w.h.w p)) B N 0 w O s aa aa aa g z o λk H=>?_) (λa q=>Wd λe=>absurd e q) λt q=>Wd λ_=>?_
 .have K:=YC H;have L:szA w.h.w p=(hdA w.h.w p).n+1:=rfl;have M:(hdA w.h.w p).n<=255:=D.2.2.2;omega
 obtain⟨w',c1,I,Q,rfl⟩:=q;have e:wI (w'.d+1)=w.d+1:=by rw[I,Xf aa aa]
 refine⟨⟨c1.conf,c1.wlen,c1.plen,c1.spc,c1.old,c1.tk,c1.tnd,c1.knd,c1.qnd,?_⟩,?_,?_,λ_=>e⟩
 .have⟨O,s,h⟩:=c1.obj;exact⟨O,s,⟨h.old,h.queue,h.fit,h.apart,h.taken,h.free⟩⟩
 .show 0<=wI (w'.d+1);omega
 grind
def XmH(hN:NB N)(g:Start N h0 l):∀(n:Nat) (w:W8),CI h0 l w->0<=w.d->w.d<=w.q.length->(100001-w.d).toNat<n ->
 Ok (Qcs N n w.h.c.W w.h.c.p w.h.w w.h.p w.h.s w.h.b w.o w.t w.q w.d w.r.j w.r.K w.r.F w.r.E w.r.f w.r.y) λr=>r.2=0->CI h0 l r.1
 |0,w,_,_,_,z=>by omega
 |n+1,w,A,B,g1,z=>by refine WQ (Xpr hN g A B g1) λy _ D=>Wo (λG=>Wd λe=>absurd e (by simp_all)) λG=>?_;have⟨u,H,I,x⟩:=D (by simp_all);refine Wo (λ_=>Wd λ_=>u) λhb=>?_;have x:y.1.d=w.d+1:=x (by simp_all);have:=u.ql g.hb;exact XmH hN g n y.1 u H I aa
def Xry(hN:NB N)(f:Start N h0 l){w:W8}(g:CI h0 l w)(h:0<=w.d)(g1:w.d<=w.q.length):Ok (QfU N w) λr=>r.2=0->CI h0 l r.1:=by have e:=hN;unfold NB at e;exact WQ (XmH hN f N w g h g1 aa) λy _ j=>Wd j
def XmI(hN:NB N)(f:Start N h0 l){w:W8}(g:w.q.length<=100000)(hw:w.h.w.length<=BIG)(a:Int):Ok (QdE N w a) λ_=>True:=by have e:=hN;unfold NB at e;rw[QdE,Ym a aa aa,Xa];refine Wo (λ_=>Wd trivial) λ_=>?_;rw[YX hw,Xa,Xau,Xa];exact Wd trivial
def XfN(hN:NB N){w:W8}(hb:HB h0)(z:CI h0 l w){s:Int->Int}(t:w.o.length<=4096)(q:w.o.Pairwise λa b=>a+s a<=b)(f:∀a∈w.o,4096<=a/\1<=s a/\a+s a<=4096+h0.w.length):∀(n k:Nat) (v:List Int) (c:Int),k<=w.o.length->w.o.length-k<n->v.length=h0.w.length->(∀a∈w.o.drop k,szA v a<=s a) ->
 Ok (QaJ N w n (k:Int) v c) λr=>r.1.length=h0.w.length
 |0,k,v,c,_,O,_,_=>by omega
 |n+1,k,v,c,Y,O,B,L=>by
  have D:=hN;unfold NB at D;have Q:=hb.1;have R:=z.ql hb;have E:=z.tl hb;refine Wo (λu=>?_) λ_=>Wd B;have u:k<w.o.length:=by have:=WA u;omega
  have g:(k:Int)<w.o.length:=aa;have hdr:=Wm u;rw[Xf (n:=(k:Int)+1) aa aa,show((k:Int)+1)=((k+1:Nat):Int) by omega];have M:∀p,Xd w.o (k:Int)=some p->p=w.o[k]:=by intro p hp;rw[Xc,Wb u]at hp;exact(WT hp).symm
  have next:Ok (QaJ N w n ((k+1:Nat):Int) v c) λr=>r.1.length=h0.w.length:=
   XfN hN hb z t q f n (k+1) v c aa aa B λa A=>L a (by rw[hdr];exact WC _ A)
  refine Ok.get aa g λp hp=>?_;rw[VK,Xa];refine WQ (Xcv hN (w:={w with h:={w.h with w:=v},r:=⟨_,_,_,_,_,_⟩}) E _) λb _ _=>Wo (λ_=>next) λ_=>?_;refine Ok.get aa g λp hp=>?_;rw[Ym p aa aa,Xa];refine Wo (λ_=>next) λ_=>Ok.get aa g λp hp=>?_;have j:=M p hp;have G:p∈w.o:=by rw[j];exact Wt u
  have⟨f1,f2,Z⟩:=f p G;have S:=L p (by rw[hdr,←j];exact IM);have H:inW v p:=by unfold inW;omega
  have U:=XJ v p;rw[Qec,YX (by show v.length<=BIG;unfold BIG;omega),Xa,Wj H,K9,Xa,Xa,Xbu,Xa];refine Ok.get aa g λp' I=>?_;obtain rfl:p=p':=j.trans (M p' I).symm;have e1:szA v p=(hdA v p).n+1:=rfl;have J:(Z0 (v.getD (ix p) 0)).n=(hdA v p).n:=rfl;refine Uk (by rw[J];omega) (Uk (by rw[J];omega) ?_);have e:∀x:Int,([x]++List.replicate (Z0 (v.getD (ix p) 0)).n.toNat (0:Int)).length=(szA v p).toNat:=by intro x;rw[Wu,WO,J];simp only[Uq,Ib];omega
  rw[Va (by unfold BIG;omega) (by rw[e];unfold BIG;omega) (by rw[e];omega),Xa,e,Wj (by unfold YZ;omega)];have K:∀x:Int,(ovr v ([x]++List.replicate (Z0 (v.getD (ix p) 0)).n.toNat (0:Int)) (ix p)).length=v.length:=by intro x;apply Kf;rw[e];unfold ix;omega
  refine XfN hN hb z t q f n (k+1) _ _ aa aa ((K _).trans B) λa A=>?_;have V:a∈w.o:=Ud A;have W:p+s p<=a:=by have y:=q.drop (i:=k);rw[hdr,IL]at y;rw[j];exact y.1 a A
  have:∀x:Int,szA (ovr v ([x]++List.replicate (Z0 (v.getD (ix p) 0)).n.toNat (0:Int)) (ix p)) a=szA v a:=by intro x;unfold szA hdA wd;rw[Xbt (by rw[e];unfold ix;omega),e,Wg];unfold ix;have:p+szA v p<=a:=aa;omega
  grind
def Xps(hN:NB N)(j:Start N h0 l){w:W8}(e:CI h0 l w):Ok (Qfm N w) λr=>r.h.c=h0.c/\r.h.w.length=h0.w.length/\r.h.p=w.h.p/\r.h.p.length=h0.p.length/\r.t.length<=100000:=by
 have q:=hN;unfold NB at q;have hb:=j.hb;have⟨O,s,f⟩:=e.obj;have u:w.o.Pairwise λa b=>a+s a<=b:=by refine List.Pairwise.imp_of_mem ?_ (j.st.obj.pw.sublist e.old);intro a b g _ h;rw[(f.old a (e.old.subset g)).2];exact h
 have x:=Ii e.old.length_le j.st.len;have y:=e.wlen;have:=XfN hN (w:=w) hb e (s:=s) x u (λa g=>by have:=f.fit a (f.old a (e.old.subset g)).1;omega) N 0 w.h.w w.r.F aa aa y λa g=>(f.fit a (f.old a (e.old.subset (Ud g))).1).2.2.2;have z:w.t.length<=100000:=e.tl hb;refine WQ this λr _ A=>Wd ⟨e.conf,A,rfl,e.plen,z⟩
def Xjm{w:W8}(e:List WJ)(f:WJ)(i c:Int)(hp:UP h0)(g:w.h.c=h0.c)(j:0<=i)(g1:i<h0.c.p):∀(n:Nat) (k:Int) (v:List Int),0<=k->(65-k).toNat<n->v.length=h0.w.length->Ok (Qby N w e f i c n k v) λr=>r.length=h0.w.length
 |0,k,v,_,q,_=>by omega
 |n+1,k,v,k0,q,s=>by have t:=Xi.1 hp.conf;have u:=XV hp.conf j g1;have hw:=hp.words;rw[Qby,g];refine Wo (λo=>?_) λ_=>Wd s;have o:k<h0.c.W:=WA o;rw[Xf (n:=k+1) aa aa,Xf (n:=i*h0.c.W) aa aa,Xf (n:=i*h0.c.W+k) aa aa];refine Ok.get aa aa λp _=>Xjm e f i c hp g j g1 n (k+1) _ aa aa (by simp_all)
def XfO(hN:NB N){w:W8}(hb:HB h0)(hp:UP h0\/h0.p=[])(g:w.h.c=h0.c):∀(n:Nat) (i c:Int) (v:List Int) (ps:List WJ),0<=i->i<=h0.p.length->(h0.p.length-i).toNat<n->v.length=h0.w.length->ps.length=h0.p.length->Ok (Qa4 N w n i c v ps) λr=>r.2.1.length=h0.w.length/\r.2.2.length=h0.p.length
 |0,i,c,v,ps,_,_,s,_,_=>by omega
 |n+1,i,c,v,ps,j,y,s,o,e=>by
  have q:=hN;unfold NB at q;have t:=hb.2;refine Uk aa (Wo (λf=>?_) λ_=>Wd ⟨o,e⟩);have f:i<ps.length:=WA f;rw[Xf (n:=i+1) aa aa];have next:=XfO hN (w:=w) hb hp g n (i+1) c v ps aa aa aa o e
  refine Ok.get j f λp _=>Wo (λ_=>next) λ_=>Wo (λ_=>next) λ_=>Ok.get j f λz _=>?_;rcases hp with hp|hp
  .have u:=hp.pages;refine WQ (Xjm ps p i c hp g j aa N 0 v aa aa o) λr _ x=>?_;exact XfO hN hb (.inl hp) g n (i+1) _ r _ aa aa aa x (by rw[Ww];exact e)
  grind
def Xpt(hN:NB N){w:W8}(hb:HB h0)(hp:UP h0\/h0.p=[])(g:w.h.c=h0.c)(hw:w.h.w.length=h0.w.length)(e:w.h.p.length=h0.p.length):Ok (Qfl N w) λr=>HB r.h/\r.t=w.t:=by
 have f:=hN;unfold NB at f;have j:=hb.1;have o:=hb.2;refine Uk aa (Uk aa (WQ (XfO hN hb hp g N 0 _ _ _ aa aa aa hw e) λr _ q=>Wd ⟨⟨?_,?_⟩,rfl⟩))
 .show r.2.1.length<=_;omega
 simp_all
def Xjn(hN:NB N)(f:Start N h0 l)(ws:List Int)(q:ws.length<=1000000)(j:W8×List Int×Int)(g:W8×Int)(h:CI h0 l g.1):∀(n:Nat) (i c:Int) (out:List Int),0<=i->i<=ws.length->(ws.length-i).toNat<n->(out.length:Int)=i->Ok (QaU N ws j g n i c out) λr=>r.2.length=ws.length
 |0,i,c,out,_,_,s,_=>by omega
 |n+1,i,c,out,o,u,s,z=>by
  refine Wo (λe=>?_) λe=>Wd (by grind);have e:i<ws.length:=WA e;rw[Xf (n:=i+1) aa aa];have next:=λt x=>Xjn hN f ws q j g h n (i+1) t (out++[x]) aa aa aa (by simp_all)
  refine Ok.get o e λp _=>IP (Wo (λ_=>Ok.get o e λp _=>?_) λ_=>Uk aa (next _ _));refine WQ (XmI hN f (w:=⟨_,_,_,_,_,_⟩) (h.ql f.hb) (h.wl f.hb) p) λy _ _=>IP (Wo (λ_=>Uk aa (next _ _)) λ_=>Uk aa (next _ _))
structure Sa(rs ws:List Int)(r:Wp×List Int×List Int×UI×Int):Prop where
 hb:HB r.1
 len:r.2.2.2.2=0->r.2.1.length=rs.length/\r.2.2.1.length=ws.length
 no:r.2.2.2.2≠0->r.2.1=[]/\r.2.2.1=[]
def Qn3(hN:NB N){h:Wp}(hb:HB h){rs ws:List Int}(Q:rs.length<=1000000)(hw:ws.length<=1000000):Ok (Qdd N h rs ws) (Sa rs ws):=by
 have I:=hN;unfold NB at I;have bad:∀e:Int,e≠0->Sa rs ws (zH,[],[],⟨0,0,0,0,0,0⟩,e):=λe A=>⟨KB,λh=>absurd h A,λ_=>⟨rfl,rfl⟩⟩
 refine WQ (Y2 (N:=N) aa hb.1 hb.2) λb _ _=>Wo (λ_=>Wd (bad 1 ae)) λ_=>IP ?_;refine WQ (Xb4 hN hb Q) λb _ _=>Wo (λ_=>Wd (bad 19 ae)) λ_=>?_;refine WQ (Xb4 hN hb hw) λb _ _=>Wo (λ_=>Wd (bad 19 ae)) λ_=>?_;refine WQ (XmF hN hb) λy4 _ J=>?_;have⟨R,l,H⟩:=J;have B:=H.st;refine WQ (XmG hN B Q H.ci) λS _ L=>Wo (λA=>Wd (bad _ (by simp_all))) λA=>?_;have⟨c1,c2,U⟩:=L (by simp_all);have V:=H.sc;refine WQ (Xry hN B c1 aa aa) λg _ M=>Wo (λA=>Wd (bad _ (by simp_all))) λA=>?_;have u:=M (by simp_all);refine WQ (Xjn hN B ws hw S g u N 0 _ [] aa aa aa rfl) λD _ G=>?_;have W:CI R l (W8.mk g.1.h g.1.o g.1.t g.1.q g.1.d (UI.mk g.1.r.j g.1.r.K g.1.r.F g.1.r.E D.1 g.1.r.y)):=by obtain⟨O,s,z⟩:=u.obj;exact⟨u.conf,u.wlen,u.plen,u.spc,u.old,u.tk,u.tnd,u.knd,u.qnd,⟨O,s,⟨z.old,z.queue,z.fit,z.apart,z.taken,z.free⟩⟩⟩
 refine WQ (Xps hN B W) λY _ ⟨f1,f2,f3,Z,f5⟩=>?_;refine WQ (Xpt hN (h0:=R) B.hb H.pr f1 f2 Z) λf _ ⟨g1,g2⟩=>?_;have fin:∀x:Int,Sa rs ws ((Wp.mk f.h.c f.h.w f.h.p (wI (1-f.h.s)) x),S.2.1,D.2,f.r,0):=λx=>⟨g1,λ_=>⟨U,G⟩,λh=>absurd rfl h⟩
 refine IP (Wo (λht=>?_) λ_=>Wd (fin _));have ht:0<(f.t.length:Int):=WA ht;rw[g2]at ht⊢;rw[Xf aa aa];exact Ok.get aa aa λp _=>Wd (fin _)
end
def YY{α σ:Type}(q:σ->Nat->α->Bool)(nxp:σ->α->σ):σ->Nat->List α->Bool
 |_,_,[]=>true
 |s,k,x::l=>q s k x&&YY q nxp (nxp s x) (k+1) l
def Zl{α:Type}(q:α->Bool):∀(k:Nat) (l:List α),YY (λ(_:Unit) _ x=>q x) (λs _=>s) () k l=l.all q
 |_,[]=>rfl
 |k,x::l=>by rw[YY,Zl q (k+1) l,U7]
def Vc{α σ:Type}{l:List α}{F:Nat->σ->Int->Option (Ex Bool Unit)}{q:σ->Nat->α->Bool}{nxp:σ->α->σ}{I:σ->Prop}(f:∀(n:Nat) (s:σ) (k:Nat) (p:α),I s->l[k]? = some p->F (n+1) s (k:Int)=bif q s k p then F n (nxp s p) ((k+1:Nat):Int)else some (.ret false))(g:∀(n:Nat) (s:σ),F (n+1) s (l.length:Int)=some (.nxt ()))(j:∀s k p,I s->l[k]? = some p->q s k p=true->I (nxp s p)):∀(n:Nat) (s:σ) (k:Nat),I s->k<=l.length->l.length-k<n->F n s (k:Int)=some (bif YY q nxp s k (l.drop k)then .nxt ()else .ret false)
 |0,s,k,_,_,r=>by omega
 |n+1,s,k,o,u,r=>by
  by_cases h:k<l.length
  .have e:=Wb h;rw[f n s k _ o e,Wm h,YY];cases t:q s k l[k]with
   |false=>rfl
   |true=>exact Vc f g j n _ (k+1) (j s k _ o e t) aa aa
  obtain rfl:k=l.length:=aa;rw[g,WN (Uu _)];rfl
def Kr{α:Type}{l:List α}{F:Nat->Int->Option (Ex Bool Unit)}{q:Nat->α->Bool}(f:∀(n k:Nat) (p:α),l[k]? = some p->F (n+1) (k:Int)=bif q k p then F n ((k+1:Nat):Int)else some (.ret false))(g:∀(n:Nat),F (n+1) (l.length:Int)=some (.nxt ())){n:Nat}(j:l.length<n):F n 0=some (bif YY (λ(_:Unit)=>q) (λs _=>s) () 0 l then .nxt ()else .ret false):=by have h:=Vc (F:=λn (_:Unit) i=>F n i) (q:=λ_=>q) (nxp:=λs _=>s) (I:=λ_=>True) (l:=l) (λn s k p _ e=>f n k p e) (λn _=>g n) (λ_ _ _ _ _ _=>trivial) n () 0 trivial aa aa;assumption
def Xm{k n:Nat}(h:k<n):decide ((k:Int)<(n:Int))=true:=Wi aa
def Xv(n:Nat):decide ((n:Int)<(n:Int))=false:=Wh aa
def Xq{α:Type}{l:List α}{k:Nat}{p:α}(h:l[k]? = some p):k<l.length:=(Iq.1 h).1
def Xg{k:Nat}(h:k<=140737488355328):wI ((k:Int)+1)=((k+1:Nat):Int):=by rw[Xf aa aa];omega
def Jz(e:Ul):Bool:=!decide (e.G<1)&&(!decide (e.G>4294967295)&&(e.V||!(e.a != 0)))
def X8(l:List Ul):Bool:=l.all Jz&&decide (l.length<=64)
def Xp(l:List Ul):List Int:=(l.filter (·.V)).map (·.a)
def ZF{N:Nat}{t:W4}(g:t.e.length<=1000000)(hN:1000000<N):Qca N t=some (X8 t.e):=by
 have h:=Kr (l:=t.e) (F:=QcL N t) (q:=λ_=>Jz) (λn k p e=>?_) (λn=>?_) (n:=N) aa
 .rw[Qca,h,Xa,Zl,X8];cases t.e.all Jz
  .rw[Wa,Xs];rfl
  rw[Wc,Xo,WI];congr 1;exact decide_eq_decide.2 aa
 .have f:=Xq e;rw[QcL,Xm f,Wc,Xc,e,Xa,Xg aa];unfold Jz;cases decide (p.G<1)<;>cases decide (p.G>4294967295)<;>cases p.V<;>cases (p.a != 0)<;>rfl
 simp[QcL,Xv,Wa]
def XdC{N:Nat}{t:W4}(f:t.e.length<=1000000)(hN:1000000<N)(g:X8 t.e=true):∀(n k:Nat) (v:List Int),k<=t.e.length->t.e.length-k<n->v.length<=k ->
 Qbx N t n (k:Int) v=some (v++Xp (t.e.drop k))
 |0,k,v,_,j,_=>by omega
 |n+1,k,v,p,j,o=>by
  rw[Qbx];by_cases h:k<t.e.length
  .rw[Xm h,Wc,ZF f hN,Xa,g,Wc,Xc,Wb h,Xa,Xa,Xg aa,Wm h,Xp];cases q:t.e[k].V
   .rw[Wa,XdC f hN g n (k+1) v aa aa aa,UL (by simp_all)];rfl
   rw[Wc,Xe aa,XdC f hN g n (k+1) _ aa aa (by simp_all),UH aa];simp[Xp]
  obtain rfl:k=t.e.length:=aa;simp[Xp]
def Yk{N:Nat}{t:W4}(f:t.e.length<=1000000)(hN:1000000<N):Qbr N t=some (bif X8 t.e then Xp t.e else[]):=by
 rw[Qbr];cases g:X8 t.e
 .obtain⟨m,rfl⟩:∃m,N=m+1:=⟨N-1,aa⟩
  rw[Qbx,ZF f hN,g];by_cases h:0<t.e.length
  .rw[show decide ((0:Int)<(t.e.length:Int))=true from Wi aa,Wc,Xa,Wa,Xa];rfl
  rw[show decide ((0:Int)<(t.e.length:Int))=false from Wh aa,Wa,Xa];rfl
 have h:=XdC f hN g N 0 [] aa aa ab;rw[show((0:Nat):Int)=0 from rfl,WL,Um]at h;simp[h,Xa]
def Xax(l:List Ul):(Xp l).length<=l.length:=by unfold Xp;grind
def KS{l:List Ul}(h:X8 l=true):l.length<=64:=by unfold X8 at h;simp_all
def XmJ{l:List Ul}(h:X8 l=true){e:Ul}(f:e∈l):1<=e.G/\e.G<=4294967295/\(e.V=false->e.a=0):=by unfold X8 at h;rw[Wr,WP]at h;have:=h.1 e f;unfold Jz at this;grind
def Yw(l:List Ul)(i g:Int):Int×Int:=
 if X8 l=false then(0,1)else if i<0\/(l.length:Int)<=i\/g<1 then(0,6)else
 match l[i.toNat]? with
 |none=>(0,6)
 |some e=>if g>e.G then(0,6)else if g<e.G then(0,8)else if e.V then(e.a,0)else(0,8)
def Vx{N:Nat}{t:W4}(h:t.e.length<=1000000)(hN:1000000<N)(i g:Int):QdL N t i g=some (Yw t.e i g):=by
 rw[QdL,ZF h hN,Xa,Yw];cases o:X8 t.e
 .rfl
 simp only[Wl,Wa,US,Bool.true_eq_false,if_false];by_cases h0:i<0
 .simp_all
 by_cases p:i>=(t.e.length:Int)
 .simp_all
 by_cases j:g<1
 .simp_all
 have f:i.toNat<t.e.length:=aa;rw[Wg j,Wg aa,X7 aa aa,Xa,Wb f];simp only[Xa];grind
def YK{α σ:Type}{q:σ->Nat->α->Bool}{nxp:σ->α->σ}:∀(l:List α) (s:σ) (k:Nat),YY q nxp s k l=true↔∀i p,l[i]? = some p->q ((l.take i).foldl nxp s) (k+i) p=true
 |[],s,k=>by simp[YY]
 |x::l,s,k=>by
  rw[YY,Wr,YK l (nxp s x) (k+1)];constructor
  .rintro⟨e,f⟩ i p hp;cases i with
   |zero=>simp_all
   |succ i=>grind
  intro h;refine⟨h 0 x rfl,λi p hp=>?_⟩;have:=h (i+1) p (by exact hp);grind
def XmK(l:List Int):Bool:=l.all λp=>!decide (p<0)&&!decide (p>4095)
def stQ(iss:List Int)(s:Int)(i:Nat)(p:UW):Bool:=!decide (p.J<=s)&&(!decide (p.J>(iss.length:Int))&&(!((iss.getD (p.J-1).toNat 0) != (i:Int))&&(p.V==(p.a != 0))))
def stB(iss:List Int)(l:List UW):Bool:=YY (stQ iss) (λ_ p=>p.J) 0 0 l
def neQ(n:Nat)(s:Int)(i:Nat)(p:U2):Bool:=(!((i:Int)==0)||(!(p.O != 0)&&p.B0))&&(!decide (p.O<s)&&(!decide (p.O>(n:Int))&&(!decide (p.C0<0)&&!decide (p.C0>64))))
def neB(n:Nat)(l:List U2):Bool:=YY (neQ n) (λ_ p=>p.O) 0 0 l
def YL(l:List UW)(f t:Nat):Nat:=((l.drop f).take (t-f)).countP (·.V)
def toL(a:WD)(i:Nat):Int:=match a.x[i+1]? with|some p=>p.O|none=>a.S.length
def Xg3(a:WD)(_:Unit)(i:Nat)(p:U2):Bool:=!decide (((YL a.S p.O.toNat (toL a i).toNat:Nat):Int)>p.C0)
def Xb5(a:WD):Bool:=YY (Xg3 a) (λs _=>s) () 0 a.x
def Yn(a:WD):Bool:=!decide ((a.i.length:Int)>4096)&&(!decide ((a.x.length:Int)>64)&&((!((a.x.length:Int)==0)||!decide ((a.S.length:Int)>0))&&(XmK a.i&&(stB a.i a.S&&(neB a.S.length a.x&&Xb5 a)))))
def LBp(a:WD):Prop:=a.S.length<=1000000/\a.x.length<=1000000/\a.i.length<=1000000
def JA{n:Nat}{l:List U2}(h:neB n l=true){i:Nat}{p:U2}(hp:l[i]? = some p):0<=p.O/\p.O<=n/\0<=p.C0/\p.C0<=64/\(i=0->p.O=0/\p.B0=true)/\∀g,l[i+1]? = some g->p.O<=g.O:=by
 have j:=(YK l (0:Int) 0).1 h;have inv:∀(k:Nat) (p:U2),l[k]? = some p->0<=p.O:=by
  intro k;induction k with
  |zero=>intro p hp;have:=j 0 p hp;unfold neQ at this;simp_all
  |succ k q=>
   intro p hp;have r:k<l.length:=by have:=Xq hp;omega
   have e:=Wb r;have s:=q _ e;have f:=j (k+1) p hp;rw[UT,e]at f;simp only[List.foldl_append,Option.toList,List.foldl_cons,List.foldl_nil]at f;unfold neQ at f;grind
 have h0:=j i p hp;unfold neQ at h0;simp at h0;refine⟨inv i p hp,aa,aa,aa,λt=>?_,λg o=>?_⟩
 .simp_all
 have f:=j (i+1) g o;rw[UT,hp]at f;unfold neQ at f;simp_all
def Xb6{iss:List Int}{l:List UW}(h:stB iss l=true){i:Nat}{p:UW}(hp:l[i]? = some p):(i:Int)+1<=p.J/\p.J<=iss.length/\iss.getD (p.J-1).toNat 0=i/\(p.V=true↔p.a≠0):=by
 have g:=(YK l (0:Int) 0).1 h;have inv:∀(k:Nat) (p:UW),l[k]? = some p->(k:Int)+1<=p.J:=by
  intro k;induction k with
  |zero=>intro p hp;have:=g 0 p hp;unfold stQ at this;simp at this;have:=W5 this.1;omega
  |succ k j=>
   intro p hp;have o:k<l.length:=by have:=Xq hp;omega
   have e:=Wb o;have q:=j _ e;have f:=g (k+1) p hp;rw[UT,e]at f;simp only[List.foldl_append,Option.toList,List.foldl_cons,List.foldl_nil]at f;unfold stQ at f;simp at f;omega
 have h0:=g i p hp;unfold stQ at h0;simp_all
structure O3(a:WD):Prop where
 iss:a.i.length<=4096
 sc:a.x.length<=64
 none:a.x.length=0->a.S.length=0
 issr:∀x∈a.i,0<=x/\x<=4095
 st:stB a.i a.S=true
 ne:neB a.S.length a.x=true
 cap:Xb5 a=true
def Ys{a:WD}:Yn a=true↔O3 a:=by
 unfold Yn XmK;simp only[Wr,UE,UR,Il,WP,IG];constructor
 .rintro⟨p,q,r,s,g,j,o⟩;exact⟨aa,aa,λe=>aa,λx f=>by simp_all,g,j,o⟩
 intro h;exact⟨by have:=h.iss;omega,by have:=h.sc;omega,by have:=h.none;omega,λx f=>by have:=h.issr x f;omega,h.st,h.ne,h.cap⟩
def O3.slots{a:WD}(h:O3 a):a.S.length<=a.i.length:=by
 by_cases f:a.S.length=0
 .omega
 have e:=Wb (show a.S.length-1<a.S.length by omega);have:=Xb6 h.st e;omega
def XfP{N:Nat}{a:WD}(j:a.S.length<=1000000)(t:Nat)(ht:t<=a.S.length):∀(n f c:Nat),t-f<n->c<=f->f<=1000000->QdU N a (t:Int) n (c:Int) (f:Int)=some (((c+YL a.S f t:Nat):Int))
 |0,f,c,p,_,_=>by omega
 |n+1,f,c,p,q,r=>by
  rw[QdU];by_cases h:f<t
  .have g:f<a.S.length:=aa;rw[show decide ((f:Int)<(t:Int))=true from Wi aa,Wc,Xc,Wb g,Xa,Xg aa,Xg aa];have e:YL a.S f t=(if a.S[f].V then 1 else 0)+YL a.S (f+1) t:=by unfold YL;rw[Wm g,show t-f=(t-(f+1))+1 by omega,List.take_succ_cons,U4];omega
   cases o:a.S[f].V
   .rw[Wa,XfP j t ht n (f+1) c aa aa aa,e,o];simp
   rw[Wc,XfP j t ht n (f+1) (c+1) aa aa aa,e,o];grind
  rw[show decide ((f:Int)<(t:Int))=false from Wh aa,Wa];unfold YL;simp_all
def Xjo{N:Nat}{a:WD}(e:a.S.length<=1000000)(hN:1000000<N){f t:Int}(f0:0<=f)(f1:f<=1000000)(g:0<=t)(h:t<=a.S.length):Qf6 N a f t=some ((YL a.S f.toNat t.toNat:Nat):Int):=by obtain⟨f,rfl⟩:=IB f0;obtain⟨t,rfl⟩:=IB g;rw[Qf6];have:=XfP (N:=N) e t aa N f 0 aa aa aa;rw[show((0:Nat):Int)=0 from rfl]at this;simp[this,Xa]
def XsD{N:Nat}{a:WD}{i:Nat}(e:i<=1000000):Qhg N a (i:Int)=some (toL a i):=by
 rw[Qhg,Xg aa,toL];by_cases h:i+1<a.x.length
 .rw[Xm h,Wc,Xc,Wb h,Xa]
 grind
def XsE{a:WD}(h:neB a.S.length a.x=true)(i:Nat):0<=toL a i/\toL a i<=a.S.length:=by
 unfold toL;cases e:a.x[i+1]? with
 |none=>simp
 |some p=>have:=JA h e;simp_all
def Kc{N:Nat}{a:WD}(u:LBp a)(hN:1000000<N):Qb9 N a=some (Yn a):=by
 have⟨h,w,hl3⟩:=u;have o:=Kr (l:=a.i) (F:=Qdl N a) (q:=λ_ p=>!decide (p<0)&&!decide (p>4095)) (λn k p e=>by
  have f:=Xq e
  rw[Qdl,Xm f,Wc,Xc,e,Xa,Xa,Xg aa]
  cases decide (p<0)<;>cases decide (p>4095)<;>rfl) (λn=>by rw[Qdl,Xv,Wa]) (n:=N) aa
 have y:=Vc (l:=a.S) (F:=λn s i=>Qan N a n s i) (q:=stQ a.i) (nxp:=λ_ p=>p.J) (I:=λs=>0<=s) (λn s k p t e=>by
  have f:=Xq e
  show Qan N a (n+1) s (k:Int)=_
  rw[Qan,Xm f,Wc,Xc,e,Xa,Xg aa]
  unfold stQ
  cases g1:decide (p.J<=s)
  .cases g2:decide (p.J>(a.i.length:Int))
   .have g1:=W5 g1
    have g2:=W5 g2
    rw[Wa,Wa,Xf aa aa,X7 aa aa,Xa]
    have ge:a.i[(p.J-1).toNat]'aa=a.i.getD (p.J-1).toNat 0:=by
     rw[We,Wb aa];rfl
    rw[ge]
    cases (a.i.getD (p.J-1).toNat 0 != (k:Int))<;>cases (p.V==(p.a != 0))<;>rfl
   .rfl
  .rfl) (λn s=>by show Qan N a (n+1) s _=_;rw[Qan,Xv,Wa]) (λs k p t e j=>by
   unfold stQ at j
   simp only[Wr,UE,UR]at j
   have:=j.1
   omega) N 0 0 aa aa aa
 have z:=Vc (l:=a.x) (F:=λn s i=>Qam N a n s i) (q:=neQ a.S.length) (nxp:=λ_ p=>p.O) (I:=λ_=>True) (λn s k p t e=>by
  have f:=Xq e
  show Qam N a (n+1) s (k:Int)=_
  rw[Qam,Xm f,Wc,Xc,e,Xa,Xg aa]
  unfold neQ
  cases ((k:Int)==0)<;>cases (p.O != 0)<;>cases p.B0<;>cases decide (p.O<s)<;>cases decide (p.O>(a.S.length:Int))<;>cases decide (p.C0<0)<;>cases decide (p.C0>64)<;>rfl) (λn s=>by show Qam N a (n+1) s _=_;rw[Qam,Xv,Wa]) (λ_ _ _ _ _ _=>trivial) N 0 0 trivial aa aa
 rw[Zl]at o;rw[Qb9,Xr,o,Xa];have A:Qan N a N 0 0=some (bif stB a.i a.S then .nxt ()else .ret false):=y;have e3:Qam N a N 0 0=some (bif neB a.S.length a.x then .nxt ()else .ret false):=z;unfold Yn XmK;have main:(exK (bif (a.i.all λp=>!decide (p<0)&&!decide (p>4095))then Ex.nxt ()else Ex.ret false) (λr=>some r) λH=>
  bnd (Qan N a N 0 0) λe=>exK e (λr=>some r) λK=>
  bnd (Qam N a N 0 0) λe=>exK e (λr=>some r) λB=>
  bnd (QcK N a N 0) λe=>exK e (λr=>some r) λD=>some true)=some ((a.i.all λp=>!decide (p<0)&&!decide (p>4095))&&(stB a.i a.S&&(neB a.S.length a.x&&Xb5 a))):=by
  cases (a.i.all λp=>!decide (p<0)&&!decide (p>4095))
  .rw[Wa,Xs];rfl
  rw[Wc,Xo,WI,A,Xa]
  cases stB a.i a.S
  .rw[Wa,Xs];rfl
  rw[Wc,Xo,WI,e3,Xa]
  cases g:neB a.S.length a.x
  .rw[Wa,Xs];rfl
  rw[Wc,Xo,WI]
  have E:=Kr (l:=a.x) (F:=QcK N a) (q:=Xg3 a ()) (λn k p e=>by
   have f:=Xq e
   have G:=JA g e
   have ht:=XsE g k
   rw[QcK,Xm f,Wc,Xc,e,Xa,XsD aa,Xa,Xjo h hN G.1 aa ht.1 ht.2,Xa,Xa,Xg aa]
   unfold Xg3
   cases decide (((YL a.S p.O.toNat (toL a k).toNat:Nat):Int)>p.C0)<;>rfl) (λn=>by rw[QcK,Xv,Wa]) (n:=N) aa
  rw[E,Xa]
  show exK (bif Xb5 a then Ex.nxt ()else Ex.ret false) _ _=_
  cases Xb5 a
  .rw[Wa,Xs]
  .rw[Wc,Xo]
 grind
def zL:WD:=⟨[],[],[]⟩
def XC(l:List UW):List Int:=(l.filter (·.V)).map (·.a)
def Xb7(l:List UW):(XC l).length<=l.length:=by unfold XC;grind
section
variable {N:Nat}{a:WD}
def XdD(e:LBp a)(hN:1000000<N)(f:Yn a=true):∀(n k:Nat) (v:List Int),k<=a.S.length->a.S.length-k<n->v.length<=k ->
 Qbw N a n (k:Int) v=some (v++XC (a.S.drop k))
 |0,k,v,_,g,_=>by omega
 |n+1,k,v,p,g,j=>by
  have o:=e.1;rw[Qbw];by_cases h:k<a.S.length
  .rw[Xm h,Wc,Kc e hN,Xa,f,Wc,Xc,Wb h,Xa,Xa,Xg aa,Wm h,XC];cases q:a.S[k].V
   .rw[Wa,XdD e hN f n (k+1) v aa aa aa,UL (by simp_all)];rfl
   rw[Wc,Xe aa,XdD e hN f n (k+1) _ aa aa (by simp_all),UH aa];simp[XC]
  obtain rfl:k=a.S.length:=aa;simp[XC]
def Zw(e:LBp a)(hN:1000000<N):Qcy N a=some (bif Yn a then XC a.S else[]):=by
 rw[Qcy];cases f:Yn a
 .obtain⟨m,rfl⟩:∃m,N=m+1:=⟨N-1,aa⟩
  rw[Qbw,Kc e hN,f];by_cases h:0<a.S.length
  .rw[show decide ((0:Int)<(a.S.length:Int))=true from Wi aa,Wc,Xa,Wa,Xa];rfl
  rw[show decide ((0:Int)<(a.S.length:Int))=false from Wh aa,Wa,Xa];rfl
 have h:=XdD e hN f N 0 [] aa (by have:=e.1;omega) ab;rw[show((0:Nat):Int)=0 from rfl,WL,Um]at h;simp[h,Xa]
def Z9(a:WD):U2:=a.x.getD (a.x.length-1) ⟨0,0,false⟩
def XdE(h:a.x.length≠0)(e:a.x.length<=1000000):Xd a.x (wI ((a.x.length:Int)-1))=some (Z9 a):=by rw[Xf aa aa,show(a.x.length:Int)-1=((a.x.length-1:Nat):Int) by omega,Xc,Z9,We,Wb aa];rfl
def Yh(a:WD)(id:Int):WD×Int×Int×Int:=
 if Yn a=false then(zL,0,0,1)else if id=0 then(zL,0,0,1)else if a.x.length=0 then(zL,0,0,9)
 else if(Z9 a).C0<=((YL a.S (Z9 a).O.toNat a.S.length:Nat):Int)then(zL,0,0,10)
 else if a.i.length=4096 then(zL,0,0,18)
 else(⟨a.S++[⟨(a.i.length:Int)+1,id,true⟩],a.x,a.i++[(a.S.length:Int)]⟩,(a.S.length:Int),(a.i.length:Int)+1,0)
def Xg4(f:Yn a=true)(h:a.x.length≠0):0<=(Z9 a).O/\(Z9 a).O<=a.S.length:=by
 have g:=Ys.1 f;have e:=Wb (show a.x.length-1<a.x.length by omega);have:=JA g.ne e;have j:Z9 a=a.x[a.x.length-1]:=by unfold Z9;rw[We,e];rfl
 simp_all
def Vy(p:LBp a)(hN:1000000<N)(id:Int):Qee N a id=some (Yh a id):=by
 have⟨e,f,hl3⟩:=p;rw[Qee,Kc ⟨e,f,hl3⟩ hN,Xa,Yh];cases q:Yn a
 .rfl
 rw[Wl,Wa,Wg ab];by_cases o:id=0
 .subst o;rfl
 rw[Wg o,show(id==0)=false by simp_all,Wa];by_cases g:a.x.length=0
 .rw[Wj g,g];rfl
 rw[Wg g,show((a.x.length:Int)==0)=false by simp_all,Wa,XdE g f,Xa];have ht:=Xg4 q g;rw[Xjo e hN ht.1 aa aa aa,Xa,Xa,IS];by_cases h:(Z9 a).C0<=((YL a.S (Z9 a).O.toNat a.S.length:Nat):Int)
 .rw[Wj h,Wi (show((YL a.S (Z9 a).O.toNat a.S.length:Nat):Int)>=_ from h),Wc];rfl
 rw[Wg h,Wh (show¬((YL a.S (Z9 a).O.toNat a.S.length:Nat):Int)>=_ from h),Wa];by_cases j:a.i.length=4096
 .rw[Wj j,j];rfl
 rw[Wg j,show((a.i.length:Int)==4096)=false by grind,Wa,Xe aa,Xe aa,Xe aa,Xe aa,Xf aa aa]
def Ka:LBp zL:=⟨by simp[zL],by simp[zL],by simp[zL]⟩
def Xjp(g:LBp a)(id:Int):LBp (Yh a id).1:=by
 have⟨h,e,hl3⟩:=g;unfold Yh;cases j:Yn a
 .exact Ka
 have f:=Ys.1 j;have o:=f.slots;have p:=f.iss;split
 .exact Ka
 split
 .exact Ka
 split
 .exact Ka
 split
 .exact Ka
 split
 .exact Ka
 refine⟨?_,e,?_⟩
 .simp;omega
 grind
def Yx(a:WD)(i g:Int):Int×Int:=
 if Yn a=false then(0,1)else if g<1\/(a.i.length:Int)<g then(0,6)else
 if a.i.getD (g-1).toNat 0≠i then(0,6)else if(a.S.length:Int)<=i then(0,7)else
 match a.S[i.toNat]? with
 |none=>(0,7)
 |some p=>if p.J≠g then(0,7)else if p.V then(p.a,0)else(0,8)
def XcQ(r:LBp a)(hN:1000000<N)(i g:Int):QeK N a i g=some (Yx a i g):=by
 have h:=r;have⟨t,u,hl3⟩:=r;rw[QeK,Kc h hN,Xa,Yx];cases w:Yn a
 .rfl
 have x:=Ys.1 w;rw[Wl,Wa,Wg ab];by_cases j:g<1
 .rw[Wi j,Wc,Wj (.inl j)]
 rw[Wh j,Wa];by_cases o:g>(a.i.length:Int)
 .rw[Wi o,Wc,Wj (.inr o)]
 have e:(g-1).toNat<a.i.length:=aa;rw[Wh o,Wa,Wg aa,Xf aa aa,X7 aa aa,Xa];have ge:a.i[(g-1).toNat]=a.i.getD (g-1).toNat 0:=by rw[We,Wb e];rfl
 have s:=x.issr _ (Wt e);rw[ge]at s⊢;by_cases y:a.i.getD (g-1).toNat 0=i
 .rw[y]at s⊢;rw[show(i != i)=false by simp,Wa,Wg ab];by_cases p:i>=(a.S.length:Int)
  .rw[Wi p,Wc,Wj p]
  have f:i.toNat<a.S.length:=aa;rw[Wh p,Wa,Wg aa,X7 aa aa,Xa,Wb f];simp only[Xa];by_cases q:a.S[i.toNat].J=g
  .rw[q,show(g != g)=false by simp,Wa,Wg ab];cases a.S[i.toNat].V<;>rfl
  rw[show(a.S[i.toNat].J != g)=true by simpa using q,Wc,Wj q]
 grind
def Xay{i g:Int}(h:(Yx a i g).2=0):Yn a=true/\0<=i/\∃p,a.S[i.toNat]? = some p/\p.J=g/\p.V=true/\(Yx a i g).1=p.a:=by
 unfold Yx at h⊢;cases j:Yn a
 .rw[j]at h;cases h
 have t:=Ys.1 j;rw[j]at h;by_cases q:g<1\/(a.i.length:Int)<g
 .rw[Wj q]at h;cases h
 rw[Wg q]at h⊢;have f:(g-1).toNat<a.i.length:=aa;have ge:a.i[(g-1).toNat]=a.i.getD (g-1).toNat 0:=by rw[We,Wb f];rfl
 have w:=t.issr _ (Wt f);by_cases o:a.i.getD (g-1).toNat 0≠i
 .rw[Wj o]at h;cases h
 rw[Wg o]at h⊢;by_cases r:(a.S.length:Int)<=i
 .rw[Wj r]at h;cases h
 rw[Wg r]at h⊢;have x:0<=i:=by have:a.i.getD (g-1).toNat 0=i:=Classical.not_not.1 o;omega
 have e:=Wb (show i.toNat<a.S.length by omega);rw[e]at h⊢;simp only at h⊢;by_cases s:a.S[i.toNat].J≠g
 .rw[Wj s]at h;cases h
 rw[Wg s]at h⊢;cases u:a.S[i.toNat].V
 .rw[u]at h;cases h
 simp_all
def Z2(a:WD)(i g:Int):WD×Int:=
 if(Yx a i g).2≠0 then(zL,(Yx a i g).2)else(⟨a.S.set i.toNat ⟨g,0,false⟩,a.x,a.i⟩,0)
def XcR(e:LBp a)(hN:1000000<N)(i g:Int):QdM N a i g=some (Z2 a i g):=by
 rw[QdM,XcQ e hN,Xa,Z2];by_cases h:(Yx a i g).2=0
 .have⟨_,h0,p,hp,_⟩:=Xay h;have:=Xq hp;have f:=e.1;rw[h,show((0:Int) != 0)=false from rfl,Wa,Wg ab,Xe aa,X7 h0 aa,Xa]
 rw[show((Yx a i g).2 != 0)=true by simp_all,Wc,Wj h];rfl
def Xjq(e:LBp a)(i g:Int):LBp (Z2 a i g).1:=by
 unfold Z2;split
 .exact Ka
 exact⟨by rw[Ww];exact e.1,e.2⟩
def Y6(a:WD)(c:Int):WD×Int:=
 if Yn a=false\/c<0\/64<c then(zL,1)else if a.x.length=0 then(zL,9)else if a.x.length=64 then(zL,17)else(⟨a.S,a.x++[⟨(a.S.length:Int),c,false⟩],a.i⟩,0)
def V6(j:LBp a)(hN:1000000<N)(c:Int):Qd7 N a c=some (Y6 a c):=by
 have o:=j.2.1;rw[Qd7,Qf8,Kc j hN,Xa,Y6];cases p:Yn a
 .rw[WY,Wc,Xa,Wj (.inl rfl)];rfl
 rw[Wl,Wa];by_cases e:c<0
 .rw[Wi e,Wc,Xa,Wj (.inr (.inl e))];rfl
 by_cases f:c>64
 .rw[Wh e,Wa,Wi f,Wc,Xa,Wj (.inr (.inr f))];rfl
 rw[Wh e,Wa,Wh f,Wa,Xr,WY,Wc,Wg (by simp_all)];by_cases g:a.x.length=0
 .rw[Wj g,g];rw[show(((0:Nat):Int)==0)=true from rfl,Wc,Xa];rfl
 rw[Wg g,show((a.x.length:Int)==0)=false by simp_all,Wa];by_cases h:a.x.length=64
 .rw[Wj h,h];rw[show(((64:Nat):Int)==64)=true from rfl,Wc,Xa];rfl
 rw[Wg h,show((a.x.length:Int)==64)=false by grind,Wa,Xe aa,Xe aa,Xa]
def Xg5(e:LBp a)(c:Int):LBp (Y6 a c).1:=by
 unfold Y6;cases f:Yn a
 .exact Ka
 have:=(Ys.1 f).sc;split
 .exact Ka
 split
 .exact Ka
 split
 .exact Ka
 exact⟨e.1,by grind,e.2.2⟩
def Yt(a:WD):WD×Int:=
 if Yn a=false then(zL,1)else if a.x.length=0 then(zL,9)else if(Z9 a).B0 then(zL,9)else(⟨a.S.take (Z9 a).O.toNat,a.x.take (a.x.length-1),a.i⟩,0)
def Xbw(h:LBp a)(hN:1000000<N):QeL N a=some (Yt a):=by
 have⟨g,e,hl3⟩:=h;rw[QeL,Kc ⟨g,e,hl3⟩ hN,Xa,Yt];cases j:Yn a
 .rfl
 by_cases f:a.x.length=0
 .rw[Wj f,f];rfl
 have ht:=Xg4 j f;rw[Wg f,show((a.x.length:Int)==0)=false by simpa using f,Wa,XdE f e,Xa];cases o:(Z9 a).B0
 .rw[Wa,Qgz,XdE f e,Xa,Xf aa aa,Xe aa,Xe aa,Xe aa,Xe aa,Xa];rw[show((a.x.length:Int)-1).toNat=a.x.length-1 by omega];rfl
 rfl
def XfQ(e:LBp a):LBp (Yt a).1:=by
 unfold Yt;split
 .exact Ka
 split
 .exact Ka
 split
 .exact Ka
 have⟨f,g,hl3⟩:=e;exact⟨by grind,by grind,hl3⟩
def XdF(rs:List Int)(z:a.S.length<=1000000):∀(n k:Nat) (c:Int) (v:List UW),k<=a.S.length->a.S.length-k<n->v.length=a.S.length->v.drop k=a.S.drop k->0<=c->c+(XC (a.S.drop k)).length=rs.length->rs.length<=1000000 ->
 Ok (Qbz N a rs n c (k:Int) v) λe=>match e with|.ret r=>r=(zL,1)|.nxt v=>v.length=a.S.length
 |0,k,c,v,_,A,_,_,_,_,_=>by omega
 |n+1,k,c,v,E,A,t,hd,u,w,g=>by
  refine Uk aa (Wo (λh=>?_) λh=>Wd t);have h:k<a.S.length:=by have:=WA h;omega
  have j:(k:Int)<v.length:=aa;rw[Xg aa];have f:=Wm (show k<v.length by omega);have o:=Wm h;rw[hd,o]at f;have B:a.S[k]=v[k]:=(IC f).1;have D:a.S.drop (k+1)=v.drop (k+1):=(IC f).2;refine Ok.get aa j λp hp=>?_;have x:p=a.S[k]:=by rw[Xc,Wb aa,←B]at hp;exact(WT hp).symm
  rw[o]at w;refine Wo (λs=>?_) λs=>?_
  .refine XdF rs z n (k+1) c v aa aa t D.symm u ?_ g;rw[←w];unfold XC;grind
  have s:a.S[k].V=true:=by rw[←x];simpa using s
  have y:c+1+(XC (a.S.drop (k+1))).length=rs.length:=by rw[←w];unfold XC;rw[UH (by rw[s]),UA,Uq];omega
  refine Ok.get u aa λq _=>Wo (λ_=>Wd rfl) λ_=>Ok.get u aa λq _=>Ok.get aa j λG _=>?_;rw[Xf (n:=c+1) aa aa];refine XdF rs z n (k+1) (c+1) _ aa aa (by rw[Ww];exact t) ?_ aa y g;rw[UZ aa];simp_all
def XmL(j:LBp a)(hN:1000000<N){rs:List Int}(p:rs.length<=1000000):Ok (Qd6 N a rs) λr=>LBp r.1:=by
 have e:=j;have⟨f,g,hl3⟩:=j;rw[Qd6,Kc e hN,Xa];refine Wo (λ_=>Wd Ka) λh=>?_;have h:Yn a=true:=by simpa using h
 rw[Zw e hN,Xa,h,Wc];refine Wo (λ_=>Wd Ka) λo=>Uk aa ?_;have o:(rs.length:Int)=(((XC a.S).length:Nat):Int):=by simpa using o
 refine Oa (XdF rs f N 0 0 a.S aa aa rfl rfl aa (by rw[WL];omega) p) (λr q=>Wd (by rw[q];exact Ka)) λv q=>Wd ⟨?_,g,hl3⟩;simp_all
end
def TB(t:W4):Prop:=t.e.length<=1000000
def zT:W4:=⟨[]⟩
def Xbx:TB zT:=by simp[TB,zT]
section
variable {N:Nat}{t:W4}
def Xcw(l:List Ul):Option Nat:=l.findIdx? λe=>!e.V&&decide (e.G<4294967295)
def YF(t:W4)(id:Int):W4×Int×Int×Int:=
 if X8 t.e=false then(zT,0,0,1)else
 match Xcw t.e with
 |some k=>(⟨t.e.set k ⟨(t.e.getD k ⟨0,0,false⟩).G+1,id,true⟩⟩,(k:Int),(t.e.getD k ⟨0,0,false⟩).G+1,0)
 |none=>if t.e.length=64 then(zT,0,0,18)else(⟨t.e++[⟨1,id,true⟩]⟩,(t.e.length:Int),1,0)
def Xjr(g:TB t)(o:X8 t.e=true)(id:Int):∀(n k:Nat),k<=t.e.length->t.e.length-k<n->QbM N t id n (k:Int)=some (match (t.e.drop k).findIdx? (λe=>!e.V&&decide (e.G<4294967295))with
 |some j=>.ret (⟨t.e.set (k+j) ⟨(t.e.getD (k+j) ⟨0,0,false⟩).G+1,id,true⟩⟩,((k+j:Nat):Int),(t.e.getD (k+j) ⟨0,0,false⟩).G+1,0)
 |none=>.nxt ())
 |0,k,_,q=>by omega
 |n+1,k,r,q=>by
  unfold TB at g;rw[QbM,Xe aa];by_cases h:k<t.e.length
  .have e:=Wb h;have gd:t.e.getD k ⟨0,0,false⟩=t.e[k]:=by rw[We,e];rfl
   have s:=XmJ o (Wt h);rw[Xm h,Wc,Xc,e];simp only[Xa];rw[Xg aa,Wm h,IY];have next:=Xjr g o id n (k+1) aa aa
   have p:QbM N t id n ((k+1:Nat):Int)=some (match Option.map (λi=>i+1) ((t.e.drop (k+1)).findIdx? (λe=>!e.V&&decide (e.G<4294967295)))with
    |some j=>.ret (⟨t.e.set (k+j) ⟨(t.e.getD (k+j) ⟨0,0,false⟩).G+1,id,true⟩⟩,((k+j:Nat):Int),(t.e.getD (k+j) ⟨0,0,false⟩).G+1,0)
    |none=>.nxt ()):=by
    rw[next]
    cases (t.e.drop (k+1)).findIdx? (λe=>!e.V&&decide (e.G<4294967295))with
    |none=>rfl
    |some j=>simp only[Im];rw[show k+1+j=k+(j+1) by omega]
   cases u:t.e[k].V
   .cases w:decide (t.e[k].G<4294967295)
    .exact p
    rw[WY,Wc,Wc,OA,Wj rfl];have f:(k:Int).toNat=k:=aa;rw[Xf aa aa,f,Xc,UJ,Wj rfl,Wj h,Xa];simp only[Oc];rw[gd]
   exact p
  grind
def KL(f:TB t)(hN:1000000<N)(id:Int):QcN N t id=some (YF t id):=by
 have g:=f;unfold TB at f;rw[QcN,ZF f hN,Xa,YF];cases p:X8 t.e
 .rfl
 have o:=Xjr (N:=N) g p id N 0 aa aa;rw[show((0:Nat):Int)=0 from rfl,WL]at o;rw[Wl,Wa,Xe aa,o,Xa,Wg ab,Xcw];cases t.e.findIdx? (λe=>!e.V&&decide (e.G<4294967295))with
 |some j=>simp[Xs,Ue]
 |none=>
  simp only[Xo];rw[Xe aa];by_cases h:t.e.length=64
  .rw[Wj h,h];rfl
  rw[Wg h,show((t.e.length:Int)==64)=false by grind,Wa,Xe aa,Xe aa]
def Xjs(g:TB t)(id:Int):TB (YF t id).1:=by
 unfold YF;cases f:X8 t.e
 .exact Xbx
 have:=KS f;rw[Wg ab];cases Xcw t.e with
 |some k=>show(t.e.set _ _).length<=_;grind
 |none=>
  simp only;split
  .exact Xbx
  show(t.e++[_]).length<=_;grind
def Vd{i g:Int}(h:(Yw t.e i g).2=0):X8 t.e=true/\0<=i/\∃p,t.e[i.toNat]? = some p/\p.G=g/\p.V=true/\(Yw t.e i g).1=p.a:=by unfold Yw at h⊢;grind
def Zh(t:W4)(i g:Int):W4×Int:=
 if(Yw t.e i g).2≠0 then(zT,(Yw t.e i g).2)else(⟨t.e.set i.toNat ⟨g,0,false⟩⟩,0)
def JL(f:TB t)(hN:1000000<N)(i g:Int):Qcw N t i g=some (Zh t i g):=by
 unfold TB at f;rw[Qcw,Vx f hN,Xa,Zh];by_cases h:(Yw t.e i g).2=0
 .have⟨_,h0,p,hp,_⟩:=Vd h;have:=Xq hp;rw[h,show((0:Int) != 0)=false from rfl,Wa,Wg ab,Qgy,Xe aa,X7 h0 aa,Xa,Xa]
 rw[show((Yw t.e i g).2 != 0)=true by simp_all,Wc,Wj h];rfl
def Xjt(f:TB t)(i g:Int):TB (Zh t i g).1:=by
 unfold Zh;split
 .exact Xbx
 show(t.e.set _ _).length<=_;rw[Ww];exact f
def XdG(rs:List Int)(y:t.e.length<=1000000):∀(n k:Nat) (c:Int) (v:List Ul),k<=t.e.length->t.e.length-k<n->v.length=t.e.length->v.drop k=t.e.drop k->0<=c->c+(Xp (t.e.drop k)).length=rs.length->rs.length<=1000000 ->
 Ok (QbA N rs n c (k:Int) v) λv=>v.length=t.e.length
 |0,k,c,v,_,A,_,_,_,_,_=>by omega
 |n+1,k,c,v,E,A,s,hd,z,u,g=>by
  refine Uk aa (Wo (λh=>?_) λh=>Wd s);have h:k<t.e.length:=by have:=WA h;omega
  have j:(k:Int)<v.length:=aa;rw[Xg aa];have f:=Wm (show k<v.length by omega);have o:=Wm h;rw[hd,o]at f;have B:t.e[k]=v[k]:=(IC f).1;have D:t.e.drop (k+1)=v.drop (k+1):=(IC f).2;refine Ok.get aa j λp hp=>?_;have w:p=t.e[k]:=by rw[Xc,Wb aa,←B]at hp;exact(WT hp).symm
  rw[o]at u;refine Wo (λr=>?_) λr=>?_
  .have r:t.e[k].V=true:=by rw[←w];exact r
   have x:c+1+(Xp (t.e.drop (k+1))).length=rs.length:=by rw[←u];unfold Xp;rw[UH (by rw[r]),UA,Uq];omega
   refine Ok.get z aa λq _=>Ok.get aa j λG _=>?_;rw[Xf (n:=c+1) aa aa];refine XdG rs y n (k+1) (c+1) _ aa aa (by rw[Ww];exact s) ?_ aa x g;rw[UZ aa];simp_all
  refine XdG rs y n (k+1) c v aa aa s D.symm z ?_ g;rw[←u];unfold Xp;grind
def XeR(f:TB t)(hN:1000000<N){rs:List Int}(j:rs.length<=1000000):Ok (QcD N t rs) λr=>r.1.e.length<=t.e.length:=by
 unfold TB at f;rw[QcD,ZF f hN,Xa];refine Wo (λ_=>Wd ab) λg=>?_;have g:X8 t.e=true:=by simpa using g
 have o:=Xax t.e;rw[Yk f hN,Xa,g,Wc];refine Uk aa (Wo (λ_=>Wd ab) λh=>Uk aa ?_);have h:(rs.length:Int)=(((Xp t.e).length:Nat):Int):=by simpa using h
 refine WQ (XdG rs f N 0 0 t.e aa aa rfl rfl aa (by rw[WL];omega) j) λv _ q=>Wd ?_;simp_all
def Xg6(e:TB t)(hN:1000000<N){rs:List Int}(f:rs.length<=1000000):Ok (QcD N t rs) λr=>TB r.1:=(XeR e hN f).mono λr h=>Ii h e
def Xg7{k:Nat}(g:t.e.length<=1000+k)(id:Int):(YF t id).1.e.length<=1000+k:=by
 unfold YF;cases f:X8 t.e
 .simp[zT]
 have:=KS f;grind[Ww,zT,Wu]
def Xg8{k:Nat}(f:t.e.length<=1000+k)(i g:Int):(Zh t i g).1.e.length<=1000+k:=by unfold Zh;grind[zT,Ww]
end
section
variable {N:Nat}
def Y3(h:IZ):Ok (Qb6 N h) λ_=>True:=by refine WQ (Q:=λ_=>True) ?_ λb _ _=>Wo (λ_=>Wd trivial) λ_=>Wd trivial;exact Wo (λ_=>Wo (λ_=>Wo (λ_=>Wo (λ_=>Wo (λ_=>Wd trivial) λ_=>Wd trivial) λ_=>Wd trivial) λ_=>Wd trivial) λ_=>Wd trivial) λ_=>Wd trivial
def Xb8(a:Int):Ok (Qcu N a) λ_=>True:=by exact Wo (λ_=>Wd trivial) λ_=>WQ (Y3 _) λ_ _ _=>Wo (λ_=>Wd trivial) λ_=>Wo (λ_=>Wd trivial) λ_=>Wd trivial
def XqF{l:List UQ}(r:Int)(g:l.length<=1000000):∀(n:Nat) (k:Int),0<=k->k<=l.length->(l.length-k).toNat<n->Ok (QeS N l r n k) λe=>∀i,e=.ret i->0<=i/\i<l.length/\∃p∈l,p.a=r
 |0,k,_,_,j=>by omega
 |n+1,k,h0,o,j=>by
  refine Wo (λf=>?_) λ_=>Wd λi e=>by grind
  have f:k<l.length:=WA f;rw[Xf (n:=k+1) aa aa];refine Ok.get h0 f λp hp=>Wo (λh=>Wd λi e=>?_) λ_=>XqF r g n (k+1) aa aa aa;cases e;exact⟨h0,f,p,YI hp,by simp_all⟩
def XdH{l:List UQ}(r:Int)(e:l.length<=1000000)(hN:1000000<N):Ok (QfT N l r) λi=>i = -1\/(0<=i/\i<l.length/\∃p∈l,p.a=r):=by exact Oa (XqF r e N 0 aa aa aa) (λi q=>Wd (.inr (q i rfl))) λ_ _=>Wd (.inl rfl)
def Je{h:Wp}(hp:UP h){a:Int}(e:I5 h a):Qfj N h a=some (pgi h.c a)/\0<=pgi h.c a/\pgi h.c a<h.p.length:=by have⟨_,f,g,_⟩:=Yv hp.conf e.rng;have:=hp.pages;refine⟨?_,f,aa⟩;rw[Qfj,VK,Xa,hp.conf,Wg ab,Wj e.rng];rfl
def Xg9{h:Wp}{pins:List UQ}(hN:NB N)(hp:UP h)(y:List Int×Int)(j:Oy N h y.1)(x:pins.length<=64)(hb:HB h):∀(n:Nat) (k:Int) (v:List Int),0<=k->k<=pins.length->(pins.length-k).toNat<n->v.length=h.p.length->Ok (Qbk N h pins y n k v) λe=>match e with|.ret b=>b=false|.nxt v=>v.length=h.p.length/\∀i,k<=i->∀p,Xd pins i=some p->I5 h p.a
 |0,k,v,_,_,z,_=>by omega
 |n+1,k,v,h0,I,z,u=>by
  have o:=hN;unfold NB at o;have A:=j.len;refine Wo (λf=>?_) λf=>Wd ⟨u,λi J p hp=>?_⟩;rotate_left
  .have:=W5 f;rw[XkA aa]at hp;cases hp
  have f:k<pins.length:=WA f;rw[Xf (n:=k+1) aa aa];have B:0<=k+1:=aa;have D:k+1<=pins.length:=aa;have E:(pins.length-(k+1)).toNat<n:=aa;refine Ok.get h0 f λp r=>?_;have same:∀q,Xd pins k=some q->q=p:=λq g=>WT (g.symm.trans r);rw[Ym p.a aa aa,Xa];refine Wo (λ_=>Wd rfl) λG=>?_;have H:p.a∈y.1:=Yp (by simpa using G);have s:=j.obj.at_ _ H;refine Ok.get h0 f λq g=>?_;refine WQ (XdH _ aa aa) λ_ _ _=>Wo (λ_=>Wd rfl) λ_=>Ok.get h0 f λ_ _=>Wo (λ_=>Wd rfl) λ_=>Ok.get h0 f λ_ _=>Wo (λ_=>Wd rfl) λ_=>Ok.get h0 f λq g=>?_;obtain rfl:=same q g;have⟨e,w,K⟩:=Je (N:=N) hp s;rw[e,Xa];refine Ok.get w aa λ_ _=>Ok.get h0 f λ_ _=>Ok.get w aa λ_ _=>?_;refine(Xg9 hN hp y j x hb n (k+1) _ B D E (by rw[Ww];exact u)).mono λe L=>?_;grind
def Xha{h:Wp}(hb:HB h)(v:List Int)(g:v.length=h.p.length):∀(n:Nat) (k:Int),0<=k->k<=h.p.length->(h.p.length-k).toNat<n->Ok (QbC N h v n k) λe=>∀b,e=.ret b->b=false
 |0,k,_,_,j=>by omega
 |n+1,k,h0,o,j=>by
  have:=hb.2;refine Wo (λf=>?_) λ_=>Wd λb e=>by grind
  have f:k<h.p.length:=WA f;rw[Xf (n:=k+1) aa aa];exact Ok.get h0 f λ_ _=>Ok.get h0 aa λ_ _=>Wo (λ_=>Wd λb e=>by simp_all) λ_=>Xha hb v g n (k+1) aa aa aa
structure O4(N:Nat)(h:Wp)(pins:List UQ):Prop where
 good:OR N h
 len:pins.length<=64
 at_:∀p∈pins,I5 h p.a
def V7(hN:NB N){h:Wp}(hb:HB h){pins:List UQ}(w:pins.length<=1000000):Ok (Qcc N h pins) λb=>b=true->O4 N h pins:=by
 have j:=hN;unfold NB at j;have o:=hb.2;refine WQ (Jd hN hb) λb _ g=>Wo (λ_=>Wd λe=>by grind) λr=>?_;have g:=g (by simp_all);refine Wo (λ_=>Wd λe=>by grind) λf=>?_;have f:=W5 f;refine WQ (KF hN hb) λy _ s=>Uk aa ?_;refine Oa (Xg9 hN g.prop y s.1 aa hb N 0 _ aa aa aa ab) (λb q=>Wd λe=>?_) λv q=>?_
 .simp_all
 refine Oa (Xha hb v q.1 N 0 aa aa aa) (λb q=>Wd λe=>?_) λ_ _=>Wd λ_=>⟨g,aa,λp hp=>?_⟩
 .simp_all
 have⟨i,u,e⟩:=Wv hp;exact q.2 (i:Int) aa p (by rw[Xc,Wb u,e])
def Xhb{h:Wp}(hb:HB h)(hp:UP h){a:Int}(j:I5 h a)(d:Int):Ok (QbR N h a d) HB:=by have o:=hb.2;have⟨e,f,g⟩:=Je (N:=N) hp j;rw[QbR,Xe aa,e,Xa];exact Ok.get f g λ_ _=>Ok.get f g λ_ _=>Wd ⟨hb.1,by simp_all⟩
def Xil(hN:NB N){h:Wp}(hb:HB h){pins:List UQ}(w:pins.length<=1000000)(a:Int):Ok (Qdf N h pins a) λr=>HB r.1/\r.2.1.length<=1000000:=by
 have g:=hN;unfold NB at g;have zero:HB zH/\([]:List UQ).length<=1000000:=⟨KB,ab⟩
 refine WQ (V7 hN hb w) λb _ f=>Wo (λ_=>Wd zero) λj=>?_;have f:=f (by simpa using j);refine Wo (λ_=>Wd zero) λ_=>WQ (XdH _ w aa) λi _ z=>Wo (λ_=>Wd zero) λh0=>?_;have h0:=W5 h0;obtain⟨o,i1,p,q,s⟩:0<=i/\i<pins.length/\∃p∈pins,p.a=a:=by
  rcases z with h|h
  .omega
  exact h
 have e:=f.at_ p q;rw[s]at e;have x:=Xhb (N:=N) hb f.good.prop e (-1);refine Uk aa (Ok.get o i1 λ_ _=>Ok.get o i1 λ_ _=>Ok.get o (by rw[Ww];exact i1) λ_ _=>?_);rw[Xf (n:=i+1) aa aa];refine Wo (λ_=>Uk aa (Uk aa (Uk aa (WQ x λy _ u=>Wd ⟨u,?_⟩)))) λ_=>WQ x λy _ u=>Wd ⟨u,?_⟩
 .simp;omega
 simp_all
def XdI{h:Wp}(hb:HB h)(a:Int):∀(n:Nat) (c k:Int),0<=k->k<=h.p.length->(h.p.length-k).toNat<n->Ok (Qbo N h a n c k) λ_=>True
 |0,c,k,_,_,f=>by omega
 |n+1,c,k,h0,j,f=>by
  have:=hb.2;refine Wo (λe=>?_) λ_=>Wd trivial;have e:k<h.p.length:=WA e;rw[Xf (n:=k+1) aa aa];have next:=λg=>XdI hb a n g (k+1) aa aa aa
  exact Ok.get h0 e λ_ _=>Wo (λ_=>Ok.get h0 e λ_ _=>Wo (λ_=>next _) λ_=>next _) λ_=>next _
def Vz(hN:NB N){h:Wp}(hb:HB h)(a:Int):Ok (QcF N h a) λ_=>True:=by have f:=hN;unfold NB at f;have o:=hb.2;refine WQ (Jd hN hb) λb _ s=>Wo (λ_=>Wd trivial) λg=>?_;refine WQ (Xcs hN hb a) λb _ p=>Wo (λ_=>Wd trivial) λg=>?_;have⟨hp,j⟩:=p (by simp_all);have⟨e,q,r⟩:=Je (N:=N) hp j;refine WQ (XdI hb a N 0 0 aa aa aa) λc _ _=>?_;rw[e,Xa];exact Ok.get q r λ_ _=>Wo (λ_=>Wo (λ_=>Wd trivial) λ_=>Wd trivial) λ_=>Wd trivial
def XkE(hN:NB N){h:Wp}(hb:HB h){pins:List UQ}(u:pins.length<=1000000)(a:Int):Ok (Qfh N h pins a) λr=>HB r.1/\r.2.1.length<=1000000:=by
 have f:=hN;unfold NB at f;have zero:HB zH/\([]:List UQ).length<=1000000:=⟨KB,ab⟩
 refine WQ (V7 hN hb u) λb _ e=>Wo (λ_=>Wd zero) λg=>?_;have e:=e (by simp_all);refine Wo (λ_=>Wd zero) λ_=>WQ (Xcs hN hb a) λb _ A=>Wo (λ_=>Wd zero) λg=>?_;have⟨hp,j⟩:=A (by simp_all);have w:=Xhb (N:=N) hb e.good.prop j 1;have B:=e.len;refine WQ (XdH _ u aa) λi _ x=>?_
 have rest:Ok (α:=Wp×List UQ×Int×Int) (grd (pins.length*16<=140737488355328) <|
  jn (λ(o:List UQ)=>
   bnd (QbR N h a 1) λp=>
   some (p,o,(wU (a+1)),0)) λz=>
  bif (decide (i>=0))then(bnd (Xd pins i) λD=>
   bnd (Xd pins i) λq=>
   z (pins.set i.toNat (UQ.mk q.a (wI (D.M+1)))))
  else grd ((pins.length+1)*16<=140737488355328) <|
  z (pins++[(UQ.mk a 1)])) λr=>HB r.1/\r.2.1.length<=1000000:=by
  refine Uk aa (IP (Wo (λh0=>?_) λ_=>Uk aa (WQ w λy _ s=>Wd ⟨s,?_⟩)))
  .have h0:0<=i:=WA h0
   have i1:i<pins.length:=by rcases x with h|h;omega;exact h.2.1
   exact Ok.get h0 i1 λ_ _=>Ok.get h0 i1 λ_ _=>WQ w λy _ s=>Wd ⟨s,by simp_all⟩
  .grind
 refine IP (Wo (λh0=>?_) λ_=>Wo (λ_=>Wo (λ_=>Wd zero) λ_=>WQ (Vz hN hb a) λ_ _ _=>Wo (λ_=>Wd zero) λ_=>rest) λ_=>WQ (Vz hN hb a) λ_ _ _=>Wo (λ_=>Wd zero) λ_=>rest);have h0:0<=i:=WA h0;have i1:i<pins.length:=by rcases x with h|h;omega;exact h.2.1
 exact Ok.get h0 i1 λ_ _=>Wo (λ_=>Wd zero) λ_=>Wo (λ_=>Wo (λ_=>Wd zero) λ_=>WQ (Vz hN hb a) λ_ _ _=>Wo (λ_=>Wd zero) λ_=>rest) λ_=>WQ (Vz hN hb a) λ_ _ _=>Wo (λ_=>Wd zero) λ_=>rest
end
section
variable {N:Nat}
def Xju(hN:NB N)(c:Uj)(d:WH):Ok (Qc3 N c d) λb=>b=true->XM d=true/\d.k≠0/\XI c (Xy d)≠-1:=by
 have f:=hN;unfold NB at f;rw[Qc3,ZV,Xa];refine Wo (λg=>Wo (λh=>?_) λ_=>Wd λe=>by grind) λ_=>Wd λe=>by grind
 rw[Yr,Xa,Jb aa,Xa];exact Wd λe=>⟨g,by simp_all,by simp_all⟩
def Xhc(hN:NB N){h:Wp}(hb:HB h)(hp:UP h)(n:Int):Ok (Qef N h n) λr=>HB r.1:=by
 have x:=hN;unfold NB at x;have z:=hb.2;have setP:∀(ps:List WJ) (i:Nat) (p:WJ) (s b:Int),ps.length<=100000->HB ⟨h.c,h.w,ps.set i p,s,b⟩:=λps i p s b L=>⟨hb.1,by simp_all⟩
 refine Uk aa ?_;rw[XfJ,Xa];refine WQ (Xdw aa aa) λu _ _=>?_;have fresh:Ok (α:=Wp×Int×Bool) (bnd (QcR N h.p 1) λe=>
  bif (decide (e<0))then some ((Wp.mk (Uj.mk 0 0) [] [] 0 0),0,false)
  else bif (decide (u>=VO h.c))then some ((Wp.mk (Uj.mk 0 0) [] [] 0 0),0,false)
  else bnd (QdD N h.p e h.s) λq=>
  bnd (Xd q.1 e) λA=>
  bnd (Xd q.1 e) λB=>
  bnd (Xd q.1 e) λf=>
  some ((Wp.mk h.c h.w (q.1.set e.toNat (WJ.mk f.k f.s (wI (B.u+n)) f.P)) h.s e),(wU (wI ((wI (4096+(wI (e*h.c.W))))+A.u))),true)) λr=>HB r.1:=by
  refine WQ (KR 1 aa aa) λj _ G=>Wo (λ_=>Wd KB) λI=>Wo (λ_=>Wd KB) λ_=>?_
  have J:RunOK h.p j 1:=by
   rcases G with rfl|G
   .grind
   .omega
  have K:=hp.space
  refine WQ (XgT j h.s aa aa) λy _ H=>?_
  obtain⟨D,M,O,Q⟩:=H.1 (H.2.2 J aa aa)
  have g:j<y.1.length:=aa
  exact Ok.get D g λ_ _=>Ok.get D g λ_ _=>Ok.get D g λ_ _=>Wd (setP _ _ _ _ _ aa)
 refine IP (Wo (λ_=>fresh) λh0=>?_);have h0:=W5 h0;have E:=hp.bump;have o:h.b<h.p.length:=by rcases E with h|h;omega;exact h.2.1
 have h0:0<=h.b:=aa;exact Ok.get h0 o λ_ _=>Wo (λ_=>fresh) λ_=>Ok.get h0 o λ_ _=>Wo (λ_=>fresh) λ_=>Wo (λ_=>fresh) λ_=>Ok.get h0 o λ_ _=>Ok.get h0 o λ_ _=>Ok.get h0 o λ_ _=>Wd (setP _ _ _ _ _ z)
def Xhd(hN:NB N){h:Wp}(hb:HB h)(hp:UP h)(w k:Int):Ok (QeV N h w k) λr=>HB r.1:=by
 have e:=hN;unfold NB at e;have f:=hb.2;refine WQ (KR k aa aa) λj _ q=>Wo (λ_=>Wd KB) λg=>WQ (Xdw aa aa) λu _ _=>?_;rw[XfJ,Xa];refine Wo (λ_=>Wd KB) λ_=>WQ (Xmy h.c j h.s w aa aa) λy _ o=>Wd ⟨hb.1,?_⟩;show y.1.length<=_;by_cases p:y.2=0
 .have:=(o.1 p).2.2.2.1;omega
 simp_all
def Xjv(hN:NB N){h:Wp}(hb:HB h)(d:WH):Ok (QeJ N h d) λr=>HB r.1:=by
 have f:=hN;unfold NB at f;refine WQ (Y2 (N:=N) aa hb.1 hb.2) λb _ hp=>Wo (λ_=>Wd KB) λj=>?_;have hp:=hp (by simp_all);refine WQ (Xju hN _ _) λb _ _=>Wo (λ_=>Wd KB) λ_=>?_;rw[Yr,Xa,Jb aa,Xa];refine WQ (Xhc hN hb hp _) λo _ p=>IP (Wo (λ_=>WQ (Xhd hN hb hp _ _) λq _ s=>?_) λ_=>?_)
 .exact Wo (λ_=>Wd KB) λ_=>WQ (Xjg hN (h:=q.1) s _ d) λg _ e=>Wd e
 exact Wo (λ_=>Wd KB) λ_=>WQ (Xjg hN (h:=o.1) p _ d) λg _ e=>Wd e
end
structure EB(x:Uw):Prop where
 heap:HB x.h
 loc:LBp x.l
 glo:TB x.g
 wea:TB x.v
 pins:x.P.length<=1000000
 roots:x.R.length<=100000
def zE:Uw:=⟨zH,zL,zT,zT,[],[]⟩
def XdJ:EB zE:=⟨KB,Ka,Xbx,Xbx,by simp[zE],by simp[zE]⟩
section
variable {N:Nat}{x:Uw}
def ZW{a:WD}(h:LBp a):(bif Yn a then XC a.S else[]).length<=4096:=by
 cases f:Yn a
 .simp
 have e:=Ys.1 f;have:=e.slots;have:=e.iss;have:=Xb7 a.S;grind
def YD(l:List Ul):(bif X8 l then Xp l else[]).length<=64:=by
 cases e:X8 l
 .simp
 have:=KS e;have:=Xax l;grind
structure EV(N:Nat)(x:Uw):Prop where
 mat:O4 N x.h x.P
 loc:Yn x.l=true
 glo:X8 x.g.e=true
 wea:X8 x.v.e=true
def Xaz(hN:NB N)(f:EB x):Ok (Qcd N x) λb=>b=true->EV N x:=by have h:=hN;unfold NB at h;have p:=f.roots;refine WQ (V7 hN f.heap f.pins) λb _ j=>Wo (λ_=>Wd λe=>by grind) λo=>?_;have j:=j (by simp_all);rw[Kc f.loc aa,Xa];refine Wo (λ_=>Wd λe=>by grind) λq=>?_;rw[ZF f.glo aa,Xa];refine Wo (λ_=>Wd λe=>by grind) λr=>?_;rw[ZF f.wea aa,Xa];refine Wo (λ_=>Wd λe=>by grind) λs=>?_;rw[Yk f.glo aa,Xa];have u:=ZW f.loc;have w:=YD x.g.e;have y:=YD x.v.e;rw[Ym _ aa aa,Xa];refine Wo (λ_=>Wd λe=>by grind) λ_=>Uk aa ?_;rw[Zw f.loc aa,Xa];refine Uk aa (Uk aa ?_);rw[Yk f.wea aa,Xa];refine Uk aa (WQ (Xb4 hN f.heap (by grind)) λb _ _=>Wd λ_=>⟨j,by simp_all,by simp_all,by simp_all⟩)
def XdK(hp:x.P.length<=1000000):∀(n:Nat) (k:Int) (v:List Int),0<=k->k<=x.P.length->(x.P.length-k).toNat<n->v.length<=1000000+k->Ok (Qbm N x n k v) λr=>(r.length:Int)=v.length+(x.P.length-k)
 |0,k,v,_,_,f,_=>by omega
 |n+1,k,v,h0,g,f,h=>by refine Wo (λe=>?_) λe=>Wd (by have:=W5 e;omega);have e:k<x.P.length:=WA e;rw[Xf (n:=k+1) aa aa];refine Ok.get h0 e λp _=>Uk aa ?_;refine(XdK hp n (k+1) _ aa aa aa ah).mono λr j=>?_;grind
def Xim(hN:NB N)(f:EB x):Ok (QcW N x) λr=>r.length=x.R.length+(bif Yn x.l then XC x.l.S else[]).length+(bif X8 x.g.e then Xp x.g.e else[]).length+x.P.length:=by have h:=hN;unfold NB at h;have j:=f.roots;have hp:=f.pins;have o:=ZW f.loc;have p:=YD x.g.e;refine Uk aa ?_;rw[Zw f.loc aa,Xa];refine Uk aa ?_;rw[Yk f.glo aa,Xa];refine Uk aa (WQ (XdK hp N 0 _ aa aa aa ah) λr _ j=>Wd ?_);grind
def Xjw(h:Wp×List Int×List Int×UI×Int)(e f:List Int)(j:WD×Int)(o q:W4×Int)(hp:x.P.length<=1000000)(s:x.R.length<=100000)(u:e.length<=4096)(w:f.length<=64)(y:h.2.1.length=x.R.length+e.length+f.length+x.P.length):∀(n:Nat) (k:Int) (v:List UQ),0<=k->k<=x.P.length->(x.P.length-k).toNat<n->(v.length:Int)=k->Ok (Qa6 N x h e f j o q n k v) λr=>r.length=x.P.length
 |0,k,v,_,_,z,_=>by omega
 |n+1,k,v,h0,A,z,B=>by refine Wo (λg=>?_) λg=>Wd (by grind);have g:k<x.P.length:=WA g;rw[Xf (n:=k+1) aa aa,Xf (n:=(x.R.length:Int)+(e.length:Int)) aa aa,Xf (n:=(x.R.length:Int)+(e.length:Int)+(f.length:Int)) aa aa,Xf (n:=(x.R.length:Int)+(e.length:Int)+(f.length:Int)+k) aa aa];refine Ok.get aa aa λ_ _=>Ok.get h0 g λp _=>Uk aa ?_;exact Xjw h e f j o q hp s u w y n (k+1) _ aa aa aa (by simp_all)
def Xcx(hN:NB N)(f:EB x):Ok (Qcf N x) λr=>EB r.1:=by
 have j:=hN;unfold NB at j;have y:=f.roots;have hp:=f.pins;refine WQ (Xaz hN f) λb _ h=>Wo (λ_=>Wd XdJ) λo=>?_;have h:=h (by simpa using o);have z:=h.mat.len;have p:=ZW f.loc;have q:=YD x.g.e;have A:=YD x.v.e;refine WQ (Xim hN f) λQ _ u=>?_;rw[h.loc,h.glo]at u;rw[h.loc]at p;rw[h.glo]at q;rw[Yk f.wea aa,Xa];simp at u p q A⊢;refine WQ (Qn3 hN f.heap aa aa) λB _ w=>Wo (λ_=>Wd XdJ) λD=>?_;have⟨g1,g2⟩:=w.len (by simpa using D);rw[Zw f.loc aa,Xa,Yk f.glo aa,Xa,h.loc,h.glo];simp;have E:=Xf (n:=(x.R.length:Int)+(((XC x.l.S).length:Nat):Int)) aa aa;have G:=Xf (n:=(x.R.length:Int)+(((XC x.l.S).length:Nat):Int)+(((Xp x.g.e).length:Nat):Int)) aa aa;refine Uk aa (Uk aa (Uk aa (Uk aa ?_)));refine WQ (XmL f.loc aa (by rw[Wx,WR];omega)) λH _ I=>Uk (by rw[E,G];omega) ?_;refine WQ (Xg6 f.glo aa (by rw[Wx,WR];omega)) λJ _ K=>?_;refine WQ (Xg6 f.wea aa aa) λL _ M=>?_;refine WQ (Xjw B (XC x.l.S) (Xp x.g.e) H J L hp y p q aa N 0 [] aa aa aa rfl) λs _ O=>Wd ⟨w.hb,I,K,M,?_,?_⟩
 .show s.length<=_;omega
 grind
def XkF(hN:NB N)(e:EB x)(d:WH):Ok (Qeg N x d) λr=>EB r.1:=by
 refine WQ (Xaz hN e) λb _ o=>Wo (λ_=>Wd XdJ) λg=>?_;refine WQ (Xjv hN e.heap d) λp _ h=>IP (Wo (λ_=>WQ (Xcx hN e) λq _ f=>Wo (λ_=>Wd XdJ) λ_=>WQ (Xjv hN f.heap d) λs _ j=>?_) λ_=>?_)
 .exact Wo (λ_=>Wd XdJ) λ_=>Wd ⟨j,f.loc,f.glo,f.wea,f.pins,f.roots⟩
 exact Wo (λ_=>Wd XdJ) λ_=>Wd ⟨h,e.loc,e.glo,e.wea,e.pins,e.roots⟩
def ZR(hN:NB N)(e:EB x)(v:Int):Ok (QaF N x v) λr=>True:=by
 have f:=hN;unfold NB at f;refine WQ (Xaz hN e) λb _ h=>Wo (λ_=>Wd trivial) λg=>Wo (λ_=>Wd trivial) λ_=>?_;refine WQ (Xb8 v) λy _ _=>Wo (λ_=>Wd trivial) λ_=>Wo (λ_=>?_) λ_=>Wo (λ_=>?_) λ_=>?_
 .rw[XcQ e.loc aa,Xa];exact Wd trivial
 .rw[Vx e.glo aa,Xa];exact Wd trivial
 rw[Vx e.wea aa,Xa];exact Wd trivial
end
end Go.Sx
