import Derived.KernelRfl
import Derived.Test.YtgbmffljpneflaaGreatDoorSC
set_option linter.all false
namespace Go.Sx
def Ok{α:Type}(o:Option α)(P:α->Prop):Prop:=∃r,o=some r/\P r
section
variable {α β γ:Type}{P:β->Prop}
def Xa(x:α)(f:α->Option β):bnd (some x) f=f x:=by unfold bnd;rfl
def ZR(f:α->Option β):bnd none f=none:=by unfold bnd;rfl
def Xc{p:Prop}[Decidable p](h:p)(x:Option α):grd p x=x:=by unfold grd;simp_all
theorem Xz{κ:Type}(k:κ)(f:κ->γ):jn k f=f k:=by unfold jn;rfl
theorem XD(a:α)(f:α->γ)(k:β->γ):exK (.ret a) f k=f a:=by unfold exK;rfl
theorem Xq(b:β)(f:α->γ)(k:β->γ):exK (.nxt b) f k=k b:=by unfold exK;rfl
def Xe(l:List α)(k:Nat):Xb l (k:Int)=l[k]?:=by unfold Xb;simp
def X0{l:List α}{i:Int}(e:0<=i)(f:i<l.length):Xb l i=some (l[i.toNat]'aa):=by unfold Xb;simp_all
def Xal{l:List α}{i:Int}{p:α}:Xb l i=some p↔0<=i/\l[i.toNat]? = some p:=by unfold Xb;simp
def YT{l:List α}{i:Int}{p:α}(h:Xb l i=some p):p∈l:=Ua (Xal.1 h).2
def XjM{l:List α}{i:Int}(h:¬(0<=i/\i<l.length)):Xb l i=none:=by unfold Xb;simp_all
def Wg{x:β}(h:P x):Ok (some x) P:=⟨x,rfl,h⟩
def WH{o:Option α}{f:α->Option β}{Q:α->Prop}(h:Ok o Q)(k:∀y,o=.some y->Q y->Ok (f y) P):Ok (Sx.bnd o f) P:=by obtain⟨y,rfl,e⟩:=h;simp_all[Xa]
def W8{p:Prop}[Decidable p]{x:Option β}(h:p)(k:Ok x P):Ok (Sx.grd p x) P:=by simp_all[Xc,h]
def Iu{κ:Type}{k:κ}{f:κ->Option β}(h:Ok (f k) P):Ok (Sx.jn k f) P:=by simp_all[Xz]
def Ws{b:Bool}{x y:Option β}(e:b=true->Ok x P)(f:b=false->Ok y P):Ok (bif b then x else y) P:=by grind
def Ok.get{l:List α}{i:Int}{f:α->Option β}(e:0<=i)(g:i<l.length)(k:∀p,Xb l i=.some p->Ok (f p) P):Ok (Sx.bnd (Xb l i) f) P:=by simp_all[X0,e,g,Xa]
def Ok.mono{o:Option β}{Q:β->Prop}(h:Ok o Q)(k:∀x,Q x->P x):Ok o P:=by obtain⟨y,rfl,e⟩:=h;exact⟨y,rfl,k y e⟩
def Ok.get_eq{o:Option β}{x:β}(h:Ok o P)(e:o=.some x):P x:=by have⟨y,f,g⟩:=h;simp_all
def Ok.isSome{o:Option β}(h:Ok o P):o≠none:=by obtain⟨y,rfl,_⟩:=h;simp
def IT{α':Type}{o:Option (Ex α' α)}{f:α'->Option β}{k:α->Option β}{Q:Ex α' α->Prop}(h:Ok o Q)(g:∀a,Q (.ret a)->Ok (f a) P)(j:∀b,Q (.nxt b)->Ok (k b) P):Ok (Sx.bnd o λe=>exK e f k) P:=by
 obtain⟨y,rfl,l⟩:=h;rw[Xa];cases y with
 |ret a=>simp_all[XD]
 |nxt b=>simp_all[Xq]
end
def Xd{n:Int}(h:-9223372036854775808<=n)(j:n<=9223372036854775807):wI n=n:=by
 have e:wI n=if n % 18446744073709551616>=9223372036854775808 then n % 18446744073709551616-18446744073709551616 else n % 18446744073709551616:=by have f:IntKind.bits .i64=64:=rfl;have g:IntKind.signed .i64=true:=rfl;simp[wI,IntKind.wrap,f,g]
 omega
theorem XcI(n:Int):wU n=n % 18446744073709551616:=by rfl
def XA{n:Int}(e:0<=n)(f:n<=18446744073709551615):wU n=n:=by grind[XcI]
def XcJ(n:Int):0<=wU n/\wU n<=18446744073709551615:=by grind[XcI]
theorem Xlw(n:Int):wW n=n % 4294967296:=by rfl
def Xlx{n:Int}(e:0<=n)(f:n<=4294967295):wW n=n:=by grind[Xlw]
def Xly{n:Int}(g:0<=n)(j:n<=63):ZP .u64 1 n=2 ^ n.toNat:=by
 have e:IntKind.bits .u64=64:=rfl;have h:min n.toNat 64=n.toNat:=aa;have hp:(2:Int) ^ n.toNat<=2 ^ 63:=by have:2 ^ n.toNat<=2 ^ 63:=IB aa aa;exact_mod_cast this
 have f:(0:Int)<=2 ^ n.toNat:=Int.pow_nonneg ae;show IntKind.wrap .u64 (1*2 ^ min n.toNat (IntKind.bits .u64))=_;rw[e,h,I5];exact XA f aa
def YG(a:Int)(k:Nat)(e:k<=64)(f:0<=a):YC .u64 a k=a / 2 ^ k:=by have g:IntKind.bits .u64=64:=rfl;show a.fdiv (2 ^ min (k:Int).toNat (IntKind.bits .u64))=_;grind
def Ys(a:Int)(k:Nat)(f:k<=63)(g:0<=a)(h:a<=18446744073709551615):Y2 .u64 a (2 ^ k-1)=a % 2 ^ k:=by
 obtain⟨n,rfl⟩:=Um g;have hb:IntKind.u64.bits=64:=rfl;show IntKind.u64.wrap ((BitVec.ofInt IntKind.u64.bits n &&& BitVec.ofInt IntKind.u64.bits (2 ^ k-1)).toNat:Int)=_;rw[hb];have e:(2:Int) ^ k-1=((2 ^ k-1:Nat):Int):=by
  have h:=Nat.one_le_two_pow (n:=k);have j:(2:Int) ^ k=((2 ^ k:Nat):Int):=by simp
  rw[j];omega
 have l:BitVec.ofInt 64 (n:Int)=BitVec.ofNat 64 n:=by simp
 have o:BitVec.ofInt 64 ((2 ^ k-1:Nat):Int)=BitVec.ofNat 64 (2 ^ k-1):=by simp
 rw[e,l,o,BitVec.toNat_and,U6,U6];have p:n % 2 ^ 64=n:=Ij aa;have hp:2 ^ k<=2 ^ 63:=IB aa f;have q:(2 ^ k-1) % 2 ^ 64=2 ^ k-1:=Ij aa;rw[p,q,Nat.and_two_pow_sub_one_eq_mod];show wU _=_;rw[XA aa aa];simp
def PT{α:Type}(o:Option α)(P:α->Prop):Prop:=∀r,o=some r->P r
def tU(n:Int):Prop:=0<=n/\n<=18446744073709551615
def tW(n:Int):Prop:=0<=n/\n<=4294967295
def tL{α:Type}(T:α->Prop)(l:List α):Prop:=∀x∈l,T x
def tE{α β:Type}(A:α->Prop)(B:β->Prop):Ex α β->Prop
 |.ret a=>A a
 |.nxt b=>B b
section
variable {α β γ:Type}{P:β->Prop}{T:α->Prop}
def Wh{x:β}(h:P x):PT (some x) P:=λr e=>WE e▸h
def IZ:PT none P:=λr e=>by grind
def Wx{o:Option α}{f:α->Option β}{Q:α->Prop}(h:PT o Q)(k:∀y,Q y->PT (f y) P):PT (Sx.bnd o f) P:=by
 cases o with
 |none=>rw[ZR];exact IZ
 |some y=>rw[Xa];exact k y (h y rfl)
def WR{o:Option α}{f:α->Option β}(k:∀y,PT (f y) P):PT (Sx.bnd o f) P:=by
 cases o with
 |none=>rw[ZR];exact IZ
 |some y=>simp_all[Xa]
def W6{p:Prop}[Decidable p]{x:Option β}(k:PT x P):PT (Sx.grd p x) P:=by
 unfold Sx.grd;split
 .omega
 exact IZ
def US{κ:Type}{k:κ}{f:κ->Option β}{Q:κ->Prop}(h:Q k)(g:∀j,Q j->PT (f j) P):PT (Sx.jn k f) P:=by simp_all[Xz]
def Wn{b:Bool}{x y:Option β}(e:PT x P)(f:PT y P):PT (bif b then x else y) P:=by grind
def PT.get{l:List α}{i:Int}{f:α->Option β}(h:tL T l)(k:∀p,T p->PT (f p) P):PT (Sx.bnd (Xb l i) f) P:=
 Wx (Q:=T) (λr e=>h r (YT e)) k
def Ou{α':Type}{o:Option (Ex α' α)}{f:α'->Option β}{k:α->Option β}{A:α'->Prop}(h:PT o (tE A T))(j:∀a,A a->PT (f a) P)(l:∀b,T b->PT (k b) P):PT (Sx.bnd o λe=>exK e f k) P:=by
 refine Wx h λy g=>?_;cases y with
 |ret a=>rw[XD];exact j a g
 |nxt b=>rw[Xq];exact l b g
def OX{o:Option β}{r:β}(h:PT o P)(e:o=.some r):P r:=h r e
end
@[simp] def XsF{α β:Type}(A:α->Prop)(B:β->Prop)(a:α):tE A B (.ret a)=A a:=rfl
@[simp] def XsG{α β:Type}(A:α->Prop)(B:β->Prop)(b:β):tE A B (.nxt b)=B b:=rfl
@[simp] def XsH(n:Nat):tU (no_index (OfNat.ofNat n):Int)=((OfNat.ofNat n:Nat)<=18446744073709551615):=by have:(no_index (OfNat.ofNat n):Int)=(n:Int):=rfl;simp only[eq_iff_iff];show(0:Int)<=n/\(n:Int)<=18446744073709551615↔n<=18446744073709551615;omega
@[simp] def XsI(n:Nat):tW (no_index (OfNat.ofNat n):Int)=((OfNat.ofNat n:Nat)<=4294967295):=by have:(no_index (OfNat.ofNat n):Int)=(n:Int):=rfl;simp only[eq_iff_iff];show(0:Int)<=n/\(n:Int)<=4294967295↔n<=4294967295;omega
@[simp] def XtB(n:Int):tU (wU n):=XcJ n
@[simp] def Xrf(n:Int):tW (wW n):=by unfold tW;rw[Xlw];omega
def Xa0(n:Int):tU (IntKind.wrap .u64 n):=XcJ n
def Xlz(n:Int):tW (IntKind.wrap .u32 n):=Xrf n
@[simp] def Xsn(a b:Int):tU (Y2 .u64 a b):=Xa0 _
@[simp] def XsJ(a b:Int):tU (bOr .u64 a b):=Xa0 _
@[simp] def Xso(a b:Int):tU (Xps .u64 a b):=Xa0 _
@[simp] def Xsp(a b:Int):tU (ZP .u64 a b):=Xa0 _
@[simp] def Xsq(a b:Int):tW (Y2 .u32 a b):=Xlz _
def Xpg{a b:Int}(h:0<=a)(k:IntKind):0<=YC k a b/\YC k a b<=a:=by show 0<=a.fdiv _/\a.fdiv _<=a;have hp:(0:Int)<2 ^ min b.toNat (IntKind.bits k):=Int.pow_pos ae;rw[Int.fdiv_eq_ediv_of_nonneg _ aa];exact⟨Int.ediv_nonneg h aa,Int.ediv_le_self _ h⟩
@[simp] def Xsr{a b:Int}(h:tU a):tU (YC .u64 a b):=by have:=Xpg (b:=b) h.1 .u64;unfold tU at *;omega
@[simp] def Xss{a b:Int}(h:tW a):tW (YC .u32 a b):=by have:=Xpg (b:=b) h.1 .u32;unfold tW at *;omega
@[simp] def Xst{a b:Int}(h:tU a):tU (a.tmod b):=by
 unfold tU at *;rw[Ip h.1];by_cases hb:b=0
 .subst hb;rw[Int.emod_zero];exact h
 have h1:=Int.emod_nonneg a hb;have h2:a % b<=a:=by
  obtain⟨n,rfl⟩:=Um h.1;rcases Int.natAbs_eq b with e|e
  .rw[e,←Int.natCast_emod];have:=Nat.mod_le n b.natAbs;omega
  rw[e,Int.emod_neg,←Int.natCast_emod];have:=Nat.mod_le n b.natAbs;omega
 omega
section
variable {α:Type}{T:α->Prop}
@[simp] def XsK:tL T ([]:List α):=λx h=>by grind
@[simp] def Xsu{x:α}{l:List α}:tL T (x::l)↔T x/\tL T l:=by unfold tL;simp
@[simp] def XqL{a b:List α}:tL T (a++b)↔tL T a/\tL T b:=by unfold tL;simp;exact⟨λh=>⟨λx hx=>h x (.inl hx),λx hx=>h x (.inr hx)⟩,λh x hx=>hx.elim (h.1 x) (h.2 x)⟩
@[simp] def XcK{l:List α}{i:Nat}{x:α}(h:tL T l)(hx:T x):tL T (l.set i x):=λy hy=>by
 rcases Uy hy with h1|h1
 .exact h y h1
 simp_all
@[simp] def Xsv{l:List α}{i:Nat}(h:tL T l):tL T (l.take i):=λy hy=>h y (WW hy)
@[simp] def Xsw{l:List α}{i:Nat}(h:tL T l):tL T (l.drop i):=λy hy=>h y (WS hy)
@[simp] def XsL{n:Nat}{x:α}(h:T x):tL T (List.replicate n x):=λy hy=>by simp_all
end
@[simp] def XsM{p:Prop}[Decidable p]{a b:Int}(ha:tU a)(hb:tU b):tU (if p then a else b):=by split;exact ha;exact hb
set_option maxHeartbeats 1000000
def XV(s:Wo):Prop:=(tL tU) s.w
def YV(s:UA):Prop:=tU s.a
def XR(s:Wm):Prop:=(tL YV) s.S
def XJ(s:WQ):Prop:=tU s.a
def X8(s:Wr):Prop:=(tL XJ) s.e
def Zt(s:Uz):Prop:=tU s.a
def Yu(s:WI):Prop:=XV s.h/\XR s.l/\X8 s.g/\X8 s.v/\(tL Zt) s.P/\(tL tU) s.R
def Zg(s:WC):Prop:=tW s.Map
def Zz(s:Ii):Prop:=Zg s.H/\(tL tU) s.D
def Kq(s:Is):Prop:=tU s.I/\tU s.B0
def X1(s:WU):Prop:=(tL Zz) s.T/\XR s.l/\X8 s.g/\X8 s.v/\(tL Kq) s.m/\(tL tU) s.R
def Xav(s:Ik):Prop:=Yu s.N/\X1 s.z/\(tL tU) s.w
def XeZ(s:Ol):Prop:=tU s.A/\tU s.B/\tU s.C
def XlA(s:OE):Prop:=XV s.h/\(tL tU) s.Strong/\(tL tU) s.Weak
def Xhx(s:Oo):Prop:=tU s.B0
def XlB(s:I7):Prop:=XR s.l
def Xob(s:UB):Prop:=tU s.Value
def X2(s:WD):Prop:=XV s.h/\(tL tU) s.o/\(tL tU) s.q
def XjN(s:Ud):Prop:=tU s.Addr
def Xoc(s:UN):Prop:=tU s.addr/\Zg s.hd
@[simp] def Xod{l:List UA}{i:Nat}{x:UA}(h:tL YV l)(hx:tU x.a):tL YV (l.set i x):=XcK h hx
@[simp] def Xng{l:List WQ}{i:Nat}{x:WQ}(h:tL XJ l)(hx:tU x.a):tL XJ (l.set i x):=XcK h hx
@[simp] def Xph{l:List Uz}{i:Nat}{x:Uz}(h:tL Zt l)(hx:tU x.a):tL Zt (l.set i x):=XcK h hx
@[simp] def Xoe{l:List Is}{i:Nat}{x:Is}(h:tL Kq l)(hx:tU x.I/\tU x.B0):tL Kq (l.set i x):=XcK h hx
@[simp] def Xnh{l:List Ii}{i:Nat}{x:Ii}(h:tL Zz l)(hx:tW x.H.Map/\(tL tU) x.D):tL Zz (l.set i x):=XcK h hx
attribute [local simp] XV YV XR XJ X8 Zt Yu Zg Zz Kq X1 Xav XeZ XlA Xhx XlB Xob X2 XjN Xoc
def Qf0{N g l}(o:Xav g):PT (QbX N g l) (λr=>tU r.1):=by rw[QbX];refine(WR λu=>(Wn (WR λv=>(PT.get (T:=tU) ?_ λw y=>(Wh ?_))) (Wn (WR λz=>(PT.get (T:=tU) ?_ λA B=>(WR λD=>(Wh ?_)))) (US (Q:=λk=>∀h,PT (k h) _) (λh=>(Wn (WR λE=>(PT.get (T:=tU) ?_ λp G=>(Wh ?_))) (WR λq=>(PT.get (T:=tU) ?_ λs H=>(Wh ?_))))) λI e=>(Wn (e _) (US (Q:=λk=>∀j,PT (k j) _) (λj=>(e _)) λJ f=>(Wn (f _) (f _))))))));all_goals simp_all (maxDischargeDepth:=9)
def Qkf{N l p}(q:Xav l):PT (Qdk N l p) (λr=>XeZ r.1):=by rw[Qdk];refine(WR λB=>(WR λD=>(Wn (WR λE=>(W6 (WR λG=>(Wh ?_)))) (US (Q:=λk=>∀o,PT (k o) _) (λo=>(Wn (WR λH=>(WR λI=>(Wn (WR λJ=>(Wh ?_)) (Wh ?_)))) (Wn (WR λK=>(Wh ?_)) (Wx (Qf0 ?_) λs L=>(WR λu=>(WR λv=>(US (Q:=λk=>∀g h e,tU e->PT (k g h e) _) (λg h e M=>(Wn (Wx (Qf0 ?_) λw O=>(Wh ?_)) (Wh ?_))) λR f=>(Wn (Wx (Qf0 ?_) λy S=>(f _ _ _ ?_)) (WR λz=>(Wn (Wx (Qf0 ?_) λA U=>(f _ _ _ ?_)) (f _ _ _ ?_))))))))))) λV j=>(Wn (j _) (j _))))));all_goals simp_all (maxDischargeDepth:=9)
def Qpd{N e}:PT (QhD N e) (λr=>XV r.1):=by rw[QhD];refine(WR λf=>(Wn (Wh ?_) (W6 (W6 (Wh ?_)))));all_goals simp_all (maxDischargeDepth:=9)
def Qpe{N e}:PT (QgU N e) (λr=>Yu r.1):=by rw[QgU];refine(Wx (Qpd) λf g=>(Wh ?_));all_goals simp_all (maxDischargeDepth:=9)
def Qpf{N e}:PT (QgV N e) (λr=>X1 r.1):=by rw[QgV];refine(WR λf=>(Wn (Wh ?_) (Wh ?_)));all_goals simp_all (maxDischargeDepth:=9)
def QjK{N e}:PT (Qca N e) (λr=>Xav r.1):=by rw[Qca];refine(WR λf=>(Wx (Qpe) λg h=>(Wx (Qpf) λj k=>(WR λl=>(Wh ?_)))));all_goals simp_all (maxDischargeDepth:=9)
def Qfw{N e f}(g:(tL tU) e)(h:tU f):PT (Qbl N e f) (λr=>tU r.1):=by rw[Qbl];refine(WR λj=>(Wn (Wh ?_) (PT.get (T:=tU) ?_ λk l=>(Wh ?_))));all_goals simp_all (maxDischargeDepth:=9) []
def Qh5{N e}(f:Zg e):PT (QcM N e) (λr=>tU r.1):=by rw[QcM];refine(WR λg=>(Wn (Wh ?_) (Wh ?_)));all_goals simp_all (maxDischargeDepth:=9)
def Qh6{N e}(f:tU e):PT (QcN N e) (λr=>Zg r.1):=by rw[QcN];refine(Wx (Qh5 ?_) λg h=>(Wn (Wh ?_) (Wn (Wh ?_) (Wh ?_))));all_goals simp_all (maxDischargeDepth:=9)
def Qi0{N f g}(h:XV f)(j:tU g):PT (Qar N f g) (λr=>Zg r.1):=by rw[Qar];refine(WR λl=>(Wn (Wh ?_) (WR λo=>(Wn (Wh ?_) (WR λp=>(Wx (Qfw ?_ ?_) λq s=>(Wx (Qh6 ?_) λu v=>(US (Q:=λk=>∀_,PT (k ()) _) (λ_=>(WR λw=>(Wn (Wn (Wh ?_) (Wn (Wn (Wh ?_) (Wn (Wh ?_) (Wh ?_))) (Wh ?_))) (Wn (Wn (Wh ?_) (Wn (Wh ?_) (Wh ?_))) (Wh ?_))))) λy e=>(Wn (Wn (Wh ?_) (Wn (Wh ?_) (Wn (Wh ?_) (e ())))) (Wn (Wh ?_) (Wn (Wh ?_) (e ()))))))))))));all_goals simp_all (maxDischargeDepth:=9)
def QkF{N e f g}:PT (Qbv N e f g) (λr=>tU r.1):=by rw[Qbv];refine(WR λh=>(Wn (Wh ?_) (Wn (Wh ?_) (Wn (Wh ?_) (Wn (Wh ?_) (Wn (Wh ?_) (Wh ?_)))))));all_goals simp_all (maxDischargeDepth:=9) []
def QiD{N a0 a1 p2}(e:XV a0):∀n g f,(tL tU) f->PT (QaA N a0 a1 p2 n g f) (tE (λr=>(tL tU) r.1) (tL tU))
 |0,_,_,_=>by rw[QaA];exact IZ
 |n+1,g,f,j=>by have h:=QiD (N:=N) (a0:=a0) (a1:=a1) (p2:=p2) e n;rw[QaA];refine(Wn (Wx (QkF) λk l=>(Wx (Qi0 ?_ ?_) λo p=>(Wn (Wh ?_) (W6 (Wn (Wh ?_) (WR λq=>(h _ _ ?_))))))) (Wh ?_));all_goals (clear h;simp_all (maxDischargeDepth:=9))
def QkG{N g j k n l h}(e:XV g)(f:(tL tU) h):PT (QaA N g j k n l h) (tE (λr=>(tL tU) r.1) (tL tU)):=QiD e n _ _ f
def QnZ{N e f}(g:XV e):PT (Qam N e f) (λr=>(tL tU) r.1):=by rw[Qam];refine(WR λh=>(Wn (Wh ?_) (Wn (Wh ?_) (Wn (Wh ?_) (WR λj=>(Wn (Wh ?_) (Wn (Wh ?_) (Ou (QkG ?_ ?_) (λr k=>(Wh ?_)) λl o=>(Wh ?_)))))))));all_goals simp_all (maxDischargeDepth:=9)
def QiE{N e f}(g:XV e)(h:tU f):PT (QcF N e f) (λr=>Zg r.1):=by rw[QcF];refine(WR λj=>(Wn (Wh ?_) (Wn (Wh ?_) (Wx (Qi0 ?_ ?_) λk l=>(Wn (Wn (Wh ?_) (Wh ?_)) (Wh ?_))))));all_goals simp_all (maxDischargeDepth:=9)
def Qim{N a0}(e:XV a0):∀n g f,(tL tU) f->PT (QaX N a0 n g f) (tE (λr=>(tL tU) r.1) (tL tU))
 |0,_,_,_=>by rw[QaX];exact IZ
 |n+1,g,f,j=>by have h:=Qim (N:=N) (a0:=a0) e n;rw[QaX];refine(Wn (Wx (QnZ ?_) λk l=>(Wn (Wh ?_) (W6 (h _ _ ?_)))) (Wh ?_));all_goals (clear h;simp_all (maxDischargeDepth:=9))
def QjL{N g n j h}(e:XV g)(f:(tL tU) h):PT (QaX N g n j h) (tE (λr=>(tL tU) r.1) (tL tU)):=Qim e n _ _ f
def QlK{N e}(f:XV e):PT (QcO N e) (λr=>(tL tU) r.1):=by rw[QcO];refine(WR λg=>(Wn (Wh ?_) (Ou (QjL ?_ ?_) (λr h=>(Wh ?_)) λj k=>(Wh ?_))));all_goals simp_all (maxDischargeDepth:=9)
def Qh8{N a0 y1}(e:XV a0)(f:(λr=>(tL tU) r.1) y1):∀n j g,(tL tU) g->PT (Qa0 N a0 y1 n j g) (tL tU)
 |0,_,_,_=>by rw[Qa0];exact IZ
 |n+1,j,g,k=>by have h:=Qh8 (N:=N) (a0:=a0) (y1:=y1) e f n;rw[Qa0];refine(Wn (PT.get (T:=tU) ?_ λl o=>(Wx (Qi0 ?_ ?_) λp q=>(Wn (PT.get (T:=tU) ?_ λs u=>(W6 (h _ _ ?_))) (h _ _ ?_)))) (Wh ?_));all_goals (clear h;simp_all (maxDischargeDepth:=9))
def Qjh{N h j n l k}(e:XV h)(f:(λr=>(tL tU) r.1) j)(g:(tL tU) k):PT (Qa0 N h j n l k) (tL tU):=Qh8 e f n _ _ g
def QkH{N e}(f:XV e):PT (QaK N e) (λr=>(tL tU) r.1):=by rw[QaK];refine(Wx (QlK ?_) λg h=>(Wx (Qjh ?_ ?_ ?_) λj k=>(Wh ?_)));all_goals simp_all (maxDischargeDepth:=9)
def Qn0{N e f g}(h:(tL tU) e)(j:tU f):PT (QdC N e f g) (λr=>(tL tU) r.1):=by rw[QdC];refine(Wn (Wh ?_) (WR λk=>(Wn (Wh ?_) (W6 (W6 (Wh ?_))))));all_goals simp_all (maxDischargeDepth:=9) []
def QiF{N a0}(e:X8 a0):∀n h f,(tL tU) f->PT (Qbw N a0 n h f) (tL tU)
 |0,_,_,_=>by rw[Qbw];exact IZ
 |n+1,h,f,j=>by have g:=QiF (N:=N) (a0:=a0) e n;rw[Qbw];refine(Wn (WR λk=>(Wn (PT.get (T:=XJ) ?_ λl o=>(Wn (PT.get (T:=XJ) ?_ λp q=>(W6 (g _ _ ?_))) (g _ _ ?_))) (Wh ?_))) (Wh ?_));all_goals (clear g;simp_all (maxDischargeDepth:=9))
def QkI{N g n j h}(e:X8 g)(f:(tL tU) h):PT (Qbw N g n j h) (tL tU):=QiF e n _ _ f
def QgF{N e}(f:X8 e):PT (Qbt N e) (tL tU):=by rw[Qbt];refine(Wx (QkI ?_ ?_) λg h=>(Wh ?_));all_goals simp_all (maxDischargeDepth:=9)
def QiG{N a0}(e:XR a0):∀n h f,(tL tU) f->PT (Qbx N a0 n h f) (tL tU)
 |0,_,_,_=>by rw[Qbx];exact IZ
 |n+1,h,f,j=>by have g:=QiG (N:=N) (a0:=a0) e n;rw[Qbx];refine(Wn (WR λk=>(Wn (PT.get (T:=YV) ?_ λl o=>(Wn (PT.get (T:=YV) ?_ λp q=>(W6 (g _ _ ?_))) (g _ _ ?_))) (Wh ?_))) (Wh ?_));all_goals (clear g;simp_all (maxDischargeDepth:=9))
def QkJ{N g n j h}(e:XR g)(f:(tL tU) h):PT (Qbx N g n j h) (tL tU):=QiG e n _ _ f
def Qio{N e}(f:XR e):PT (Qc1 N e) (tL tU):=by rw[Qc1];refine(Wx (QkJ ?_ ?_) λg h=>(Wh ?_));all_goals simp_all (maxDischargeDepth:=9)
def Qag{N e}:PT (Qad N e) (λr=>Yu r.1/\tU r.2.1):=by rw[Qad];refine(Wh ?_);all_goals simp_all (maxDischargeDepth:=9)
def Qi5{N g e f}(h:tU e)(j:tU f):PT (QbI N g e f) (λr=>Zg r.1):=by rw[QbI];refine(Wn (Wn (Wh ?_) (Wh ?_)) (Wh ?_));all_goals simp_all (maxDischargeDepth:=9)
def QiH{N e f}(g:XR e)(h:tU f):PT (Qej N e f) (λr=>XR r.1):=by rw[Qej];refine(WR λj=>(Wn (Wh ?_) (Wn (Wh ?_) (Wn (Wh ?_) (WR λk=>(WR λl=>(WR λo=>(Wn (Wh ?_) (Wn (Wh ?_) (W6 (W6 (W6 (W6 (Wh ?_))))))))))))));all_goals simp_all (maxDischargeDepth:=9)
def Qm3{N e}(f:XV e):PT (QeV N e) (λr=>X2 r.1):=by rw[QeV];refine(WR λg=>(Wn (Wh ?_) (WR λh=>(Wn (Wh ?_) (Wx (QkH ?_) λj k=>(W6 (WR λl=>(Wh ?_))))))));all_goals simp_all (maxDischargeDepth:=9)
def Qir{N a2 y1}(e:(tL tU) a2):∀n g f,(tL tU) f->PT (Qb1 N a2 y1 n g f) (tL tU)
 |0,_,_,_=>by rw[Qb1];exact IZ
 |n+1,g,f,j=>by have h:=Qir (N:=N) (a2:=a2) (y1:=y1) e n;rw[Qb1];refine(Wn (PT.get (T:=tU) ?_ λk l=>(PT.get (T:=tU) ?_ λo p=>(h _ _ ?_))) (Wh ?_));all_goals (clear h;simp_all (maxDischargeDepth:=9) [])
def Qkg{N g j n k h}(e:(tL tU) g)(f:(tL tU) h):PT (Qb1 N g j n k h) (tL tU):=Qir e n _ _ f
def Qhi{N e f g}(h:(tL tU) e)(j:tU f)(k:(tL tU) g):PT (Qci N e f g) (λr=>(tL tU) r.1):=by rw[Qci];refine(WR λl=>(Wn (Wh ?_) (W6 (Wx (Qkg ?_ ?_) λo p=>(Wh ?_)))));all_goals simp_all (maxDischargeDepth:=9) []
def Qid{N e f g}(h:(tL tU) e)(j:tU f)(k:tU g):PT (QcP N e f g) (λr=>(tL tU) r.1):=by rw[QcP];refine(Wx (Qhi ?_ ?_ ?_) λl o=>(Wh ?_));all_goals simp_all (maxDischargeDepth:=9) []
def QiW{N e}(f:tU e):PT (QcQ N e) (λr=>tU r.1):=by rw[QcQ];refine(Wn (Wh ?_) (Wn (Wh ?_) (Wh ?_)));all_goals simp_all (maxDischargeDepth:=9) []
def Qjf{N e f}(g:X2 e)(h:tU f):PT (Qeb N e f) X2:=by rw[Qeb];refine(W6 (W6 (Wh ?_)));all_goals simp_all (maxDischargeDepth:=9)
def Qm4{N f g}(h:X2 f):PT (QcR N f g) (λr=>X2 r.1/\tU r.2.1):=by rw[QcR];refine(W6 (US (Q:=λk=>∀_,PT (k ()) _) (λ_=>(WR λu=>(Wn (Wh ?_) (WR λv=>(W6 (W6 (WR λj=>(WR λl=>(WR λo=>(Wh ?_)))))))))) λw e=>(Wn (WR λy=>(WR λz=>(Wn (WR λA=>(WR λp=>(WR λq=>(WR λs=>(Wh ?_))))) (e ())))) (e ()))));all_goals simp_all (maxDischargeDepth:=9)
def Qn1{N e f g h}(j:(tL tU) e)(k:tU f)(l:tU g):PT (Qgl N e f g h) (λr=>(tL tU) r.1):=by rw[Qgl];refine(Wx (Qn0 ?_ ?_) λo p=>(Wn (Wh ?_) (Wx (Qhi ?_ ?_ ?_) λq s=>(Wh ?_))));all_goals simp_all (maxDischargeDepth:=9) []
def QkK{N e}(f:tU e):PT (Qc2 N e) (λr=>tU r.1):=by rw[Qc2];refine(Wn (Wh ?_) (Wh ?_));all_goals simp_all (maxDischargeDepth:=9) []
def QiI{N e f}(g:X2 e)(h:tU f):PT (Qa7 N e f) (λr=>X2 r.1/\tU r.2.1):=by rw[Qa7];refine(Wn (Wh ?_) (WR λv=>(Wn (Wh ?_) (WR λw=>(Wn (Wh ?_) (Wx (Qfw ?_ ?_) λy z=>(Wx (QiW ?_) λA B=>(Wn (Wh ?_) (WR λD=>(Wn (Wh ?_) (Wn (Wh ?_) (WR λE=>(Wn (Wx (Qjf ?_ ?_) λG H=>(Wh ?_)) (WR λI=>(Wn (W6 (WR λJ=>(WR λj=>(Wx (Qjf ?_ ?_) λk K=>(Wh ?_))))) (Wx (Qh6 ?_) λl L=>(WR λo=>(Wx (Qm4 ?_) λp M=>(Wn (Wh ?_) (Wx (Qn1 ?_ ?_ ?_) λq O=>(Wx (QkK ?_) λs R=>(Wx (Qid ?_ ?_ ?_) λu S=>(W6 (W6 (Wh ?_)))))))))))))))))))))))));all_goals simp_all (maxDischargeDepth:=9)
def Qis{N a1}(q:(tL tU) a1):∀n v w y s z A B u D e g h j k l o p f,(tL tU) s->(tL tU) u->(tL tU) e->(tL tU) f->PT (Qbk N a1 n v w y s z A B u D e g h j k l o p f) (tE (λr=>X2 r.1/\(tL tU) r.2.1) (λr=>(tL tU) r.2.2.1/\(tL tU) r.2.2.2.2.2.2.1/\(tL tU) r.2.2.2.2.2.2.2.2.1/\(tL tU) r.2.2.2.2.2.2.2.2.2.2.2.2.2.2.2.2))
 |0,_,_,_,_,_,_,_,_,_,_,_,_,_,_,_,_,_,_,_,_,_,_=>by rw[Qbk];exact IZ
 |n+1,v,w,y,s,z,A,B,u,D,e,g,h,j,k,l,o,p,f,I,J,E,G=>by have H:=Qis (N:=N) (a1:=a1) q n;rw[Qbk];refine(Wn (PT.get (T:=tU) ?_ λK M=>(Wx (QiI ?_ ?_) λL O=>(Wn (Wh ?_) (W6 (H _ _ _ _ _ _ _ _ _ _ _ _ _ _ _ _ _ _ ?_ ?_ ?_ ?_))))) (Wh ?_));all_goals (clear H;simp_all (maxDischargeDepth:=9))
def Qkh{N y n B D E z G H I A J e j k l o p q s f}(u:(tL tU) y)(v:(tL tU) z)(w:(tL tU) A)(g:(tL tU) e)(h:(tL tU) f):PT (Qbk N y n B D E z G H I A J e j k l o p q s f) (tE (λr=>X2 r.1/\(tL tU) r.2.1) (λr=>(tL tU) r.2.2.1/\(tL tU) r.2.2.2.2.2.2.1/\(tL tU) r.2.2.2.2.2.2.2.2.1/\(tL tU) r.2.2.2.2.2.2.2.2.2.2.2.2.2.2.2.2)):=Qis u n _ _ _ _ _ _ _ _ _ _ _ _ _ _ _ _ _ _ v w g h
def Qm5{N e f}(g:X2 e)(h:(tL tU) f):PT (Qec N e f) (λr=>X2 r.1/\(tL tU) r.2.1):=by rw[Qec];refine(Ou (Qkh ?_ ?_ ?_ ?_ ?_) (λr k=>(Wh ?_)) λj l=>(Wh ?_));all_goals simp_all (maxDischargeDepth:=9)
def QjM{N e f}(g:X2 e)(h:tU f):PT (QeW N e f) Zg:=by rw[QeW];refine(Wx (Qfw ?_ ?_) λj k=>(Wx (Qh6 ?_) λl o=>(Wh ?_)));all_goals simp_all (maxDischargeDepth:=9)
def QiJ{N p1 y3}(u:tU p1):∀n w y z v A B g e h f j k l o p q s,(tL tU) v->(tL tU) e->(tL tU) f->PT (Qbz N p1 y3 n w y z v A B g e h f j k l o p q s) (tE (λr=>X2 r.1) (λr=>(tL tU) r.2.2.1/\(tL tU) r.2.2.2.2.2.2.1/\(tL tU) r.2.2.2.2.2.2.2.2.1))
 |0,_,_,_,_,_,_,_,_,_,_,_,_,_,_,_,_,_,_,_,_=>by rw[Qbz];exact IZ
 |n+1,w,y,z,v,A,B,g,e,h,f,j,k,l,o,p,q,s,H,D,E=>by have G:=QiJ (N:=N) (p1:=p1) (y3:=y3) u n;rw[Qbz];refine(Wn (WR λI=>(Wx (Qfw ?_ ?_) λJ M=>(Wx (QiI ?_ ?_) λK O=>(Wn (Wh ?_) (Wx (Qid ?_ ?_ ?_) λL R=>(G _ _ _ _ _ _ _ _ _ _ _ _ _ _ _ _ _ ?_ ?_ ?_)))))) (Wh ?_));all_goals (clear G;simp_all (maxDischargeDepth:=9))
def QkL{N z B n D E G A H I j e k f l o p q s u v}(w:tU z)(y:(tL tU) A)(g:(tL tU) e)(h:(tL tU) f):PT (Qbz N z B n D E G A H I j e k f l o p q s u v) (tE (λr=>X2 r.1) (λr=>(tL tU) r.2.2.1/\(tL tU) r.2.2.2.2.2.2.1/\(tL tU) r.2.2.2.2.2.2.2.2.1)):=QiJ w n _ _ _ _ _ _ _ _ _ _ _ _ _ _ _ _ _ y g h
def Qn2{N e}(f:X2 e):PT (Qgm N e) (λr=>X2 r.1):=by rw[Qgm];refine(Wn (Wh ?_) (PT.get (T:=tU) ?_ λh j=>(Wx (QjM ?_ ?_) λk l=>(WR λo=>(Ou (QkL ?_ ?_ ?_ ?_) (λr p=>(Wh ?_)) λg q=>(Wh ?_))))));all_goals simp_all (maxDischargeDepth:=9)
def QiX{N}:∀n s u o v w y p z q e f g h j k l,(tL tU) o->(tL tU) p->(tL tU) q->PT (QbT N n s u o v w y p z q e f g h j k l) (λr=>X2 r.1)
 |0,_,_,_,_,_,_,_,_,_,_,_,_,_,_,_,_,_,_,_=>by rw[QbT];exact IZ
 |n+1,s,u,o,v,w,y,p,z,q,e,f,g,h,j,k,l,B,D,E=>by have A:=QiX (N:=N) n;rw[QbT];refine(Wx (Qn2 ?_) λG H=>(Wn (Wh ?_) (Wn (Wh ?_) (A _ _ _ _ _ _ _ _ _ _ _ _ _ _ _ _ ?_ ?_ ?_))));all_goals (clear A;simp_all (maxDischargeDepth:=9))
def QlL{N n w y s z A B u D v e f g h j k l}(o:(tL tU) s)(p:(tL tU) u)(q:(tL tU) v):PT (QbT N n w y s z A B u D v e f g h j k l) (λr=>X2 r.1):=QiX n _ _ _ _ _ _ _ _ _ _ _ _ _ _ _ _ o p q
def Qpg{N e}(f:X2 e):PT (Qfy N e) (λr=>X2 r.1):=by rw[Qfy];refine(Wx (QlL ?_ ?_ ?_) λr g=>(Wh ?_));all_goals simp_all (maxDischargeDepth:=9)
def Qm6{N e f}(g:X2 e)(h:tU f):PT (Qed N e f) tU:=by rw[Qed];refine(WR λj=>(Wn (Wh ?_) (Wx (Qfw ?_ ?_) λk l=>(Wx (QiW ?_) λo p=>(Wh ?_)))));all_goals simp_all (maxDischargeDepth:=9)
def QiK{N a0 v4 p5 v1 v2}(e:X2 a0):∀n g f,(tL tU) f->PT (QbA N a0 v4 p5 v1 v2 n g f) (tL tU)
 |0,_,_,_=>by rw[QbA];exact IZ
 |n+1,g,f,j=>by have h:=QiK (N:=N) (a0:=a0) (v4:=v4) (p5:=p5) (v1:=v1) (v2:=v2) e n;rw[QbA];refine(Wn (PT.get (T:=tU) ?_ λk l=>(h _ _ ?_)) (Wh ?_));all_goals (clear h;simp_all (maxDischargeDepth:=9))
def QkM{N g j k l o n p h}(e:X2 g)(f:(tL tU) h):PT (QbA N g j k l o n p h) (tL tU):=QiK e n _ _ f
def QiL{N a0}(f:X2 a0):∀n h j g k,(tL tU) g->PT (Qa8 N a0 n h j g k) (λr=>(tL tU) r.2.1)
 |0,_,_,_,_,_=>by rw[Qa8];exact IZ
 |n+1,h,j,g,k,l=>by have e:=QiL (N:=N) (a0:=a0) f n;rw[Qa8];refine(W6 (Wn (WR λp=>(Wn (e _ _ _ _ ?_) (Wn (e _ _ _ _ ?_) (WR λq=>(Wx (QkM ?_ ?_) λo s=>(e _ _ _ _ ?_)))))) (Wh ?_)));all_goals (clear e;simp_all (maxDischargeDepth:=9))
def QkN{N g n j k h l}(e:X2 g)(f:(tL tU) h):PT (Qa8 N g n j k h l) (λr=>(tL tU) r.2.1):=QiL e n _ _ _ _ f
def Qn3{N e}(f:X2 e):PT (Qfz N e) X2:=by rw[Qfz];refine(W6 (W6 (Wx (QkN ?_ ?_) λg h=>(Wh ?_))));all_goals simp_all (maxDischargeDepth:=9)
def QiM{N a0}(f:X2 a0):∀n h g j,(tL tU) g->PT (Qa1 N a0 n h g j) (λr=>(tL tU) r.1)
 |0,_,_,_,_=>by rw[Qa1];exact IZ
 |n+1,h,g,j,k=>by have e:=QiM (N:=N) (a0:=a0) f n;rw[Qa1];refine(Wn (PT.get (T:=tU) ?_ λs u=>(WR λv=>(WR λw=>(Wn (e _ _ _ ?_) (PT.get (T:=tU) ?_ λy z=>(WR λA=>(Wn (e _ _ _ ?_) (PT.get (T:=tU) ?_ λB D=>(Wx (QjM ?_ ?_) λl E=>(Wx (Qh5 ?_) λo G=>(PT.get (T:=tU) ?_ λp H=>(W6 (W6 (Wx (Qhi ?_ ?_ ?_) λq I=>(e _ _ _ ?_))))))))))))))) (Wh ?_));all_goals (clear e;simp_all (maxDischargeDepth:=9))
def QkO{N g n j h k}(e:X2 g)(f:(tL tU) h):PT (Qa1 N g n j h k) (λr=>(tL tU) r.1):=QiM e n _ _ _ f
def Qn4{N e}(f:X2 e):PT (QfA N e) X2:=by rw[QfA];refine(Wx (QkO ?_ ?_) λg h=>(Wh ?_));all_goals simp_all (maxDischargeDepth:=9)
def Qh9{N a2 y5 y6}(l:(tL tU) a2)(o:(λr=>X2 r.1/\(tL tU) r.2.1) y5)(p:(λr=>X2 r.1) y6):∀n s u q,(tL tU) q->PT (Qbb N a2 y5 y6 n s u q) (λr=>(tL tU) r.2)
 |0,_,_,_,_=>by rw[Qbb];exact IZ
 |n+1,s,u,q,w=>by have v:=Qh9 (N:=N) (a2:=a2) (y5:=y5) (y6:=y6) l o p n;rw[Qbb];refine(Wn (PT.get (T:=tU) ?_ λy B=>(US (Q:=λk=>∀e f,tU e->PT (k e f) _) (λe f D=>(W6 (v _ _ _ ?_))) λE g=>(Wn (PT.get (T:=tU) ?_ λz G=>(Wx (Qm6 ?_ ?_) λA H=>(US (Q:=λk=>∀h,PT (k h) _) (λh=>(g _ _ ?_)) λI j=>(Wn (j _) (j _))))) (g _ _ ?_)))) (Wh ?_));all_goals (clear v;simp_all (maxDischargeDepth:=9))
def Qji{N j k l n p q o}(e:(tL tU) j)(f:(λr=>X2 r.1/\(tL tU) r.2.1) k)(g:(λr=>X2 r.1) l)(h:(tL tU) o):PT (Qbb N j k l n p q o) (λr=>(tL tU) r.2):=Qh9 e f g n _ _ _ h
def QkP{N h j l}(o:XV h)(p:(tL tU) j)(q:(tL tU) l):PT (QdR N h j l) (λr=>XV r.1/\(tL tU) r.2.1/\(tL tU) r.2.2.1):=by rw[QdR];refine(WR λy=>(Wn (Wh ?_) (US (Q:=λk=>∀_,PT (k ()) _) (λ_=>(Wh ?_)) λz e=>(WR λA=>(Wn (e ()) (WR λB=>(Wn (e ()) (Wx (Qm3 ?_) λD E=>(Wx (Qm5 ?_ ?_) λG H=>(Wn (Wh ?_) (Wx (Qpg ?_) λI J=>(Wn (Wh ?_) (Wx (Qji ?_ ?_ ?_ ?_) λs K=>(Wx (Qn4 ?_) λu L=>(Wx (Qn3 ?_) λv M=>(US (Q:=λk=>∀f,PT (k f) _) (λf=>(Wh ?_)) λO g=>(Wn (WR λw=>(g _)) (g _))))))))))))))))));all_goals simp_all (maxDischargeDepth:=9)
def Qin{N a0}(e:Yu a0):∀n g f,(tL tU) f->PT (Qbm N a0 n g f) (tL tU)
 |0,_,_,_=>by rw[Qbm];exact IZ
 |n+1,g,f,j=>by have h:=Qin (N:=N) (a0:=a0) e n;rw[Qbm];refine(Wn (PT.get (T:=Zt) ?_ λk l=>(W6 (h _ _ ?_))) (Wh ?_));all_goals (clear h;simp_all (maxDischargeDepth:=9))
def QjN{N g n j h}(e:Yu g)(f:(tL tU) h):PT (Qbm N g n j h) (tL tU):=Qin e n _ _ f
def QlM{N e}(f:Yu e):PT (Qek N e) (tL tU):=by rw[Qek];refine(W6 (Wx (Qio ?_) λg h=>(W6 (Wx (QgF ?_) λj k=>(W6 (Wx (QjN ?_ ?_) λl o=>(Wh ?_)))))));all_goals simp_all (maxDischargeDepth:=9)
def QiN{N a0 a1}(e:XR a0)(f:(tL tU) a1):∀n j k g,(tL YV) g->PT (QbB N a0 a1 n j k g) (tE (λr=>XR r.1) (tL YV))
 |0,_,_,_,_=>by rw[QbB];exact IZ
 |n+1,j,k,g,l=>by have h:=QiN (N:=N) (a0:=a0) (a1:=a1) e f n;rw[QbB];refine(W6 (Wn (PT.get (T:=YV) ?_ λo p=>(Wn (h _ _ _ ?_) (PT.get (T:=tU) ?_ λq s=>(Wn (Wh ?_) (PT.get (T:=tU) ?_ λu v=>(PT.get (T:=YV) ?_ λw y=>(h _ _ _ ?_))))))) (Wh ?_)));all_goals (clear h;simp_all (maxDischargeDepth:=9))
def QkQ{N h j n l o k}(e:XR h)(f:(tL tU) j)(g:(tL YV) k):PT (QbB N h j n l o k) (tE (λr=>XR r.1) (tL YV)):=QiN e f n _ _ _ g
def Qn5{N e f}(g:XR e)(h:(tL tU) f):PT (QeR N e f) (λr=>XR r.1):=by rw[QeR];refine(WR λk=>(Wn (Wh ?_) (Wx (Qio ?_) λl o=>(Wn (Wh ?_) (W6 (Ou (QkQ ?_ ?_ ?_) (λr p=>(Wh ?_)) λj q=>(Wh ?_)))))));all_goals simp_all (maxDischargeDepth:=9)
def QiO{N a1}(e:(tL tU) a1):∀n h j f,(tL XJ) f->PT (QbC N a1 n h j f) (tL XJ)
 |0,_,_,_,_=>by rw[QbC];exact IZ
 |n+1,h,j,f,k=>by have g:=QiO (N:=N) (a1:=a1) e n;rw[QbC];refine(W6 (Wn (PT.get (T:=XJ) ?_ λl o=>(Wn (PT.get (T:=tU) ?_ λp q=>(PT.get (T:=XJ) ?_ λr s=>(g _ _ _ ?_))) (g _ _ _ ?_))) (Wh ?_)));all_goals (clear g;simp_all (maxDischargeDepth:=9))
def QkR{N g n j k h}(e:(tL tU) g)(f:(tL XJ) h):PT (QbC N g n j k h) (tL XJ):=QiO e n _ _ _ f
def Qip{N e f}(g:X8 e)(h:(tL tU) f):PT (Qc3 N e f) (λr=>X8 r.1):=by rw[Qc3];refine(WR λj=>(Wn (Wh ?_) (Wx (QgF ?_) λk l=>(W6 (Wn (Wh ?_) (W6 (Wx (QkR ?_ ?_) λo p=>(Wh ?_))))))));all_goals simp_all (maxDischargeDepth:=9)
def Qia{N a0 y4 y5 y6 y7 y8 y9}(g:Yu a0)(h:(λr=>XV r.1/\(tL tU) r.2.1/\(tL tU) r.2.2.1) y4)(j:(tL tU) y5)(k:(tL tU) y6)(l:(λr=>XR r.1) y7)(o:(λr=>X8 r.1) y8)(p:(λr=>X8 r.1) y9):∀n f e,(tL Zt) e->PT (Qbc N a0 y4 y5 y6 y7 y8 y9 n f e) (tL Zt)
 |0,_,_,_=>by rw[Qbc];exact IZ
 |n+1,f,e,q=>by have s:=Qia (N:=N) (a0:=a0) (y4:=y4) (y5:=y5) (y6:=y6) (y7:=y7) (y8:=y8) (y9:=y9) g h j k l o p n;rw[Qbc];refine(Wn (PT.get (T:=tU) ?_ λu w=>(PT.get (T:=Zt) ?_ λv y=>(W6 (s _ _ ?_)))) (Wh ?_));all_goals (clear s;simp_all (maxDischargeDepth:=9))
def Qjj{N s u v w y z A n g e}(h:Yu s)(j:(λr=>XV r.1/\(tL tU) r.2.1/\(tL tU) r.2.2.1) u)(k:(tL tU) v)(l:(tL tU) w)(o:(λr=>XR r.1) y)(p:(λr=>X8 r.1) z)(q:(λr=>X8 r.1) A)(f:(tL Zt) e):PT (Qbc N s u v w y z A n g e) (tL Zt):=Qia h j k l o p q n _ _ f
def QiP{N e}(f:Yu e):PT (Qc4 N e) (λr=>Yu r.1):=by rw[Qc4];refine(WR λh=>(Wn (Wh ?_) (Wx (QlM ?_) λj k=>(Wx (QgF ?_) λl o=>(Wx (QkP ?_ ?_ ?_) λp q=>(Wn (Wh ?_) (Wx (Qio ?_) λs u=>(Wx (QgF ?_) λv w=>(W6 (W6 (W6 (W6 (Wx (Qn5 ?_ ?_) λy z=>(W6 (Wx (Qip ?_ ?_) λA B=>(Wx (Qip ?_ ?_) λD E=>(Wx (Qjj ?_ ?_ ?_ ?_ ?_ ?_ ?_ ?_) λg G=>(Wh ?_))))))))))))))))));all_goals simp_all (maxDischargeDepth:=9)
def Qm7{N f g}(h:XV f):PT (QeX N f g) (λr=>XV r.1/\tU r.2.1):=by rw[QeX];refine(W6 (WR λu=>(WR λv=>(US (Q:=λk=>∀_,PT (k ()) _) (λ_=>(WR λw=>(Wn (Wh ?_) (Wn (Wh ?_) (WR λy=>(WR λj=>(WR λl=>(WR λo=>(Wh ?_))))))))) λz e=>(Wn (e ()) (WR λA=>(Wn (e ()) (WR λB=>(Wn (e ()) (Wn (e ()) (WR λp=>(WR λq=>(WR λs=>(Wh ?_))))))))))))));all_goals simp_all (maxDischargeDepth:=9)
def Qm8{N e f g}(h:XV e):PT (QfP N e f g) (λr=>XV r.1/\tU r.2.1):=by rw[QfP];refine(WR λj=>(Wn (Wh ?_) (WR λk=>(WR λl=>(Wn (Wh ?_) (WR λo=>(Wh ?_)))))));all_goals simp_all (maxDischargeDepth:=9)
def Qn6{N e f g}(h:XV e)(j:tU f)(k:Zg g):PT (Qcb N e f g) (λr=>XV r.1):=by rw[Qcb];refine(Wx (Qh5 ?_) λl o=>(WR λp=>(Wn (Wh ?_) (Wn (Wh ?_) (W6 (W6 (Wx (Qhi ?_ ?_ ?_) λq s=>(Wn (Wh ?_) (Wh ?_)))))))));all_goals simp_all (maxDischargeDepth:=9)
def QjO{N p q}(v:XV p)(w:Zg q):PT (QcG N p q) (λr=>XV r.1/\tU r.2.1):=by rw[QcG];refine(WR λz=>(Wn (Wh ?_) (WR λA=>(Wn (Wh ?_) (WR λB=>(WR λD=>(Wx (Qm7 ?_) λE G=>(US (Q:=λk=>∀o s u f e g h j,tU o->(tL tU) e->PT (k o s u f e g h j) _) (λo s u f e g h j H I=>(Wn (Wh ?_) (Wx (Qn6 ?_ ?_ ?_) λy J=>(Wh ?_)))) λK l=>(Wn (Wx (Qm8 ?_) λL M=>(l _ _ _ _ _ _ _ _ ?_ ?_)) (l _ _ _ _ _ _ _ _ ?_ ?_))))))))));all_goals simp_all (maxDischargeDepth:=9)
def Qm9{N G H}(L:Yu G)(M:Zg H):PT (QeY N G H) (λr=>Yu r.1/\tU r.2.1):=by rw[QeY];refine(WR λS=>(Wn (Wh ?_) (Wx (QjO ?_ ?_) λU V=>(US (Q:=λk=>∀D I J K E o p q e s u f g h j v w l y z A,tU D->(tL tU) E->(tL YV) e->(tL XJ) f->(tL XJ) g->(tL Zt) h->(tL tU) j->(tL tU) l->PT (k D I J K E o p q e s u f g h j v w l y z A) _) (λD I J K E o p q e s u f g h j v w l y z A W Y Z h5 h6 h7 h8 h9=>(Wn (Wh ?_) (Wh ?_))) λj1 B=>(Wn (Wx (QiP ?_) λy3 O=>(Wn (Wh ?_) (Wx (QjO ?_ ?_) λy4 R=>(B _ _ _ _ _ _ _ _ _ _ _ _ _ _ _ _ _ _ _ _ _ ?_ ?_ ?_ ?_ ?_ ?_ ?_ ?_)))) (B _ _ _ _ _ _ _ _ _ _ _ _ _ _ _ _ _ _ _ _ _ ?_ ?_ ?_ ?_ ?_ ?_ ?_ ?_))))));all_goals simp_all (maxDischargeDepth:=9)
def QgS{N e}:PT (Qbd N e) (λr=>tU r.1):=by rw[Qbd];refine(WR λf=>(Wn (Wh ?_) (Wh ?_)));all_goals simp_all (maxDischargeDepth:=9) []
def Qhj{N e f}(g:Yu e)(h:tU f):PT (Qbq N e f) (λr=>Yu r.1/\tU r.2.1):=by rw[Qbq];refine(Wn (Wh ?_) (Wx (QiH ?_ ?_) λj k=>(Wn (Wx (Qag) λl o=>(Wh ?_)) (Wx (QgS) λp q=>(Wh ?_)))));all_goals simp_all (maxDischargeDepth:=9)
def QlN{N f j g h}(l:Yu f)(o:tU g)(p:tU h):PT (QdE N f j g h) (λr=>Yu r.1/\tU r.2.1):=by rw[QdE];refine(Wn (Wx (Qag) λq s=>(Wh ?_)) (Wx (Qi5 ?_ ?_) λu v=>(US (Q:=λk=>∀_,PT (k ()) _) (λ_=>(Wx (Qag) λw y=>(Wh ?_))) λz e=>(Wn (e ()) (WR λA=>(Wn (e ()) (Wx (QiH ?_ ?_) λB D=>(Wn (Wx (Qag) λE G=>(Wh ?_)) (Wx (Qm9 ?_ ?_) λH I=>(Wn (Wx (Qag) λJ K=>(Wh ?_)) (Wx (Qhj ?_ ?_) λL M=>(Wh ?_))))))))))));all_goals simp_all (maxDischargeDepth:=9)
def QiQ{N e f g}(h:XR e):PT (QeZ N e f g) (λr=>tU r.1):=by rw[QeZ];refine(WR λj=>(Wn (Wh ?_) (Wn (Wh ?_) (Wn (Wh ?_) (WR λk=>(Wn (Wh ?_) (Wn (Wh ?_) (PT.get (T:=YV) ?_ λl o=>(Wn (Wh ?_) (PT.get (T:=YV) ?_ λp q=>(Wn (Wh ?_) (PT.get (T:=YV) ?_ λs u=>(Wh ?_)))))))))))));all_goals simp_all (maxDischargeDepth:=9)
def Qg4{N e f g}(h:X8 e):PT (Qel N e f g) (λr=>tU r.1):=by rw[Qel];refine(WR λj=>(Wn (Wh ?_) (Wn (Wh ?_) (Wn (Wh ?_) (Wn (Wh ?_) (PT.get (T:=XJ) ?_ λk l=>(Wn (Wh ?_) (PT.get (T:=XJ) ?_ λo p=>(Wn (Wh ?_) (PT.get (T:=XJ) ?_ λq s=>(Wn (Wh ?_) (PT.get (T:=XJ) ?_ λu v=>(Wh ?_)))))))))))));all_goals simp_all (maxDischargeDepth:=9)
def Qdj{N e f}(g:Yu e)(h:tU f):PT (QaB N e f) (λr=>tU r.1):=by rw[QaB];refine(WR λj=>(Wn (Wh ?_) (Wn (Wh ?_) (WR λk=>(Wn (Wh ?_) (Wn (Wx (QiQ ?_) λl o=>(Wh ?_)) (Wn (Wx (Qg4 ?_) λp q=>(Wh ?_)) (Wx (Qg4 ?_) λs u=>(Wh ?_)))))))));all_goals simp_all (maxDischargeDepth:=9)
def Qhk{N e f}(g:Yu e)(h:tU f):PT (QaN N e f) (λr=>tU r.1):=by rw[QaN];refine(Wx (Qdj ?_ ?_) λj k=>(Wn (Wn (Wh ?_) (Wh ?_)) (Wh ?_)));all_goals simp_all (maxDischargeDepth:=9)
def Qi6{N e f g h}(j:Yu e)(k:tU f)(l:tU g):PT (QcU N e f g h) (λr=>tU r.1):=by rw[QcU];refine(Wx (Qhk ?_ ?_) λo p=>(Wn (Wh ?_) (Wx (QiE ?_ ?_) λq s=>(Wn (Wh ?_) (WR λu=>(Wn (Wh ?_) (Wh ?_)))))));all_goals simp_all (maxDischargeDepth:=9)
def Qi7{N e f g}(h:XV e)(j:tU f):PT (Qef N e f g) (λr=>tU r.1):=by rw[Qef];refine(Wx (QiE ?_ ?_) λk l=>(Wn (Wh ?_) (Wn (Wh ?_) (Wn (Wh ?_) (Wx (Qfw ?_ ?_) λo p=>(Wh ?_))))));all_goals simp_all (maxDischargeDepth:=9)
def Qki{N e f h g}(j:XV e)(k:tU f)(l:tU g):PT (Qcm N e f h g) (λr=>XV r.1):=by rw[Qcm];refine(Wx (Qi7 ?_ ?_) λo p=>(Wn (Wh ?_) (Wx (Qid ?_ ?_ ?_) λq s=>(Wh ?_))));all_goals simp_all (maxDischargeDepth:=9)
def Qna{N j u l o p}(v:Yu j)(w:tU l)(y:tU o)(z:tU p):PT (Qdv N j u l o p) (λr=>Yu r.1/\tU r.2.1):=by rw[Qdv];refine(US (Q:=λk=>∀h q s,tU h->PT (k h q s) _) (λh q s E=>(Wn (Wx (Qag) λG H=>(Wh ?_)) (Wx (Qi7 ?_ ?_) λI J=>(Wn (Wh ?_) (Wn (Wx (Qhj ?_ ?_) λK L=>(Wh ?_)) (US (Q:=λk=>∀e,tU e->PT (k e) _) (λe M=>(Wx (Qki ?_ ?_ ?_) λA O=>(Wh ?_))) λR f=>(Wn (Wx (Qdj ?_ ?_) λS U=>(Wn (Wx (Qag) λB V=>(Wh ?_)) (f _ ?_))) (f _ ?_)))))))) λW g=>(Wn (Wx (Qi6 ?_ ?_ ?_) λY Z=>(g _ _ _ ?_)) (Wx (Qi6 ?_ ?_ ?_) λy2 D=>(g _ _ _ ?_))));all_goals simp_all (maxDischargeDepth:=9)
def Qnb{N f l g h}(o:Yu f)(p:tU g)(q:tU h):PT (Qdw N f l g h) (λr=>Yu r.1/\tU r.2.1):=by rw[Qdw];refine(US (Q:=λk=>∀j,PT (k j) _) (λj=>(Wn (Wx (Qhk ?_ ?_) λw y=>(Wn (Wx (Qag) λz A=>(Wh ?_)) (Wx (QiE ?_ ?_) λB D=>(Wn (Wh ?_) (Wh ?_))))) (Wn (Wx (Qdj ?_ ?_) λE G=>(Wn (Wx (Qag) λH I=>(Wh ?_)) (Wx (Qdj ?_ ?_) λJ K=>(Wn (Wx (Qag) λL M=>(Wh ?_)) (Wn (Wh ?_) (Wh ?_)))))) (Wx (Qdj ?_ ?_) λO R=>(Wn (Wx (Qag) λs S=>(Wh ?_)) (Wx (Qhj ?_ ?_) λu v=>(Wh ?_))))))) λU e=>(Wn (e _) (e _)));all_goals simp_all (maxDischargeDepth:=9)
def QiY{N a0 a1}(e:X8 a0)(f:tU a1):∀n h,PT (QbU N a0 a1 n h) (tE (λr=>X8 r.1) (λ_=>True))
 |0,_=>by rw[QbU];exact IZ
 |n+1,h=>by have g:=QiY (N:=N) (a0:=a0) (a1:=a1) e f n;rw[QbU];refine(W6 (Wn (PT.get (T:=XJ) ?_ λj k=>(Wn (PT.get (T:=XJ) ?_ λl o=>(Wn (PT.get (T:=XJ) ?_ λp q=>(PT.get (T:=XJ) ?_ λs u=>(PT.get (T:=XJ) ?_ λv w=>(Wh ?_)))) (g _))) (g _))) (Wh ?_)));all_goals (clear g;simp_all (maxDischargeDepth:=9))
def QlO{N g h n j}(e:X8 g)(f:tU h):PT (QbU N g h n j) (tE (λr=>X8 r.1) (λ_=>True)):=QiY e f n _
def QiR{N e f}(g:X8 e)(h:tU f):PT (QcH N e f) (λr=>X8 r.1):=by rw[QcH];refine(WR λj=>(Wn (Wh ?_) (W6 (Ou (QlO ?_ ?_) (λr k=>(Wh ?_)) λl o=>(W6 (Wn (Wh ?_) (W6 (W6 (Wh ?_)))))))));all_goals simp_all (maxDischargeDepth:=9)
def QkS{N l q o}(s:Yu l)(u:tU o):PT (QdS N l q o) (λr=>Yu r.1/\tU r.2.1):=by rw[QdS];refine(Wx (Qhk ?_ ?_) λv w=>(Wn (Wx (Qag) λy z=>(Wh ?_)) (US (Q:=λk=>∀p g,(tL XJ) g->PT (k p g) _) (λp g A=>(Wx (QiR ?_ ?_) λB D=>(Wn (Wx (Qag) λE G=>(Wh ?_)) (US (Q:=λk=>∀h j,(tL XJ) h->(tL XJ) j->PT (k h j) _) (λh j H I=>(Wx (QgS) λJ K=>(Wh ?_))) λL e=>(Wn (e _ _ ?_ ?_) (e _ _ ?_ ?_)))))) λM f=>(Wn (f _ _ ?_) (f _ _ ?_)))));all_goals simp_all (maxDischargeDepth:=9)
def QiZ{N e f g}(h:XR e):PT (Qem N e f g) (λr=>XR r.1):=by rw[Qem];refine(Wx (QiQ ?_) λj k=>(Wn (Wh ?_) (W6 (PT.get (T:=YV) ?_ λl o=>(Wh ?_)))));all_goals simp_all (maxDischargeDepth:=9)
def Qph{N e g f}(h:X8 e)(j:XJ f):PT (QhE N e g f) X8:=by rw[QhE];refine(W6 (PT.get (T:=XJ) ?_ λk l=>(Wh ?_)));all_goals simp_all (maxDischargeDepth:=9)
def QgT{N e f g}(h:X8 e):PT (QcV N e f g) (λr=>X8 r.1):=by rw[QcV];refine(Wx (Qg4 ?_) λj k=>(Wn (Wh ?_) (Wx (Qph ?_ ?_) λl o=>(Wh ?_))));all_goals simp_all (maxDischargeDepth:=9)
def QlP{N g j h}(l:Yu g)(o:tU h):PT (QdF N g j h) (λr=>Yu r.1/\tU r.2.1):=by rw[QdF];refine(Wn (Wx (Qag) λp q=>(Wh ?_)) (Wx (Qdj ?_ ?_) λs u=>(Wn (Wx (Qag) λv w=>(Wh ?_)) (WR λy=>(US (Q:=λk=>∀_,PT (k ()) _) (λ_=>(Wn (Wx (QiZ ?_) λz A=>(Wh ?_)) (Wn (Wx (QgT ?_) λB D=>(Wh ?_)) (Wx (QgT ?_) λE G=>(Wh ?_))))) λH e=>(US (Q:=λk=>∀_,PT (k ()) _) (λ_=>(Wx (Qag) λI J=>(Wh ?_))) λK f=>(Wn (Wn (f ()) (Wn (Wn (f ()) (Wn (Wn (f ()) (e ())) (e ()))) (Wn (Wn (f ()) (e ())) (e ())))) (Wn (Wn (f ()) (Wn (Wn (f ()) (e ())) (e ()))) (Wn (Wn (f ()) (e ())) (e ()))))))))));all_goals simp_all (maxDischargeDepth:=9)
def Qn7{N f g h}(j:XR f):PT (Qha N f g h) (λr=>XR r.1):=by rw[Qha];refine(WR λl=>(Wn (Wh ?_) (Wn (Wh ?_) (Wn (Wh ?_) (US (Q:=λk=>∀_,PT (k ()) _) (λ_=>(Wn (Wh ?_) (W6 (W6 (Wh ?_))))) λo e=>(Wn (Wn (Wh ?_) (e ())) (e ())))))));all_goals simp_all (maxDischargeDepth:=9)
def Qjg{N e f}(g:XR e):PT (QeS N e f) (λr=>XR r.1):=by rw[QeS];refine(Wx (Qn7 ?_) λh j=>(Wh ?_));all_goals simp_all (maxDischargeDepth:=9)
def Qpi{N e f}(g:XR e):PT (QhF N e f) XR:=by rw[QhF];refine(WR λh=>(W6 (W6 (W6 (W6 (Wh ?_))))));all_goals simp_all (maxDischargeDepth:=9)
def QjP{N e}(f:XR e):PT (QfB N e) (λr=>XR r.1):=by rw[QfB];refine(WR λg=>(Wn (Wh ?_) (Wn (Wh ?_) (WR λh=>(Wn (Wh ?_) (Wx (Qpi ?_) λj k=>(Wh ?_)))))));all_goals simp_all (maxDischargeDepth:=9)
def QlQ{N e g f}(h:Yu e)(j:tU f):PT (Qen N e g f) (λr=>Yu r.1/\tU r.2.1):=by rw[Qen];refine(Wn (Wn (Wx (Qag) λk l=>(Wh ?_)) (Wx (Qjg ?_) λo p=>(Wn (Wx (Qag) λq s=>(Wh ?_)) (Wh ?_)))) (Wx (Qdj ?_ ?_) λu v=>(Wn (Wx (Qag) λw y=>(Wh ?_)) (Wx (QjP ?_) λz A=>(Wn (Wx (Qag) λB D=>(Wh ?_)) (Wx (Qhj ?_ ?_) λE G=>(Wh ?_)))))));all_goals simp_all (maxDischargeDepth:=9)
def Qie{N e f g}(h:XV e)(j:tU f):PT (Qcj N e f g) XV:=by rw[Qcj];refine(W6 (WR λk=>(WR λl=>(WR λo=>(Wh ?_)))));all_goals simp_all (maxDischargeDepth:=9)
def QkT{N e f g}(h:XV e)(j:(tL Zt) f)(k:tU g):PT (QdT N e f g) (λr=>XV r.1/\(tL Zt) r.2.1):=by rw[QdT];refine(WR λl=>(Wn (Wh ?_) (Wn (Wh ?_) (WR λo=>(Wn (Wh ?_) (W6 (PT.get (T:=Zt) ?_ λp q=>(PT.get (T:=Zt) ?_ λs u=>(PT.get (T:=Zt) ?_ λv w=>(Wn (W6 (W6 (W6 (Wx (Qie ?_ ?_) λy z=>(Wh ?_))))) (Wx (Qie ?_ ?_) λA B=>(Wh ?_))))))))))));all_goals simp_all (maxDischargeDepth:=9)
def Qpj{N h j l}(o:XV h)(p:(tL Zt) j)(q:tU l):PT (Qge N h j l) (λr=>XV r.1/\(tL Zt) r.2.1/\tU r.2.2.1):=by rw[Qge];refine(WR λv=>(Wn (Wh ?_) (Wn (Wh ?_) (WR λw=>(Wn (Wh ?_) (WR λy=>(US (Q:=λk=>∀_,PT (k ()) _) (λ_=>(W6 (US (Q:=λk=>∀f,(tL Zt) f->PT (k f) _) (λf z=>(Wx (Qie ?_ ?_) λs A=>(Wh ?_))) λB g=>(Wn (PT.get (T:=Zt) ?_ λD E=>(PT.get (T:=Zt) ?_ λu G=>(g _ ?_))) (W6 (g _ ?_)))))) λH e=>(Wn (PT.get (T:=Zt) ?_ λI J=>(Wn (Wh ?_) (Wn (Wn (Wh ?_) (WR λK=>(Wn (Wh ?_) (e ())))) (WR λL=>(Wn (Wh ?_) (e ())))))) (Wn (Wn (Wh ?_) (WR λM=>(Wn (Wh ?_) (e ())))) (WR λO=>(Wn (Wh ?_) (e ()))))))))))));all_goals simp_all (maxDischargeDepth:=9)
def Qn8{N e g f}(h:Yu e)(j:tU f):PT (QfC N e g f) (λr=>Yu r.1/\tU r.2.1):=by rw[QfC];refine(Wx (Qhk ?_ ?_) λk l=>(Wn (Wx (Qag) λo p=>(Wh ?_)) (Wn (Wx (QkT ?_ ?_ ?_) λq s=>(Wn (Wx (Qag) λu v=>(Wh ?_)) (Wh ?_))) (Wx (Qpj ?_ ?_ ?_) λw y=>(Wn (Wx (Qag) λz A=>(Wh ?_)) (Wh ?_))))));all_goals simp_all (maxDischargeDepth:=9)
def Qn9{N I V J K L}(W:Yu I)(Y:tU J)(Z:tU K)(ka4:tU L):PT (Qae N I V J K L) (λr=>Yu r.1/\tU r.2.1):=by rw[Qae];refine(WR λy1=>(Wn (Wx (Qag) λy2 h1=>(Wh ?_)) (US (Q:=λk=>∀M,PT (k M) _) (λM=>(Wn (Wx (QlN ?_ ?_ ?_) λy5 h2=>(Wh ?_)) (US (Q:=λk=>∀O,PT (k O) _) (λO=>(Wn (Wx (Qna ?_ ?_ ?_ ?_) λy9 h3=>(Wh ?_)) (US (Q:=λk=>∀j,PT (k j) _) (λj=>(Wn (Wx (Qnb ?_ ?_ ?_) λy13 h4=>(Wh ?_)) (US (Q:=λk=>∀l,PT (k l) _) (λl=>(Wn (Wx (QkS ?_ ?_) λy15 h5=>(Wh ?_)) (US (Q:=λk=>∀o,PT (k o) _) (λo=>(Wn (Wx (QlP ?_ ?_) λy18 h6=>(Wh ?_)) (US (Q:=λk=>∀p,PT (k p) _) (λp=>(Wn (Wx (QlQ ?_ ?_) λy20 h7=>(Wh ?_)) (US (Q:=λk=>∀q,PT (k q) _) (λq=>(Wn (Wx (Qn8 ?_ ?_) λy22 h8=>(Wh ?_)) (Wx (Qag) λy23 h9=>(Wh ?_)))) λj13 e=>(Wn (e _) (e _))))) λj12 f=>(Wn (f _) (f _))))) λj11 g=>(Wn (g _) (US (Q:=λk=>∀s,PT (k s) _) (λs=>(g _)) λj10 h=>(Wn (h _) (h _))))))) λj9 u=>(Wn (u _) (u _))))) λj8 v=>(Wn (v _) (US (Q:=λk=>∀w,PT (k w) _) (λw=>(v _)) λj7 y=>(Wn (y _) (US (Q:=λk=>∀z,PT (k z) _) (λz=>(y _)) λj6 A=>(Wn (A _) (A _))))))))) λj5 B=>(Wn (B _) (US (Q:=λk=>∀R,PT (k R) _) (λR=>(B _)) λj4 D=>(Wn (D _) (US (Q:=λk=>∀S,PT (k S) _) (λS=>(D _)) λj3 E=>(Wn (E _) (E _))))))))) λj2 G=>(Wn (G _) (US (Q:=λk=>∀U,PT (k U) _) (λU=>(G _)) λj1 H=>(Wn (H _) (H _)))))));all_goals simp_all (maxDischargeDepth:=9)
def Qib{N a0 y2}(f:X1 a0):∀n h g,(tL tU) g->PT (Qbe N a0 y2 n h g) (tL tU)
 |0,_,_,_=>by rw[Qbe];exact IZ
 |n+1,h,g,j=>by have e:=Qib (N:=N) (a0:=a0) (y2:=y2) f n;rw[Qbe];refine(W6 (Wn (PT.get (T:=tU) ?_ λk l=>(Wn (PT.get (T:=tU) ?_ λo p=>(WR λq=>(Wn (PT.get (T:=tU) ?_ λr s=>(e _ _ ?_)) (e _ _ ?_)))) (e _ _ ?_))) (Wh ?_)));all_goals (clear e;simp_all (maxDischargeDepth:=9))
def Qjk{N g j n k h}(e:X1 g)(f:(tL tU) h):PT (Qbe N g j n k h) (tL tU):=Qib e n _ _ f
def QiS{N e}(f:X1 e):PT (QdU N e) (λr=>X1 r.1):=by rw[QdU];refine(WR λj=>(Wn (Wh ?_) (WR λk=>(Wx (QgF ?_) λl o=>(Wx (Qjk ?_ ?_) λg p=>(Wx (Qip ?_ ?_) λh q=>(Wh ?_)))))));all_goals simp_all (maxDischargeDepth:=9)
def QkU{N g h p j q}(r:Yu g)(s:Yu h)(u:tU j):PT (Qfo N g h p j q) Xhx:=by rw[Qfo];refine(US (Q:=λk=>∀l,PT (k l) _) (λl=>(US (Q:=λk=>∀o,PT (k o) _) (λo=>(Wn (Wn (Wh ?_) (Wh ?_)) (Wh ?_))) λv f=>(Wn (f _) (f _)))) λw e=>(Wn (e _) (Wn (e _) (e _))));all_goals simp_all (maxDischargeDepth:=9)
def Qgt{N e f}(g:X1 e)(h:tU f):PT (QaS N e f) (λr=>tU r.1):=by rw[QaS];refine(WR λj=>(Wn (Wh ?_) (Wn (Wh ?_) (WR λk=>(Wn (Wh ?_) (Wn (Wx (QiQ ?_) λl o=>(Wh ?_)) (Wn (Wx (Qg4 ?_) λp q=>(Wh ?_)) (Wx (Qg4 ?_) λs u=>(Wh ?_)))))))));all_goals simp_all (maxDischargeDepth:=9)
def Qhl{N e f}(g:X1 e)(h:tU f):PT (Qdy N e f) (λr=>X1 r.1/\tU r.2):=by rw[Qdy];refine(Wn (Wh ?_) (Wx (QiH ?_ ?_) λj k=>(Wx (QgS) λl o=>(Wh ?_))));all_goals simp_all (maxDischargeDepth:=9)
def QjQ{N e f h g}(j:X1 e)(k:tU f)(l:tU g):PT (Qgf N e f h g) X1:=by rw[Qgf];refine(W6 (PT.get (T:=Zz) ?_ λo p=>(W6 (PT.get (T:=tU) ?_ λq r=>(PT.get (T:=Zz) ?_ λs u=>(Wh ?_))))));all_goals simp_all (maxDischargeDepth:=9)
def QkV{N h q j}(s:X1 h)(u:tU j):PT (Qfp N h q j) (λr=>X1 r.1/\tU r.2):=by rw[Qfp];refine(US (Q:=λk=>∀f g l o p,(tL XJ) f->(tL XJ) g->PT (k f g l o p) _) (λf g l o p v w=>(Wx (QgS) λy z=>(Wh ?_))) λA e=>(Wn (Wx (QiR ?_ ?_) λB D=>(e _ _ _ _ _ ?_ ?_)) (Wx (QiR ?_ ?_) λE G=>(e _ _ _ _ _ ?_ ?_))));all_goals simp_all (maxDischargeDepth:=9)
def QlR{N e f}(g:X1 e)(h:tU f):PT (Qf5 N e f) X1:=by rw[Qf5];refine(WR λj=>(Wn (Wx (QiZ ?_) λk l=>(Wh ?_)) (Wn (Wx (QgT ?_) λo p=>(Wh ?_)) (Wx (QgT ?_) λq r=>(Wh ?_)))));all_goals simp_all (maxDischargeDepth:=9)
def Qoa{N e h f g}(j:X1 e)(k:tU f)(l:tU g):PT (Qgo N e h f g) (λr=>X1 r.1/\tU r.2):=by rw[Qgo];refine(WR λo=>(W6 (Wn (PT.get (T:=Kq) ?_ λp q=>(PT.get (T:=Kq) ?_ λs u=>(PT.get (T:=Kq) ?_ λv w=>(Wn (W6 (W6 (W6 (Wh ?_)))) (Wh ?_))))) (Wn (PT.get (T:=Kq) ?_ λy z=>(PT.get (T:=Kq) ?_ λA B=>(PT.get (T:=Kq) ?_ λD E=>(Wh ?_)))) (W6 (Wh ?_))))));all_goals simp_all (maxDischargeDepth:=9)
def Qob{N G S H I J K}(U:X1 G)(V:tU H)(W:tU I)(Y:tU J)(Z:Xhx K):PT (Qgp N G S H I J K) (λr=>X1 r.1/\tU r.2.1):=by rw[Qgp];refine(WR λy1=>(Wn (Wh ?_) (US (Q:=λk=>∀D,tU D->PT (k D) _) (λD h1=>(US (Q:=λk=>∀L,PT (k L) _) (λL=>(Wn (US (Q:=λk=>∀M O E e o p f g h j,(tL Zz) E->(tL YV) e->(tL XJ) f->(tL XJ) g->(tL Kq) h->(tL tU) j->PT (k M O E e o p f g h j) _) (λM O E e o p f g h j h2 h3 h4 h5 h6 h7=>(Wx (Qi5 ?_ ?_) λy17 h8=>(W6 (W6 (W6 (W6 (Wx (Qhl ?_ ?_) λy18 h9=>(Wh ?_)))))))) λj4 q=>(Wn (Wx (QiS ?_) λy6 h10=>(q _ _ _ _ _ _ _ _ _ _ ?_ ?_ ?_ ?_ ?_ ?_)) (q _ _ _ _ _ _ _ _ _ _ ?_ ?_ ?_ ?_ ?_ ?_))) (Wn (PT.get (T:=Zz) ?_ λp19 h11=>(Wh ?_)) (Wn (PT.get (T:=Zz) ?_ λp20 h12=>(Wh ?_)) (Wn (PT.get (T:=Zz) ?_ λp21 h13=>(PT.get (T:=tU) ?_ λp22 h14=>(Wh ?_))) (Wn (Wx (QjQ ?_ ?_ ?_) λy23 h15=>(Wh ?_)) (Wn (PT.get (T:=Zz) ?_ λp24 h16=>(PT.get (T:=tU) ?_ λp25 h17=>(Wx (Qhl ?_ ?_) λy26 h18=>(Wh ?_)))) (Wn (Wx (Qgt ?_ ?_) λy27 h19=>(Wx (QjQ ?_ ?_ ?_) λy28 h20=>(Wh ?_))) (Wn (Wx (Qgt ?_ ?_) λy29 h21=>(Wn (Wh ?_) (Wh ?_))) (Wn (Wx (Qhl ?_ ?_) λy30 h22=>(Wh ?_)) (US (Q:=λk=>∀s,PT (k s) _) (λs=>(Wn (Wx (QkV ?_ ?_) λy32 h23=>(Wh ?_)) (US (Q:=λk=>∀u,PT (k u) _) (λu=>(Wn (Wx (QlR ?_ ?_) λy35 h24=>(Wh ?_)) (Wn (Wx (Qjg ?_) λy36 h25=>(Wh ?_)) (Wn (Wx (QjP ?_) λy37 h26=>(Wx (Qhl ?_ ?_) λy38 h27=>(Wh ?_))) (Wx (Qoa ?_ ?_ ?_) λy39 h28=>(Wh ?_)))))) λj7 v=>(Wn (v _) (US (Q:=λk=>∀w,PT (k w) _) (λw=>(v _)) λj6 y=>(Wn (y _) (y _))))))) λj5 z=>(Wn (z _) (z _))))))))))))) λj3 A=>(Wn (A _) (US (Q:=λk=>∀R,PT (k R) _) (λR=>(A _)) λj2 B=>(Wn (B _) (B _)))))) λj1 l=>(Wn (Wn (Wx (Qgt ?_ ?_) λy2 h29=>(l _ ?_)) (l _ ?_)) (l _ ?_)))));all_goals simp_all (maxDischargeDepth:=9)
def QlS{N V W}(ka0:Xav V)(ka1:XeZ W):PT (QbG N V W) (λr=>Xav r.1/\tU r.2.1):=by rw[QbG];refine(Wn (Wx (QiP ?_) λy1 h1=>(US (Q:=λk=>∀Y Z S x6 x7 x8 U B D e f g h E G j l H I o p q s,(tL tU) S->(tL YV) U->(tL XJ) e->(tL XJ) f->(tL Zt) g->(tL tU) h->(tL Zz) j->(tL YV) l->(tL XJ) o->(tL XJ) p->(tL Kq) q->(tL tU) s->PT (k Y Z S x6 x7 x8 U B D e f g h E G j l H I o p q s) _) (λY Z S x6 x7 x8 U B D e f g h E G j l H I o p q s h2 h3 h4 h5 h6 h7 h8 h9 h10 h11 h12 h13=>(Wh ?_)) λj1 J=>(Wn (Wx (QiS ?_) λy2 h14=>(J _ _ _ _ _ _ _ _ _ _ _ _ _ _ _ _ _ _ _ _ _ _ _ ?_ ?_ ?_ ?_ ?_ ?_ ?_ ?_ ?_ ?_ ?_ ?_)) (J _ _ _ _ _ _ _ _ _ _ _ _ _ _ _ _ _ _ _ _ _ _ _ ?_ ?_ ?_ ?_ ?_ ?_ ?_ ?_ ?_ ?_ ?_ ?_)))) (Wx (Qn9 ?_ ?_ ?_ ?_) λy26 h15=>(Wx (QkU ?_ ?_ ?_) λy27 h16=>(Wx (Qob ?_ ?_ ?_ ?_ ?_) λy28 h17=>(US (Q:=λk=>∀K L u v M O w y z A,(tL Zz) u->(tL YV) v->(tL XJ) w->(tL XJ) y->(tL Kq) z->(tL tU) A->PT (k K L u v M O w y z A) _) (λK L u v M O w y z A h18 h19 h20 h21 h22 h23=>(Wn (Wn (W6 (W6 (Wh ?_))) (Wh ?_)) (Wh ?_))) λj2 R=>(Wn (R _ _ _ _ _ _ _ _ _ _ ?_ ?_ ?_ ?_ ?_ ?_) (R _ _ _ _ _ _ _ _ _ _ ?_ ?_ ?_ ?_ ?_ ?_)))))));all_goals simp_all (maxDischargeDepth:=9)
def BIG:Nat:=1099511627776
def Xb8{ws:List Int}(e:ws.length<=BIG)(N:Nat)(a k:Int)(h:-1<=k/\k<=1000000000000000000):Qea N ws a k =
 some (if 4096<=a/\a<=4096+ws.length then(a-4096,decide (a+k<=4096+ws.length))else(0,false)):=by
 unfold BIG at e;simp only[Qea,Uv];rw[XA (n:=(ws.length:Int)) aa aa,XA (n:=4096+(ws.length:Int)) aa aa];by_cases f:a<4096
 .grind
 rw[Wk f];by_cases g:a>4096+ws.length
 .grind
 rw[Wk g,Wp aa,XA (n:=a-4096) aa aa,Xd (n:=a-4096) aa aa,Xd aa aa];grind
def inW(ws:List Int)(a:Int):Prop:=4096<=a/\a<4096+ws.length
instance(ws:List Int)(a:Int):Decidable (inW ws a):=by unfold inW;infer_instance
def ix(a:Int):Nat:=(a-4096).toNat
def YO{ws:List Int}(g:ws.length<=BIG)(N:Nat)(a:Int):Qbl N ws a=some (if inW ws a then(ws.getD (ix a) 0,0)else(0,2)):=by
 simp only[Qbl,QgG,Xb8 g N a 1 aa,Xa];by_cases h:4096<=a/\a<=4096+ws.length
 .simp only[Wp h];by_cases e:inW ws a
  .have f:a+1<=4096+ws.length:=by unfold inW at e;omega
   simp only[Wp e,f,decide_true,Wi,Wa,Xa];have j:(a-4096).toNat<ws.length:=by unfold inW at e;omega
   rw[show((0:Int) != 0)=false from rfl,Wa,X0 aa aa,Xa];simp[ix,List.getD,j]
  have f:¬a+1<=4096+ws.length:=by unfold inW at e;omega
  simp[Wk,e,f,decide_false,W0,Wb,Xa]
 have e:¬inW ws a:=by unfold inW;omega
 simp[Wk,h,e,W0,Wb,Xa]
def ovr(ws l:List Int)(i:Nat):List Int:=ws.take i++l++ws.drop (i+l.length)
def Kr{ws l:List Int}{i:Nat}(h:i+l.length<=ws.length):(ovr ws l i).length=ws.length:=by grind[ovr]
def Xe0{ws l:List Int}{i:Nat}(h:i+l.length<=ws.length)(j:Nat):(ovr ws l i)[j]? = if i<=j/\j<i+l.length then l[j-i]? else ws[j]?:=by
 unfold ovr;have e:(ws.take i).length=i:=by simp only[Wj];omega
 grind
def XcL{ws l:List Int}{i:Nat}(h:i+l.length<=ws.length)(j:Nat):(ovr ws l i).getD j 0=if i<=j/\j<i+l.length then l.getD (j-i) 0 else ws.getD j 0:=by simp only[Wq,Xe0 h];grind
def Xf5{l:List Int}(y:Int×Bool)(i:Nat)(N:Nat)(ws:List Int)(o:y.1=i)(h:i+l.length<=ws.length)(r:ws.length<=BIG):∀(n k:Nat)(v:List Int),k<=l.length->l.length-k<n->v=ovr ws (l.take k) i ->
 Qb1 N l y n (k:Int) v=some (ovr ws l i)
 |0,k,v,_,s,_=>by omega
 |n+1,k,v,B,s,p=>by
  unfold BIG at r;rw[Qb1];have g:(l.take k).length=k:=by simp;omega
  have u:v.length=ws.length:=by rw[p];exact Kr aa
  by_cases w:k<l.length
  .have z:decide ((k:Int)<(l.length:Int))=true:=by simp;omega
   have A:wI (y.1+(k:Int))=((i+k:Nat):Int):=by rw[o,Xd aa aa];simp
   have e3:wI ((k:Int)+1)=((k+1:Nat):Int):=by rw[Xd aa aa];simp
   rw[z,Wb,X0 aa aa,Xa,A,X0 aa aa,Xa,e3];refine Xf5 y i N ws o h (by unfold BIG;omega) n (k+1) _ aa aa ?_;rw[p];simp only[UT];apply List.ext_getElem?;intro j;have e:(l.take (k+1)).length=k+1:=by simp only[Wj];omega
   rw[Iz,Kr aa,Xe0 aa,Xe0 aa,g,e];by_cases q:i+k=j
   .subst q;rw[Wp rfl,Wp aa,Wp aa,Ul,Wp aa,IF,Wc w]
   rw[Wk q];by_cases f:i<=j/\j<i+k
   .rw[Wp f,Wp aa,Ul,Ul,Wp aa,Wp aa]
   rw[Wk f,Wk aa]
  grind
def Yt(ws:List Int)(a:Int)(k:Nat):Prop:=4096<=a/\a+k<=4096+ws.length
instance(ws:List Int)(a:Int)(k:Nat):Decidable (Yt ws a k):=by unfold Yt;infer_instance
def Z8{ws l:List Int}(e:ws.length<=BIG)(j:l.length<=BIG){N:Nat}(hN:l.length<N)(a:Int):Qci N ws a l=some (if Yt ws a l.length then(ovr ws l (ix a),0)else([],2)):=by
 simp only[Qci];rw[Xb8 e N a _ (by unfold BIG at j;omega),Xa];by_cases h:Yt ws a l.length
 .have f:4096<=a/\a<=4096+ws.length:=by unfold Yt at h;omega
  have g:a+(l.length:Int)<=4096+ws.length:=by unfold Yt at h;omega
  simp only[Wp h,Wp f,g,decide_true,Wi,Wa];rw[Xc (by unfold BIG at e;omega)];have:=Xf5 (l:=l) (a-4096,true) (ix a) N ws (by unfold ix;omega) (by unfold ix;omega) e N 0 ws aa aa (by simp[ovr]);rw[show((0:Nat):Int)=0 from rfl]at this;rw[this,Xa]
 by_cases f:4096<=a/\a<=4096+ws.length
 .have g:¬a+(l.length:Int)<=4096+ws.length:=by unfold Yt at h;omega
  simp only[Wk h,Wp f,g,decide_false,W0,Wb]
 grind
def Jb{ws:List Int}(g:ws.length<=BIG){N:Nat}(hN:1<N)(a v:Int):QcP N ws a v=some (if inW ws a then(ws.set (ix a) v,0)else([],2)):=by
 simp only[QcP];rw[Z8 (l:=[v]) g (by unfold BIG;simp) aa,Xa];by_cases h:inW ws a
 .have f:Yt ws a [v].length:=by unfold inW at h;unfold Yt;simp only[Uk,Ib];omega
  simp only[Wp h,Wp f];unfold ovr;have e:ix a<ws.length:=by unfold inW at h;unfold ix;omega
  simp[List.set_eq_take_append_cons_drop,e]
 have f:¬Yt ws a [v].length:=by unfold inW at h;unfold Yt;simp only[Uk,Ib];omega
 simp_all
def Xb9{ws:List Int}(g:ws.length<=BIG)(N:Nat)(a:Int)(k:Nat)(o:k<=1000000000):QdC N ws a (k:Int)=some (if Yt ws a k then((ws.drop (ix a)).take k,0)else([],2)):=by
 simp only[QdC];have j:decide ((k:Int)<0)=false:=We aa;rw[j,Wa,Xb8 g N a _ aa,Xa];unfold BIG at g;by_cases h:Yt ws a k
 .have e:4096<=a/\a<=4096+ws.length:=by unfold Yt at h;omega
  have f:a+(k:Int)<=4096+ws.length:=by unfold Yt at h;omega
  simp only[Wp h,Wp e,f,decide_true,Wi,Wa];rw[Xd (n:=a-4096+(k:Int)) aa aa,Xc aa,Xc aa];have l:(a-4096+(k:Int)).toNat-(a-4096).toNat=k:=aa;rw[l];rfl
 by_cases e:4096<=a/\a<=4096+ws.length
 .have f:¬a+(k:Int)<=4096+ws.length:=by unfold Yt at h;omega
  simp only[Wk h,Wp e,f,decide_false,W0,Wb]
 grind
def Xiq{ws:List Int}(j:ws.length<=BIG){N:Nat}(f a:Int)(k:Nat)(l:k<=1000000000)(hN:k<N):Qgl N ws f a (k:Int) =
 some (if Yt ws a k/\Yt ws f k then(ovr ws ((ws.drop (ix a)).take k) (ix f),0)else([],2)):=by
 simp only[Qgl];rw[Xb9 j N a k l,Xa];by_cases h:Yt ws a k
 .have e:((ws.drop (ix a)).take k).length=k:=by unfold Yt at h;simp[ix];omega
  simp only[Wp h];rw[show((0:Int) != 0)=false from rfl,Wa,Z8 j (by unfold BIG;omega) (by rw[e];exact hN),Xa,e];by_cases g:Yt ws f k
  .rw[Wp g,Wp ⟨h,g⟩]
  rw[Wk g,Wk (λo=>g o.2)]
 simp_all
def XL(d:WC):Bool:=decide (0<=d.k/\d.k<=3/\0<=d.n/\d.n<=255)&&(if d.k=1 then decide (d.n<=32)&&decide (d.Map % 18446744073709551616<2 ^ d.n.toNat)else decide (d.Map=0))
def Zl(N:Nat)(d:WC):Qdu N d=some (XL d):=by
 simp only[Qdu,Uv,XL];by_cases f:d.k<0
 .rw[Wp f,We aa,Uu]
 rw[Wk f];by_cases g:d.k>3
 .rw[Wp g,We aa,Uu]
 rw[Wk g];by_cases h:d.n<0
 .rw[Wp h,We aa,Uu]
 rw[Wk h];by_cases j:d.n>255
 .rw[Wp j,We aa,Uu]
 rw[Wk j,Wd (p:=0<=d.k/\d.k<=3/\0<=d.n/\d.n<=255) aa,W5];by_cases l:d.k=1
 .rw[Wp l,l,show((1:Int) != 1)=false from rfl,Wa];by_cases e:d.n<=32
  .rw[Wp e,XA (n:=d.n) aa aa,Xc aa,Xly aa aa,XcI,Wd e,W5]
  rw[Wk e,We e,Uu]
 grind
def XY{d:WC}(h:XL d=true):0<=d.k/\d.k<=3/\0<=d.n/\d.n<=255:=by unfold XL at h;simp_all
def XM(d:WC):Int:=if XL d then d.n+1 else 0
def X6(N:Nat)(d:WC):QcZ N d=some (XM d):=by
 simp only[QcZ,Zl,Xa,XM];cases h:XL d with
 |false=>rfl
 |true=>have:=XY h;simp[Xd (n:=d.n+1) aa aa]
def XlC(d:WC):0<=XM d/\XM d<=256:=by
 unfold XM;split
 .rename_i h;have:=XY h;omega
 omega
def Xaw(d:WC):Int:=wU (wU (wU (1+wU (4*wU d.k))+wU (16*wU d.n))+ZP .u64 (wU d.Map) 16)
def Jq(N:Nat)(d:WC):QcM N d=some (if XL d then(Xaw d,0)else(0,1)):=by simp only[QcM,Zl,Xa];cases h:XL d<;>rfl
def Xb4(w:Int):WC:=⟨wI (Y2 .u64 (YC .u64 w 2) 3),wI (Y2 .u64 (YC .u64 w 4) 4095),wW (YC .u64 w 16)⟩
def okH(w:Int):Bool:=XL (Xb4 w)&&(Xaw (Xb4 w)==w)
def ZS(w:Int):WC:=if okH w then Xb4 w else⟨0,0,0⟩
def KN(N:Nat)(w:Int):QcN N w=some (ZS w,okH w):=by simp only[QcN];rw[Jq N (WC.mk _ _ _),Xa];unfold ZS okH Xb4;grind
def Jc(w:Int):XL (ZS w)=true:=by
 unfold ZS;split
 .rename_i h;unfold okH at h;simp_all
 rfl
def XdZ(w:Int):XM (ZS w)=(ZS w).n+1/\1<=XM (ZS w)/\XM (ZS w)<=256:=by have h:=Jc w;have:=XY h;unfold XM;grind
def KF(d:WC)(i:Int):Bool:=XL d&&(decide (0<=i/\i<d.n)&&(decide (d.k=2)||(decide (d.k=1)&&(Y2 .u32 (YC .u32 d.Map (wU i)) 1==1))))
def Kv(N:Nat)(d:WC)(i:Int):Qcf N d i=some (KF d i):=by
 simp only[Qcf,Zl,Xa,KF,Uv];cases h:XL d with
 |false=>rfl
 |true=>
  simp only[Wi,Wa,W5];by_cases e:i<0
  .rw[Wp e,We aa,Uu]
  rw[Wk e];by_cases f:i>=d.n
  .rw[Wp f,We aa,Uu]
  rw[Wk f,Wd (p:=0<=i/\i<d.n) aa,W5,Xc (XcJ i).1];grind
def YH(d:WC):Nat->Int->List Int
 |0,_=>[]
 |k+1,i=>(if KF d i then[i]else[])++YH d k (i+1)
def Zu(d:WC):List Int:=if XL d then YH d d.n.toNat 0 else[]
def J9{d:WC}:∀{k:Nat}{i x:Int},x∈YH d k i->i<=x/\x<i+k/\KF d x=true
 |0,i,x,h=>by simp_all[YH]
 |k+1,i,x,h=>by
  simp only[YH,WG]at h;rcases h with h|h
  .grind
  have:=J9 h;grind
def Va{d:WC}:∀{k:Nat}{i:Int},(YH d k i).length<=k
 |0,i=>by simp[YH]
 |k+1,i=>by have:=Va (d:=d) (k:=k) (i:=i+1);grind[YH,WO]
def VB(N:Nat)(d:WC)(f:XL d=true):∀(n:Nat)(i:Int)(v:List Int),0<=i->i<=d.n->(d.n-i).toNat<n->v.length<=1000-(d.n-i).toNat->v.length+(d.n-i).toNat<=1000 ->
 Qb6 N d n i v=some (v++YH d (d.n-i).toNat i)
 |0,i,v,_,_,h,_,_=>by omega
 |n+1,i,v,j,l,o,p,q=>by
  have hb:=XY f;rw[Qb6];by_cases h:i<d.n
  .obtain⟨k,g⟩:∃k,(d.n-i).toNat=k+1:=⟨(d.n-i).toNat-1,aa⟩
   have e:(d.n-(i+1)).toNat=k:=aa;rw[Wd h,Wb,Zl,Xa,f,Wb,Kv,Xa,g,Xd (n:=i+1) aa aa];simp only[YH];cases hp:KF d i with
   |true=>rw[Wb,Xc aa,VB N d f n (i+1) _ aa aa aa (by grind) (by grind),e];simp
   |false=>rw[Wa,VB N d f n (i+1) _ aa aa aa aa aa,e];simp
  rw[We h,Wa,show(d.n-i).toNat=0 by omega];simp[YH]
def Xf6{N:Nat}(hN:300<N)(d:WC):Qf4 N d=some (Zu d):=by
 simp only[Qf4,Zu];cases e:XL d with
 |true=>have hb:=XY e;rw[VB N d e N 0 [] aa aa aa ab (by grind),Xa];simp
 |false=>
  obtain⟨n,rfl⟩:∃n,N=n+1:=⟨N-1,aa⟩
  simp[Qb6,Zl,Xa,e,Wa]
def VC(w:Int):Bool:=decide (w.tmod 4=2)&&decide (YC .u64 w 2<4294967296)
def JO(N:Nat)(w:Int):QcQ N w=some (if VC w then(YC .u64 w 2,true)else(0,false)):=by simp only[QcQ,VC,Uv];grind
def Xax(N:Nat)(a:Int):Qc2 N a=some (if a>=4294967296 then(0,1)else(wU (wU (4*a)+2),0)):=by simp only[Qc2,Uv];grind
def Yk(c:WV):Bool:=decide (16<=c.W/\c.W<=64/\c.W % 4=0/\8<=c.p/\c.p<=64)
def Xu{c:WV}:Yk c=true↔16<=c.W/\c.W<=64/\c.W % 4=0/\8<=c.p/\c.p<=64:=by simp[Yk]
def Zv(N:Nat)(c:WV):QaW N c=some (Yk c):=by simp only[QaW,Uv,Yk];grind
def Jd(c:WV):Int:=if Yk c then c.p / 4 else 0
def XcM(N:Nat)(c:WV):QgH N c=some (Jd c):=by
 simp only[QgH,Zv,Xa,Jd];cases h:Yk c with
 |false=>rfl
 |true=>have:=Xu.1 h;simp;rw[U8 aa,Xd aa aa]
def smC(c:WV):Int:=if Yk c then c.W / 4 else 0
def Xir(N:Nat)(c:WV):QdZ N c=some (smC c):=by
 simp only[QdZ,Zv,Xa,smC];cases h:Yk c with
 |false=>rfl
 |true=>have:=Xu.1 h;simp;rw[U8 aa,Xd aa aa]
def XF(c:WV)(w:Int):Int:=
 if Yk c=true/\1<=w then(if w<=c.W / 4 then 0 else if c.W>=w then 1 else if 2*c.W>=w then 2 else if 3*c.W>=w then 3 else if 4*c.W>=w then 4 else -1)else -1
def Xca(N:Nat)(c:WV)(w:Int)(e:Yk c=true)(k:Int)(f:1<=k/\k<=4)(n:Nat):QcY N c w (n+1) k=if k*c.W>=w then some (.ret k)else QcY N c w n (k+1):=by
 have h:=Xu.1 e;have g:0<=k*c.W/\k*c.W<=256:=by
  constructor
  .exact Int.mul_nonneg aa aa
  have:=Int.mul_le_mul (a:=k) (b:=c.W) (c:=4) (d:=64) aa aa aa aa;omega
 rw[QcY,Wd aa,Wb,Uv,Xd (n:=k*c.W) aa aa,Xd (n:=k+1) aa aa]
def ZN{N:Nat}(hN:10<=N)(c:WV)(w:Int):Qfx N c w=some (XF c w):=by
 simp only[Qfx,Zv,Xir,Xa,XF,smC];cases e:Yk c with
 |false=>simp
 |true=>
  simp only[Wi,Wa,if_true,Uv];by_cases g:w<1
  .rw[Wp g,Wk (show¬(True/\1<=w)fromλh=>aa)]
  rw[Wk g,Wp (show True/\1<=w from⟨trivial,aa⟩)];by_cases f:w<=c.W / 4
  .rw[Wp f,Wp f]
  rw[Wk f,Wk f];obtain⟨n,rfl⟩:∃n,N=n+5:=⟨N-5,aa⟩
  rw[Xca _ c w e 1 aa,Xca _ c w e (1+1) aa,Xca _ c w e (1+1+1) aa,Xca _ c w e (1+1+1+1) aa];rw[show QcY (n+5) c w (n+1) (1+1+1+1+1)=some (.nxt ()) by rw[QcY,We aa,Wa]];simp;by_cases j:c.W>=w
  .simp only[Wp j,Xa,XD]
  simp only[Wk j];by_cases k:2*c.W>=w
  .simp only[Wp k,Xa,XD]
  simp only[Wk k];by_cases l:3*c.W>=w
  .simp only[Wp l,Xa,XD]
  simp only[Wk l];by_cases o:4*c.W>=w
  .simp only[Wp o,Xa,XD]
  simp[Wk,o,Xa,Xq]
def Jr(c:WV)(w:Int):-1<=XF c w/\XF c w<=4:=by unfold XF;omega
def X4{c:WV}(e:Yk c=true){i:Int}(f:0<=i)(g:i<c.p):0<=i*c.W/\i*c.W+c.W<=c.p*c.W/\c.p*c.W<=4096:=by
 have h:=Xu.1 e;refine⟨Int.mul_nonneg f aa,?_,?_⟩
 .have:=UE (a:=i+1) (b:=c.p) (c:=c.W) aa aa;grind
 have:=Int.mul_le_mul (a:=c.p) (b:=c.W) (c:=64) (d:=64) aa aa aa aa;omega
def Xj(c:WV)(p o:Int):Int:=4096+p*c.W+o
def KO(N:Nat)(c:WV)(p o:Int):Qbv N c p o=some (if Yk c=false then(0,1)else if 0<=p/\p<c.p/\0<=o/\o<c.W then(Xj c p o,0)else(0,2)):=by
 simp only[Qbv,Zv,Xa,Uv];cases e:Yk c with
 |false=>simp
 |true=>
  rw[Wk (show¬(true=false) by simp)];by_cases f:p<0
  .grind
  rw[Wk f];by_cases g:p>=c.p
  .grind
  rw[Wk g];by_cases h:o<0
  .grind
  rw[Wk h];by_cases j:o>=c.W
  .simp_all
  rw[Wk j,Wp aa];have k:=X4 e (i:=p) aa aa;rw[Xd (n:=p*c.W) aa aa,Xd (n:=4096+p*c.W) aa aa,Xd (n:=4096+p*c.W+o) aa aa,XA aa aa];rfl
def JP(N:Nat)(c:WV)(a:Int):Qc8 N c a=some (if Yk c=false then(0,0,1)else if 4096<=a/\a<4096+c.p*c.W then((a-4096) / c.W,(a-4096) % c.W,0)else(0,0,2)):=by
 simp only[Qc8,Zv,Xa,Uv];cases e:Yk c with
 |false=>simp
 |true=>
  have h:=Xu.1 e;have k:=X4 e (i:=0) aa aa;simp only[Wi,Wa];rw[Wk (show¬(true=false) by simp)];rw[Xd (n:=c.p*c.W) aa aa,Xd (n:=4096+c.p*c.W) aa aa,XA (n:=4096+c.p*c.W) aa aa];by_cases f:a<4096
  .grind
  rw[Wk f];by_cases g:a>=4096+c.p*c.W
  .simp_all
  rw[Wk g,Wp aa,Xc aa,Xc aa];rw[XA (n:=a-4096) aa aa,Xd (n:=a-4096) aa aa,U8 aa,Ip aa];have hd:0<=(a-4096) / c.W:=Int.ediv_nonneg aa aa;have j:(a-4096) / c.W<=a-4096:=Int.ediv_le_self _ aa;rw[Xd aa aa]
def Xe1{c:WV}(e:Yk c=true){a:Int}(f:4096<=a)(g:a<4096+c.p*c.W):
 0<=(a-4096) / c.W/\(a-4096) / c.W<c.p/\0<=(a-4096) % c.W/\(a-4096) % c.W<c.W/\a=Xj c ((a-4096) / c.W) ((a-4096) % c.W):=by have h:=Xu.1 e;refine⟨Int.ediv_nonneg aa aa,Int.ediv_lt_of_lt_mul aa aa,Int.emod_nonneg _ aa,Int.emod_lt_of_pos _ aa,?_⟩;have:=Int.mul_ediv_add_emod (a-4096) c.W;unfold Xj;grind
def Xof{c:WV}(h:Yk c=true){p o:Int}(f:0<=o)(g:o<c.W):(Xj c p o-4096) / c.W=p/\(Xj c p o-4096) % c.W=o:=by
 have e:Xj c p o-4096=o+c.W*p:=by unfold Xj;rw[Int.mul_comm p];omega
 rw[e,Int.add_mul_ediv_left _ _ aa,Int.add_mul_emod_self_left,Int.ediv_eq_zero_of_lt f g,Int.emod_eq_of_lt f g];omega
def Je:Wv:=⟨0,0,0,0⟩
def pg(e:List Wv)(i:Int):Wv:=e.getD i.toNat Je
def Yz{e:List Wv}{i:Int}{p:Wv}(h:Xb e i=some p):pg e i=p:=by have:=(Xal.1 h).2;simp[pg,this]
def XG{ps:List Wv}{i:Int}(e:0<=i)(f:i<ps.length):Xb ps i=some (pg ps i):=by rw[X0 e f];have:i.toNat<ps.length:=aa;simp[pg,List.getD,this]
def Xf7(N:Nat)(e:List Wv)(sp:Int)(v:e.length<=BIG):∀(n:Nat)(c i:Int),0<=i->0<=c->c<=BIG*2->i<=BIG*2->(e.length:Int)+c-i<=BIG*2->(e.length-i).toNat<n ->
 Ok (Qd0 N e sp n c i) λr=>c<=r/\∀m,0<=m->m<r-c->i+m<e.length/\(pg e (i+m)).k=3
 |0,c,i,_,_,_,_,_,h=>by omega
 |n+1,c,i,j,w,o,y,z,A=>by
  unfold BIG at *;refine Ws (λh=>?_) λh=>Wg ⟨Int.le_refl _,λm f g=>aa⟩;have f:i<e.length:=by simpa using h
  refine Ok.get j f λp hp=>Ws (λl=>?_) λl=>Wg ⟨Int.le_refl _,λm f g=>aa⟩;refine Ok.get j f λB q=>Ws (λs=>?_) λl=>Wg ⟨Int.le_refl _,λm f g=>aa⟩;rw[Xd (n:=c+1) aa aa,Xd (n:=i+1) aa aa];refine(Xf7 N e sp ag n (c+1) (i+1) aa aa (by unfold BIG;omega) (by unfold BIG;omega) (by unfold BIG;omega) aa).mono λr u=>⟨aa,λm g D=>?_⟩
  by_cases E:m=0
  .simp_all[Int.add_zero,Yz,hp]
  have:=u.2 (m-1) aa aa;grind
def XlD{N:Nat}{ps:List Wv}(sp i:Int)(f:ps.length<N)(e:ps.length<=100000000)(g:0<=i)(j:i<=100000000):Ok (QfM N ps i sp) λr=>0<=r/\∀m,1<=m->m<=r->i+m<ps.length/\(pg ps (i+m)).k=3:=by rw[QfM,Xd (n:=i+1) aa aa];refine WH (Xf7 N ps sp (by unfold BIG;omega) N 0 (i+1) aa aa aa (by unfold BIG;omega) (by unfold BIG;omega) aa) λr _ h=>Wg ⟨h.1,λm l o=>?_⟩;have:=h.2 (m-1) aa aa;grind
def Xe2(N:Nat)(n:Int):QhM N n=some (decide (0<=n/\n<=2147483647)):=by simp only[QhM,Uv];grind
structure ON(h:Wo)(i:Int):Prop where
 kind:0<=(pg h.p i).k/\(pg h.p i).k<=3
 space:0<=(pg h.p i).s/\(pg h.p i).s<=1
 pins:0<=(pg h.p i).P/\(pg h.p i).P<=2147483647
 free:(pg h.p i).k=0->pg h.p i=Je
 small:(pg h.p i).k=1->0<=(pg h.p i).u/\(pg h.p i).u<=h.c.W
 large:(pg h.p i).k=2->1<=XF h.c (pg h.p i).u/\∀m,1<=m->m<XF h.c (pg h.p i).u->i+m<h.p.length/\(pg h.p (i+m)).k=3
structure Ut(h:Wo):Prop where
 conf:Yk h.c=true
 words:(h.w.length:Int)=h.c.p*h.c.W
 pages:(h.p.length:Int)=h.c.p
 space:0<=h.s/\h.s<=1
 bump:h.b = -1\/(0<=h.b/\h.b<h.p.length/\(pg h.p h.b).k=1)
 pgs:∀i:Int,0<=i->i<h.p.length->ON h i
 first:(pg h.p 0).k≠3
def PL(h:Wo)(i:Int):Ex Bool Unit->Prop
 |.ret a=>a=false
 |.nxt _=>(∀j,i<=j->j<h.p.length->ON h j)/\(i=0->(0:Int)<h.p.length->(pg h.p 0).k≠3)
def Xd0{N:Nat}{h:Wo}(A:Yk h.c=true)(hN:100000<N)(I:(h.p.length:Int)=h.c.p):∀(n:Nat)(due i:Int),0<=i->0<=due->due<=4->(h.p.length-i).toNat<n->(i=0->due=0) ->
 Ok (QaL N h n due i) (PL h i)
 |0,due,i,_,_,_,J,_=>by omega
 |n+1,due,i,B,hd,g,J,K=>by
  have W:=Xu.1 A;refine Ws (λD=>?_) λD=>Wg ⟨λj L k=>?_,λM l=>?_⟩;rotate_left
  .grind
  .grind
  have v:i<h.p.length:=by simpa using D
  refine Ok.get B v λp hp=>?_;have w:=Yz hp;refine Ws (λ_=>Wg rfl) λg1=>?_;refine Ws (λ_=>Wg rfl) λg2=>?_;refine Ws (λ_=>Wg rfl) λg3=>?_;rw[Xe2,Xa];refine Ws (λ_=>Wg rfl) λg4=>?_;simp at g1 g2 g3 g4;have next:∀(f:Int),0<=f->f<=4->ON h i->Ok (QaL N h n (if 0<wI (f-1)then wI (f-1)else 0) (wI (i+1))) (PL h i):=by
   intro f O R y;rw[Xd (n:=i+1) aa aa,Xd (n:=f-1) aa aa];refine(Xd0 A hN I n _ (i+1) aa aa aa aa aa).mono λe E=>?_;cases e with
   |ret a=>exact E
   |nxt b=>
   have⟨k1,k2⟩:=E;refine⟨λj L k=>?_,λM l Y=>?_⟩
   .by_cases z:j=i
    .subst z;exact y
    exact k1 j aa k
   simp_all
  refine Iu ?_;refine Ws (λS=>Ws (λ_=>Wg rfl) λo=>?_) λS=>Iu (Ws (λo=>Ws (λ_=>Wg rfl) λG=>Ws (λ_=>Wg rfl) λr=>?_) λo=>Iu (Ws (λG=>?_) λG=>Ws (λr=>Ws (λ_=>Wg rfl) λH=>Ws (λ_=>Wg rfl) λZ=>?_) λr=>Wg rfl))
  .refine next due hd g ?_
   simp at o;have q:pg h.p i=Je:=by rw[w];cases p;simp only at o;obtain⟨rfl,rfl,rfl,rfl⟩:=o;rfl
   refine⟨by rw[q];decide,by rw[q];decide,by rw[q];decide,λ_=>q,λe=>?_,λe=>?_⟩
   .rw[q]at e;cases e
   simp_all
  .refine next due hd g ?_
   exact⟨by simp_all,by simp_all,by simp_all,λe=>by simp_all,λ_=>by simp_all,λe=>by simp_all⟩
  .rw[ZN aa,Xa];refine Ws (λ_=>Wg rfl) λr=>?_;refine WH (XlD (N:=N) (ps:=h.p) p.s i aa aa B aa) λt _ ht=>?_;refine Ws (λ_=>Wg rfl) λH=>?_;have hr:=Jr h.c p.u;have U:1<=XF h.c p.u:=by have:=WM r;omega
   have V:XF h.c p.u-1<=t:=by have:=WM H;rw[Xd aa aa]at this;omega
   refine next _ aa aa ?_
   exact⟨by simp_all,by simp_all,by simp_all,λe=>by simp_all,λe=>by simp_all,λ_=>by grind⟩
  refine next due hd g ?_
  exact⟨by simp_all,by simp_all,by simp_all,λe=>by simp_all,λe=>by simp_all,λe=>by simp_all⟩
def YR{N:Nat}(hN:100000<N){h:Wo}(hw:h.w.length<=100000)(hp:h.p.length<=100000):Ok (Qac N h) λb=>b=true->Ut h:=by
 rw[Qac,Zv,Xa];refine Ws (λ_=>Wg λe=>by cases e) λg1=>?_;have f:Yk h.c=true:=by simpa using g1
 have z:=Xu.1 f;have A:=X4 f (i:=0) aa aa;refine Ws (λ_=>Wg λe=>by cases e) λg2=>?_;refine Ws (λ_=>Wg λe=>by cases e) λg3=>?_;refine Ws (λ_=>Wg λe=>by cases e) λg4=>?_;refine Ws (λ_=>Wg λe=>by cases e) λg5=>?_;have q:(h.w.length:Int)=h.c.p*h.c.W:=by
  have:(h.w.length:Int)=wI (h.c.p*h.c.W):=by simpa using g2
  rwa[Xd aa aa]at this
 have e3:(h.p.length:Int)=h.c.p:=by simpa using g3
 have e4:0<=h.s/\h.s<=1:=⟨by simpa using g4,by simpa using g5⟩
 have main:(h.b = -1\/(0<=h.b/\h.b<h.p.length/\(pg h.p h.b).k=1))->Ok (bnd (QaL N h N 0 0) λe=>exK e (λr=>some r) λu=>some true) λb=>b=true->Ut h:=by
  intro hb;refine IT (Xd0 (N:=N) (h:=h) f hN e3 N 0 0 aa aa aa aa aa) (λa g=>?_) λb g=>Wg λ_=>?_
  .have v:a=false:=g;subst v;exact Wg λe=>by cases e
  have⟨k1,k2⟩:=g;exact⟨f,q,e3,e4,hb,k1,k2 rfl aa⟩
 refine Iu (Ws (λj=>Ws (λ_=>Wg λe=>by cases e) λb2=>Ws (λ_=>Wg λe=>by cases e) λy=>?_) λj=>main (.inl (by simpa using j)));have l:0<=h.b:=by simpa using b2
 have o:h.b<h.p.length:=by simpa using y
 refine Ok.get l o λp hp=>Ws (λ_=>Wg λe=>by cases e) λB=>main (.inr ⟨l,o,?_⟩);rw[Yz hp];grind
def dlt{a b:Int}(h:decide (a<b)=true):a<b:=Wz h
def ZT{ps:List Wv}{i j:Int}(p:Wv)(f:0<=i)(e:i<ps.length)(g:0<=j):pg (ps.set i.toNat p) j=if j=i then p else pg ps j:=by unfold pg;grind
def XcN(N:Nat)(e:List Wv)(f:e.length<=100000000):∀(n:Nat)(c i:Int),0<=i->0<=c->c<=i->i<=e.length->(e.length-i).toNat<n->Ok (QbF N e n c i) λr=>0<=r/\r<=e.length
 |0,c,i,_,_,_,_,h=>by omega
 |n+1,c,i,g,j,k,o,q=>by
  refine Ws (λh=>?_) λh=>Wg ⟨j,aa⟩;have l:i<e.length:=dlt h;refine Ok.get g l λp hp=>?_;rw[Xd (n:=c+1) aa aa,Xd (n:=i+1) aa aa];refine Ws (λ_=>?_) λ_=>?_
  .exact XcN N e f n (c+1) (i+1) aa aa aa aa aa
  exact XcN N e f n c (i+1) aa aa aa aa aa
def Xa1{N:Nat}{ps:List Wv}(e:ps.length<=100000000)(hN:ps.length<N):Ok (QcS N ps) λr=>0<=r/\r<=ps.length:=
 WH (XcN N ps e N 0 0 aa aa aa aa aa) λr _ h=>Wg h
def RunOK(e:List Wv)(i k:Int):Prop:=0<=i/\1<=k/\i+k<=e.length/\∀m,0<=m->m<k->(pg e (i+m)).k=0
def Xcb(N:Nat)(f:List Wv)(s:f.length<=100000000):∀(n:Nat)(i:Int)(rs:List Oj),0<=i->i<=f.length->(f.length-i).toNat<n->rs.length<=i->(∀r∈rs,RunOK f r.O r.Len) ->
 Ok (Qby N f n i rs) λout=>out.length<=f.length/\∀r∈out,RunOK f r.O r.Len
 |0,i,rs,_,_,h,_,_=>by omega
 |n+1,i,rs,y,G,H,z,j=>by
  refine Ws (λh=>?_) λh=>Wg ⟨aa,j⟩;have l:i<f.length:=dlt h;refine Ok.get y l λp hp=>?_;have B:=Yz hp;rw[Xd (n:=i+1) aa aa];refine Ws (λ_=>Xcb N f s n (i+1) rs aa aa aa aa j) λI=>?_;have new:Ok (grd ((rs.length+1)*16<=140737488355328) (Qby N f n (i+1) (rs++[Oj.mk i 1]))) λout=>out.length<=f.length/\∀r∈out,RunOK f r.O r.Len:=by
   refine W8 aa (Xcb N f s n (i+1) _ aa aa aa (by simp_all) λr g=>?_);rcases WG.1 g with g|g
   .simp_all
   have:r=Oj.mk i 1:=by simpa using g
   subst this;refine⟨y,by show(1:Int)<=1;omega,by show i+1<=_;omega,λm l D=>?_⟩;grind
  refine W8 aa (Iu (Ws (λk=>?_) λ_=>new));have k:0<(rs.length:Int):=Wz k;rw[Xd (n:=(rs.length:Int)-1) aa aa];refine Ok.get aa aa λq o=>Ok.get aa aa λq' u=>?_;obtain rfl:q=q':=WE (o.symm.trans u);have e:=j q (YT o);have hb:=e.2.2.1;rw[Xd (n:=q.O+q.Len) (by have:=e.1;have:=e.2.1;omega) aa];refine Ws (λA=>?_) λ_=>new;have A:q.O+q.Len=i:=by simpa using A
  refine Ok.get aa aa λq2 v=>Ok.get aa aa λq3 w=>?_;obtain rfl:q=q2:=WE (o.symm.trans v);obtain rfl:q=q3:=WE (o.symm.trans w);have:=e.1;have:=e.2.1;rw[Xd (n:=q.Len+1) aa aa];refine Xcb N f s n (i+1) _ aa aa aa (by grind) λr g=>?_;rcases Uy g with g|g
  .simp_all
  subst g;refine⟨e.1,by show 1<=q.Len+1;omega,by show q.O+(q.Len+1)<=_;omega,λm l D=>?_⟩;by_cases E:m<q.Len
  .exact e.2.2.2 m l E
  grind
def Xis{N:Nat}{ps:List Wv}(e:ps.length<=100000000)(hN:ps.length<N):Ok (Qg9 N ps) λout=>out.length<=ps.length/\∀r∈out,RunOK ps r.O r.Len:=
 WH (Xcb N ps e N 0 [] aa aa aa ab ab) λr _ h=>Wg h
def RunOK.less{e:List Wv}{i k j:Int}(h:RunOK e i k)(f:1<=j)(g:j<=k):RunOK e i j:=⟨h.1,f,by have:=h.2.2.1;omega,λm a b=>h.2.2.2 m a aa⟩
def Xf8(N:Nat)(j:List Wv)(k:Int)(rs:List Oj)(u:rs.length<=100000000)(g:∀r∈rs,RunOK j r.O r.Len):∀(n:Nat)(i:Int),0<=i->i<=rs.length->(rs.length-i).toNat<n ->
 Ok (QbE N k rs n i) λe=>∀a,e=.ret a->RunOK j a k
 |0,i,_,_,h=>by omega
 |n+1,i,q,v,w=>by
  refine Ws (λh=>?_) λh=>Wg λa e=>by grind
  have s:i<rs.length:=dlt h;rw[Xd (n:=i+1) aa aa];have next:=Xf8 N j k rs u g n (i+1) aa aa aa
  refine Ws (λl=>?_) λ_=>next
  refine Ok.get q s λp hp=>Ws (λf=>?_) λ_=>next
  refine Ok.get q s λp' o=>Wg λa e=>?_;obtain rfl:p=p':=WE (hp.symm.trans o);cases e;have l:1<=k:=Wz l;have f:k<=p.Len:=Wz f;exact(g p (YT hp)).less l f
def ZK{N:Nat}{ps:List Wv}(k:Int)(e:ps.length<=100000000)(hN:ps.length<N):Ok (Qbp N ps k) λi=>i = -1\/RunOK ps i k:=by refine WH (Xis e hN) λrs _ h=>?_;refine IT (Xf8 N ps k rs aa h.2 N 0 aa aa aa) (λa q=>Wg (.inr (q a rfl))) λ_ _=>Wg (.inl rfl)
def Taken(e out:List Wv)(i k:Int)(first rest:Wv):Prop:=out.length=e.length/\∀j,0<=j->pg out j=if j=i then first else if i<=j/\j<i+k then rest else pg e j
def Xit(N:Nat)(l:List Wv)(i k:Int)(f r:Wv)(B:l.length<=100000000)(D:0<=i)(E:i+k<=l.length):∀(n:Nat)(m:Int)(v:List Wv),0<=m->(m<=k\/m=0)->(k-m).toNat<n->v.length=l.length->(∀j,0<=j->pg v j=if i<=j/\j<i+m then r else pg l j) ->
 Ok (Qex N i k f r n m v) λe=>(∀o,e=.nxt o->o.length=l.length/\∀j,0<=j->pg o j=if i<=j/\j<i+k then r else pg l j)/\(∀o,e=.ret o->o.2=20/\o.1=[])/\((∀j,m<=j->j<k->(pg l (i+j)).k=0)->∀o,e≠.ret o)
 |0,m,v,_,_,h,_,_=>by omega
 |n+1,m,v,I,J,K,z,q=>by
  refine Ws (λh=>?_) λh=>Wg ⟨λo e=>?_,λo e=>(by cases e),λ_ o e=>(by cases e)⟩;rotate_left
  .cases e;have:¬m<k:=WM h;refine⟨z,λj u=>?_⟩;rw[q j u];by_cases A:i<=j/\j<i+m
   .rw[Wp A,Wp aa]
   rw[Wk A,Wk aa]
  have G:m<k:=dlt h;rw[Xd (n:=i+m) aa aa,Xd (n:=m+1) aa aa];refine Ok.get aa aa λp hp=>?_;have w:p=pg l (i+m):=by rw[←Yz hp,q _ aa,Wk aa]
  refine Ws (λs=>Wg ⟨λo e=>(by cases e),λo e=>(by cases e;exact⟨rfl,rfl⟩),λg=>?_⟩) λs=>?_
  .have:=g m aa G;rw[←w]at this;simp[this]at s
  refine Ok.get aa aa λL H=>?_;refine(Xit N l i k f r B D E n (m+1) _ aa aa aa (by rw[WN];exact z) λj u=>?_).mono λe y=>⟨y.1,y.2.1,λg=>y.2.2 λj a b=>g j aa b⟩
  rw[ZT r aa aa u,q j u];grind
def Xiu{N:Nat}{g:List Wv}(i k:Int)(f r:Wv)(D:g.length<=1000000)(hN:1000000<N)(z:1<=k)(A:k<=1000000):Ok (QdD N g i k f r) λo=>(o.2=0->0<=i/\i+k<=g.length/\Taken g o.1 i k f r)/\(o.2≠0->o.1=[])/\(RunOK g i k->o.2=0):=by
 refine Ws (λh=>Wg ⟨λe=>aa,λ_=>rfl,λl=>?_⟩) λv=>?_
 .have:=Wz h;have:=l.1;omega
 have v:¬i<0:=WM v;refine Ws (λh=>Wg ⟨λe=>aa,λ_=>rfl,λl=>?_⟩) λw=>?_
 .have:=Wz h;have:=l.2.2.1;omega
 have w:¬i>=(g.length:Int):=WM w;rw[Xd (n:=(g.length:Int)-i) aa aa];refine Ws (λh=>Wg ⟨λe=>aa,λ_=>rfl,λl=>?_⟩) λy=>?_
 .have:=Wz h;have:=l.2.2.1;omega
 have y:¬k>(g.length:Int)-i:=WM y;refine W8 aa (IT (Xit N g i k f r aa aa aa N 0 g aa aa aa rfl λj s=>(by grind)) (λa q=>?_) λo q=>?_)
 .have⟨B,u⟩:=q.2.1 a rfl;refine Wg ⟨λe=>aa,λ_=>u,λl=>?_⟩;exact absurd rfl (q.2.2 (λj a b=>l.2.2.2 j a b) a)
 have⟨B,u⟩:=q.1 o rfl;refine Ok.get aa aa λp hp=>Wg ⟨λ_=>⟨aa,aa,⟨by simp_all,λj s=>?_⟩⟩,λe=>absurd rfl e,λ_=>rfl⟩;rw[ZT f aa aa s,u j s]
def XcO{N:Nat}{ps:List Wv}(i sp:Int)(k:ps.length<=1000000)(hN:1000000<N):Ok (QbJ N ps i sp) λo=>(o.2=0->0<=i/\i+1<=ps.length/\Taken ps o.1 i 1 ⟨1,sp,0,0⟩ ⟨0,0,0,0⟩)/\(o.2≠0->o.1=[])/\(RunOK ps i 1->0<=sp->sp<=1->o.2=0):=by
 refine Ws (λh=>Wg ⟨λe=>aa,λ_=>rfl,λ_ g j=>?_⟩) λg=>?_
 .grind
 refine Ws (λh=>Wg ⟨λe=>aa,λ_=>rfl,λ_ g j=>?_⟩) λj=>?_
 .grind
 refine WH (Xiu i 1 ⟨1,sp,0,0⟩ ⟨0,0,0,0⟩ k hN aa aa) λy _ f=>Wg ⟨f.1,f.2.1,λl _ _=>f.2.2 l⟩
def XlE{N:Nat}{f:List Wv}(c:WV)(i sp w:Int)(j:f.length<=1000000)(hN:1000000<N):Ok (Qee N c f i sp w) λo=>(o.2=0->0<=i/\i+XF c w<=f.length/\1<=XF c w/\Taken f o.1 i (XF c w) ⟨2,sp,w,0⟩ ⟨3,sp,0,0⟩)/\(o.2≠0->o.1=[]):=by rw[Qee,ZN aa,Xa];refine Ws (λh=>Wg ⟨λe=>(by cases e),λ_=>rfl⟩) λg=>?_;have g:¬XF c w<1:=WM g;refine Ws (λh=>Wg ⟨λe=>(by cases e),λ_=>rfl⟩) λl=>?_;refine Ws (λh=>Wg ⟨λe=>(by cases e),λ_=>rfl⟩) λp=>?_;have q:=Jr c w;refine WH (Xiu i (XF c w) ⟨2,sp,w,0⟩ ⟨3,sp,0,0⟩ j hN aa aa) λy _ k=>Wg ⟨λe=>?_,k.2.1⟩;simp_all
def HB(h:Wo):Prop:=h.w.length<=100000/\h.p.length<=100000
def NB(N:Nat):Prop:=10000000<N
def zH:Wo:=⟨⟨0,0⟩,[],[],0,0⟩
def Kh:HB zH:=⟨ae,ae⟩
def wd(ws:List Int)(a:Int):Int:=ws.getD (ix a) 0
def hdA(ws:List Int)(a:Int):WC:=ZS (wd ws a)
def szA(ws:List Int)(a:Int):Int:=(hdA ws a).n+1
def YW(ws:List Int)(a:Int):XM (hdA ws a)=szA ws a/\1<=szA ws a/\szA ws a<=256:=by have:=XdZ (wd ws a);unfold szA hdA;omega
def pgi(c:WV)(a:Int):Int:=(a-4096) / c.W
def pgo(c:WV)(a:Int):Int:=(a-4096) % c.W
structure IQ(h:Wo)(a:Int):Prop where
 rng:4096<=a/\a<4096+h.c.p*h.c.W
 kind:(pg h.p (pgi h.c a)).k=1\/(pg h.p (pgi h.c a)).k=2
 ok:okH (wd h.w a)=true
 used:pgo h.c a<(pg h.p (pgi h.c a)).u
 small:(pg h.p (pgi h.c a)).k=1->pgo h.c a+szA h.w a<=(pg h.p (pgi h.c a)).u
 large:(pg h.p (pgi h.c a)).k=2->pgo h.c a=0/\szA h.w a=(pg h.p (pgi h.c a)).u
def Xd1{N:Nat}(hN:NB N){h:Wo}(hb:HB h)(a:Int):Ok (Qar N h a) λr=>r.2=0->Ut h/\Qac N h=some true/\IQ h a/\r.1=hdA h.w a:=by
 unfold NB at hN;refine WH (YR (N:=N) aa hb.1 hb.2) λb eb hp=>?_;refine Ws (λ_=>Wg λe=>by cases e) λq=>?_;have s:b=true:=by simpa using q
 subst s;have hp:=hp rfl;rw[JP,Xa,hp.conf,Wk ab];have L:=Xu.1 hp.conf;by_cases l:4096<=a/\a<4096+h.c.p*h.c.W;rotate_left
 .rw[Wk l];exact Ws (λ_=>Wg λe=>by cases e) λe=>by cases e
 rw[Wp l,show(a-4096) / h.c.W=pgi h.c a from rfl,show(a-4096) % h.c.W=pgo h.c a from rfl];have j:=Xe1 hp.conf l.1 l.2;have M:=hp.pages;have H:0<=pgi h.c a:=j.1;have I:pgi h.c a<h.p.length:=by have:pgi h.c a<h.c.p:=j.2.1;omega
 refine Ok.get H I λp v=>?_;have f:=Yz v;have y:inW h.w a:=by unfold inW;have:=hp.words;omega
 rw[YO (by unfold BIG;have:=hb.1;omega),Xa,Wp y];show Ok (bnd (QcN N (wd h.w a)) _) _;rw[KN,Xa];have z:=YW h.w a;have J:pgo h.c a<h.c.W:=j.2.2.2.1;have B:0<=pgo h.c a:=j.2.2.1;have rest:okH (wd h.w a)=true->(p.k=1\/p.k=2)->pgo h.c a<p.u->Ok (α:=WC×Int) (bnd (QcZ N (ZS (wd h.w a))) λA=>
  bif (p.k==1)then(bif (decide ((wI (pgo h.c a+A))>p.u))then some ((WC.mk 0 0 0),19)
   else bif (p.k==2)then(bif (pgo h.c a != 0)then some ((WC.mk 0 0 0),19)
    else bif (A != p.u)then some ((WC.mk 0 0 0),19)
    else some (ZS (wd h.w a),0))
   else some (ZS (wd h.w a),0))
  else bif (p.k==2)then(bif (pgo h.c a != 0)then some ((WC.mk 0 0 0),19)
   else bif (A != p.u)then some ((WC.mk 0 0 0),19)
   else some (ZS (wd h.w a),0))
  else some (ZS (wd h.w a),0)) λr=>r.2=0->Ut h/\Qac N h=some true/\IQ h a/\r.1=hdA h.w a:=by
  intro D E G
  rw[X6,Xa]
  have K:XM (ZS (wd h.w a))=szA h.w a:=z.1
  rw[K,Xd aa aa]
  refine Ws (λk1=>?_) λk1=>?_
  .have k1:p.k=1:=by simpa using k1
   refine Ws (λ_=>Wg λe=>by cases e) λk2=>?_
   have k2:¬pgo h.c a+szA h.w a>p.u:=WM k2
   refine Ws (λg=>by rw[k1]at g;cases g) λ_=>Wg λ_=>⟨hp,eb,⟨l,by rw[f];exact E,D,by rw[f];exact G,λ_=>by rw[f];omega,λe=>by rw[f,k1]at e;cases e⟩,rfl⟩
  .have k1:¬p.k=1:=by simpa using k1
   have k2:p.k=2:=aa
   refine Ws (λ_=>?_) λg=>by rw[k2]at g;cases g
   refine Ws (λ_=>Wg λe=>by cases e) λg=>?_
   refine Ws (λ_=>Wg λe=>by cases e) λo=>Wg λ_=>⟨hp,eb,⟨l,by rw[f];exact E,D,by rw[f];exact G,λe=>by rw[f]at e;omega,λ_=>⟨by simpa using g,by rw[f];simpa using o⟩⟩,rfl⟩
 refine Iu (Ws (λk1=>Ws (λ_=>Wg λe=>by cases e) λk2=>Ws (λ_=>Wg λe=>by cases e) λg=>Ws (λ_=>Wg λe=>by cases e) λo=>?_) λk1=>Ws (λ_=>Wg λe=>by cases e) λg=>Ws (λ_=>Wg λe=>by cases e) λo=>?_)
 .exact rest (by simpa using o) (.inr (by simpa using k2)) (by have O:¬(pgo h.c a>=p.u):=WM g;omega)
 grind
def XcP{N:Nat}(hN:NB N){h:Wo}(hb:HB h)(a:Int):Ok (QcF N h a) λr=>r.2=0->Ut h/\Qac N h=some true/\IQ h a/\r.1=hdA h.w a/\r.1.k≠0:=by
 have f:=hN;unfold NB at hN;refine WH (YR (N:=N) aa hb.1 hb.2) λb eb hp=>?_;refine Ws (λ_=>Wg λe=>by cases e) λg=>?_;refine Ws (λ_=>Wg λe=>by cases e) λ_=>?_;refine WH (Xd1 f hb a) λy s j=>?_;refine Ws (λk1=>Ws (λ_=>Wg λe=>by cases e) λk2=>Wg λe=>?_) λk1=>Wg λe=>?_
 .have⟨l,o,p,q⟩:=j e;exact⟨l,o,p,q,by simpa using k2⟩
 simp_all
def Xf9{N:Nat}(hN:NB N){h:Wo}(hb:HB h)(a i:Int):Ok (Qef N h a i) λr=>r.2=0->Ut h/\IQ h a/\0<=i/\i<(hdA h.w a).n:=by
 refine WH (XcP hN hb a) λy l f=>?_;refine Ws (λk=>Wg λe=>absurd e (by simpa using k)) λk1=>?_;refine Ws (λ_=>Wg λe=>by cases e) λk2=>?_;refine Ws (λ_=>Wg λe=>by cases e) λo=>?_;have⟨g,p,j,q,s⟩:=f (by simpa using k1);rw[YO (by unfold BIG;have:=hb.1;omega),Xa];refine Wg λ_=>⟨g,j,?_,?_⟩
 .have:=WM k2;omega
 simp_all
def Xga{N:Nat}(hN:NB N){h:Wo}(hb:HB h)(a i v:Int):Ok (Qcm N h a i v) λr=>HB r.1:=by
 refine WH (Xf9 hN hb a i) λy f g=>?_;refine Ws (λ_=>Wg Kh) λk1=>?_;have e:=hN;unfold NB at e;rw[Jb (by unfold BIG;have:=hb.1;omega) aa,Xa];refine Wg ?_;split
 .exact⟨by rw[WN];exact hb.1,hb.2⟩
 exact⟨ab,hb.2⟩
def XjO{N:Nat}(hN:NB N){h:Wo}(hb:HB h)(a:Int):Ok (Qf3 N h a) λr=>r.1.length<=256:=by
 refine WH (XcP hN hb a) λy o f=>?_;refine Ws (λ_=>Wg ab) λk1=>?_;have⟨p,q,s,g,u⟩:=f (by simpa using k1);have j:=YW h.w a;have e:y.1.n=szA h.w a-1:=by rw[g];unfold szA;omega
 have⟨k,l⟩:=Um (a:=y.1.n) aa;rw[l,Xb9 (by unfold BIG;have:=hb.1;omega) N _ k aa,Xa];refine Wg ?_;grind
def Xiv{N:Nat}(hN:NB N){h:Wo}(hb:HB h)(a:Int)(hd:WC):Ok (Qcb N h a hd) λr=>HB r.1:=by
 have f:=hN;unfold NB at f;rw[Qcb,Jq,Xa];refine WH (YR (N:=N) aa hb.1 hb.2) λb eb hp=>?_;refine Ws (λ_=>Wg Kh) λ_=>?_;refine Ws (λ_=>Wg Kh) λk1=>?_;have g:XL hd=true:=by
  cases g:XL hd with
  |true=>rfl
  |false=>simp_all
 have k:=XY g;refine W8 aa (W8 aa ?_);rw[Wp g,Z8 (by unfold BIG;have:=hb.1;omega) (by unfold BIG;grind) (by grind),Xa];split
 .rename_i j;refine Ws (λe=>by grind) λ_=>Wg ⟨?_,hb.2⟩;have l:=hb.1;rw[Kr]
  .omega
  unfold Yt at j;unfold ix;omega
 exact Ws (λ_=>Wg Kh) λe=>by grind
def XlF(N:Nat)(l:List Int)(v:Int)(g:l.length<=1000000000):∀(n k:Nat),k<=l.length->l.length-k<n->Qf2 N l v n (k:Int)=some (if(l.drop k).contains v then .ret true else .nxt ())
 |0,k,_,h=>by omega
 |n+1,k,o,p=>by
  rw[Qf2];by_cases h:k<l.length
  .have j:decide ((k:Int)<(l.length:Int))=true:=Wd aa;rw[j,Wb,Xe,Wc h,Xa,Xd aa aa];rw[show((k:Int)+1)=((k+1:Nat):Int) by omega,XlF N l v g n (k+1) aa aa];rw[Wu h,List.contains_cons];by_cases f:l[k]=v
   .subst f;simp
   rw[show(l[k]==v)=false by simpa using f,Wa,show(v==l[k])=false by simpa usingλe=>f e.symm,Ie]
  grind
def YM{N:Nat}{l:List Int}(v:Int)(e:l.length<=1000000000)(hN:l.length<N):Qdl N l v=some (l.contains v):=by have h:=XlF N l v e N 0 aa aa;rw[show((0:Nat):Int)=0 from rfl,WY]at h;rw[Qdl,h,Xa];grind[Xq,XD]
structure Oy(N:Nat)(h:Wo)(l:List Int):Prop where
 at_:∀a∈l,IQ h a
 ev:∀a∈l,Qar N h a=some (hdA h.w a,0)
 pw:l.Pairwise λa b=>a+szA h.w a<=b
def Xhy(h:Wo)(i:Int)(l:List Int):Prop:=∀a∈l,Xj h.c i 0<=a/\pgi h.c a=i
def Xd2{c:WV}{i o p:Int}(h:o<=p):Xj c i o<=Xj c i p:=by unfold Xj;omega
def Xgb{c:WV}(e:Yk c=true){p o:Int}(f:0<=o)(g:o<c.W):pgi c (Xj c p o)=p/\pgo c (Xj c p o)=o:=Xof e f g
def KG{c:WV}(e:Yk c=true){a:Int}(h:4096<=a/\a<4096+c.p*c.W):a=Xj c (pgi c a) (pgo c a)/\0<=pgi c a/\pgi c a<c.p/\0<=pgo c a/\pgo c a<c.W:=by have:=Xe1 e h.1 h.2;exact⟨this.2.2.2.2,this.1,this.2.1,this.2.2.1,this.2.2.2.1⟩
def XsN(N:Nat)(h:Wo)(i o:Int)(l:List Int):Prop:=Oy N h l/\Xhy h i l/\(∀a∈l,a+szA h.w a<=Xj h.c i o)/\(l.length:Int)<=o
def Oy.snoc{N:Nat}{h:Wo}{l:List Int}{a:Int}(f:Oy N h l)(k:IQ h a)(g:Qar N h a=some (hdA h.w a,0))(j:∀b∈l,b+szA h.w b<=a):Oy N h (l++[a]):=by
 refine⟨λx e=>?_,λx e=>?_,?_⟩
 .rcases WG.1 e with e|e
  .exact f.at_ x e
  simp_all
 .rcases WG.1 e with e|e
  .exact f.ev x e
  simp_all
 rw[I4];refine⟨f.pw,ab,λb hb c o=>?_⟩;simp_all
def PageL(N:Nat)(h:Wo)(i:Int)(l:List Int):Prop:=Oy N h l/\Xhy h i l/\(l.length:Int)<=64
def Xrg(N:Nat)(h:Wo)(i:Int):Ex (List Int×Int) (List Int)->Prop
 |.ret r=>r=([],19)
 |.nxt l=>PageL N h i l
def Qq2{N:Nat}(hN:NB N){h:Wo}(hb:HB h)(hp:Ut h){i:Int}(J:0<=i)(K:i<h.p.length)(g:(pg h.p i).k=1\/(pg h.p i).k=2):∀(n:Nat)(o:Int)(l:List Int),0<=o->(65-o).toNat<n->XsN N h i o l->((pg h.p i).k=1->o<=(pg h.p i).u)->((pg h.p i).k=2->o=0) ->
 Ok (QaA N h i (pg h.p i) n o l) (Xrg N h i)
 |0,o,l,_,L,j,k1,k2=>by omega
 |n+1,o,l,v,L,j,k1,k2=>by
  have Z:=Xu.1 hp.conf;have M:=(hp.pgs i J K).small;have O:=hp.pages;have r:(l.length:Int)<=64:=by
   have:=j.2.2.2;rcases g with g|g
   .omega
   omega
  refine Ws (λz=>?_) λ_=>Wg ⟨j.1,j.2.1,r⟩;have z:o<(pg h.p i).u:=Wz z;have A:o<h.c.W:=by
   rcases g with g|g
   .omega
   omega
  rw[KO,hp.conf,Xa,Wk ab,Wp aa];dsimp only;refine WH (Xd1 hN hb (Xj h.c i o)) λy R S=>?_;refine Ws (λ_=>Wg rfl) λU=>?_;have⟨_,_,B,D⟩:=S (by simp_all);have s:=Xgb hp.conf (p:=i) v A;have G:=YW h.w (Xj h.c i o);have H:Qar N h (Xj h.c i o)=some (hdA h.w (Xj h.c i o),0):=by rw[R];congr 1;exact Prod.ext D (by simp_all)
  have q:Oy N h (l++[Xj h.c i o]):=j.1.snoc B H j.2.2.1;have E:Xhy h i (l++[Xj h.c i o]):=by
   intro x f;rcases WG.1 f with f|f
   .exact j.2.1 x f
   have:x=Xj h.c i o:=by simpa using f
   subst this;exact⟨Xd2 v,s.1⟩
  have I:((l++[Xj h.c i o]).length:Int)=l.length+1:=by simp
  have V:=j.2.2.2;refine W8 aa (Ws (λkk=>Wg ⟨q,E,aa⟩) λkk=>?_);have kk:(pg h.p i).k=1:=by
   rcases g with g|g
   .omega
   simp_all
  rw[D,X6,Xa];rw[G.1];have Y:=B.small (by simp_all);rw[s.1,s.2]at Y;rw[Xd aa aa];refine Qq2 hN hb hp J K g n _ _ aa aa ⟨q,E,λx f=>?_,aa⟩ (λ_=>aa) (λe=>aa);rcases WG.1 f with f|f
  .have:=j.2.2.1 x f;have:=Xd2 (c:=h.c) (i:=i) (o:=o) (p:=o+szA h.w (Xj h.c i o)) aa;omega
  have:x=Xj h.c i o:=by simpa using f
  subst this;unfold Xj;omega
def PageL.nil(N:Nat)(h:Wo)(i:Int):PageL N h i []:=⟨⟨ab,ab,ab⟩,λa e=>by simp_all,ab⟩
def Qq3{N:Nat}(hN:NB N){h:Wo}(hb:HB h)(i:Int):Ok (Qam N h i) λr=>(r.2≠0->r.1=[])/\r.1.length<=64/\(Ut h->PageL N h i r.1):=by
 have j:=hN;unfold NB at j;refine WH (YR (N:=N) aa hb.1 hb.2) λb eb hp=>?_;refine Ws (λ_=>Wg ⟨λ_=>rfl,ab,λ_=>PageL.nil N h i⟩) λv=>?_;have hp:=hp (by simp_all);refine Ws (λ_=>Wg ⟨λ_=>rfl,ab,λ_=>PageL.nil N h i⟩) λf=>?_;refine Ws (λ_=>Wg ⟨λ_=>rfl,ab,λ_=>PageL.nil N h i⟩) λg=>?_;have f:0<=i:=by have:=WM f;omega
 have g:i<h.p.length:=by have:=WM g;omega
 refine Ok.get f g λp o=>?_;have s:=Yz o;subst s;refine Ws (λ_=>Wg ⟨λ_=>rfl,ab,λ_=>PageL.nil N h i⟩) λk0=>?_;refine Ws (λ_=>Wg ⟨λ_=>rfl,ab,λ_=>PageL.nil N h i⟩) λu=>?_;have w:=(hp.pgs i f g).kind;have k0:¬(pg h.p i).k=0:=by simpa using k0
 have u:¬(pg h.p i).k=3:=by simpa using u
 refine IT (Qq2 hN hb hp f g aa N 0 [] aa aa ⟨⟨ab,ab,ab⟩,λa y=>by simp_all,ab,ab⟩ (λk=>((hp.pgs i f g).small k).1) (λ_=>rfl)) (λa q=>?_) λl q=>?_
 .have:a=([],19):=q;subst this;exact Wg ⟨λ_=>rfl,ab,λ_=>PageL.nil N h i⟩
 exact Wg ⟨λe=>absurd rfl e,by have:=q.2.2;grind,λ_=>q⟩
def Xiw{c:WV}(e:Yk c=true){w:Int}(h:1<=XF c w):w<=XF c w*c.W:=by unfold XF at h⊢;grind
def Xe3{h:Wo}(hp:Ut h){a:Int}(g:IQ h a):∃k,1<=k/\pgi h.c a+k<=h.c.p/\a+szA h.w a<=Xj h.c (pgi h.c a+k) 0/\∀m,1<=m->m<k->(pg h.p (pgi h.c a+m)).k=3:=by
 have⟨e,l,y,z,A⟩:=KG hp.conf g.rng;have s:=hp.pages;rcases g.kind with f|f
 .have B:=g.small f;have:=(hp.pgs _ l aa).small f;refine⟨1,aa,aa,?_,λm j o=>aa⟩;have D:Xj h.c (pgi h.c a+1) 0=4096+pgi h.c a*h.c.W+h.c.W:=by unfold Xj;rw[IJ];omega
  have e3:a=4096+pgi h.c a*h.c.W+pgo h.c a:=e;omega
 have⟨E,G⟩:=g.large f;have⟨q,r⟩:=(hp.pgs _ l aa).large f;have v:=Xiw hp.conf q;refine⟨_,q,?_,?_,λm j o=>(r m j o).2⟩
 .by_cases j:XF h.c (pg h.p (pgi h.c a)).u=1
  .omega
  have:=(r (XF h.c (pg h.p (pgi h.c a)).u-1) aa aa).1;omega
 have e3:a=4096+pgi h.c a*h.c.W+pgo h.c a:=e;unfold Xj;grind
def Vb{h:Wo}(hp:Ut h){a:Int}(e:IQ h a):a+szA h.w a<=4096+h.w.length:=by have⟨k,j,f,g,_⟩:=Xe3 hp e;have l:=Xu.1 hp.conf;have:=hp.words;have o:(pgi h.c a+k)*h.c.W<=h.c.p*h.c.W:=UE f aa;unfold Xj at g;omega
def XjP{h:Wo}(hp:Ut h){a b:Int}(g:IQ h a)(hb:IQ h b)(j:pgi h.c a<pgi h.c b):a+szA h.w a<=b:=by
 have⟨k,r,s,l,o⟩:=Xe3 hp g;have⟨e,u,v,y,z⟩:=KG hp.conf hb.rng;have f:pgi h.c a+k<=pgi h.c b:=by
  rcases(by omega:pgi h.c b<pgi h.c a+k\/pgi h.c a+k<=pgi h.c b)with p|p
  .have:=o (pgi h.c b-pgi h.c a) aa aa;rw[show pgi h.c a+(pgi h.c b-pgi h.c a)=pgi h.c b by omega]at this;rcases hb.kind with q|q<;>omega
  omega
 have A:(pgi h.c a+k)*h.c.W<=pgi h.c b*h.c.W:=UE f aa;unfold Xj at l e;omega
def Qif{N:Nat}(hN:NB N){h:Wo}(hb:HB h)(hp:Ut h)(i:Int)(f:0<=i)(g:i<h.p.length):Ok (Qam N h i) λr=>PageL N h i r.1/\r.1.length<=64:=(Qq3 hN hb i).mono λr e=>⟨e.2.2 hp,e.2.1⟩
structure Il(N:Nat)(h:Wo)(l:List Int):Prop where
 obj:Oy N h l
 page:∀a∈l,∃r,Qam N h (pgi h.c a)=some r/\a∈r.1
 len:l.length<=4096
def Il.nil(N:Nat)(h:Wo):Il N h []:=⟨⟨ab,ab,ab⟩,ab,ab⟩
def Xd3{N:Nat}(hN:NB N){h:Wo}(hb:HB h)(hp:Ut h):∀(n:Nat)(i:Int)(l:List Int),0<=i->i<=h.p.length->(h.p.length-i).toNat<n->Oy N h l->(∀a∈l,∃r,Qam N h (pgi h.c a)=some r/\a∈r.1)->(∀a∈l,pgi h.c a<i)->(l.length:Int)<=64*i ->
 Ok (QaX N h n i l) λe=>match e with|.ret r=>r.1=[]/\r.2≠0|.nxt l=>Il N h l
 |0,i,l,_,_,z,_,_,_,_=>by omega
 |n+1,i,l,A,E,z,g,j,s,v=>by
  have G:=Xu.1 hp.conf;have B:=hp.pages;refine Ws (λu=>?_) λ_=>Wg ⟨g,j,aa⟩;have u:i<h.p.length:=Wz u;refine WH (Qif hN hb hp i A u) λy D k=>?_;refine Ws (λw=>Wg ⟨rfl,by simpa using w⟩) λw=>?_;refine W8 aa ?_;rw[Xd aa aa];have o:∀a∈y.1,pgi h.c a=i:=λa f=>(k.1.2.1 a f).2;refine Xd3 hN hb hp n (i+1) _ aa aa aa ⟨λa f=>?_,λa f=>?_,?_⟩ (λa f=>?_) (λa f=>?_) (by rw[WO];omega)
  .rcases WG.1 f with f|f
   .exact g.at_ a f
   exact k.1.1.at_ a f
  .rcases WG.1 f with f|f
   .exact g.ev a f
   exact k.1.1.ev a f
  .rw[I4];refine⟨g.pw,k.1.1.pw,λa f b q=>?_⟩;exact XjP hp (g.at_ a f) (k.1.1.at_ b q) (by rw[o b q];exact s a f)
  .rcases WG.1 f with f|f
   .exact j a f
   exact⟨y,by rw[o a f];exact D,f⟩
  grind
def VY{N:Nat}(hN:NB N){h:Wo}(hb:HB h):Ok (QcO N h) λr=>Il N h r.1/\(r.2=0->Ut h)/\(r.2≠0->r.1=[]):=by have f:=hN;unfold NB at f;refine WH (YR (N:=N) aa hb.1 hb.2) λb eb hp=>?_;refine Ws (λ_=>Wg ⟨Il.nil N h,λe=>aa,λ_=>rfl⟩) λg=>?_;have hp:=hp (by simp_all);have j:=hb.2;refine IT (Xd3 hN hb hp N 0 [] aa aa aa ⟨ab,ab,ab⟩ ab ab ab) (λa q=>?_) λl q=>Wg ⟨q,λ_=>hp,λe=>absurd rfl e⟩;refine Wg ⟨?_,λe=>absurd e q.2,λ_=>q.1⟩;rw[q.1];exact Il.nil N h
def Il.sub{N:Nat}{h:Wo}{l l':List Int}(e:Il N h l)(f:l'.Sublist l):Il N h l':=
 ⟨⟨λa g=>e.obj.at_ a (f.subset g),λa g=>e.obj.ev a (f.subset g),e.obj.pw.sublist f⟩,λa g=>e.page a (f.subset g),UO f.length_le e.len⟩
def Xay{N:Nat}(hN:NB N){h:Wo}(hb:HB h)(y:List Int×Int)(r:y.1.length<=4096):∀(n k:Nat)(l:List Int),k<=y.1.length->y.1.length-k<n->l.Sublist (y.1.take k)->Ok (Qa0 N h y n (k:Int) l) λo=>o.Sublist y.1
 |0,k,l,_,u,_=>by omega
 |n+1,k,l,A,u,j=>by
  have s:l.length<=4096:=UO j.length_le (by rw[Wj];omega);refine Ws (λg=>?_) λ_=>Wg (j.trans (List.take_sublist _ _));have g:(k:Int)<y.1.length:=Wz g;have e:k<y.1.length:=aa;refine Ok.get aa g λp hp=>?_;refine WH (Xd1 hN hb p) λz B D=>?_;have v:wI ((k:Int)+1)=((k+1:Nat):Int):=by rw[Xd aa aa];omega
  rw[v];refine Ws (λ_=>?_) λ_=>Xay hN hb y r n (k+1) l aa aa (j.trans (List.take_sublist_take_left aa));refine Ok.get aa g λw f=>W8 aa (Xay hN hb y r n (k+1) _ aa aa ?_);have q:w=y.1[k]:=by rw[Xe,Wc e]at f;exact(WE f).symm
  simp_all[List.take_succ_eq_append_getElem,e,q]
def Ks{N:Nat}(hN:NB N){h:Wo}(hb:HB h):Ok (QaK N h) λr=>Il N h r.1/\(r.2=0->Ut h)/\(r.1≠[]->Ut h):=by refine WH (VY hN hb) λy l e=>?_;have f:=hN;unfold NB at f;have g:=e.1.len;have:=Xay hN hb y g N 0 [] aa aa ab;refine WH this λo p j=>Wg ⟨e.1.sub j,e.2.1,λk=>?_⟩;grind
def XbV{N:Nat}(hN:NB N){h:Wo}(hb:HB h)(a:Int):Ok (Qd2 N h a) λb=>b=true->Ut h/\IQ h a:=by
 have f:=hN;unfold NB at f;refine WH (Ks hN hb) λy k g=>?_;have l:=g.1.len;rw[YM a aa aa,Xa];refine Wg λe=>?_;have j:a∈y.1:=by simpa using e
 exact⟨g.2.2 (List.ne_nil_of_mem j),g.1.obj.at_ a j⟩
def Xog{N:Nat}{h:Wo}(hb:HB h)(i o:Int):Ok (Qgh N h i o) λ_=>True:=by rw[Qgh,QhO,KO,Xa,YO (by unfold BIG;have:=hb.1;omega),Xa,Xa];exact Wg trivial
def XcQ(h:Wo)(i:Int)(l:List Int):Prop:=(pg h.p i).k=1->∀a∈l,szA h.w a<=smC h.c
def Xgc{N:Nat}(hN:NB N){h:Wo}(hb:HB h){i:Int}(v:0<=i)(y:i<h.p.length)(l:List Int)(D:l.length<=4096)(j:∀a∈l,Qar N h a=some (hdA h.w a,0)/\a≠0):∀(n k:Nat),k<=l.length->l.length-k<n ->
 Ok (QbD N h i l n (k:Int)) λe=>match e with|.ret r=>r≠0|.nxt _=>(pg h.p i).k=1->∀a∈l.drop k,szA h.w a<=smC h.c
 |0,k,_,E=>by omega
 |n+1,k,M,E=>by
  refine Ws (λo=>?_) λo=>Wg ?_;rotate_left
  .grind
  have o:(k:Int)<l.length:=Wz o;have u:k<l.length:=aa;refine Ok.get aa o λp hp=>?_;have G:p=l[k]:=by rw[Xe,Wc u]at hp;exact(WE hp).symm
  have z:p∈l:=YT hp;rw[(j p z).1,Xa];rw[X6,Xa,Xir,Xa,(YW h.w p).1];have H:wI ((k:Int)+1)=((k+1:Nat):Int):=by rw[Xd aa aa];omega
  rw[H];have ret:∀g,Xb l (k:Int)=some g->g≠0:=λg f=>(j g (YT f)).2;have next:((pg h.p i).k=1->szA h.w p<=smC h.c)->Ok (QbD N h i l n ((k+1:Nat):Int)) λe=>match e with|.ret r=>r≠0|.nxt _=>(pg h.p i).k=1->∀a∈l.drop k,szA h.w a<=smC h.c:=by
   intro s
   refine(Xgc hN hb v y l D j n (k+1) aa aa).mono λe O=>?_
   cases e with
   |ret r=>omega
   |nxt _=>
    intro I a J
    rw[Wu u]at J
    grind
  refine Ok.get v y λq K=>?_;have A:=Yz K;refine Ws (λk1=>?_) λk1=>?_
  .refine Ws (λ_=>Ok.get aa o λg f=>Wg (ret g f)) λk2=>?_;have s:szA h.w p<=smC h.c:=by simpa using k2
   refine Ok.get v y λL B=>Ws (λ_=>Ws (λ_=>Ok.get aa o λg f=>Wg (ret g f)) λ_=>next λ_=>s) λ_=>next λ_=>s
  have s:(pg h.p i).k=1->szA h.w p<=smC h.c:=by intro e;rw[A]at e;rw[e]at k1;cases k1
  refine Ok.get v y λL B=>Ws (λ_=>Ws (λ_=>Ok.get aa o λg f=>Wg (ret g f)) λ_=>next s) λ_=>next s
def XlG{N:Nat}(hN:NB N){h:Wo}(hb:HB h){i:Int}(j:0<=i)(k:i<h.p.length){l:List Int}(o:l.length<=64)(f:∀a∈l,Qar N h a=some (hdA h.w a,0)/\a≠0):
 Ok (QfN N h i l) λr=>r=0->XcQ h i l:=by have g:=hN;unfold NB at g;have:=Xgc hN hb j k l aa f N 0 aa aa;refine IT this (λa q=>Wg λe=>absurd e q) λ_ q=>Wg λ_=>?_;assumption
def Xe4{N:Nat}{h:Wo}(i:Int)(l:List Int)(k:Int)(e:0<=k)(f:k<l.length)(x:Int)(g:x<=256):∀(n:Nat)(w:Int)(u:List Bool),0<=w->(x-w).toNat<n->u.length<=1000->Ok (QbR N h i l k x n w u) λr=>r.length=u.length
 |0,w,u,_,s,_=>by omega
 |n+1,w,u,z,s,j=>by
  refine Ws (λo=>?_) λ_=>Wg rfl;have o:w<x:=Wz o;refine Ok.get e f λp hp=>?_;rw[Xd (n:=w+1) aa aa];have next:=Xe4 (N:=N) (h:=h) i l k e f x g n (w+1) u aa aa j
  refine Ws (λv=>?_) λ_=>next
  refine W8 aa (Ws (λy=>?_) λ_=>next);refine Ok.get (Wz v) (Wz y) λq A=>?_;refine(Xe4 i l k e f x g n (w+1) _ aa aa (by rw[WN];exact j)).mono λr B=>?_;simp_all
def Xix{N:Nat}(hN:NB N){h:Wo}(hb:HB h)(i:Int)(l:List Int)(q:l.length<=100000):∀(n:Nat)(k:Int)(u:List Bool),0<=k->k<=l.length->(l.length-k).toNat<n->u.length<=1000->Ok (QdQ N h i l n k u) λr=>r.length=u.length
 |0,k,u,_,_,s,_=>by omega
 |n+1,k,u,j,z,s,v=>by
  refine Ws (λe=>?_) λ_=>Wg rfl;have e:k<l.length:=Wz e;have f:=hN;unfold NB at f;refine Ok.get j e λp hp=>WH (Xd1 hN hb p) λy A B=>?_;rw[X6,Xa];have D:=XlC y.1;have next:∀x:Int,x<=256->Ok (bnd (QbR N h i l k x N 0 u) λg=>QdQ N h i l n (wI (k+1)) g) λr=>r.length=u.length:=by intro x w;refine WH (Xe4 i l k j e x w N 0 u aa aa v) λr E G=>?_;rw[Xd (n:=k+1) aa aa];exact(Xix hN hb i l q n (k+1) r aa aa aa aa).mono λo H=>by omega
  exact Iu (Ws (λ_=>next 1 aa) λ_=>next _ aa)
def Xe5(N:Nat){h:Wo}(e:(pg h.p 0).k≠3):∀(n:Nat)(i:Int),0<=i->i<h.p.length->h.p.length<=100000->i.toNat<n->Ok (Qev N h n i) λr=>0<=r/\r<h.p.length
 |0,i,_,_,_,j=>by omega
 |n+1,i,f,g,l,j=>by
  refine Ok.get f g λp hp=>Ws (λo=>?_) λ_=>Wg ⟨f,g⟩;have:i≠0:=by rintro rfl;exact e (by simp_all[Yz,hp])
  rw[Xd aa aa];exact Xe5 N e n (i-1) aa aa l aa
def Xiy{N:Nat}{h:Wo}(hb:HB h)(i:Int)(u:List Bool)(f:u.length<=1000):∀(n:Nat)(k:Int),0<=k->k<=u.length->(u.length-k).toNat<n->Ok (Qc0 N h i u n k) λ_=>True
 |0,k,_,_,g=>by omega
 |n+1,k,j,l,g=>by
  refine Ws (λe=>?_) λ_=>Wg trivial;have e:k<u.length:=Wz e;rw[Xd (n:=k+1) aa aa];have next:=Xiy (N:=N) hb i u f n (k+1) aa aa aa
  refine Ok.get j e λp hp=>Ws (λ_=>WH (Xog hb i k) λy _ _=>Ws (λ_=>?_) λ_=>next) λ_=>next
  rw[Qgv,Xa];exact Wg trivial
def Xoh{N:Nat}(hN:NB N){h:Wo}(hb:HB h)(hp:Ut h){i:Int}(k:0<=i)(l:i<h.p.length):Ok (Qgi N h i) λ_=>True:=by
 have f:=hN;unfold NB at f;have g:=hb.2;have o:=Xu.1 hp.conf;refine WH (WH (Xe5 N hp.first N i k l g aa) λr _ e=>Wg e) λr _ e=>?_;refine WH (Qif hN hb hp r e.1 e.2) λy _ q=>?_;refine WH (Q:=λr=>r.length<=1000) (W8 aa (WH (Xix hN hb i y.1 aa N 0 _ aa aa aa (by grind)) λu _ j=>Wg ?_)) λu _ j=>?_
 .grind
 exact IT (Xiy hb i u j N 0 aa aa aa) (λ_ _=>Wg trivial) λ_ _=>Wg trivial
def XlH{N:Nat}(hN:NB N){h:Wo}(hb:HB h)(hp:Ut h){i:Int}(g:0<=i)(j:i<h.p.length):Ok (Qgj N h i) λf=>f.Fault=0->∀r,Qam N h i=some r->XcQ h i r.1/\r.2=0:=by
 have main:Ok (bnd (Qam N h i) λl=>
  bif (l.2 != 0)then some (Ud.mk 3 i 0)
  else bnd (QfN N h i l.1) λo=>
  bif (o != 0)then some (Ud.mk 5 i o)
  else bnd (Qgi N h i) λq=>
  bif (q != 0)then some (Ud.mk 4 i q)
  else some (Ud.mk 0 0 0)) λf=>f.Fault=0->∀r,Qam N h i=some r->XcQ h i r.1/\r.2=0:=by
  refine WH (Qif hN hb hp i g j) λy v k=>?_
  refine Ws (λ_=>Wg λe=>by grind) λw=>?_
  refine WH (XlG hN hb g j k.2 λa s=>⟨k.1.1.ev a s,by have:=(k.1.1.at_ a s).rng;omega⟩) λc _ z=>?_
  refine Ws (λ_=>Wg λe=>by grind) λA=>?_
  refine WH (Xoh hN hb hp g j) λd _ _=>?_
  refine Ws (λ_=>Wg λe=>by grind) λ_=>Wg λ_ r u=>?_
  rw[v]at u
  exact WE u▸⟨z (by simp_all),by simp_all⟩
 refine Iu (Ok.get g j λp hp=>Ws (λ_=>Ok.get g j λp hp=>Ws (λ_=>Wg λe=>by grind) λ_=>main) λ_=>main)
def XbW{N:Nat}{h:Wo}(l g:List Int×Int)(w:l.1.length<=4096)(y:g.1.length<=256)(hN:1000000<N)(v:Int)(j:0<=v)(r:v<l.1.length)(s:WC×Int):∀(n:Nat)(k:Int),0<=k->k<=g.1.length->(g.1.length-k).toNat<n->Ok (QaH N h l g v s n k) λe=>∀f,e=.ret f->f.Fault=6
 |0,k,_,_,z=>by omega
 |n+1,k,u,A,z=>by
  refine Ws (λo=>?_) λ_=>Wg λf e=>by grind
  have o:k<g.1.length:=Wz o;rw[Xd (n:=k+1) aa aa];have next:=XbW (N:=N) (h:=h) l g w y hN v j r s n (k+1) aa aa aa
  rw[Kv,Xa];refine Ws (λ_=>Ok.get u o λp hp=>Ws (λ_=>Ok.get u o λp hp=>?_) λ_=>next) λ_=>next
  rw[YM p aa aa,Xa];refine Ws (λ_=>Ok.get j r λq B=>?_) λ_=>next
  rw[JP,Xa];exact Wg λf e=>by grind
def XbX{N:Nat}(hN:NB N){h:Wo}(hb:HB h)(g:List Int×Int)(r:g.1.length<=4096):∀(n:Nat)(k:Int),0<=k->k<=g.1.length->(g.1.length-k).toNat<n->Ok (Qb5 N h g n k) λe=>∀f,e=.ret f->f.Fault=6
 |0,k,_,_,s=>by omega
 |n+1,k,l,y,s=>by
  have o:=hN;unfold NB at o;refine Ws (λj=>?_) λ_=>Wg λf e=>by cases e
  have j:k<g.1.length:=Wz j;rw[Xd (n:=k+1) aa aa];refine Ok.get l j λp hp=>WH (XcP hN hb p) λu _ _=>Ok.get l j λp hp=>WH (XjO hN hb p) λv _ w=>?_;refine IT (XbW g v r w aa k l j u N 0 aa aa aa) (λa q=>Wg λf e=>?_) λ_ _=>XbX hN hb g r n (k+1) aa aa aa;simp_all
def Xgd{N:Nat}(hN:NB N){h:Wo}(hb:HB h):Ok (Qe5 N h) λ_=>True:=by have e:=hN;unfold NB at e;refine WH (Ks hN hb) λy _ f=>?_;have:=f.1.len;exact IT (XbX hN hb y f.1.len N 0 aa aa aa) (λ_ _=>Wg trivial) λ_ _=>Wg trivial
def Xge{N:Nat}(hN:NB N){h:Wo}(hb:HB h)(hp:Ut h):∀(n:Nat)(i:Int),0<=i->i<=h.p.length->(h.p.length-i).toNat<n->Ok (QbY N h n i) λe=>match e with|.ret f=>f.Fault≠0|.nxt _=>∀j,i<=j->j<h.p.length->∀r,Qam N h j=some r->XcQ h j r.1/\r.2=0
 |0,i,_,_,l=>by omega
 |n+1,i,o,w,l=>by
  have q:=hb.2;refine Ws (λg=>?_) λg=>Wg λj s k=>?_;rotate_left
  .grind
  have g:i<h.p.length:=Wz g;refine WH (XlH hN hb hp o g) λf _ y=>Ws (λu=>Wg (by simp_all)) λu=>?_;rw[Xd aa aa];refine(Xge hN hb hp n (i+1) aa aa aa).mono λe v=>?_;cases e with
  |ret f=>omega
  |nxt _=>
   intro j s k;by_cases z:j=i
   .grind
   exact v j aa k
def Xgf{N:Nat}{h:Wo}(g:h.p.length<=100000):∀(n:Nat)(c i:Int),0<=i->i<=h.p.length->(h.p.length-i).toNat<n->Ok (QbZ N h n c i) λ_=>True
 |0,c,i,_,_,j=>by omega
 |n+1,c,i,f,l,j=>by
  refine Ws (λe=>?_) λ_=>Wg trivial;have e:i<h.p.length:=Wz e;rw[Xd (n:=i+1) aa aa];have next:=λk=>Xgf (N:=N) g n k (i+1) aa aa aa
  exact Ok.get f e λp hp=>Ws (λ_=>Ok.get f e λp hp=>Ws (λ_=>next _) λ_=>next _) λ_=>next _
structure Ov(N:Nat)(h:Wo):Prop where
 prop:Ut h
 small:∀j:Int,0<=j->j<h.p.length->∀r,Qam N h j=some r->XcQ h j r.1/\r.2=0
def Js{N:Nat}(hN:NB N){h:Wo}(hb:HB h):Ok (QbO N h) λb=>b=true->Ov N h:=by
 have g:=hN;unfold NB at g;have j:=hb.2;refine WH (Q:=λf=>f.Fault=0->Ov N h) (WH (YR (N:=N) aa hb.1 hb.2) λb eb hp=>Ws (λ_=>Wg λe=>by cases e) λk=>?_) λf _ o=>Wg λe=>?_
 .have hp:=hp (by simpa using k);refine IT (Xge hN hb hp N 0 aa aa aa) (λa q=>Wg λe=>absurd e q) λ_ q=>?_;have l:Ov N h:=⟨hp,q⟩
  refine WH (Xgd hN hb) λf _ _=>Ws (λ_=>Wg λ_=>l) λ_=>?_;exact WH (Xgf j N 0 0 aa aa aa) λc _ _=>Ws (λ_=>Wg λ_=>l) λ_=>Wg λ_=>l
 simp_all
def Ov.sz{N:Nat}{h:Wo}(e:Ov N h){l:List Int}(g:Il N h l){a:Int}(j:a∈l)(o:(pg h.p (pgi h.c a)).k=1):szA h.w a<=h.c.W / 4:=by have⟨r,q,s⟩:=g.page a j;have f:=g.obj.at_ a j;have⟨_,u,v,_⟩:=KG e.prop.conf f.rng;have:=(e.small _ u (by have:=e.prop.pages;omega) r q).1 o a s;unfold smC at this;omega
def Xd4{N:Nat}(l:List Int)(g:l.length<=100000000)(y:List Int×Int)(h:y.1.length<=4096)(hN:1000000<N):∀(n:Nat)(k:Int),0<=k->k<=l.length->(l.length-k).toNat<n->Ok (QaM N l y n k) λ_=>True
 |0,k,_,_,j=>by omega
 |n+1,k,f,o,j=>by
  refine Ws (λe=>?_) λ_=>Wg trivial;have e:k<l.length:=Wz e;rw[Xd (n:=k+1) aa aa];have next:=Xd4 (N:=N) l g y h hN n (k+1) aa aa aa
  refine Ok.get f e λp hp=>Ws (λ_=>Ok.get f e λp hp=>?_) λ_=>next
  rw[YM p aa aa,Xa];exact Ws (λ_=>Wg trivial) λ_=>next
def Xbw{N:Nat}(hN:NB N){h:Wo}(hb:HB h){l:List Int}(p:l.length<=1000000):Ok (QbS N h l) λb=>b=true->Ov N h:=by have f:=hN;unfold NB at f;refine WH (Js hN hb) λb _ g=>Ws (λ_=>Wg λe=>by grind) λk=>?_;have j:=g (by simp_all);refine WH (Ks hN hb) λy _ o=>?_;exact IT (Xd4 l aa y o.1.len aa N 0 aa aa aa) (λ_ _=>Wg λ_=>j) λ_ _=>Wg λ_=>j
def XlI(d:WC):Xaw d % 4=1:=by have e:ZP .u64 (wU d.Map) 16=wU (wU d.Map*65536):=rfl;unfold Xaw;grind[XcI]
def Xoi(ws:List Int)(a:Int)(h:wd ws a % 4=2):szA ws a=1:=by
 have:okH (wd ws a)=false:=by
  unfold okH;have f:=XlI (Xb4 (wd ws a));have:(Xaw (Xb4 (wd ws a))==wd ws a)=false:=by rw[WX];intro e;rw[e]at f;omega
  rw[this,Bool.and_false]
 unfold szA hdA ZS;simp_all
structure Om(h0:Wo)(l:List Int)(w:WD)(O:Int->Prop)(s:Int->Int):Prop where
 old:∀a∈l,O a/\s a=szA h0.w a
 queue:∀a∈w.q,O a
 fit:∀a,O a->4096<=a/\1<=s a/\a+s a<=4096+w.h.w.length/\szA w.h.w a<=s a
 apart:∀a b,O a->O b->a≠b->a+s a<=b\/b+s b<=a
 taken:∀a,O a->∀j∈w.t,a+s a<=Xj h0.c j (pg w.h.p j).u\/Xj h0.c (j+1) 0<=a
 free:∀a,O a->∀j:Int,0<=j->j<w.h.p.length->(pg w.h.p j).k=0->a+s a<=Xj h0.c j 0\/Xj h0.c (j+1) 0<=a
structure CI(h0:Wo)(l:List Int)(w:WD):Prop where
 conf:w.h.c=h0.c
 wlen:w.h.w.length=h0.w.length
 plen:w.h.p.length=h0.p.length
 spc:w.h.s=h0.s
 old:w.o.Sublist l
 tk:∀j∈w.t,0<=j/\j<w.h.p.length/\(pg w.h.p j).k=1/\0<=(pg w.h.p j).u/\(pg w.h.p j).u<=h0.c.W
 tnd:w.t.Nodup
 knd:∀a∈l,(pg w.h.p (pgi h0.c a)).k=(pg h0.p (pgi h0.c a)).k
 qnd:w.q.Nodup
 obj:∃O s,Om h0 l w O s
def Xa2:∀(n:Nat)(a:Int)(l:List Int),l.Nodup->(∀x∈l,a<=x/\x<a+n)->l.length<=n
 |0,a,l,_,h=>by
  cases l with
  |nil=>simp
  |cons x l=>have:=h x ab;omega
 |n+1,a,l,e,h=>by
  by_cases k:a+(n:Int)∈l
  .have g:=Xa2 n a (l.erase (a+(n:Int))) (e.erase _) λx f=>by have j:=(List.Nodup.mem_erase_iff e).1 f;have o:=h x j.2;omega
   simp_all
  have g:=Xa2 n a l e λx f=>by grind
  omega
section
variable {N:Nat}{h0:Wo}{l:List Int}
def CI.ql{w:WD}(hb:HB h0)(e:CI h0 l w):w.q.length<=100000:=by
 have⟨O,s,f⟩:=e.obj;have:=Xa2 w.h.w.length 4096 w.q e.qnd λx g=>by have:=f.fit x (f.queue x g);omega
 have:=hb.1;have:=e.wlen;omega
def CI.tl{w:WD}(hb:HB h0)(e:CI h0 l w):w.t.length<=100000:=by
 have:=Xa2 w.h.p.length 0 w.t e.tnd λx f=>by have:=e.tk x f;omega
 have:=hb.2;have:=e.plen;omega
def Xd5{w:WD}(f:w.t.length<=100000)(i:Int):∀(n:Nat)(k:Int),0<=k->k<=w.t.length->(w.t.length-k).toNat<n->Ok (Qdp N w i n k) λ_=>True
 |0,k,_,_,g=>by omega
 |n+1,k,h0,h,g=>by refine Ws (λe=>?_) λ_=>Wg trivial;have e:k<w.t.length:=Wz e;rw[Xd (n:=k+1) aa aa];exact Ok.get h0 e λp hp=>Ws (λ_=>Wg trivial) λ_=>Xd5 f i n (k+1) aa aa aa
def XbY(hN:NB N){w:WD}(j:w.t.length<=100000)(i:Int):Ok (Qdq N w i) λb=>b=true->0<=i/\i<w.h.p.length:=by
 unfold NB at hN;refine Ws (λ_=>Wg λe=>by grind) λf=>Ws (λ_=>Wg λe=>by grind) λg=>?_;have f:0<=i:=by have:=WM f;omega
 have g:i<w.h.p.length:=by have:=WM g;omega
 refine Ok.get f g λp hp=>Ws (λ_=>Ws (λ_=>WH (Q:=λ_=>True) ?_ λy _ _=>Wg λ_=>⟨f,g⟩) λ_=>Wg λe=>aa) λ_=>Wg λe=>by omega
 exact IT (Xd5 j i N 0 aa aa aa) (λ_ _=>Wg trivial) λ_ _=>Wg trivial
structure Ox(h0:Wo)(w:WD)(n:Int)(w':WD)(at_:Int)(j u:Int):Prop where
 rng:0<=j/\j<w.h.p.length
 fit:0<=u/\u+n<=h0.c.W
 addr:at_=Xj h0.c j u
 conf:w'.h.c=w.h.c
 words:w'.h.w=w.h.w
 space:w'.h.s=w.h.s
 old:w'.o=w.o
 queue:w'.q=w.q
 scanned:w'.d=w.d
 plen:w'.h.p.length=w.h.p.length
 other:∀i,0<=i->i≠j->pg w'.h.p i=pg w.h.p i
 this:(pg w'.h.p j).k=1/\(pg w'.h.p j).u=u+n
 sp:((pg w'.h.p j).s=(pg w.h.p j).s/\(pg w'.h.p j).P=(pg w.h.p j).P)\/((pg w'.h.p j).s=1-w.h.s/\(pg w'.h.p j).P=0)
 way:(j∈w.t/\w'.t=w.t/\u=(pg w.h.p j).u)\/((pg w.h.p j).k=0/\w'.t=w.t++[j]/\u=0)
def Xgg(hN:NB N)(hb:HB h0)(hp:Ut h0){w:WD}(H:CI h0 l w){n:Int}(hn:1<=n)(hn2:n<=h0.c.W):Ok (QcR N w n) λr=>r.2.2=true->∃j u,Ox h0 w n r.1 r.2.1 j u:=by
 have S:=hN;unfold NB at S;have hpl:=H.plen;have hv:=Xu.1 hp.conf;have htl:=H.tl hb;have hpp:=hp.pages;have new:Ok (bnd (Qbp N w.h.p 1) λE=>
  bif (decide (E<0))then some ((WD.mk (Wo.mk (WV.mk 0 0) [] [] 0 0) [] [] [] 0 (WP.mk 0 0 0 0 0 0)),0,false)
  else bnd (QbJ N w.h.p E (wI (1-w.h.s))) λO=>
  grd (w.t.length*8<=140737488355328) <|
  grd ((w.t.length+1)*8<=140737488355328) <|
  bnd (Xb O.1 E) λU=>
  bnd (Xb O.1 E) λV=>
  bnd (Xb O.1 E) λI=>
  some ((WD.mk (Wo.mk w.h.c w.h.w (O.1.set E.toNat (Wv.mk I.k I.s (wI (V.u+n)) I.P)) w.h.s w.h.b) w.o (w.t++[E]) w.q w.d w.r),(wU (wI ((wI (4096+(wI (E*w.h.c.W))))+U.u))),true)) λr=>r.2.2=true->∃j u,Ox h0 w n r.1 r.2.1 j u:=by
  refine WH (ZK 1 aa aa) λj _ L=>Ws (λ_=>Wg λe=>by grind) λhj0=>?_
  have hr:RunOK w.h.p j 1:=by
   rcases L with rfl|L
   .grind
   .omega
  have hsp:=hp.space
  have hws:=H.spc
  rw[Xd (n:=1-w.h.s) aa aa]
  refine WH (XcO j (1-w.h.s) aa aa) λy _ hy=>?_
  have Y:=hy.2.2 hr aa aa
  obtain⟨v,q1,q2,q3⟩:=hy.1 Y
  have hk:=hr.2.2.2 0 aa aa
  rw[Int.add_zero]at hk
  have f:j<y.1.length:=aa
  refine W8 aa (W8 aa (Ok.get v f λp1 J=>Ok.get v f λp2 z=>Ok.get v f λp3 K=>Wg λ_=>?_))
  have g1:=Yz J
  have g2:=Yz z
  have g3:=Yz K
  rw[q3 j v,Wp rfl]at g1 g2 g3
  subst g1;subst g2;subst g3
  have hm:=X4 hp.conf (i:=j) v aa
  refine⟨j,0,⟨⟨v,aa⟩,⟨aa,aa⟩,?_,rfl,rfl,rfl,rfl,rfl,rfl,?_,λi R B=>?_,?_,.inr ?_,.inr ⟨hk,rfl,rfl⟩⟩⟩
  .show wU (wI (wI (4096+wI (j*w.h.c.W))+0))=_
   rw[H.conf,Xd (n:=j*h0.c.W) aa aa,Xd (n:=4096+j*h0.c.W) aa aa,Xd aa aa,XA aa aa]
   rfl
  .simp_all
  .show pg (y.1.set _ _) i=_
   rw[ZT _ v f R,Wk B,q3 i R,Wk B,Wk aa]
  .show(pg (y.1.set _ _) j).k=1/\(pg (y.1.set _ _) j).u=_
   rw[ZT _ v f v,Wp rfl]
   refine⟨rfl,?_⟩
   show wI (0+n)=0+n
   rw[Xd aa aa]
  .show(pg (y.1.set _ _) j).s=_/\(pg (y.1.set _ _) j).P=_
   rw[ZT _ v f v,Wp rfl]
   simp
 refine W8 aa (Iu (Ws (λht=>?_) λ_=>new));have ht:0<(w.t.length:Int):=Wz ht;rw[Xd (n:=(w.t.length:Int)-1) aa aa];refine Ok.get aa aa λj L=>?_;have M:=YT L;have⟨A,G,t2,t3,t4⟩:=H.tk j M;refine Ok.get A G λp z=>?_;have g:=Yz z;subst g;rw[Xd (n:=(pg w.h.p j).u+n) aa aa];refine Ws (λD=>?_) λ_=>new;have D:(pg w.h.p j).u+n<=w.h.c.W:=Wz D;rw[H.conf]at D;refine Ok.get aa aa λj' Z=>?_;obtain rfl:j=j':=WE (L.symm.trans Z);refine Ok.get A G λp1 J=>Ok.get A G λp2 z=>Ok.get A G λp3 K=>Wg λ_=>?_;have g1:=Yz J;have g2:=Yz z;have g3:=Yz K;subst g1;subst g2;subst g3;have hm:=X4 hp.conf (i:=j) A aa;refine⟨j,(pg w.h.p j).u,⟨⟨A,G⟩,⟨t3,D⟩,?_,rfl,rfl,rfl,rfl,rfl,rfl,?_,λi R B=>?_,?_,.inl ?_,.inl ⟨M,rfl,rfl⟩⟩⟩
 .show wU (wI (wI (4096+wI (j*w.h.c.W))+_))=_;rw[H.conf,Xd (n:=j*h0.c.W) aa aa,Xd (n:=4096+j*h0.c.W) aa aa,Xd aa aa,XA aa aa];rfl
 .simp
 .simp[ZT,A,G,R,Wk,B]
 .rw[ZT _ A G A,Wp rfl];refine⟨t2,?_⟩;rw[Xd aa aa]
 rw[ZT _ A G A,Wp rfl];simp
end
def Xp4{a b:Int}(e:4096<=a)(hb:4096<=b)(h:ix a=ix b):a=b:=by unfold ix at h;omega
def Xhz{ws:List Int}{x a v:Int}(f:inW ws x)(g:4096<=a):wd (ws.set (ix x) v) a=if a=x then v else wd ws a:=by
 unfold wd;have j:ix x<ws.length:=by unfold inW at f;unfold ix;omega
 rw[Wq,Wq,Iz];by_cases h:a=x
 .simp_all
 rw[Wk h,Wk];intro e;exact h (Xp4 g f.1 e.symm)
def Xoj{ws:List Int}{f a x:Int}{k:Nat}(g:Yt ws a k)(j:Yt ws f k)(o:4096<=x):wd (ovr ws ((ws.drop (ix a)).take k) (ix f)) x=if f<=x/\x<f+k then wd ws (a+(x-f))else wd ws x:=by
 have e:((ws.drop (ix a)).take k).length=k:=by unfold Yt at g;simp[ix];omega
 unfold wd;rw[XcL (by rw[e];unfold Yt at j;unfold ix;omega),e];unfold Yt at g j;by_cases h:f<=x/\x<f+k
 .rw[Wp h,Wp (by unfold ix;omega),Wq,Ul,Wp (by unfold ix;omega),UL,←Wq];congr 1;unfold ix;omega
 rw[Wk h,Wk (by unfold ix;omega)]
def Xcc{ws:List Int}{f a:Int}{k:Nat}(g:Yt ws a k)(h:Yt ws f k):(ovr ws ((ws.drop (ix a)).take k) (ix f)).length=ws.length:=by
 have e:((ws.drop (ix a)).take k).length=k:=by unfold Yt at g;simp[ix];omega
 exact Kr (by rw[e];unfold Yt at h;unfold ix;omega)
def Xa3{c:WV}(f:Yk c=true){i j o p:Int}(h:i<j)(g:o<=c.W)(k:0<=p):Xj c i o<=Xj c j p:=by
 have q:=Xu.1 f;have:(i+1)*c.W<=j*c.W:=UE aa aa;have e:(i+1)*c.W=i*c.W+c.W:=by rw[IJ,I5]
 unfold Xj;omega
section
variable {N:Nat}{h0:Wo}{l:List Int}
structure OC(h0:Wo)(l:List Int)(w w':WD)(O:Int->Prop)(s:Int->Int):Prop where
 ci:CI h0 l w'
 ob:∃O' s',Om h0 l w' O' s'/\∀a,O a->O' a/\s' a=s a
 sc:w'.d=w.d
 ql:w.q.length<=w'.q.length
def SameK(e f:List Wv):Prop:=f.length=e.length/\∀i,0<=i->(pg f i).k=(pg e i).k/\(pg f i).u=(pg e i).u
def SameK.refl(ps:List Wv):SameK ps ps:=⟨rfl,λ_ _=>⟨rfl,rfl⟩⟩
def SameK.set{o f:List Wv}(h:SameK o f){i:Int}(h0:0<=i)(p:i<f.length)(sp pins:Int):SameK o (f.set i.toNat ⟨(pg f i).k,sp,(pg f i).u,pins⟩):=by
 refine⟨by rw[WN];exact h.1,λj g=>?_⟩;rw[ZT _ h0 p g];split
 .rename_i e;subst e;exact h.2 j g
 exact h.2 j g
def XhA(w:WD)(a:Int){ps:List Wv}(h:ps.length<=100000):∀(n:Nat)(i:Int)(e:List Wv),0<=i->i<=ps.length->(ps.length-i).toNat<n->SameK ps e->Ok (QaR N w a n i e) λr=>SameK ps r
 |0,i,e,_,_,j,_=>by omega
 |n+1,i,e,h0,o,j,g=>by have q:=g.1;refine W8 aa (Ws (λf=>?_) λ_=>Wg g);have f:i<e.length:=Wz f;rw[Xd (n:=i+1) aa aa];refine Ok.get h0 f λp hp=>Ws (λ_=>Ok.get h0 f λp hp=>?_) λ_=>Wg g;have k:=Yz hp;subst k;exact XhA w a h n (i+1) _ aa aa aa (g.set h0 f _ _)
def CI.pages{w:WD}(e:CI h0 l w){r:List Wv}(h:SameK w.h.p r):CI h0 l {w with h:={w.h with p:=r}}:=by
 have⟨O,s,f⟩:=e.obj;refine⟨e.conf,e.wlen,h.1.trans e.plen,e.spc,e.old,λj k=>?_,e.tnd,λa g=>?_,e.qnd,?_⟩
 .have:=e.tk j k;have o:=h.2 j this.1;rw[o.1,o.2,h.1];omega
 .have z:=e.knd a g;by_cases hp:0<=pgi h0.c a
  .rw[(h.2 _ hp).1];omega
  have u:∀q:List Wv,pg q (pgi h0.c a)=pg q 0:=λq=>by unfold pg;grind
  rw[u,(h.2 0 aa).1,←u,z]
 refine⟨O,s,f.old,f.queue,f.fit,f.apart,λa g j k=>?_,λa g j v o y=>?_⟩
 .rw[(h.2 j (e.tk j k).1).2];exact f.taken a g j k
 rw[(h.2 j v).1]at y;exact f.free a g j v (by rw[←h.1];omega) y
def Om.pages{w:WD}{O:Int->Prop}{s:Int->Int}(r:CI h0 l w)(e:Om h0 l w O s){g:List Wv}(h:SameK w.h.p g):Om h0 l {w with h:={w.h with p:=g}} O s:=by
 refine⟨e.old,e.queue,e.fit,e.apart,λa f j k=>?_,λa f j o u q=>?_⟩
 .rw[(h.2 j (r.tk j k).1).2];exact e.taken a f j k
 rw[(h.2 j o).1]at q;exact e.free a f j o (by rw[←h.1];omega) q
def CI.push{w:WD}{O:Int->Prop}{s:Int->Int}(e:CI h0 l w)(g:Om h0 l w O s){a:Int}(o:O a)(p:a∉w.q)(k:WP):OC h0 l w {w with q:=w.q++[a],r:=k} O s:=by
 have j:Om h0 l {w with q:=w.q++[a],r:=k} O s:=by
  refine⟨g.old,λx f=>?_,g.fit,g.apart,g.taken,g.free⟩;rcases WG.1 f with f|f
  .exact g.queue x f
  rw[UP.1 f];exact o
 refine⟨⟨e.conf,e.wlen,e.plen,e.spc,e.old,e.tk,e.tnd,e.knd,?_,⟨O,s,j⟩⟩,⟨O,s,j,λa h=>⟨h,rfl⟩⟩,rfl,?_⟩
 .rw[IA];refine⟨e.qnd,ab,λx f y u=>?_⟩;rw[UP.1 u];rintro rfl;exact p f
 simp
end
section
variable {N:Nat}{h0:Wo}{l:List Int}
def XlJ(hp:Ut h0){w H:WD}{O:Int->Prop}{s:Int->Int}(y:CI h0 l w)(k:Om h0 l w O s){a n at_ j u:Int}(p:a∈l)(hn:n=szA w.h.w a)(I:1<=n)(o:Ox h0 w n H at_ j u)(v:Int):
 Yt w.h.w a n.toNat/\Yt w.h.w at_ n.toNat/\(∀x,O x->x+s x<=at_\/Xj h0.c (j+1) 0<=x)/\¬O at_/\(∀x,O x->x+s x<=at_\/at_+n<=x)/\(∀x,4096<=x->wd ((ovr w.h.w ((w.h.w.drop (ix a)).take n.toNat) (ix at_)).set (ix a) v) x=if x=a then v else if at_<=x/\x<at_+n then wd w.h.w (a+(x-at_))else wd w.h.w x):=by
 have⟨q,J⟩:=k.old a p;have⟨K,L,M,R⟩:=k.fit a q;have S:=y.wlen;have U:=hp.words;have V:=y.plen;have z:=hp.pages;have⟨A,Y⟩:=o.rng;have hm:=X4 hp.conf (i:=j) A aa;have⟨u0,u1⟩:=o.fit;have g:at_=Xj h0.c j u:=o.addr;have B:at_=4096+j*h0.c.W+u:=g;have r:at_+n<=Xj h0.c (j+1) 0:=by
  have e:(j+1)*h0.c.W=j*h0.c.W+h0.c.W:=by rw[IJ,I5]
  unfold Xj;omega
 have D:Yt w.h.w a n.toNat:=by unfold Yt;omega
 have E:Yt w.h.w at_ n.toNat:=by unfold Yt;omega
 have away:∀x,O x->x+s x<=at_\/Xj h0.c (j+1) 0<=x:=by
  intro x f;rcases o.way with⟨g1,g2,g3⟩|⟨g1,g2,g3⟩
  .have:=k.taken x f j g1;rw[←g3,←g]at this;exact this
  have:=k.free x f j A Y g1;rw[g3]at g;rw[g];exact this
 have fresh:¬O at_:=by intro f;have:=away at_ f;have:=(k.fit at_ f).2.1;omega
 have Z:∀x,O x->x+s x<=at_\/at_+n<=x:=λx f=>by have:=away x f;omega
 have G:(ovr w.h.w ((w.h.w.drop (ix a)).take n.toNat) (ix at_)).length=w.h.w.length:=Xcc D E;have hwd:∀x,4096<=x->wd ((ovr w.h.w ((w.h.w.drop (ix a)).take n.toNat) (ix at_)).set (ix a) v) x=if x=a then v else if at_<=x/\x<at_+n then wd w.h.w (a+(x-at_))else wd w.h.w x:=by intro x f;rw[Xhz (by unfold inW;omega) f,Xoj D E f];have:(n.toNat:Int)=n:=aa;rw[this]
 simp_all
def XlK(hp:Ut h0)(Y:∀a∈l,(pg h0.p (pgi h0.c a)).k=1\/(pg h0.p (pgi h0.c a)).k=2)(hpr:∀a∈l,0<=pgi h0.c a){w A:WD}{O:Int->Prop}{s:Int->Int}(B:CI h0 l w)(G:Om h0 l w O s){a n at_ j u:Int}(Z:a∈l)(hn:n=szA w.h.w a)(hn1:1<=n)(g:Ox h0 w n A at_ j u)(v:Int)(hv:v % 4=2)(rp:WP):
 Yt w.h.w a n.toNat/\Yt w.h.w at_ n.toNat/\4096<=at_/\at_<=200000/\OC h0 l w {A with h:={A.h with w:=(ovr w.h.w ((w.h.w.drop (ix a)).take n.toNat) (ix at_)).set (ix a) v},q:=A.q++[at_],r:=rp} O s:=by
 have⟨hOa,hsa⟩:=G.old a Z;have⟨fa1,fa2,fa3,fa4⟩:=G.fit a hOa;have hwl:=B.wlen;have hw0:=hp.words;have hpl:=B.plen;have hpl0:=hp.pages;have⟨r1,r2⟩:=g.rng;have hm:=X4 hp.conf (i:=j) r1 aa;have⟨u0,u1⟩:=g.fit;have hat:at_=Xj h0.c j u:=g.addr;have hat1:at_=4096+j*h0.c.W+u:=hat;have hend:at_+n=Xj h0.c j (u+n):=by rw[hat];unfold Xj;omega
 have⟨i1,i2,away,fresh,L,M⟩:=XlJ hp B G Z hn hn1 g v;have hne:a≠at_:=λe=>fresh (e▸hOa);have hlen:(ovr w.h.w ((w.h.w.drop (ix a)).take n.toNat) (ix at_)).length=w.h.w.length:=Xcc i1 i2;have H:((ovr w.h.w ((w.h.w.drop (ix a)).take n.toNat) (ix at_)).set (ix a) v).length=w.h.w.length:=by rw[WN,hlen]
 have hsz:∀x,O x->szA ((ovr w.h.w ((w.h.w.drop (ix a)).take n.toNat) (ix at_)).set (ix a) v) x<=s x:=by
  intro x f;have hf:=G.fit x f;by_cases hxa:x=a
  .have:szA ((ovr w.h.w ((w.h.w.drop (ix a)).take n.toNat) (ix at_)).set (ix a) v) x=1:=by apply Xoi;rw[M x hf.1,Wp hxa];exact hv
   omega
  have:szA ((ovr w.h.w ((w.h.w.drop (ix a)).take n.toNat) (ix at_)).set (ix a) v) x=szA w.h.w x:=by unfold szA hdA;rw[M x hf.1,Wk hxa,Wk];have:=L x f;omega
  omega
 have R:szA ((ovr w.h.w ((w.h.w.drop (ix a)).take n.toNat) (ix at_)).set (ix a) v) at_=n:=by refine Eq.trans ?_ hn.symm;unfold szA hdA;rw[M at_ aa,Wk (λe=>hne e.symm),Wp aa];rw[show a+(at_-at_)=a by omega]
 have I:=g.this;have hk0:∀i,0<=i->(pg A.h.p i).k=0->i≠j/\(pg w.h.p i).k=0:=by
  intro i D hk;have z:i≠j:=by rintro rfl;rw[I.1]at hk;cases hk
  rw[g.other i D z]at hk;exact⟨z,hk⟩
 have htk:∀i∈A.t,i=j\/(i∈w.t/\i≠j):=by
  intro i D;by_cases z:i=j
  .exact .inl z
  right;refine⟨?_,z⟩;rcases g.way with⟨_,g2,_⟩|⟨_,g2,_⟩
  .rwa[g2]at D
  rw[g2]at D;rcases WG.1 D with D|D
  .exact D
  exact absurd (UP.1 D) z
 have hqe:A.q=w.q:=g.queue;refine⟨i1,i2,aa,aa,?_⟩;have hO:Om h0 l {A with h:={A.h with w:=(ovr w.h.w ((w.h.w.drop (ix a)).take n.toNat) (ix at_)).set (ix a) v},q:=A.q++[at_],r:=rp} (λx=>O x\/x=at_) (λx=>if x=at_ then n else s x):=by
  have ne:∀x,O x->x≠at_:=λx f e=>fresh (e▸f);refine⟨λx f=>?_,λx f=>?_,λx f=>?_,λx y f J hxy=>?_,λx f i D=>?_,λx f i g1 g2 g3=>?_⟩
  .have⟨q1,q2⟩:=G.old x f;exact⟨.inl q1,by rw[Wk (ne x q1)];exact q2⟩
  .rcases WG.1 f with f|f
   .rw[hqe]at f;exact .inl (G.queue x f)
   exact .inr (UP.1 f)
  .rw[H];rcases f with f|rfl
   .rw[Wk (ne x f)];have⟨f1,f2,f3,f4⟩:=G.fit x f;exact⟨f1,f2,f3,hsz x f⟩
   rw[Wp rfl,R];omega
  .rcases f with f|rfl
   .rcases J with J|rfl
    .rw[Wk (ne x f),Wk (ne y J)];exact G.apart x y f J hxy
    have:=L x f;omega
   rcases J with J|rfl
   .have:=L y J;omega
   exact absurd rfl hxy
  .rcases htk i D with rfl|⟨K,S⟩
   .rw[I.2];rcases f with f|rfl
    .have:=away x f;omega
    omega
   have⟨t1,t2,t3,t4,t5⟩:=B.tk i K;rw[g.other i t1 S];rcases f with f|rfl
   .rw[Wk (ne x f)];exact G.taken x f i K
   by_cases U:i<j
   .have:=Xa3 hp.conf (o:=h0.c.W) (p:=u) U aa u0;have e:Xj h0.c (i+1) 0=Xj h0.c i h0.c.W:=by unfold Xj;rw[IJ,I5];omega
    omega
   have:=Xa3 hp.conf (i:=j) (j:=i) (o:=u+n) (p:=(pg w.h.p i).u) aa aa t4;omega
  have⟨k1,k2⟩:=hk0 i g1 g3;rcases f with f|rfl
  .rw[Wk (ne x f)];exact G.free x f i g1 (by rw[←g.plen];exact g2) k2
  by_cases U:i<j
  .right;have:=Xa3 hp.conf (o:=h0.c.W) (p:=u) U aa u0;have e:Xj h0.c (i+1) 0=Xj h0.c i h0.c.W:=by unfold Xj;rw[IJ,I5];omega
   omega
  left;have:=Xa3 hp.conf (i:=j) (j:=i) (o:=u+n) (p:=0) aa aa aa;omega
 refine⟨⟨?_,?_,?_,?_,?_,λi D=>?_,?_,λx f=>?_,?_,⟨_,_,hO⟩⟩,⟨_,_,hO,λx f=>⟨.inl f,?_⟩⟩,g.scanned,?_⟩
 .exact g.conf.trans B.conf
 .exact H.trans B.wlen
 .exact g.plen.trans B.plen
 .exact g.space.trans B.spc
 .exact(by show A.o.Sublist l;rw[g.old];exact B.old)
 .show 0<=i/\i<A.h.p.length/\(pg A.h.p i).k=1/\0<=(pg A.h.p i).u/\(pg A.h.p i).u<=h0.c.W;rw[g.plen];rcases htk i D with rfl|⟨K,S⟩
  .rw[I.1,I.2];omega
  have:=B.tk i K;rw[g.other i this.1 S];exact this
 .show A.t.Nodup;rcases g.way with⟨_,g2,_⟩|⟨g1,g2,_⟩
  .rw[g2];exact B.tnd
  rw[g2,IA];refine⟨B.tnd,ab,λx f y J=>?_⟩;rw[UP.1 J];rintro rfl;rw[(B.tk x f).2.2.1]at g1;cases g1
 .show(pg A.h.p _).k=_;have E:=B.knd x f;have V:=Y x f;by_cases z:pgi h0.c x=j
  .rw[z]at E V⊢;rw[I.1];rcases g.way with⟨g1,_,_⟩|⟨g1,_,_⟩
   .rw[(B.tk j g1).2.2.1]at E;exact E
   rw[g1]at E;rw[←E]at V;rcases V with h|h<;>cases h
  rw[g.other _ (hpr x f) z];exact E
 .show(A.q++[at_]).Nodup;rw[hqe,IA];refine⟨B.qnd,ab,λx f y J=>?_⟩;rw[UP.1 J];rintro rfl;exact fresh (G.queue x f)
 .show(if x=at_ then n else s x)=s x;exact Wk (λe=>fresh (by rw[←e];exact f))
 simp_all
structure Start(N:Nat)(h0:Wo)(l:List Int):Prop where
 hb:HB h0
 good:l≠[]->Ov N h0
 prop:l≠[]->Ut h0
 st:Il N h0 l
def Xgh(a:Int)(h0:0<=a)(e:a<4294967296):wU (wU (4*a)+2) % 4=2:=by rw[XA (n:=4*a) aa aa,XA aa aa];omega
def Z9{l:List Int}{a:Int}(h:l.contains a=false):a∉l:=by simp_all
def Zm{l:List Int}{a:Int}(h:l.contains a=true):a∈l:=by simp_all
def CI.wl{w:WD}(hb:HB h0)(e:CI h0 l w):w.h.w.length<=BIG:=by have:=hb.1;have:=e.wlen;unfold BIG;omega
def XcR(hN:NB N)(z:Start N h0 l){w:WD}{O:Int->Prop}{s:Int->Int}(g:CI h0 l w)(o:Om h0 l w O s)(a:Int):Ok (Qa7 N w a) λr=>r.2.2=0->OC h0 l w r.1 O s:=by
 have S:=hN;unfold NB at S;have hb:=z.hb;have hql:=g.ql hb;have H:=g.wl hb;have hww:=g.wlen;have hpl:=g.plen;have same:OC h0 l w w O s:=⟨g,⟨O,s,o,λ_ h=>⟨h,rfl⟩⟩,rfl,Uf _⟩
 refine Ws (λ_=>Wg λ_=>same) λ_=>?_;rw[YM a aa aa,Xa];refine Ws (λ_=>Wg λ_=>same) λR=>?_;have R:=Z9 R;have hol:=g.old.length_le;have hsl:=z.st.len;rw[YM a aa aa,Xa];refine Ws (λ_=>Wg λe=>by grind) λf=>?_;have f:a∈l:=g.old.subset (Zm (by simp_all));have I:l≠[]:=List.ne_nil_of_mem f;have hp:=z.prop I;have hg:=z.good I;have U:=z.st.obj.at_ a f;have hwd0:=hp.words;have hpg0:=hp.pages;have hvc:=Xu.1 hp.conf;have A:=U.rng;have⟨_,V,q1,_⟩:=KG hp.conf A;have J:inW w.h.w a:=by unfold inW;omega
 rw[YO H,Xa,Wp J,JO,Xa];have W:Qc8 N w.h.c a=some (pgi h0.c a,pgo h0.c a,0):=by rw[JP,g.conf,hp.conf,Wk ab,Wp A];rfl
 rw[W,Xa];refine Ws (λ_=>Wg λ_=>same) λ_=>?_;refine Ws (λ_=>Wg λe=>by grind) λ_=>?_;refine Ws (λ_=>Wg λe=>by grind) λ_=>?_;refine WH (XbY hN (g.tl hb) _) λb _ _=>Ws (λ_=>?_) λ_=>?_
 .rw[Qeb,Xc aa,Xc aa,Xa];exact Wg λ_=>g.push o (o.old a f).1 R _
 refine Ok.get V aa λp D=>Ws (λ_=>?_) λhk2=>?_
 .refine W8 aa (Ok.get V aa λp D=>?_);have E:=Yz D;subst E;rw[Xd (n:=pgi h0.c a+1) aa aa];refine WH (XhA w a (ps:=w.h.p) aa N (pgi h0.c a+1) _ aa aa aa ((SameK.refl _).set V aa _ _)) λqs _ K=>?_;rw[Qeb,Xc (by grind),Xc (by grind),Xa];refine Wg λ_=>?_;have q:=λY=>(g.pages K).push (o.pages g K) (o.old a f).1 R Y;exact⟨(q _).ci,(q _).ob,(q w.r).sc,(q w.r).ql⟩
 have E:=Yz D;have B:∀x∈l,(pg h0.p (pgi h0.c x)).k=1\/(pg h0.p (pgi h0.c x)).k=2:=λx Z=>(z.st.obj.at_ x Z).kind;have hpr:∀x∈l,0<=pgi h0.c x:=λx Z=>(KG hp.conf (z.st.obj.at_ x Z).rng).2.1;have hk1:(pg h0.p (pgi h0.c a)).k=1:=by
  rcases B a f with h|h
  .omega
  exfalso;rw[←g.knd a f,E]at h;grind
 have hsz:=hg.sz z.st f hk1;have hso:=(o.old a f).2;have hfit:=o.fit a (o.old a f).1;have G:=YW w.h.w a;rw[KN,Xa,X6,Xa];have e1:XM (ZS (w.h.w.getD (ix a) 0))=szA w.h.w a:=G.1;rw[e1];refine WH (Xgg hN hb hp g (n:=szA w.h.w a) G.2.1 aa) λy _ hy=>Ws (λ_=>Wg λe=>by grind) λhy2=>?_;have⟨j,u,pq⟩:=hy (by grind);have q:=λv hv Y=>XlK (n:=szA w.h.w a) hp B hpr g o f rfl G.2.1 pq v hv Y;have⟨i1,i2,a1,a2,_⟩:=q 2 rfl y.1.r;rw[pq.words];have en:szA w.h.w a=(((szA w.h.w a).toNat:Nat):Int):=aa;have L:=Xiq (N:=N) H y.2.1 a (szA w.h.w a).toNat aa aa;rw[←en,Wp ⟨i1,i2⟩]at L;rw[L,Xa,Xax,Xa,Wk aa];have ol:=Xcc i1 i2;rw[Jb (by grind) aa,Xa];have M:inW (ovr w.h.w ((w.h.w.drop (ix a)).take (szA w.h.w a).toNat) (ix y.2.1)) a:=by unfold inW;rw[ol];exact J
 rw[Wp M];have hqe:=pq.queue;refine W8 (by grind) (W8 (by grind) (Wg λ_=>?_));exact(q _ (Xgh y.2.1 aa aa) _).2.2.2.2
end
section
variable {N:Nat}{h0:Wo}{l:List Int}
def XcS(h:Wo)(y:List Int×Int)(j:h.p.length<=100000):∀(n:Nat)(i:Int)(e:List Wv),0<=i->i<=h.p.length->(h.p.length-i).toNat<n->SameK h.p e->Ok (Qcl N h y n i e) λr=>SameK h.p r
 |0,i,e,_,_,k,_=>by omega
 |n+1,i,e,h0,q,k,g=>by
  have s:=g.1;refine W8 aa (Ws (λf=>?_) λ_=>Wg g);have f:i<e.length:=Wz f;rw[Xd (n:=i+1) aa aa];have next:=XcS h y j n (i+1) e aa aa aa g
  refine Ok.get h0 f λp hp=>Ws (λ_=>Ws (λ_=>Ok.get h0 f λp hp=>?_) λ_=>next) λ_=>next
  have o:=Yz hp;subst o;exact XcS h y j n (i+1) _ aa aa aa (g.set h0 f _ _)
def XhB{h:Wo}(hp:Ut h){a:Int}(f:IQ h a){j:Int}(v:0<=j)(y:(pg h.p j).k=0):a+szA h.w a<=Xj h.c j 0\/Xj h.c (j+1) 0<=a:=by
 have⟨k,k1,k2,z,r⟩:=Xe3 hp f;have⟨A,B,D,s,E⟩:=KG hp.conf f.rng;have u:=f.kind;by_cases g:j<pgi h.c a
 .have:=Xa3 hp.conf (o:=h.c.W) (p:=pgo h.c a) g aa s;have e:Xj h.c (j+1) 0=Xj h.c j h.c.W:=by unfold Xj;rw[IJ,I5];omega
  omega
 by_cases G:j=pgi h.c a
 .grind
 by_cases q:j<pgi h.c a+k
 .have:=r (j-pgi h.c a) aa aa;grind
 have:(pgi h.c a+k)*h.c.W<=j*h.c.W:=UE aa aa;have H:Xj h.c (pgi h.c a+k) 0=4096+(pgi h.c a+k)*h.c.W+0:=rfl;have I:Xj h.c j 0=4096+j*h.c.W+0:=rfl;omega
def Xgi{h:Wo}(hb:HB h)(hp:Ut h){l:List Int}(g:Il N h l){w:WD}(z:w.h.c=h.c)(A:w.h.w=h.w)(e3:w.h.s=h.s)(k:SameK h.p w.h.p)(e4:w.o.Sublist l)(E:w.t=[])(G:w.q=[]):CI h l w:=by
 have B:Om h l w (λa=>a∈l) (szA h.w):=by
  refine⟨λa e=>⟨e,rfl⟩,λa e=>(by simp_all),λa e=>?_,λa b e r D=>?_,λa e j v=>(by simp_all),λa e j f H y=>?_⟩
  .rw[A];have f:=g.obj.at_ a e;exact⟨f.rng.1,(YW h.w a).2.1,Vb hp f,Int.le_refl _⟩
  .have u:=g.obj.pw;rw[UI]at u;have⟨i,I,J⟩:=WJ e;have⟨j,v,K⟩:=WJ r;grind
  rw[(k.2 j f).1]at y;exact XhB hp (g.obj.at_ a e) f y
 refine⟨z,by grind,k.1,e3,e4,λj v=>(by simp_all),by simp_all,λa e=>?_,by simp_all,⟨_,_,B⟩⟩;exact(k.2 _ (KG hp.conf (g.obj.at_ a e).rng).2.1).1
def zW:WD:=⟨zH,[],[],[],0,⟨0,0,0,0,0,0⟩⟩
def XlL(N:Nat):Start N zH []:=⟨Kh,λh=>absurd rfl h,λh=>absurd rfl h,Il.nil N zH⟩
def Xrh:CI zH [] zW:=by refine⟨rfl,rfl,rfl,rfl,.refl _,λj f=>(by cases f),Oh,λa e=>(by rfl),Oh,⟨λ_=>False,λ_=>0,?_⟩⟩;exact⟨λa e=>(by grind),λa e=>(by cases e),λa e=>e.elim,λa b e=>e.elim,λa e=>e.elim,λa e=>e.elim⟩
structure OR(N:Nat)(h:Wo)(l:List Int)(w:WD):Prop where
 st:Start N h l
 ci:CI h l w
 sc:w.d=0
 pr:Ut h\/h.p=[]
def XlM(hN:NB N){h:Wo}(hb:HB h):Ok (QeV N h) λr=>∃e l,OR N e l r.1:=by
 have f:=hN;unfold NB at f;have g:=hb.2;have zero:∃e l,OR N e l zW:=⟨zH,[],XlL N,Xrh,rfl,.inr rfl⟩
 refine WH (YR (N:=N) aa hb.1 hb.2) λb eb hp=>Ws (λ_=>Wg zero) λq=>?_;have hp:=hp (by simp_all);refine WH (Js hN hb) λb _ j=>Ws (λ_=>Wg zero) λg=>?_;have j:=j (by simp_all);refine WH (Ks hN hb) λy _ o=>W8 aa ?_;refine WH (XcS h y aa N 0 h.p aa aa aa (SameK.refl _)) λs _ k=>Wg ?_;exact⟨h,y.1,⟨hb,λ_=>j,λ_=>hp,o.1⟩,Xgi hb hp o.1 rfl rfl rfl k (.refl _) rfl rfl,rfl,.inl hp⟩
def Xgj(hN:NB N)(B:Start N h0 l)(rs:List Int)(D:rs.length<=1000000):∀(n:Nat)(i:Int)(w:WD)(out:List Int),0<=i->i<=rs.length->(rs.length-i).toNat<n->CI h0 l w->(out.length:Int)=i ->
 Ok (Qbk N rs n i w.h.c.W w.h.c.p w.h.w w.h.p w.h.s w.h.b w.o w.t w.q w.d w.r.j w.r.K w.r.F w.r.E w.r.f w.r.y out) λe=>match e with
  |.ret r=>r.2.2≠0
  |.nxt t=>∃(g:WD) (k:List Int),CI h0 l g/\g.d=w.d/\k.length=rs.length/\t=(g.h.c.W,g.h.c.p,g.h.w,g.h.p,g.h.s,g.h.b,g.o,g.t,g.q,g.d,g.r.j,g.r.K,g.r.F,g.r.E,g.r.f,g.r.y,k)
 |0,i,w,out,_,_,G,_,_=>by omega
 |n+1,i,w,out,H,S,G,v,U=>by
  refine Ws (λu=>?_) λu=>Wg ⟨w,out,v,rfl,by grind,rfl⟩;have u:i<rs.length:=Wz u;rw[Xd (n:=i+1) aa aa];have⟨O,s,z⟩:=v.obj;refine Ok.get H u λp hp=>WH (XcR hN B v z p) λy _ I=>Ws (λA=>Wg (by simp_all)) λA=>?_;have q:=I (by simp_all);refine W8 aa ((Xgj hN B rs D n (i+1) y.1 (out++[y.2.1]) aa aa aa q.ci (by simp_all)).mono λe A=>?_);cases e with
  |ret r=>omega
  |nxt t=>have⟨g,o',J,L,M,R⟩:=A;exact⟨g,o',J,L.trans q.sc,M,R⟩
def XlN(hN:NB N)(g:Start N h0 l){rs:List Int}(h:rs.length<=1000000){w:WD}(j:CI h0 l w):Ok (Qec N w rs) λr=>r.2.2=0->CI h0 l r.1/\r.1.d=w.d/\r.2.1.length=rs.length:=by have f:=hN;unfold NB at f;refine IT (Xgj hN g rs h N 0 w [] aa aa aa j rfl) (λa q=>Wg λe=>absurd e q) λb q=>Wg λ_=>?_;obtain⟨s,o',k,o,p,rfl⟩:=q;exact⟨k,o,p⟩
end
def Xd6{d:WC}{x:Int}(h:x∈Zu d):0<=x/\x<d.n:=by
 unfold Zu at h;by_cases e:XL d=true
 .rw[Wp e]at h;have:=J9 h;omega
 simp_all
def Xd7(d:WC):(Zu d).length<=255:=by
 unfold Zu;by_cases e:XL d=true
 .rw[Wp e];have:=Va (d:=d) (k:=d.n.toNat) (i:=0);have:=XY e;omega
 simp_all
section
variable {N:Nat}{h0:Wo}{l:List Int}
def Xiz{w:WD}{O:Int->Prop}{s:Int->Int}(e:CI h0 l w)(f:Om h0 l w O s){p x:Int}(hp:O p)(z:p<x)(A:x<p+s p)(v:Int):
 inW w.h.w x/\CI h0 l {w with h:={w.h with w:=w.h.w.set (ix x) v}}/\Om h0 l {w with h:={w.h with w:=w.h.w.set (ix x) v}} O s:=by
 have B:=f.fit p hp;have g:inW w.h.w x:=by unfold inW;omega
 have j:Om h0 l {w with h:={w.h with w:=w.h.w.set (ix x) v}} O s:=by
  refine⟨f.old,f.queue,λa k=>?_,f.apart,f.taken,f.free⟩;show 4096<=a/\1<=s a/\a+s a<=4096+(w.h.w.set (ix x) v).length/\szA (w.h.w.set (ix x) v) a<=s a;obtain⟨o,q,r,u⟩:=f.fit a k;rw[WN];refine⟨o,q,r,?_⟩;have:a≠x:=by
   rintro rfl;by_cases y:a=p
   .omega
   have:=f.apart a p k hp y;omega
  unfold szA hdA at *;rw[Xhz g o,Wk this];exact u
 refine⟨g,⟨e.conf,?_,e.plen,e.spc,e.old,e.tk,e.tnd,e.knd,e.qnd,⟨O,s,j⟩⟩,j⟩;rw[WN];exact e.wlen
def XiA(hN:NB N)(u:Start N h0 l){p:Int}{ks:List Int}(B:ks.length<=255):∀(n:Nat)(i:Int)(w:WD)(O:Int->Prop)(s:Int->Int),0<=i->i<=ks.length->(ks.length-i).toNat<n->CI h0 l w->Om h0 l w O s->O p->(∀k∈ks,0<=k/\k<255/\k+1<s p) ->
 Ok (Qbz N p ks n i w.h.c.W w.h.c.p w.h.w w.h.p w.h.s w.h.b w.o w.t w.q w.d w.r.j w.r.K w.r.F w.r.E w.r.f w.r.y) λe=>match e with
  |.ret r=>r.2.2≠0
  |.nxt t=>∃(g:WD),CI h0 l g/\g.d=w.d/\w.q.length<=g.q.length/\t=(g.h.c.W,g.h.c.p,g.h.w,g.h.p,g.h.s,g.h.b,g.o,g.t,g.q,g.d,g.r.j,g.r.K,g.r.F,g.r.E,g.r.f,g.r.y)
 |0,i,w,O,s,_,_,M,_,_,_,_=>by omega
 |n+1,i,w,O,s,R,hi,M,z,L,hp,S=>by
  have D:=hN;unfold NB at D;have U:=u.hb.1;refine Ws (λA=>?_) λA=>Wg ⟨w,z,rfl,Uf _,rfl⟩;have A:i<ks.length:=Wz A;rw[Xd (n:=i+1) aa aa];refine Ok.get R A λk G=>?_;have H:=YT G;have⟨k0,k1,k2⟩:=S k H;have hf:=L.fit p hp;have V:=z.wlen;rw[XA (n:=p+1) aa aa,XA (n:=k) aa aa,XA (n:=p+1+k) aa aa];rw[YO (z.wl u.hb),Xa];refine WH (XcR hN u z L _) λy _ Y=>Ws (λI=>Wg (by simp_all)) λI=>?_;have q:=Y (by simp_all);have⟨O',Z,J,hx⟩:=q.ob;have⟨v,hs'⟩:=hx p hp;have st:=Xiz q.ci J v (x:=p+1+k) aa aa y.2.1;rw[Jb (q.ci.wl u.hb) aa,Xa,Wp st.1];refine(XiA hN u B n (i+1) _ O' Z aa aa aa st.2.1 st.2.2 v (λk' hk'=>by simp_all)).mono λe I=>?_;cases e with
  |ret r=>omega
  |nxt t=>have⟨g,c1,c2,c3,c4⟩:=I;exact⟨g,c1,c2.trans q.sc,UO q.ql c3,c4⟩
def Xok(hN:NB N)(G:Start N h0 l){w:WD}(j:CI h0 l w)(o:0<=w.d)(v:w.d<=w.q.length):Ok (Qgm N w) λr=>r.2.2=0->CI h0 l r.1/\0<=r.1.d/\r.1.d<=r.1.q.length/\(r.2.1=true->r.1.d=w.d+1):=by
 have y:=hN;unfold NB at y;have hb:=G.hb;have I:=j.ql hb;refine Ws (λ_=>Wg λ_=>⟨j,o,v,λe=>by grind⟩) λg=>?_;have g:w.d<w.q.length:=by have:=WM g;omega
 refine Ok.get o g λp hp=>?_;have z:=YT hp;have⟨O,s,A⟩:=j.obj;have u:=A.queue p z;have L:=A.fit p u;have B:inW w.h.w p:=by unfold inW;omega
 rw[QeW,YO (j.wl hb),Xa,Wp B,KN,Xa,Xa,Xf6 aa,Xa];have D:=Xd7 (hdA w.h.w p);have E:=XY (Jc (wd w.h.w p));refine IT (XiA hN G (p:=p) (ks:=Zu (hdA w.h.w p)) D N 0 w O s aa aa aa j A u λk J=>?_) (λa q=>Wg λe=>absurd e q) λt q=>Wg λ_=>?_
 .have M:=Xd6 J;have R:szA w.h.w p=(hdA w.h.w p).n+1:=rfl;have S:(hdA w.h.w p).n<=255:=E.2.2.2;omega
 obtain⟨H,f,K,U,rfl⟩:=q;have e:wI (H.d+1)=w.d+1:=by rw[K,Xd aa aa]
 refine⟨⟨f.conf,f.wlen,f.plen,f.spc,f.old,f.tk,f.tnd,f.knd,f.qnd,?_⟩,?_,?_,λ_=>e⟩
 .have⟨O,s,h⟩:=f.obj;exact⟨O,s,⟨h.old,h.queue,h.fit,h.apart,h.taken,h.free⟩⟩
 .show 0<=wI (H.d+1);omega
 grind
def XlO(hN:NB N)(g:Start N h0 l):∀(n:Nat)(w:WD),CI h0 l w->0<=w.d->w.d<=w.q.length->(100001-w.d).toNat<n ->
 Ok (QbT N n w.h.c.W w.h.c.p w.h.w w.h.p w.h.s w.h.b w.o w.t w.q w.d w.r.j w.r.K w.r.F w.r.E w.r.f w.r.y) λr=>r.2=0->CI h0 l r.1
 |0,w,_,_,_,v=>by omega
 |n+1,w,z,A,g1,v=>by refine WH (Xok hN g z A g1) λy _ B=>Ws (λD=>Wg λe=>absurd e (by simp_all)) λD=>?_;have⟨k,G,H,u⟩:=B (by simp_all);refine Ws (λ_=>Wg λ_=>k) λhb=>?_;have u:y.1.d=w.d+1:=u (by simp_all);have:=k.ql g.hb;exact XlO hN g n y.1 k G H aa
def Xp5(hN:NB N)(f:Start N h0 l){w:WD}(g:CI h0 l w)(h:0<=w.d)(g1:w.d<=w.q.length):Ok (Qfy N w) λr=>r.2=0->CI h0 l r.1:=by have e:=hN;unfold NB at e;exact WH (XlO hN f N w g h g1 aa) λy _ j=>Wg j
def XlP(hN:NB N)(f:Start N h0 l){w:WD}(g:w.q.length<=100000)(hw:w.h.w.length<=BIG)(a:Int):Ok (Qed N w a) λ_=>True:=by have e:=hN;unfold NB at e;rw[Qed,YM a aa aa,Xa];refine Ws (λ_=>Wg trivial) λ_=>?_;rw[YO hw,Xa,JO,Xa];exact Wg trivial
def Xe6(hN:NB N){w:WD}(hb:HB h0)(B:CI h0 l w){s:Int->Int}(y:w.o.length<=4096)(q:w.o.Pairwise λa b=>a+s a<=b)(f:∀a∈w.o,4096<=a/\1<=s a/\a+s a<=4096+h0.w.length):∀(n k:Nat)(v:List Int)(c:Int),k<=w.o.length->w.o.length-k<n->v.length=h0.w.length->(∀a∈w.o.drop k,szA v a<=s a) ->
 Ok (Qa1 N w n (k:Int) v c) λr=>r.1.length=h0.w.length
 |0,k,v,c,_,S,_,_=>by omega
 |n+1,k,v,c,hk,S,E,O=>by
  have G:=hN;unfold NB at G;have U:=hb.1;have V:=B.ql hb;have H:=B.tl hb;refine Ws (λz=>?_) λ_=>Wg E;have z:k<w.o.length:=by have:=Wz z;omega
  have g:(k:Int)<w.o.length:=aa;have u:=Wu z;rw[Xd (n:=(k:Int)+1) aa aa,show((k:Int)+1)=((k+1:Nat):Int) by omega];have R:∀p,Xb w.o (k:Int)=some p->p=w.o[k]:=by intro p hp;rw[Xe,Wc z]at hp;exact(WE hp).symm
  have next:Ok (Qa1 N w n ((k+1:Nat):Int) v c) λr=>r.1.length=h0.w.length:=
   Xe6 hN hb B y q f n (k+1) v c aa aa E λa D=>O a (by rw[u];exact Uj _ D)
  refine Ok.get aa g λp hp=>?_;rw[JP,Xa];refine WH (XbY hN (w:={w with h:={w.h with w:=v},r:=⟨_,_,_,_,_,_⟩}) H _) λb _ _=>Ws (λ_=>next) λ_=>?_;refine Ok.get aa g λp hp=>?_;rw[YM p aa aa,Xa];refine Ws (λ_=>next) λ_=>Ok.get aa g λp hp=>?_;have j:=R p hp;have I:p∈w.o:=by rw[j];exact WL z
  have⟨f1,f2,f3⟩:=f p I;have W:=O p (by rw[u,←j];exact List.mem_cons_self);have J:inW v p:=by unfold inW;omega
  have Y:=YW v p;rw[QeW,YO (by show v.length<=BIG;unfold BIG;omega),Xa,Wp J,KN,Xa,Xa,Jq,Xa];refine Ok.get aa g λp' K=>?_;obtain rfl:p=p':=j.trans (R p' K).symm;have e1:szA v p=(hdA v p).n+1:=rfl;have L:(ZS (v.getD (ix p) 0)).n=(hdA v p).n:=rfl;refine W8 (by rw[L];omega) (W8 (by rw[L];omega) ?_);have e:∀x:Int,([x]++List.replicate (ZS (v.getD (ix p) 0)).n.toNat (0:Int)).length=(szA v p).toNat:=by intro x;rw[WO,WT,L];simp only[Uk,Ib];omega
  rw[Z8 (by unfold BIG;omega) (by rw[e];unfold BIG;omega) (by rw[e];omega),Xa,e,Wp (by unfold Yt;omega)];have M:∀x:Int,(ovr v ([x]++List.replicate (ZS (v.getD (ix p) 0)).n.toNat (0:Int)) (ix p)).length=v.length:=by intro x;apply Kr;rw[e];unfold ix;omega
  refine Xe6 hN hb B y q f n (k+1) _ _ aa aa ((M _).trans E) λa D=>?_;have Z:a∈w.o:=WS D;have hle:p+s p<=a:=by have A:=q.drop (i:=k);rw[u,IN]at A;rw[j];exact A.1 a D
  have:∀x:Int,szA (ovr v ([x]++List.replicate (ZS (v.getD (ix p) 0)).n.toNat (0:Int)) (ix p)) a=szA v a:=by intro x;unfold szA hdA wd;rw[XcL (by rw[e];unfold ix;omega),e,Wk];unfold ix;have:p+szA v p<=a:=aa;omega
  grind
def Xol(hN:NB N)(j:Start N h0 l){w:WD}(e:CI h0 l w):Ok (QfA N w) λr=>r.h.c=h0.c/\r.h.w.length=h0.w.length/\r.h.p=w.h.p/\r.h.p.length=h0.p.length/\r.t.length<=100000:=by
 have k:=hN;unfold NB at k;have hb:=j.hb;have⟨O,s,f⟩:=e.obj;have q:w.o.Pairwise λa b=>a+s a<=b:=by refine List.Pairwise.imp_of_mem ?_ (j.st.obj.pw.sublist e.old);intro a b g _ h;rw[(f.old a (e.old.subset g)).2];exact h
 have u:=UO e.old.length_le j.st.len;have v:=e.wlen;have:=Xe6 hN (w:=w) hb e (s:=s) u q (λa g=>by have:=f.fit a (f.old a (e.old.subset g)).1;omega) N 0 w.h.w w.r.F aa aa v λa g=>(f.fit a (f.old a (e.old.subset (WS g))).1).2.2.2;have y:w.t.length<=100000:=e.tl hb;refine WH this λr _ z=>Wg ⟨e.conf,z,rfl,e.plen,y⟩
def XiB{w:WD}(e:List Wv)(f:Wv)(i c:Int)(hp:Ut h0)(g:w.h.c=h0.c)(j:0<=i)(g1:i<h0.c.p):∀(n:Nat)(k:Int)(v:List Int),0<=k->(65-k).toNat<n->v.length=h0.w.length->Ok (QbA N w e f i c n k v) λr=>r.length=h0.w.length
 |0,k,v,_,q,_=>by omega
 |n+1,k,v,k0,q,s=>by have u:=Xu.1 hp.conf;have y:=X4 hp.conf j g1;have hw:=hp.words;rw[QbA,g];refine Ws (λo=>?_) λ_=>Wg s;have o:k<h0.c.W:=Wz o;rw[Xd (n:=k+1) aa aa,Xd (n:=i*h0.c.W) aa aa,Xd (n:=i*h0.c.W+k) aa aa];refine Ok.get aa aa λp _=>XiB e f i c hp g j g1 n (k+1) _ aa aa (by simp_all)
def Xe7(hN:NB N){w:WD}(hb:HB h0)(hp:Ut h0\/h0.p=[])(j:w.h.c=h0.c):∀(n:Nat)(i c:Int)(v:List Int)(e:List Wv),0<=i->i<=h0.p.length->(h0.p.length-i).toNat<n->v.length=h0.w.length->e.length=h0.p.length->Ok (Qa8 N w n i c v e) λr=>r.2.1.length=h0.w.length/\r.2.2.length=h0.p.length
 |0,i,c,v,e,_,_,s,_,_=>by omega
 |n+1,i,c,v,e,k,A,s,o,f=>by
  have q:=hN;unfold NB at q;have u:=hb.2;refine W8 aa (Ws (λg=>?_) λ_=>Wg ⟨o,f⟩);have g:i<e.length:=Wz g;rw[Xd (n:=i+1) aa aa];have next:=Xe7 hN (w:=w) hb hp j n (i+1) c v e aa aa aa o f
  refine Ok.get k g λp _=>Ws (λ_=>next) λ_=>Ws (λ_=>next) λ_=>Ok.get k g λB _=>?_;rcases hp with hp|hp
  .have y:=hp.pages;refine WH (XiB e p i c hp j k aa N 0 v aa aa o) λr _ z=>?_;exact Xe7 hN hb (.inl hp) j n (i+1) _ r _ aa aa aa z (by rw[WN];exact f)
  grind
def Xom(hN:NB N){w:WD}(hb:HB h0)(hp:Ut h0\/h0.p=[])(g:w.h.c=h0.c)(hw:w.h.w.length=h0.w.length)(e:w.h.p.length=h0.p.length):Ok (Qfz N w) λr=>HB r.h/\r.t=w.t:=by
 have f:=hN;unfold NB at f;have j:=hb.1;have k:=hb.2;refine W8 aa (W8 aa (WH (Xe7 hN hb hp g N 0 _ _ _ aa aa aa hw e) λr _ o=>Wg ⟨⟨?_,?_⟩,rfl⟩))
 .show r.2.1.length<=_;omega
 simp_all
def XiC(hN:NB N)(f:Start N h0 l)(ws:List Int)(o:ws.length<=1000000)(j:WD×List Int×Int)(g:WD×Int)(h:CI h0 l g.1):∀(n:Nat)(i c:Int)(out:List Int),0<=i->i<=ws.length->(ws.length-i).toNat<n->(out.length:Int)=i->Ok (Qbb N ws j g n i c out) λr=>r.2.length=ws.length
 |0,i,c,out,_,_,q,_=>by omega
 |n+1,i,c,out,k,u,q,v=>by
  refine Ws (λe=>?_) λe=>Wg (by grind);have e:i<ws.length:=Wz e;rw[Xd (n:=i+1) aa aa];have next:=λs x=>XiC hN f ws o j g h n (i+1) s (out++[x]) aa aa aa (by simp_all)
  refine Ok.get k e λp _=>Iu (Ws (λ_=>Ok.get k e λp _=>?_) λ_=>W8 aa (next _ _));refine WH (XlP hN f (w:=⟨_,_,_,_,_,_⟩) (h.ql f.hb) (h.wl f.hb) p) λy _ _=>Iu (Ws (λ_=>W8 aa (next _ _)) λ_=>W8 aa (next _ _))
structure OM(rs ws:List Int)(r:Wo×List Int×List Int×WP×Int):Prop where
 hb:HB r.1
 len:r.2.2.2.2=0->r.2.1.length=rs.length/\r.2.2.1.length=ws.length
 no:r.2.2.2.2≠0->r.2.1=[]/\r.2.2.1=[]
def QlT(hN:NB N){h:Wo}(hb:HB h){rs ws:List Int}(L:rs.length<=1000000)(hw:ws.length<=1000000):Ok (QdR N h rs ws) (OM rs ws):=by
 have G:=hN;unfold NB at G;have bad:∀e:Int,e≠0->OM rs ws (zH,[],[],⟨0,0,0,0,0,0⟩,e):=λe v=>⟨Kh,λh=>absurd h v,λ_=>⟨rfl,rfl⟩⟩
 refine WH (YR (N:=N) aa hb.1 hb.2) λb _ _=>Ws (λ_=>Wg (bad 1 ae)) λ_=>Iu ?_;refine WH (Xbw hN hb L) λb _ _=>Ws (λ_=>Wg (bad 19 ae)) λ_=>?_;refine WH (Xbw hN hb hw) λb _ _=>Ws (λ_=>Wg (bad 19 ae)) λ_=>?_;refine WH (XlM hN hb) λy4 _ H=>?_;have⟨M,l,D⟩:=H;have z:=D.st;refine WH (XlN hN z L D.ci) λR _ I=>Ws (λv=>Wg (bad _ (by simp_all))) λv=>?_;have⟨S,c2,U⟩:=I (by simp_all);have V:=D.sc;refine WH (Xp5 hN z S aa aa) λg _ J=>Ws (λv=>Wg (bad _ (by simp_all))) λv=>?_;have k:=J (by simp_all);refine WH (XiC hN z ws hw R g k N 0 _ [] aa aa aa rfl) λA _ B=>?_;have W:CI M l (WD.mk g.1.h g.1.o g.1.t g.1.q g.1.d (WP.mk g.1.r.j g.1.r.K g.1.r.F g.1.r.E A.1 g.1.r.y)):=by obtain⟨O,s,u⟩:=k.obj;exact⟨k.conf,k.wlen,k.plen,k.spc,k.old,k.tk,k.tnd,k.knd,k.qnd,⟨O,s,⟨u.old,u.queue,u.fit,u.apart,u.taken,u.free⟩⟩⟩
 refine WH (Xol hN z W) λY _ ⟨Z,f2,f3,f4,f5⟩=>?_;refine WH (Xom hN (h0:=M) z.hb D.pr Z f2 f4) λf _ ⟨g1,g2⟩=>?_;have fin:∀x:Int,OM rs ws ((Wo.mk f.h.c f.h.w f.h.p (wI (1-f.h.s)) x),R.2.1,A.2,f.r,0):=λx=>⟨g1,λ_=>⟨U,B⟩,λh=>absurd rfl h⟩
 refine Iu (Ws (λht=>?_) λ_=>Wg (fin _));have ht:0<(f.t.length:Int):=Wz ht;rw[g2]at ht⊢;rw[Xd aa aa];exact Ok.get aa aa λp _=>Wg (fin _)
end
def ZA{α σ:Type}(q:σ->Nat->α->Bool)(nxp:σ->α->σ):σ->Nat->List α->Bool
 |_,_,[]=>true
 |s,k,x::l=>q s k x&&ZA q nxp (nxp s x) (k+1) l
def ZV{α:Type}(q:α->Bool):∀(k:Nat)(l:List α),ZA (λ(_:Unit) _ x=>q x) (λs _=>s) () k l=l.all q
 |_,[]=>rfl
 |k,x::l=>by rw[ZA,ZV q (k+1) l,List.all_cons]
def JQ{α σ:Type}{l:List α}{F:Nat->σ->Int->Option (Ex Bool Unit)}{q:σ->Nat->α->Bool}{nxp:σ->α->σ}{I:σ->Prop}(f:∀(n:Nat)(s:σ)(k:Nat)(p:α),I s->l[k]? = some p->F (n+1) s (k:Int)=bif q s k p then F n (nxp s p) ((k+1:Nat):Int)else some (.ret false))(g:∀(n:Nat)(s:σ),F (n+1) s (l.length:Int)=some (.nxt ()))(j:∀s k p,I s->l[k]? = some p->q s k p=true->I (nxp s p)):∀(n:Nat)(s:σ)(k:Nat),I s->k<=l.length->l.length-k<n->F n s (k:Int)=some (bif ZA q nxp s k (l.drop k)then .nxt ()else .ret false)
 |0,s,k,_,_,r=>by omega
 |n+1,s,k,o,v,r=>by
  by_cases h:k<l.length
  .have e:=Wc h;rw[f n s k _ o e,Wu h,ZA];cases u:q s k l[k]with
   |false=>rfl
   |true=>exact JQ f g j n _ (k+1) (j s k _ o e u) aa aa
  obtain rfl:k=l.length:=aa;rw[g,UK (Uf _)];rfl
def Jt{α:Type}{l:List α}{F:Nat->Int->Option (Ex Bool Unit)}{q:Nat->α->Bool}(f:∀(n:Nat)(k:Nat)(p:α),l[k]? = some p->F (n+1) (k:Int)=bif q k p then F n ((k+1:Nat):Int)else some (.ret false))(g:∀(n:Nat),F (n+1) (l.length:Int)=some (.nxt ())){n:Nat}(j:l.length<n):F n 0=some (bif ZA (λ(_:Unit)=>q) (λs _=>s) () 0 l then .nxt ()else .ret false):=by have h:=JQ (F:=λn (_:Unit) i=>F n i) (q:=λ_=>q) (nxp:=λs _=>s) (I:=λ_=>True) (l:=l) (λn s k p _ e=>f n k p e) (λn _=>g n) (λ_ _ _ _ _ _=>trivial) n () 0 trivial aa aa;assumption
def Xn{k:Nat}{n:Nat}(h:k<n):decide ((k:Int)<(n:Int))=true:=Wd aa
def XB(n:Nat):decide ((n:Int)<(n:Int))=false:=We aa
def XC{α:Type}{l:List α}{k:Nat}{p:α}(h:l[k]? = some p):k<l.length:=(Iv.1 h).1
def Xg{k:Nat}(h:k<=140737488355328):wI ((k:Int)+1)=((k+1:Nat):Int):=by rw[Xd aa aa];omega
def XbZ(e:WQ):Bool:=!decide (e.G<1)&&(!decide (e.G>4294967295)&&(e.V||!(e.a != 0)))
def YX(l:List WQ):Bool:=l.all XbZ&&decide (l.length<=64)
def XS(l:List WQ):List Int:=(l.filter (·.V)).map (·.a)
def Zo{N:Nat}{t:Wr}(g:t.e.length<=1000000)(hN:1000000<N):Qch N t=some (YX t.e):=by
 have h:=Jt (l:=t.e) (F:=Qdo N t) (q:=λ_=>XbZ) (λn k p e=>?_) (λn=>?_) (n:=N) aa
 .rw[Qch,h,Xa,ZV,YX];cases t.e.all XbZ
  .rw[Wa,XD];rfl
  rw[Wb,Xq,W5];congr 1;exact decide_eq_decide.2 aa
 .have f:=XC e;rw[Qdo,Xn f,Wb,Xe,e,Xa,Xg aa];unfold XbZ;cases decide (p.G<1)<;>cases decide (p.G>4294967295)<;>cases p.V<;>cases (p.a != 0)<;>rfl
 simp[Qdo,XB,Wa]
def XcT{N:Nat}{t:Wr}(f:t.e.length<=1000000)(hN:1000000<N)(g:YX t.e=true):∀(n k:Nat)(v:List Int),k<=t.e.length->t.e.length-k<n->v.length<=k ->
 Qbw N t n (k:Int) v=some (v++XS (t.e.drop k))
 |0,k,v,_,j,_=>by omega
 |n+1,k,v,p,j,o=>by
  rw[Qbw];by_cases h:k<t.e.length
  .rw[Xn h,Wb,Zo f hN,Xa,g,Wb,Xe,Wc h,Xa,Xa,Xg aa,Wu h,XS];cases q:t.e[k].V
   .rw[Wa,XcT f hN g n (k+1) v aa aa aa,UV (by simp_all)];rfl
   rw[Wb,Xc aa,XcT f hN g n (k+1) _ aa aa (by simp_all),Uw aa];simp[XS]
  obtain rfl:k=t.e.length:=aa;simp[XS]
def Yr{N:Nat}{t:Wr}(f:t.e.length<=1000000)(hN:1000000<N):Qbt N t=some (bif YX t.e then XS t.e else[]):=by
 rw[Qbt];cases g:YX t.e
 .obtain⟨m,rfl⟩:∃m,N=m+1:=⟨N-1,aa⟩
  rw[Qbw,Zo f hN,g];by_cases h:0<t.e.length
  .rw[show decide ((0:Int)<(t.e.length:Int))=true from Wd aa,Wb,Xa,Wa,Xa];rfl
  rw[show decide ((0:Int)<(t.e.length:Int))=false from We aa,Wa,Xa];rfl
 have h:=XcT f hN g N 0 [] aa aa ab;rw[show((0:Nat):Int)=0 from rfl,WY,Uh]at h;simp[h,Xa]
def VZ(l:List WQ):(XS l).length<=l.length:=by unfold XS;grind
def Jf{l:List WQ}(h:YX l=true):l.length<=64:=by unfold YX at h;simp_all
def Xa4{l:List WQ}(h:YX l=true){e:WQ}(f:e∈l):1<=e.G/\e.G<=4294967295/\(e.V=false->e.a=0):=by unfold YX at h;rw[W7,W9]at h;have:=h.1 e f;unfold XbZ at this;grind
def YE(l:List WQ)(i g:Int):Int×Int:=
 if YX l=false then(0,1)else if i<0\/(l.length:Int)<=i\/g<1 then(0,6)else
 match l[i.toNat]? with
 |none=>(0,6)
 |some e=>if g>e.G then(0,6)else if g<e.G then(0,8)else if e.V then(e.a,0)else(0,8)
def Ka{N:Nat}{t:Wr}(h:t.e.length<=1000000)(hN:1000000<N)(i g:Int):Qel N t i g=some (YE t.e i g):=by
 rw[Qel,Zo h hN,Xa,YE];cases k:YX t.e
 .rfl
 simp only[Wi,Wa,Uv,Bool.true_eq_false,if_false];by_cases h0:i<0
 .simp_all
 by_cases o:i>=(t.e.length:Int)
 .simp_all
 by_cases j:g<1
 .simp_all
 have f:i.toNat<t.e.length:=aa;rw[Wk j,Wk aa,X0 aa aa,Xa,Wc f];simp only[Xa];grind
def Ju{α σ:Type}{q:σ->Nat->α->Bool}{nxp:σ->α->σ}:∀(l:List α)(s:σ)(k:Nat),ZA q nxp s k l=true↔∀i p,l[i]? = some p->q ((l.take i).foldl nxp s) (k+i) p=true
 |[],s,k=>by simp[ZA]
 |x::l,s,k=>by
  rw[ZA,W7,Ju l (nxp s x) (k+1)];constructor
  .rintro⟨e,f⟩ i p hp;cases i with
   |zero=>simp_all
   |succ i=>grind
  intro h;refine⟨h 0 x rfl,λi p hp=>?_⟩;have:=h (i+1) p (by exact hp);grind
def Xon(l:List Int):Bool:=l.all λp=>!decide (p<0)&&!decide (p>4095)
def stQ(iss:List Int)(s:Int)(i:Nat)(p:UA):Bool:=!decide (p.J<=s)&&(!decide (p.J>(iss.length:Int))&&(!((iss.getD (p.J-1).toNat 0) != (i:Int))&&(p.V==(p.a != 0))))
def stB(iss:List Int)(l:List UA):Bool:=ZA (stQ iss) (λ_ p=>p.J) 0 0 l
def neQ(n:Nat)(s:Int)(i:Nat)(p:UG):Bool:=(!((i:Int)==0)||(!(p.O != 0)&&p.B0))&&(!decide (p.O<s)&&(!decide (p.O>(n:Int))&&(!decide (p.C0<0)&&!decide (p.C0>64))))
def neB(n:Nat)(l:List UG):Bool:=ZA (neQ n) (λ_ p=>p.O) 0 0 l
def Ky(l:List UA)(f t:Nat):Nat:=((l.drop f).take (t-f)).countP (·.V)
def toL(a:Wm)(i:Nat):Int:=match a.x[i+1]? with|some p=>p.O|none=>a.S.length
def XlQ(a:Wm)(_:Unit)(i:Nat)(p:UG):Bool:=!decide (((Ky a.S p.O.toNat (toL a i).toNat:Nat):Int)>p.C0)
def XhC(a:Wm):Bool:=ZA (XlQ a) (λs _=>s) () 0 a.x
def YY(a:Wm):Bool:=!decide ((a.i.length:Int)>4096)&&(!decide ((a.x.length:Int)>64)&&((!((a.x.length:Int)==0)||!decide ((a.S.length:Int)>0))&&(Xon a.i&&(stB a.i a.S&&(neB a.S.length a.x&&XhC a)))))
def LBp(a:Wm):Prop:=a.S.length<=1000000/\a.x.length<=1000000/\a.i.length<=1000000
def VD{n:Nat}{l:List UG}(h:neB n l=true){i:Nat}{p:UG}(hp:l[i]? = some p):0<=p.O/\p.O<=n/\0<=p.C0/\p.C0<=64/\(i=0->p.O=0/\p.B0=true)/\∀g,l[i+1]? = some g->p.O<=g.O:=by
 have j:=(Ju l (0:Int) 0).1 h;have inv:∀(k:Nat)(p:UG),l[k]? = some p->0<=p.O:=by
  intro k;induction k with
  |zero=>intro p hp;have:=j 0 p hp;unfold neQ at this;simp_all
  |succ k q=>
   intro p hp;have r:k<l.length:=by have:=XC hp;omega
   have e:=Wc r;have s:=q _ e;have f:=j (k+1) p hp;rw[List.take_add_one,e]at f;simp only[List.foldl_append,Option.toList,Ix,List.foldl_nil]at f;unfold neQ at f;grind
 have h0:=j i p hp;unfold neQ at h0;simp at h0;refine⟨inv i p hp,aa,aa,aa,λu=>?_,λg o=>?_⟩
 .simp_all
 have f:=j (i+1) g o;rw[List.take_add_one,hp]at f;unfold neQ at f;simp_all
def Xd8{iss:List Int}{l:List UA}(h:stB iss l=true){i:Nat}{p:UA}(hp:l[i]? = some p):(i:Int)+1<=p.J/\p.J<=iss.length/\iss.getD (p.J-1).toNat 0=i/\(p.V=true↔p.a≠0):=by
 have g:=(Ju l (0:Int) 0).1 h;have inv:∀(k:Nat)(p:UA),l[k]? = some p->(k:Int)+1<=p.J:=by
  intro k;induction k with
  |zero=>intro p hp;have:=g 0 p hp;unfold stQ at this;simp at this;have:=WM this.1;omega
  |succ k j=>
   intro p hp;have o:k<l.length:=by have:=XC hp;omega
   have e:=Wc o;have q:=j _ e;have f:=g (k+1) p hp;rw[List.take_add_one,e]at f;simp only[List.foldl_append,Option.toList,Ix,List.foldl_nil]at f;unfold stQ at f;simp at f;omega
 have h0:=g i p hp;unfold stQ at h0;simp_all
structure OQ(a:Wm):Prop where
 iss:a.i.length<=4096
 sc:a.x.length<=64
 none:a.x.length=0->a.S.length=0
 issr:∀x∈a.i,0<=x/\x<=4095
 st:stB a.i a.S=true
 ne:neB a.S.length a.x=true
 cap:XhC a=true
def Y6{a:Wm}:YY a=true↔OQ a:=by
 unfold YY Xon;simp only[W7,IY,IH,Iw,W9,WX];constructor
 .rintro⟨o,p,q,r,g,j,k⟩;exact⟨aa,aa,λe=>aa,λx f=>by simp_all,g,j,k⟩
 intro h;exact⟨by have:=h.iss;omega,by have:=h.sc;omega,by have:=h.none;omega,λx f=>by have:=h.issr x f;omega,h.st,h.ne,h.cap⟩
def OQ.slots{a:Wm}(h:OQ a):a.S.length<=a.i.length:=by
 by_cases f:a.S.length=0
 .omega
 have e:=Wc (show a.S.length-1<a.S.length by omega);have:=Xd8 h.st e;omega
def Xe8{N:Nat}{a:Wm}(j:a.S.length<=1000000)(t:Nat)(ht:t<=a.S.length):∀(n f c:Nat),t-f<n->c<=f->f<=1000000->Qew N a (t:Int) n (c:Int) (f:Int)=some (((c+Ky a.S f t:Nat):Int))
 |0,f,c,o,_,_=>by omega
 |n+1,f,c,o,p,q=>by
  rw[Qew];by_cases h:f<t
  .have g:f<a.S.length:=aa;rw[show decide ((f:Int)<(t:Int))=true from Wd aa,Wb,Xe,Wc g,Xa,Xg aa,Xg aa];have e:Ky a.S f t=(if a.S[f].V then 1 else 0)+Ky a.S (f+1) t:=by unfold Ky;rw[Wu g,show t-f=(t-(f+1))+1 by omega,List.take_succ_cons,List.countP_cons];omega
   cases k:a.S[f].V
   .rw[Wa,Xe8 j t ht n (f+1) c aa aa aa,e,k];simp
   rw[Wb,Xe8 j t ht n (f+1) (c+1) aa aa aa,e,k];grind
  rw[show decide ((f:Int)<(t:Int))=false from We aa,Wa];unfold Ky;simp_all
def XiD{N:Nat}{a:Wm}(e:a.S.length<=1000000)(hN:1000000<N){f t:Int}(g:0<=f)(j:f<=1000000)(h:0<=t)(k:t<=a.S.length):Qg8 N a f t=some ((Ky a.S f.toNat t.toNat:Nat):Int):=by obtain⟨f,rfl⟩:=Um g;obtain⟨t,rfl⟩:=Um h;rw[Qg8];have:=Xe8 (N:=N) e t aa N f 0 aa aa aa;rw[show((0:Nat):Int)=0 from rfl]at this;simp[this,Xa]
def Xri{N:Nat}{a:Wm}{i:Nat}(e:i<=1000000):QiA N a (i:Int)=some (toL a i):=by
 rw[QiA,Xg aa,toL];by_cases h:i+1<a.x.length
 .rw[Xn h,Wb,Xe,Wc h,Xa]
 grind
def Xrj{a:Wm}(h:neB a.S.length a.x=true)(i:Nat):0<=toL a i/\toL a i<=a.S.length:=by
 unfold toL;cases e:a.x[i+1]? with
 |none=>simp
 |some p=>have:=VD h e;simp_all
def ZB{N:Nat}{a:Wm}(v:LBp a)(hN:1000000<N):Qcg N a=some (YY a):=by
 have⟨h,w,hl3⟩:=v;have o:=Jt (l:=a.i) (F:=Qd1 N a) (q:=λ_ p=>!decide (p<0)&&!decide (p>4095)) (λn k p e=>by
  have f:=XC e
  rw[Qd1,Xn f,Wb,Xe,e,Xa,Xa,Xg aa]
  cases decide (p<0)<;>cases decide (p>4095)<;>rfl) (λn=>by rw[Qd1,XB,Wa]) (n:=N) aa
 have y:=JQ (l:=a.S) (F:=λn s i=>Qaw N a n s i) (q:=stQ a.i) (nxp:=λ_ p=>p.J) (I:=λs=>0<=s) (λn s k p u e=>by
  have f:=XC e
  show Qaw N a (n+1) s (k:Int)=_
  rw[Qaw,Xn f,Wb,Xe,e,Xa,Xg aa]
  unfold stQ
  cases g1:decide (p.J<=s)
  .cases g2:decide (p.J>(a.i.length:Int))
   .have g1:=WM g1
    have g2:=WM g2
    rw[Wa,Wa,Xd aa aa,X0 aa aa,Xa]
    have ge:a.i[(p.J-1).toNat]'aa=a.i.getD (p.J-1).toNat 0:=by
     rw[Wq,Wc aa];rfl
    rw[ge]
    cases (a.i.getD (p.J-1).toNat 0 != (k:Int))<;>cases (p.V==(p.a != 0))<;>rfl
   .rfl
  .rfl) (λn s=>by show Qaw N a (n+1) s _=_;rw[Qaw,XB,Wa]) (λs k p u e j=>by
   unfold stQ at j
   simp only[W7,IY,IH]at j
   have:=j.1
   omega) N 0 0 aa aa aa
 have z:=JQ (l:=a.x) (F:=λn s i=>Qap N a n s i) (q:=neQ a.S.length) (nxp:=λ_ p=>p.O) (I:=λ_=>True) (λn s k p u e=>by
  have f:=XC e
  show Qap N a (n+1) s (k:Int)=_
  rw[Qap,Xn f,Wb,Xe,e,Xa,Xg aa]
  unfold neQ
  cases ((k:Int)==0)<;>cases (p.O != 0)<;>cases p.B0<;>cases decide (p.O<s)<;>cases decide (p.O>(a.S.length:Int))<;>cases decide (p.C0<0)<;>cases decide (p.C0>64)<;>rfl) (λn s=>by show Qap N a (n+1) s _=_;rw[Qap,XB,Wa]) (λ_ _ _ _ _ _=>trivial) N 0 0 trivial aa aa
 rw[ZV]at o;rw[Qcg,Xz,o,Xa];have A:Qaw N a N 0 0=some (bif stB a.i a.S then .nxt ()else .ret false):=y;have e3:Qap N a N 0 0=some (bif neB a.S.length a.x then .nxt ()else .ret false):=z;unfold YY Xon;have main:(exK (bif (a.i.all λp=>!decide (p<0)&&!decide (p>4095))then Ex.nxt ()else Ex.ret false) (λr=>some r) λH=>
  bnd (Qaw N a N 0 0) λe=>exK e (λr=>some r) λK=>
  bnd (Qap N a N 0 0) λe=>exK e (λr=>some r) λB=>
  bnd (Qdn N a N 0) λe=>exK e (λr=>some r) λD=>some true)=some ((a.i.all λp=>!decide (p<0)&&!decide (p>4095))&&(stB a.i a.S&&(neB a.S.length a.x&&XhC a))):=by
  cases (a.i.all λp=>!decide (p<0)&&!decide (p>4095))
  .rw[Wa,XD];rfl
  rw[Wb,Xq,W5,A,Xa]
  cases stB a.i a.S
  .rw[Wa,XD];rfl
  rw[Wb,Xq,W5,e3,Xa]
  cases g:neB a.S.length a.x
  .rw[Wa,XD];rfl
  rw[Wb,Xq,W5]
  have E:=Jt (l:=a.x) (F:=Qdn N a) (q:=XlQ a ()) (λn k p e=>by
   have f:=XC e
   have G:=VD g e
   have ht:=Xrj g k
   rw[Qdn,Xn f,Wb,Xe,e,Xa,Xri aa,Xa,XiD h hN G.1 aa ht.1 ht.2,Xa,Xa,Xg aa]
   unfold XlQ
   cases decide (((Ky a.S p.O.toNat (toL a k).toNat:Nat):Int)>p.C0)<;>rfl) (λn=>by rw[Qdn,XB,Wa]) (n:=N) aa
  rw[E,Xa]
  show exK (bif XhC a then Ex.nxt ()else Ex.ret false) _ _=_
  cases XhC a
  .rw[Wa,XD]
  .rw[Wb,Xq]
 grind
def zL:Wm:=⟨[],[],[]⟩
def X7(l:List UA):List Int:=(l.filter (·.V)).map (·.a)
def Xbx(l:List UA):(X7 l).length<=l.length:=by unfold X7;grind
section
variable {N:Nat}{a:Wm}
def XcU(e:LBp a)(hN:1000000<N)(f:YY a=true):∀(n k:Nat)(v:List Int),k<=a.S.length->a.S.length-k<n->v.length<=k ->
 Qbx N a n (k:Int) v=some (v++X7 (a.S.drop k))
 |0,k,v,_,g,_=>by omega
 |n+1,k,v,p,g,j=>by
  have o:=e.1;rw[Qbx];by_cases h:k<a.S.length
  .rw[Xn h,Wb,ZB e hN,Xa,f,Wb,Xe,Wc h,Xa,Xa,Xg aa,Wu h,X7];cases q:a.S[k].V
   .rw[Wa,XcU e hN f n (k+1) v aa aa aa,UV (by simp_all)];rfl
   rw[Wb,Xc aa,XcU e hN f n (k+1) _ aa aa (by simp_all),Uw aa];simp[X7]
  obtain rfl:k=a.S.length:=aa;simp[X7]
def Zw(e:LBp a)(hN:1000000<N):Qc1 N a=some (bif YY a then X7 a.S else[]):=by
 rw[Qc1];cases f:YY a
 .obtain⟨m,rfl⟩:∃m,N=m+1:=⟨N-1,aa⟩
  rw[Qbx,ZB e hN,f];by_cases h:0<a.S.length
  .rw[show decide ((0:Int)<(a.S.length:Int))=true from Wd aa,Wb,Xa,Wa,Xa];rfl
  rw[show decide ((0:Int)<(a.S.length:Int))=false from We aa,Wa,Xa];rfl
 have h:=XcU e hN f N 0 [] aa (by have:=e.1;omega) ab;rw[show((0:Nat):Int)=0 from rfl,WY,Uh]at h;simp[h,Xa]
def Jp(a:Wm):UG:=a.x.getD (a.x.length-1) ⟨0,0,false⟩
def Xa5(h:a.x.length≠0)(e:a.x.length<=1000000):Xb a.x (wI ((a.x.length:Int)-1))=some (Jp a):=by rw[Xd aa aa,show(a.x.length:Int)-1=((a.x.length-1:Nat):Int) by omega,Xe,Jp,Wq,Wc aa];rfl
def Yp(a:Wm)(id:Int):Wm×Int×Int×Int:=
 if YY a=false then(zL,0,0,1)else if id=0 then(zL,0,0,1)else if a.x.length=0 then(zL,0,0,9)
 else if(Jp a).C0<=((Ky a.S (Jp a).O.toNat a.S.length:Nat):Int)then(zL,0,0,10)
 else if a.i.length=4096 then(zL,0,0,18)
 else(⟨a.S++[⟨(a.i.length:Int)+1,id,true⟩],a.x,a.i++[(a.S.length:Int)]⟩,(a.S.length:Int),(a.i.length:Int)+1,0)
def XcV(f:YY a=true)(h:a.x.length≠0):0<=(Jp a).O/\(Jp a).O<=a.S.length:=by
 have g:=Y6.1 f;have e:=Wc (show a.x.length-1<a.x.length by omega);have:=VD g.ne e;have j:Jp a=a.x[a.x.length-1]:=by unfold Jp;rw[Wq,e];rfl
 simp_all
def Jv(o:LBp a)(hN:1000000<N)(id:Int):Qej N a id=some (Yp a id):=by
 have⟨e,f,hl3⟩:=o;rw[Qej,ZB ⟨e,f,hl3⟩ hN,Xa,Yp];cases p:YY a
 .rfl
 rw[Wi,Wa,Wk ab];by_cases k:id=0
 .subst k;rfl
 rw[Wk k,show(id==0)=false by simp_all,Wa];by_cases g:a.x.length=0
 .rw[Wp g,g];rfl
 rw[Wk g,show((a.x.length:Int)==0)=false by simp_all,Wa,Xa5 g f,Xa];have ht:=XcV p g;rw[XiD e hN ht.1 aa aa aa,Xa,Xa,UT];by_cases h:(Jp a).C0<=((Ky a.S (Jp a).O.toNat a.S.length:Nat):Int)
 .rw[Wp h,Wd (show((Ky a.S (Jp a).O.toNat a.S.length:Nat):Int)>=_ from h),Wb];rfl
 rw[Wk h,We (show¬((Ky a.S (Jp a).O.toNat a.S.length:Nat):Int)>=_ from h),Wa];by_cases j:a.i.length=4096
 .rw[Wp j,j];rfl
 rw[Wk j,show((a.i.length:Int)==4096)=false by grind,Wa,Xc aa,Xc aa,Xc aa,Xc aa,Xd aa aa]
def ZL:LBp zL:=⟨by simp[zL],by simp[zL],by simp[zL]⟩
def XiE(g:LBp a)(id:Int):LBp (Yp a id).1:=by
 have⟨h,e,hl3⟩:=g;unfold Yp;cases j:YY a
 .exact ZL
 have f:=Y6.1 j;have k:=f.slots;have o:=f.iss;split
 .exact ZL
 split
 .exact ZL
 split
 .exact ZL
 split
 .exact ZL
 split
 .exact ZL
 refine⟨?_,e,?_⟩
 .simp;omega
 grind
def Ze(a:Wm)(i g:Int):Int×Int:=
 if YY a=false then(0,1)else if g<1\/(a.i.length:Int)<g then(0,6)else
 if a.i.getD (g-1).toNat 0≠i then(0,6)else if(a.S.length:Int)<=i then(0,7)else
 match a.S[i.toNat]? with
 |none=>(0,7)
 |some p=>if p.J≠g then(0,7)else if p.V then(p.a,0)else(0,8)
def Vc(q:LBp a)(hN:1000000<N)(i g:Int):QeZ N a i g=some (Ze a i g):=by
 have h:=q;have⟨s,u,hl3⟩:=q;rw[QeZ,ZB h hN,Xa,Ze];cases v:YY a
 .rfl
 have w:=Y6.1 v;rw[Wi,Wa,Wk ab];by_cases j:g<1
 .rw[Wd j,Wb,Wp (.inl j)]
 rw[We j,Wa];by_cases k:g>(a.i.length:Int)
 .rw[Wd k,Wb,Wp (.inr k)]
 have e:(g-1).toNat<a.i.length:=aa;rw[We k,Wa,Wk aa,Xd aa aa,X0 aa aa,Xa];have ge:a.i[(g-1).toNat]=a.i.getD (g-1).toNat 0:=by rw[Wq,Wc e];rfl
 have r:=w.issr _ (WL e);rw[ge]at r⊢;by_cases y:a.i.getD (g-1).toNat 0=i
 .rw[y]at r⊢;rw[show(i != i)=false by simp,Wa,Wk ab];by_cases o:i>=(a.S.length:Int)
  .rw[Wd o,Wb,Wp o]
  have f:i.toNat<a.S.length:=aa;rw[We o,Wa,Wk aa,X0 aa aa,Xa,Wc f];simp only[Xa];by_cases p:a.S[i.toNat].J=g
  .rw[p,show(g != g)=false by simp,Wa,Wk ab];cases a.S[i.toNat].V<;>rfl
  rw[show(a.S[i.toNat].J != g)=true by simpa using p,Wb,Wp p]
 grind
def V0{i g:Int}(h:(Ze a i g).2=0):YY a=true/\0<=i/\∃p,a.S[i.toNat]? = some p/\p.J=g/\p.V=true/\(Ze a i g).1=p.a:=by
 unfold Ze at h⊢;cases j:YY a
 .rw[j]at h;cases h
 have s:=Y6.1 j;rw[j]at h;by_cases o:g<1\/(a.i.length:Int)<g
 .rw[Wp o]at h;cases h
 rw[Wk o]at h⊢;have f:(g-1).toNat<a.i.length:=aa;have ge:a.i[(g-1).toNat]=a.i.getD (g-1).toNat 0:=by rw[Wq,Wc f];rfl
 have v:=s.issr _ (WL f);by_cases k:a.i.getD (g-1).toNat 0≠i
 .rw[Wp k]at h;cases h
 rw[Wk k]at h⊢;by_cases q:(a.S.length:Int)<=i
 .rw[Wp q]at h;cases h
 rw[Wk q]at h⊢;have w:0<=i:=by have:a.i.getD (g-1).toNat 0=i:=Classical.not_not.1 k;omega
 have e:=Wc (show i.toNat<a.S.length by omega);rw[e]at h⊢;simp only at h⊢;by_cases r:a.S[i.toNat].J≠g
 .rw[Wp r]at h;cases h
 rw[Wk r]at h⊢;cases u:a.S[i.toNat].V
 .rw[u]at h;cases h
 simp_all
def Xaz(a:Wm)(i g:Int):Wm×Int:=
 if(Ze a i g).2≠0 then(zL,(Ze a i g).2)else(⟨a.S.set i.toNat ⟨g,0,false⟩,a.x,a.i⟩,0)
def Xe9(e:LBp a)(hN:1000000<N)(i g:Int):Qem N a i g=some (Xaz a i g):=by
 rw[Qem,Vc e hN,Xa,Xaz];by_cases h:(Ze a i g).2=0
 .have⟨_,h0,p,hp,_⟩:=V0 h;have:=XC hp;have f:=e.1;rw[h,show((0:Int) != 0)=false from rfl,Wa,Wk ab,Xc aa,X0 h0 aa,Xa]
 rw[show((Ze a i g).2 != 0)=true by simp_all,Wb,Wp h];rfl
def XiF(e:LBp a)(i g:Int):LBp (Xaz a i g).1:=by
 unfold Xaz;split
 .exact ZL
 exact⟨by rw[WN];exact e.1,e.2⟩
def Jw(a:Wm)(c:Int):Wm×Int:=
 if YY a=false\/c<0\/64<c then(zL,1)else if a.x.length=0 then(zL,9)else if a.x.length=64 then(zL,17)else(⟨a.S,a.x++[⟨(a.S.length:Int),c,false⟩],a.i⟩,0)
def Xa6(j:LBp a)(hN:1000000<N)(c:Int):QeS N a c=some (Jw a c):=by
 have k:=j.2.1;rw[QeS,Qha,ZB j hN,Xa,Jw];cases o:YY a
 .rw[W0,Wb,Xa,Wp (.inl rfl)];rfl
 rw[Wi,Wa];by_cases e:c<0
 .rw[Wd e,Wb,Xa,Wp (.inr (.inl e))];rfl
 by_cases f:c>64
 .rw[We e,Wa,Wd f,Wb,Xa,Wp (.inr (.inr f))];rfl
 rw[We e,Wa,We f,Wa,Xz,W0,Wb,Wk (by simp_all)];by_cases g:a.x.length=0
 .rw[Wp g,g];rw[show(((0:Nat):Int)==0)=true from rfl,Wb,Xa];rfl
 rw[Wk g,show((a.x.length:Int)==0)=false by simp_all,Wa];by_cases h:a.x.length=64
 .rw[Wp h,h];rw[show(((64:Nat):Int)==64)=true from rfl,Wb,Xa];rfl
 rw[Wk h,show((a.x.length:Int)==64)=false by grind,Wa,Xc aa,Xc aa,Xa]
def Xgk(e:LBp a)(c:Int):LBp (Jw a c).1:=by
 unfold Jw;cases f:YY a
 .exact ZL
 have:=(Y6.1 f).sc;split
 .exact ZL
 split
 .exact ZL
 split
 .exact ZL
 exact⟨e.1,by grind,e.2.2⟩
def Kt(a:Wm):Wm×Int:=
 if YY a=false then(zL,1)else if a.x.length=0 then(zL,9)else if(Jp a).B0 then(zL,9)else(⟨a.S.take (Jp a).O.toNat,a.x.take (a.x.length-1),a.i⟩,0)
def Xcd(h:LBp a)(hN:1000000<N):QfB N a=some (Kt a):=by
 have⟨g,e,hl3⟩:=h;rw[QfB,ZB ⟨g,e,hl3⟩ hN,Xa,Kt];cases j:YY a
 .rfl
 by_cases f:a.x.length=0
 .rw[Wp f,f];rfl
 have ht:=XcV j f;rw[Wk f,show((a.x.length:Int)==0)=false by simpa using f,Wa,Xa5 f e,Xa];cases k:(Jp a).B0
 .rw[Wa,QhF,Xa5 f e,Xa,Xd aa aa,Xc aa,Xc aa,Xc aa,Xc aa,Xa];rw[show((a.x.length:Int)-1).toNat=a.x.length-1 by omega];rfl
 rfl
def Xce(e:LBp a):LBp (Kt a).1:=by
 unfold Kt;split
 .exact ZL
 split
 .exact ZL
 split
 .exact ZL
 have⟨f,g,hl3⟩:=e;exact⟨by grind,by grind,hl3⟩
def XcW(rs:List Int)(B:a.S.length<=1000000):∀(n k:Nat)(c:Int)(v:List UA),k<=a.S.length->a.S.length-k<n->v.length=a.S.length->v.drop k=a.S.drop k->0<=c->c+(X7 (a.S.drop k)).length=rs.length->rs.length<=1000000 ->
 Ok (QbB N a rs n c (k:Int) v) λe=>match e with|.ret r=>r=(zL,1)|.nxt v=>v.length=a.S.length
 |0,k,c,v,_,D,_,_,_,_,_=>by omega
 |n+1,k,c,v,H,D,u,hd,w,y,g=>by
  refine W8 aa (Ws (λh=>?_) λh=>Wg u);have h:k<a.S.length:=by have:=Wz h;omega
  have j:(k:Int)<v.length:=aa;rw[Xg aa];have f:=Wu (show k<v.length by omega);have o:=Wu h;rw[hd,o]at f;have E:a.S[k]=v[k]:=(Od f).1;have G:a.S.drop (k+1)=v.drop (k+1):=(Od f).2;refine Ok.get aa j λp hp=>?_;have z:p=a.S[k]:=by rw[Xe,Wc aa,←E]at hp;exact(WE hp).symm
  rw[o]at y;refine Ws (λs=>?_) λs=>?_
  .refine XcW rs B n (k+1) c v aa aa u G.symm w ?_ g;rw[←y];unfold X7;grind
  have s:a.S[k].V=true:=by rw[←z];simpa using s
  have A:c+1+(X7 (a.S.drop (k+1))).length=rs.length:=by rw[←y];unfold X7;rw[Uw (by rw[s]),Us,Uk];omega
  refine Ok.get w aa λq _=>Ws (λ_=>Wg rfl) λ_=>Ok.get w aa λq _=>Ok.get aa j λI _=>?_;rw[Xd (n:=c+1) aa aa];refine XcW rs B n (k+1) (c+1) _ aa aa (by rw[WN];exact u) ?_ aa A g;rw[IE aa];simp_all
def XlR(j:LBp a)(hN:1000000<N){rs:List Int}(o:rs.length<=1000000):Ok (QeR N a rs) λr=>LBp r.1:=by
 have e:=j;have⟨f,g,hl3⟩:=j;rw[QeR,ZB e hN,Xa];refine Ws (λ_=>Wg ZL) λh=>?_;have h:YY a=true:=by simpa using h
 rw[Zw e hN,Xa,h,Wb];refine Ws (λ_=>Wg ZL) λk=>W8 aa ?_;have k:(rs.length:Int)=(((X7 a.S).length:Nat):Int):=by simpa using k
 refine IT (XcW rs f N 0 0 a.S aa aa rfl rfl aa (by rw[WY];omega) o) (λr q=>Wg (by rw[q];exact ZL)) λv q=>Wg ⟨?_,g,hl3⟩;simp_all
end
def TB(t:Wr):Prop:=t.e.length<=1000000
def zT:Wr:=⟨[]⟩
def XcX:TB zT:=by simp[TB,zT]
section
variable {N:Nat}{t:Wr}
def Xd9(l:List WQ):Option Nat:=l.findIdx? λe=>!e.V&&decide (e.G<4294967295)
def YI(t:Wr)(id:Int):Wr×Int×Int×Int:=
 if YX t.e=false then(zT,0,0,1)else
 match Xd9 t.e with
 |some k=>(⟨t.e.set k ⟨(t.e.getD k ⟨0,0,false⟩).G+1,id,true⟩⟩,(k:Int),(t.e.getD k ⟨0,0,false⟩).G+1,0)
 |none=>if t.e.length=64 then(zT,0,0,18)else(⟨t.e++[⟨1,id,true⟩]⟩,(t.e.length:Int),1,0)
def XiG(g:TB t)(o:YX t.e=true)(id:Int):∀(n k:Nat),k<=t.e.length->t.e.length-k<n->QbU N t id n (k:Int)=some (match (t.e.drop k).findIdx? (λe=>!e.V&&decide (e.G<4294967295))with
 |some j=>.ret (⟨t.e.set (k+j) ⟨(t.e.getD (k+j) ⟨0,0,false⟩).G+1,id,true⟩⟩,((k+j:Nat):Int),(t.e.getD (k+j) ⟨0,0,false⟩).G+1,0)
 |none=>.nxt ())
 |0,k,_,q=>by omega
 |n+1,k,s,q=>by
  unfold TB at g;rw[QbU,Xc aa];by_cases h:k<t.e.length
  .have e:=Wc h;have r:t.e.getD k ⟨0,0,false⟩=t.e[k]:=by rw[Wq,e];rfl
   have u:=Xa4 o (WL h);rw[Xn h,Wb,Xe,e];simp only[Xa];rw[Xg aa,Wu h,IO];have next:=XiG g o id n (k+1) aa aa
   have p:QbU N t id n ((k+1:Nat):Int)=some (match Option.map (λi=>i+1) ((t.e.drop (k+1)).findIdx? (λe=>!e.V&&decide (e.G<4294967295)))with
    |some j=>.ret (⟨t.e.set (k+j) ⟨(t.e.getD (k+j) ⟨0,0,false⟩).G+1,id,true⟩⟩,((k+j:Nat):Int),(t.e.getD (k+j) ⟨0,0,false⟩).G+1,0)
    |none=>.nxt ()):=by
    rw[next]
    cases (t.e.drop (k+1)).findIdx? (λe=>!e.V&&decide (e.G<4294967295))with
    |none=>rfl
    |some j=>simp only[UX];rw[show k+1+j=k+(j+1) by omega]
   cases v:t.e[k].V
   .cases w:decide (t.e[k].G<4294967295)
    .exact p
    rw[W0,Wb,Wb,Bool.and_true,Wp rfl];have f:(k:Int).toNat=k:=aa;rw[Xd aa aa,f,Xe,Iz,Wp rfl,Wp h,Xa];simp only[IM];rw[r]
   exact p
  grind
def Vd(f:TB t)(hN:1000000<N)(id:Int):QcH N t id=some (YI t id):=by
 have g:=f;unfold TB at f;rw[QcH,Zo f hN,Xa,YI];cases o:YX t.e
 .rfl
 have k:=XiG (N:=N) g o id N 0 aa aa;rw[show((0:Nat):Int)=0 from rfl,WY]at k;rw[Wi,Wa,Xc aa,k,Xa,Wk ab,Xd9];cases t.e.findIdx? (λe=>!e.V&&decide (e.G<4294967295))with
 |some j=>simp[XD,UC]
 |none=>
  simp only[Xq];rw[Xc aa];by_cases h:t.e.length=64
  .rw[Wp h,h];rfl
  rw[Wk h,show((t.e.length:Int)==64)=false by grind,Wa,Xc aa,Xc aa]
def XiH(g:TB t)(id:Int):TB (YI t id).1:=by
 unfold YI;cases f:YX t.e
 .exact XcX
 have:=Jf f;rw[Wk ab];cases Xd9 t.e with
 |some k=>show(t.e.set _ _).length<=_;grind
 |none=>
  simp only;split
  .exact XcX
  show(t.e++[_]).length<=_;grind
def V1{i g:Int}(h:(YE t.e i g).2=0):YX t.e=true/\0<=i/\∃p,t.e[i.toNat]? = some p/\p.G=g/\p.V=true/\(YE t.e i g).1=p.a:=by unfold YE at h⊢;grind
def JB(t:Wr)(i g:Int):Wr×Int:=
 if(YE t.e i g).2≠0 then(zT,(YE t.e i g).2)else(⟨t.e.set i.toNat ⟨g,0,false⟩⟩,0)
def V2(f:TB t)(hN:1000000<N)(i g:Int):QcV N t i g=some (JB t i g):=by
 unfold TB at f;rw[QcV,Ka f hN,Xa,JB];by_cases h:(YE t.e i g).2=0
 .have⟨_,h0,p,hp,_⟩:=V1 h;have:=XC hp;rw[h,show((0:Int) != 0)=false from rfl,Wa,Wk ab,QhE,Xc aa,X0 h0 aa,Xa,Xa]
 rw[show((YE t.e i g).2 != 0)=true by simp_all,Wb,Wp h];rfl
def XiI(f:TB t)(i g:Int):TB (JB t i g).1:=by
 unfold JB;split
 .exact XcX
 show(t.e.set _ _).length<=_;rw[WN];exact f
def XcY(rs:List Int)(z:t.e.length<=1000000):∀(n k:Nat)(c:Int)(v:List WQ),k<=t.e.length->t.e.length-k<n->v.length=t.e.length->v.drop k=t.e.drop k->0<=c->c+(XS (t.e.drop k)).length=rs.length->rs.length<=1000000 ->
 Ok (QbC N rs n c (k:Int) v) λv=>v.length=t.e.length
 |0,k,c,v,_,B,_,_,_,_,_=>by omega
 |n+1,k,c,v,G,B,s,hd,A,u,g=>by
  refine W8 aa (Ws (λh=>?_) λh=>Wg s);have h:k<t.e.length:=by have:=Wz h;omega
  have j:(k:Int)<v.length:=aa;rw[Xg aa];have f:=Wu (show k<v.length by omega);have o:=Wu h;rw[hd,o]at f;have D:t.e[k]=v[k]:=(Od f).1;have E:t.e.drop (k+1)=v.drop (k+1):=(Od f).2;refine Ok.get aa j λp hp=>?_;have w:p=t.e[k]:=by rw[Xe,Wc aa,←D]at hp;exact(WE hp).symm
  rw[o]at u;refine Ws (λr=>?_) λr=>?_
  .have r:t.e[k].V=true:=by rw[←w];exact r
   have y:c+1+(XS (t.e.drop (k+1))).length=rs.length:=by rw[←u];unfold XS;rw[Uw (by rw[r]),Us,Uk];omega
   refine Ok.get A aa λq _=>Ok.get aa j λH _=>?_;rw[Xd (n:=c+1) aa aa];refine XcY rs z n (k+1) (c+1) _ aa aa (by rw[WN];exact s) ?_ aa y g;rw[IE aa];simp_all
  refine XcY rs z n (k+1) c v aa aa s E.symm A ?_ g;rw[←u];unfold XS;grind
def Xea(f:TB t)(hN:1000000<N){rs:List Int}(j:rs.length<=1000000):Ok (Qc3 N t rs) λr=>r.1.e.length<=t.e.length:=by
 unfold TB at f;rw[Qc3,Zo f hN,Xa];refine Ws (λ_=>Wg ab) λg=>?_;have g:YX t.e=true:=by simpa using g
 have k:=VZ t.e;rw[Yr f hN,Xa,g,Wb];refine W8 aa (Ws (λ_=>Wg ab) λh=>W8 aa ?_);have h:(rs.length:Int)=(((XS t.e).length:Nat):Int):=by simpa using h
 refine WH (XcY rs f N 0 0 t.e aa aa rfl rfl aa (by rw[WY];omega) j) λv _ q=>Wg ?_;simp_all
def Xgl(e:TB t)(hN:1000000<N){rs:List Int}(f:rs.length<=1000000):Ok (Qc3 N t rs) λr=>TB r.1:=(Xea e hN f).mono λr h=>UO h e
def Xgm{k:Nat}(g:t.e.length<=1000+k)(id:Int):(YI t id).1.e.length<=1000+k:=by
 unfold YI;cases f:YX t.e
 .simp[zT]
 have:=Jf f;grind[WN,zT,WO]
def Xgn{k:Nat}(f:t.e.length<=1000+k)(i g:Int):(JB t i g).1.e.length<=1000+k:=by unfold JB;grind[zT,WN]
end
section
variable {N:Nat}
def ZC(h:UM):Ok (Qbd N h) λ_=>True:=by refine WH (Q:=λ_=>True) ?_ λb _ _=>Ws (λ_=>Wg trivial) λ_=>Wg trivial;exact Ws (λ_=>Ws (λ_=>Ws (λ_=>Ws (λ_=>Ws (λ_=>Wg trivial) λ_=>Wg trivial) λ_=>Wg trivial) λ_=>Wg trivial) λ_=>Wg trivial) λ_=>Wg trivial
def Xby(a:Int):Ok (QcT N a) λ_=>True:=by exact Ws (λ_=>Wg trivial) λ_=>WH (ZC _) λ_ _ _=>Ws (λ_=>Wg trivial) λ_=>Ws (λ_=>Wg trivial) λ_=>Wg trivial
def Xpi{l:List Uz}(r:Int)(g:l.length<=1000000):∀(n:Nat)(k:Int),0<=k->k<=l.length->(l.length-k).toNat<n->Ok (QfO N l r n k) λe=>∀i,e=.ret i->0<=i/\i<l.length/\∃p∈l,p.a=r
 |0,k,_,_,j=>by omega
 |n+1,k,h0,o,j=>by
  refine Ws (λf=>?_) λ_=>Wg λi e=>by grind
  have f:k<l.length:=Wz f;rw[Xd (n:=k+1) aa aa];refine Ok.get h0 f λp hp=>Ws (λh=>Wg λi e=>?_) λ_=>Xpi r g n (k+1) aa aa aa;cases e;exact⟨h0,f,p,YT hp,by simp_all⟩
def XcZ{l:List Uz}(r:Int)(e:l.length<=1000000)(hN:1000000<N):Ok (QhA N l r) λi=>i = -1\/(0<=i/\i<l.length/\∃p∈l,p.a=r):=by exact IT (Xpi r e N 0 aa aa aa) (λi q=>Wg (.inr (q i rfl))) λ_ _=>Wg (.inl rfl)
def V3{h:Wo}(hp:Ut h){a:Int}(e:IQ h a):Qgk N h a=some (pgi h.c a)/\0<=pgi h.c a/\pgi h.c a<h.p.length:=by have⟨_,f,g,_⟩:=KG hp.conf e.rng;have:=hp.pages;refine⟨?_,f,aa⟩;rw[Qgk,JP,Xa,hp.conf,Wk ab,Wp e.rng];rfl
def Xgo{h:Wo}{pins:List Uz}(hN:NB N)(hp:Ut h)(y:List Int×Int)(j:Il N h y.1)(z:pins.length<=64)(hb:HB h):∀(n:Nat)(k:Int)(v:List Int),0<=k->k<=pins.length->(pins.length-k).toNat<n->v.length=h.p.length->Ok (Qb0 N h pins y n k v) λe=>match e with|.ret b=>b=false|.nxt v=>v.length=h.p.length/\∀i,k<=i->∀p,Xb pins i=some p->IQ h p.a
 |0,k,v,_,_,A,_=>by omega
 |n+1,k,v,h0,J,A,u=>by
  have o:=hN;unfold NB at o;have B:=j.len;refine Ws (λf=>?_) λf=>Wg ⟨u,λi K p hp=>?_⟩;rotate_left
  .have:=WM f;rw[XjM aa]at hp;cases hp
  have f:k<pins.length:=Wz f;rw[Xd (n:=k+1) aa aa];have D:0<=k+1:=aa;have E:k+1<=pins.length:=aa;have G:(pins.length-(k+1)).toNat<n:=aa;refine Ok.get h0 f λp r=>?_;have same:∀q,Xb pins k=some q->q=p:=λq g=>WE (g.symm.trans r);rw[YM p.a aa aa,Xa];refine Ws (λ_=>Wg rfl) λH=>?_;have I:p.a∈y.1:=Zm (by simpa using H);have s:=j.obj.at_ _ I;refine Ok.get h0 f λq g=>?_;refine WH (XcZ _ aa aa) λ_ _ _=>Ws (λ_=>Wg rfl) λ_=>Ok.get h0 f λ_ _=>Ws (λ_=>Wg rfl) λ_=>Ok.get h0 f λ_ _=>Ws (λ_=>Wg rfl) λ_=>Ok.get h0 f λq g=>?_;obtain rfl:=same q g;have⟨e,w,L⟩:=V3 (N:=N) hp s;rw[e,Xa];refine Ok.get w aa λ_ _=>Ok.get h0 f λ_ _=>Ok.get w aa λ_ _=>?_;refine(Xgo hN hp y j z hb n (k+1) _ D E G (by rw[WN];exact u)).mono λe M=>?_;grind
def Xgp{h:Wo}(hb:HB h)(v:List Int)(g:v.length=h.p.length):∀(n:Nat)(k:Int),0<=k->k<=h.p.length->(h.p.length-k).toNat<n->Ok (Qdm N h v n k) λe=>∀b,e=.ret b->b=false
 |0,k,_,_,j=>by omega
 |n+1,k,h0,o,j=>by
  have:=hb.2;refine Ws (λf=>?_) λ_=>Wg λb e=>by grind
  have f:k<h.p.length:=Wz f;rw[Xd (n:=k+1) aa aa];exact Ok.get h0 f λ_ _=>Ok.get h0 aa λ_ _=>Ws (λ_=>Wg λb e=>by simp_all) λ_=>Xgp hb v g n (k+1) aa aa aa
structure OJ(N:Nat)(h:Wo)(pins:List Uz):Prop where
 good:Ov N h
 len:pins.length<=64
 at_:∀p∈pins,IQ h p.a
def JR(hN:NB N){h:Wo}(hb:HB h){pins:List Uz}(u:pins.length<=1000000):Ok (Qbo N h pins) λb=>b=true->OJ N h pins:=by
 have j:=hN;unfold NB at j;have k:=hb.2;refine WH (Js hN hb) λb _ g=>Ws (λ_=>Wg λe=>by grind) λo=>?_;have g:=g (by simp_all);refine Ws (λ_=>Wg λe=>by grind) λf=>?_;have f:=WM f;refine WH (Ks hN hb) λy _ r=>W8 aa ?_;refine IT (Xgo hN g.prop y r.1 aa hb N 0 _ aa aa aa ab) (λb q=>Wg λe=>?_) λv q=>?_
 .simp_all
 refine IT (Xgp hb v q.1 N 0 aa aa aa) (λb q=>Wg λe=>?_) λ_ _=>Wg λ_=>⟨g,aa,λp hp=>?_⟩
 .simp_all
 have⟨i,s,e⟩:=WJ hp;exact q.2 (i:Int) aa p (by rw[Xe,Wc s,e])
def Xgq{h:Wo}(hb:HB h)(hp:Ut h){a:Int}(j:IQ h a)(d:Int):Ok (Qcj N h a d) HB:=by have k:=hb.2;have⟨e,f,g⟩:=V3 (N:=N) hp j;rw[Qcj,Xc aa,e,Xa];exact Ok.get f g λ_ _=>Ok.get f g λ_ _=>Wg ⟨hb.1,by simp_all⟩
def Xc0(hN:NB N){h:Wo}(hb:HB h){pins:List Uz}(v:pins.length<=1000000)(a:Int):Ok (QdT N h pins a) λr=>HB r.1/\r.2.1.length<=1000000:=by
 have g:=hN;unfold NB at g;have zero:HB zH/\([]:List Uz).length<=1000000:=⟨Kh,ab⟩
 refine WH (JR hN hb v) λb _ f=>Ws (λ_=>Wg zero) λj=>?_;have f:=f (by simpa using j);refine Ws (λ_=>Wg zero) λ_=>WH (XcZ _ v aa) λi _ z=>Ws (λ_=>Wg zero) λh0=>?_;have h0:=WM h0;obtain⟨k,o,p,q,s⟩:0<=i/\i<pins.length/\∃p∈pins,p.a=a:=by
  rcases z with h|h
  .omega
  exact h
 have e:=f.at_ p q;rw[s]at e;have w:=Xgq (N:=N) hb f.good.prop e (-1);refine W8 aa (Ok.get k o λ_ _=>Ok.get k o λ_ _=>Ok.get k (by rw[WN];exact o) λ_ _=>?_);rw[Xd (n:=i+1) aa aa];refine Ws (λ_=>W8 aa (W8 aa (W8 aa (WH w λy _ u=>Wg ⟨u,?_⟩)))) λ_=>WH w λy _ u=>Wg ⟨u,?_⟩
 .simp;omega
 simp_all
def XaA{h:Wo}(hb:HB h)(a:Int):∀(n:Nat)(c k:Int),0<=k->k<=h.p.length->(h.p.length-k).toNat<n->Ok (QbP N h a n c k) λ_=>True
 |0,c,k,_,_,f=>by omega
 |n+1,c,k,h0,j,f=>by
  have:=hb.2;refine Ws (λe=>?_) λ_=>Wg trivial;have e:k<h.p.length:=Wz e;rw[Xd (n:=k+1) aa aa];have next:=λg=>XaA hb a n g (k+1) aa aa aa
  exact Ok.get h0 e λ_ _=>Ws (λ_=>Ok.get h0 e λ_ _=>Ws (λ_=>next _) λ_=>next _) λ_=>next _
def Jg(hN:NB N){h:Wo}(hb:HB h)(a:Int):Ok (Qc5 N h a) λ_=>True:=by have f:=hN;unfold NB at f;have k:=hb.2;refine WH (Js hN hb) λb _ r=>Ws (λ_=>Wg trivial) λg=>?_;refine WH (XbV hN hb a) λb _ o=>Ws (λ_=>Wg trivial) λg=>?_;have⟨hp,j⟩:=o (by simp_all);have⟨e,p,q⟩:=V3 (N:=N) hp j;refine WH (XaA hb a N 0 0 aa aa aa) λc _ _=>?_;rw[e,Xa];exact Ok.get p q λ_ _=>Ws (λ_=>Ws (λ_=>Wg trivial) λ_=>Wg trivial) λ_=>Wg trivial
def Xeb(hN:NB N){h:Wo}(hb:HB h){pins:List Uz}(u:pins.length<=1000000)(a:Int):Ok (Qge N h pins a) λr=>HB r.1/\r.2.1.length<=1000000:=by
 have g:=hN;unfold NB at g;have zero:HB zH/\([]:List Uz).length<=1000000:=⟨Kh,ab⟩
 refine WH (JR hN hb u) λb _ e=>Ws (λ_=>Wg zero) λj=>?_;have e:=e (by simp_all);refine Ws (λ_=>Wg zero) λ_=>WH (XbV hN hb a) λb _ A=>Ws (λ_=>Wg zero) λj=>?_;have⟨hp,k⟩:=A (by simp_all);have v:=Xgq (N:=N) hb e.good.prop k 1;have B:=e.len;refine WH (XcZ _ u aa) λi _ w=>?_
 have rest:Ok (α:=Wo×List Uz×Int×Int) (grd (pins.length*16<=140737488355328) <|
  jn (λ(o:List Uz)=>
   bnd (Qcj N h a 1) λp=>
   some (p,o,(wU (a+1)),0)) λz=>
  bif (decide (i>=0))then(bnd (Xb pins i) λD=>
   bnd (Xb pins i) λq=>
   z (pins.set i.toNat (Uz.mk q.a (wI (D.M+1)))))
  else grd ((pins.length+1)*16<=140737488355328) <|
  z (pins++[(Uz.mk a 1)])) λr=>HB r.1/\r.2.1.length<=1000000:=by
  refine W8 aa (Iu (Ws (λh0=>?_) λ_=>W8 aa (WH v λy _ s=>Wg ⟨s,?_⟩)))
  .have h0:0<=i:=Wz h0
   have f:i<pins.length:=by rcases w with h|h;omega;exact h.2.1
   exact Ok.get h0 f λ_ _=>Ok.get h0 f λ_ _=>WH v λy _ s=>Wg ⟨s,by simp_all⟩
  .grind
 refine Iu (Ws (λh0=>?_) λ_=>Ws (λ_=>Ws (λ_=>Wg zero) λ_=>WH (Jg hN hb a) λ_ _ _=>Ws (λ_=>Wg zero) λ_=>rest) λ_=>WH (Jg hN hb a) λ_ _ _=>Ws (λ_=>Wg zero) λ_=>rest);have h0:0<=i:=Wz h0;have f:i<pins.length:=by rcases w with h|h;omega;exact h.2.1
 exact Ok.get h0 f λ_ _=>Ws (λ_=>Wg zero) λ_=>Ws (λ_=>Ws (λ_=>Wg zero) λ_=>WH (Jg hN hb a) λ_ _ _=>Ws (λ_=>Wg zero) λ_=>rest) λ_=>WH (Jg hN hb a) λ_ _ _=>Ws (λ_=>Wg zero) λ_=>rest
end
section
variable {N:Nat}
def Xfa(hN:NB N)(c:WV)(d:WC):Ok (Qck N c d) λb=>b=true->XL d=true/\d.k≠0/\XF c (XM d)≠-1:=by
 have f:=hN;unfold NB at f;rw[Qck,Zl,Xa];refine Ws (λg=>Ws (λh=>?_) λ_=>Wg λe=>by grind) λ_=>Wg λe=>by grind
 rw[X6,Xa,ZN aa,Xa];exact Wg λe=>⟨g,by simp_all,by simp_all⟩
def Xgr(hN:NB N){h:Wo}(hb:HB h)(hp:Ut h)(n:Int):Ok (QeX N h n) λr=>HB r.1:=by
 have v:=hN;unfold NB at v;have z:=hb.2;have setP:∀(A:List Wv)(i:Nat)(p:Wv)(s b:Int),A.length<=100000->HB ⟨h.c,h.w,A.set i p,s,b⟩:=λA i p s b M=>⟨hb.1,by simp_all⟩
 refine W8 aa ?_;rw[XcM,Xa];refine WH (Xa1 aa aa) λu _ _=>?_;have fresh:Ok (α:=Wo×Int×Bool) (bnd (Qbp N h.p 1) λe=>
  bif (decide (e<0))then some ((Wo.mk (WV.mk 0 0) [] [] 0 0),0,false)
  else bif (decide (u>=Jd h.c))then some ((Wo.mk (WV.mk 0 0) [] [] 0 0),0,false)
  else bnd (QbJ N h.p e h.s) λq=>
  bnd (Xb q.1 e) λB=>
  bnd (Xb q.1 e) λD=>
  bnd (Xb q.1 e) λf=>
  some ((Wo.mk h.c h.w (q.1.set e.toNat (Wv.mk f.k f.s (wI (D.u+n)) f.P)) h.s e),(wU (wI ((wI (4096+(wI (e*h.c.W))))+B.u))),true)) λr=>HB r.1:=by
  refine WH (ZK 1 aa aa) λj _ H=>Ws (λ_=>Wg Kh) λJ=>Ws (λ_=>Wg Kh) λ_=>?_
  have K:RunOK h.p j 1:=by
   rcases H with rfl|H
   .grind
   .omega
  have L:=hp.space
  refine WH (XcO j h.s aa aa) λy _ I=>?_
  obtain⟨E,O,R,S⟩:=I.1 (I.2.2 K aa aa)
  have g:j<y.1.length:=aa
  exact Ok.get E g λ_ _=>Ok.get E g λ_ _=>Ok.get E g λ_ _=>Wg (setP _ _ _ _ _ aa)
 refine Iu (Ws (λ_=>fresh) λh0=>?_);have h0:=WM h0;have G:=hp.bump;have o:h.b<h.p.length:=by rcases G with h|h;omega;exact h.2.1
 have h0:0<=h.b:=aa;exact Ok.get h0 o λ_ _=>Ws (λ_=>fresh) λ_=>Ok.get h0 o λ_ _=>Ws (λ_=>fresh) λ_=>Ws (λ_=>fresh) λ_=>Ok.get h0 o λ_ _=>Ok.get h0 o λ_ _=>Ok.get h0 o λ_ _=>Wg (setP _ _ _ _ _ z)
def Xgs(hN:NB N){h:Wo}(hb:HB h)(hp:Ut h)(w k:Int):Ok (QfP N h w k) λr=>HB r.1:=by
 have e:=hN;unfold NB at e;have f:=hb.2;refine WH (ZK k aa aa) λj _ q=>Ws (λ_=>Wg Kh) λg=>WH (Xa1 aa aa) λu _ _=>?_;rw[XcM,Xa];refine Ws (λ_=>Wg Kh) λ_=>WH (XlE h.c j h.s w aa aa) λy _ o=>Wg ⟨hb.1,?_⟩;show y.1.length<=_;by_cases p:y.2=0
 .have:=(o.1 p).2.2.2.1;omega
 simp_all
def Xfb(hN:NB N){h:Wo}(hb:HB h)(d:WC):Ok (QcG N h d) λr=>HB r.1:=by
 have f:=hN;unfold NB at f;refine WH (YR (N:=N) aa hb.1 hb.2) λb _ hp=>Ws (λ_=>Wg Kh) λj=>?_;have hp:=hp (by simp_all);refine WH (Xfa hN _ _) λb _ _=>Ws (λ_=>Wg Kh) λ_=>?_;rw[X6,Xa,ZN aa,Xa];refine WH (Xgr hN hb hp _) λk _ o=>Iu (Ws (λ_=>WH (Xgs hN hb hp _ _) λp _ q=>?_) λ_=>?_)
 .exact Ws (λ_=>Wg Kh) λ_=>WH (Xiv hN (h:=p.1) q _ d) λg _ e=>Wg e
 exact Ws (λ_=>Wg Kh) λ_=>WH (Xiv hN (h:=k.1) o _ d) λg _ e=>Wg e
end
structure EB(x:WI):Prop where
 heap:HB x.h
 loc:LBp x.l
 glo:TB x.g
 wea:TB x.v
 pins:x.P.length<=1000000
 roots:x.R.length<=100000
def zE:WI:=⟨zH,zL,zT,zT,[],[]⟩
def Xc1:EB zE:=⟨Kh,ZL,XcX,XcX,by simp[zE],by simp[zE]⟩
section
variable {N:Nat}{x:WI}
def ZD{a:Wm}(h:LBp a):(bif YY a then X7 a.S else[]).length<=4096:=by
 cases f:YY a
 .simp
 have e:=Y6.1 f;have:=e.slots;have:=e.iss;have:=Xbx a.S;grind
def YA(l:List WQ):(bif YX l then XS l else[]).length<=64:=by
 cases e:YX l
 .simp
 have:=Jf e;have:=VZ l;grind
structure EV(N:Nat)(x:WI):Prop where
 mat:OJ N x.h x.P
 loc:YY x.l=true
 glo:YX x.g.e=true
 wea:YX x.v.e=true
def ZE(hN:NB N)(f:EB x):Ok (QbH N x) λb=>b=true->EV N x:=by have h:=hN;unfold NB at h;have o:=f.roots;refine WH (JR hN f.heap f.pins) λb _ j=>Ws (λ_=>Wg λe=>by grind) λk=>?_;have j:=j (by simp_all);rw[ZB f.loc aa,Xa];refine Ws (λ_=>Wg λe=>by grind) λp=>?_;rw[Zo f.glo aa,Xa];refine Ws (λ_=>Wg λe=>by grind) λq=>?_;rw[Zo f.wea aa,Xa];refine Ws (λ_=>Wg λe=>by grind) λr=>?_;rw[Yr f.glo aa,Xa];have s:=ZD f.loc;have u:=YA x.g.e;have w:=YA x.v.e;rw[YM _ aa aa,Xa];refine Ws (λ_=>Wg λe=>by grind) λ_=>W8 aa ?_;rw[Zw f.loc aa,Xa];refine W8 aa (W8 aa ?_);rw[Yr f.wea aa,Xa];refine W8 aa (WH (Xbw hN f.heap (by grind)) λb _ _=>Wg λ_=>⟨j,by simp_all,by simp_all,by simp_all⟩)
def Xc2(hp:x.P.length<=1000000):∀(n:Nat)(k:Int)(v:List Int),0<=k->k<=x.P.length->(x.P.length-k).toNat<n->v.length<=1000000+k->Ok (Qbm N x n k v) λr=>(r.length:Int)=v.length+(x.P.length-k)
 |0,k,v,_,_,f,_=>by omega
 |n+1,k,v,h0,g,f,h=>by refine Ws (λe=>?_) λe=>Wg (by have:=WM e;omega);have e:k<x.P.length:=Wz e;rw[Xd (n:=k+1) aa aa];refine Ok.get h0 e λp _=>W8 aa ?_;refine(Xc2 hp n (k+1) _ aa aa aa ah).mono λr j=>?_;grind
def XhD(hN:NB N)(f:EB x):Ok (Qek N x) λr=>r.length=x.R.length+(bif YY x.l then X7 x.l.S else[]).length+(bif YX x.g.e then XS x.g.e else[]).length+x.P.length:=by have h:=hN;unfold NB at h;have j:=f.roots;have hp:=f.pins;have k:=ZD f.loc;have o:=YA x.g.e;refine W8 aa ?_;rw[Zw f.loc aa,Xa];refine W8 aa ?_;rw[Yr f.glo aa,Xa];refine W8 aa (WH (Xc2 hp N 0 _ aa aa aa ah) λr _ j=>Wg ?_);grind
def XiJ(h:Wo×List Int×List Int×WP×Int)(e f:List Int)(j:Wm×Int)(o q:Wr×Int)(hp:x.P.length<=1000000)(s:x.R.length<=100000)(u:e.length<=4096)(w:f.length<=64)(y:h.2.1.length=x.R.length+e.length+f.length+x.P.length):∀(n:Nat)(k:Int)(v:List Uz),0<=k->k<=x.P.length->(x.P.length-k).toNat<n->(v.length:Int)=k->Ok (Qbc N x h e f j o q n k v) λr=>r.length=x.P.length
 |0,k,v,_,_,z,_=>by omega
 |n+1,k,v,h0,A,z,B=>by refine Ws (λg=>?_) λg=>Wg (by grind);have g:k<x.P.length:=Wz g;rw[Xd (n:=k+1) aa aa,Xd (n:=(x.R.length:Int)+(e.length:Int)) aa aa,Xd (n:=(x.R.length:Int)+(e.length:Int)+(f.length:Int)) aa aa,Xd (n:=(x.R.length:Int)+(e.length:Int)+(f.length:Int)+k) aa aa];refine Ok.get aa aa λ_ _=>Ok.get h0 g λp _=>W8 aa ?_;exact XiJ h e f j o q hp s u w y n (k+1) _ aa aa aa (by simp_all)
def VE(hN:NB N)(f:EB x):Ok (Qc4 N x) λr=>EB r.1:=by
 have j:=hN;unfold NB at j;have w:=f.roots;have hp:=f.pins;refine WH (ZE hN f) λb _ h=>Ws (λ_=>Wg Xc1) λk=>?_;have h:=h (by simpa using k);have y:=h.mat.len;have o:=ZD f.loc;have p:=YA x.g.e;have z:=YA x.v.e;refine WH (XhD hN f) λO _ s=>?_;rw[h.loc,h.glo]at s;rw[h.loc]at o;rw[h.glo]at p;rw[Yr f.wea aa,Xa];simp at s o p z⊢;refine WH (QlT hN f.heap aa aa) λA _ u=>Ws (λ_=>Wg Xc1) λB=>?_;have⟨g1,g2⟩:=u.len (by simpa using B);rw[Zw f.loc aa,Xa,Yr f.glo aa,Xa,h.loc,h.glo];simp;have D:=Xd (n:=(x.R.length:Int)+(((X7 x.l.S).length:Nat):Int)) aa aa;have E:=Xd (n:=(x.R.length:Int)+(((X7 x.l.S).length:Nat):Int)+(((XS x.g.e).length:Nat):Int)) aa aa;refine W8 aa (W8 aa (W8 aa (W8 aa ?_)));refine WH (XlR f.loc aa (by rw[Wj,Wl];omega)) λG _ H=>W8 (by rw[D,E];omega) ?_;refine WH (Xgl f.glo aa (by rw[Wj,Wl];omega)) λI _ J=>?_;refine WH (Xgl f.wea aa aa) λK _ L=>?_;refine WH (XiJ A (X7 x.l.S) (XS x.g.e) G I K hp w o p aa N 0 [] aa aa aa rfl) λq _ M=>Wg ⟨u.hb,H,J,L,?_,?_⟩
 .show q.length<=_;omega
 grind
def Xec(hN:NB N)(e:EB x)(d:WC):Ok (QeY N x d) λr=>EB r.1:=by
 refine WH (ZE hN e) λb _ k=>Ws (λ_=>Wg Xc1) λg=>?_;refine WH (Xfb hN e.heap d) λo _ h=>Iu (Ws (λ_=>WH (VE hN e) λp _ f=>Ws (λ_=>Wg Xc1) λ_=>WH (Xfb hN f.heap d) λq _ j=>?_) λ_=>?_)
 .exact Ws (λ_=>Wg Xc1) λ_=>Wg ⟨j,f.loc,f.glo,f.wea,f.pins,f.roots⟩
 exact Ws (λ_=>Wg Xc1) λ_=>Wg ⟨h,e.loc,e.glo,e.wea,e.pins,e.roots⟩
def Zx(hN:NB N)(e:EB x)(v:Int):Ok (QaB N x v) λr=>True:=by
 have f:=hN;unfold NB at f;refine WH (ZE hN e) λb _ h=>Ws (λ_=>Wg trivial) λg=>Ws (λ_=>Wg trivial) λ_=>?_;refine WH (Xby v) λy _ _=>Ws (λ_=>Wg trivial) λ_=>Ws (λ_=>?_) λ_=>Ws (λ_=>?_) λ_=>?_
 .rw[Vc e.loc aa,Xa];exact Wg trivial
 .rw[Ka e.glo aa,Xa];exact Wg trivial
 rw[Ka e.wea aa,Xa];exact Wg trivial
end
end Go.Sx
