import Derived.KernelRfl
import Derived.Test.YtokkmapiallffaaGreatMC
set_option linter.all false
namespace Go.Sx
def Ok{α:Type}(o:Option α)(P:α->Prop):Prop:=∃r,o=some r/\P r
section
variable {α β γ:Type}{P:β->Prop}
def Xa(x:α)(f:α->Option β):bnd (some x) f=f x:=by unfold bnd;rfl
def Kc(f:α->Option β):bnd none f=none:=by unfold bnd;rfl
def Xb{p:Prop}[Decidable p](h:p)(x:Option α):grd p x=x:=by unfold grd;simp_all
theorem Xt{κ:Type}(k:κ)(f:κ->γ):jn k f=f k:=by unfold jn;rfl
theorem Xs(a:α)(f:α->γ)(k:β->γ):exK (.ret a) f k=f a:=by unfold exK;rfl
theorem Xm(b:β)(f:α->γ)(k:β->γ):exK (.nxt b) f k=k b:=by unfold exK;rfl
def Xf(l:List α)(k:Nat):Xd l (k:Int)=l[k]?:=by unfold Xd;simp
def X6{l:List α}{i:Int}(e:0<=i)(f:i<l.length):Xd l i=some (l[i.toNat]'ab):=by unfold Xd;simp_all
def KA{l:List α}{i:Int}{p:α}:Xd l i=some p↔0<=i/\l[i.toNat]? = some p:=by unfold Xd;simp
def Ys{l:List α}{i:Int}{p:α}(h:Xd l i=some p):p∈l:=W3 (KA.1 h).2
def Xl1{l:List α}{i:Int}(h:¬(0<=i/\i<l.length)):Xd l i=none:=by unfold Xd;simp_all
def Wd{x:β}(h:P x):Ok (some x) P:=⟨x,rfl,h⟩
def WJ{o:Option α}{f:α->Option β}{Q:α->Prop}(h:Ok o Q)(k:∀y,o=.some y->Q y->Ok (f y) P):Ok (Sx.bnd o f) P:=by obtain⟨y,rfl,e⟩:=h;simp_all[Xa]
def Uc{p:Prop}[Decidable p]{x:Option β}(h:p)(k:Ok x P):Ok (Sx.grd p x) P:=by simp_all[Xb,h]
def Ir{κ:Type}{k:κ}{f:κ->Option β}(h:Ok (f k) P):Ok (Sx.jn k f) P:=by simp_all[Xt]
def Wn{b:Bool}{x y:Option β}(e:b=true->Ok x P)(f:b=false->Ok y P):Ok (bif b then x else y) P:=by grind
def Ok.get{l:List α}{i:Int}{f:α->Option β}(e:0<=i)(g:i<l.length)(k:∀p,Xd l i=.some p->Ok (f p) P):Ok (Sx.bnd (Xd l i) f) P:=by simp_all[X6,e,g,Xa]
def Ok.mono{o:Option β}{Q:β->Prop}(h:Ok o Q)(k:∀x,Q x->P x):Ok o P:=by obtain⟨y,rfl,e⟩:=h;exact⟨y,rfl,k y e⟩
def Ok.get_eq{o:Option β}{x:β}(h:Ok o P)(e:o=.some x):P x:=by have⟨y,f,g⟩:=h;simp_all
def Ok.isSome{o:Option β}(h:Ok o P):o≠none:=by obtain⟨y,rfl,_⟩:=h;simp
def I6{α':Type}{o:Option (Ex α' α)}{f:α'->Option β}{k:α->Option β}{Q:Ex α' α->Prop}(h:Ok o Q)(g:∀a,Q (.ret a)->Ok (f a) P)(j:∀b,Q (.nxt b)->Ok (k b) P):Ok (Sx.bnd o λe=>exK e f k) P:=by
 obtain⟨y,rfl,p⟩:=h;rw[Xa];cases y with
 |ret a=>simp_all[Xs]
 |nxt b=>simp_all[Xm]
end
def Xe{n:Int}(h:-9223372036854775808<=n)(j:n<=9223372036854775807):wI n=n:=by
 have e:wI n=if n % 18446744073709551616>=9223372036854775808 then n % 18446744073709551616-18446744073709551616 else n % 18446744073709551616:=by have f:IntKind.bits .i64=64:=rfl;have g:IntKind.signed .i64=true:=rfl;simp[wI,IntKind.wrap,f,g]
 omega
theorem XcD(n:Int):wU n=n % 18446744073709551616:=by rfl
def Xw{n:Int}(e:0<=n)(f:n<=18446744073709551615):wU n=n:=by grind[XcD]
def V0(n:Int):0<=wU n/\wU n<=18446744073709551615:=by grind[XcD]
theorem Xko(n:Int):wW n=n % 4294967296:=by rfl
def XrN{n:Int}(e:0<=n)(f:n<=4294967295):wW n=n:=by grind[Xko]
def XnR{n:Int}(g:0<=n)(j:n<=63):ZY .u64 1 n=2 ^ n.toNat:=by
 have e:IntKind.bits .u64=64:=rfl;have h:min n.toNat 64=n.toNat:=ab;have hp:(2:Int) ^ n.toNat<=2 ^ 63:=by have:2 ^ n.toNat<=2 ^ 63:=IX ab ab;exact_mod_cast this
 have f:(0:Int)<=2 ^ n.toNat:=Int.pow_nonneg ag;show IntKind.wrap .u64 (1*2 ^ min n.toNat (IntKind.bits .u64))=_;rw[e,h,Om];exact Xw f ab
def Y3(a:Int)(k:Nat)(e:k<=64)(f:0<=a):Yz .u64 a k=a / 2 ^ k:=by have g:IntKind.bits .u64=64:=rfl;show a.fdiv (2 ^ min (k:Int).toNat (IntKind.bits .u64))=_;grind
def Y4(a:Int)(k:Nat)(f:k<=63)(g:0<=a)(h:a<=18446744073709551615):Zq .u64 a (2 ^ k-1)=a % 2 ^ k:=by
 obtain⟨n,rfl⟩:=UQ g;have hb:IntKind.u64.bits=64:=rfl;show IntKind.u64.wrap ((BitVec.ofInt IntKind.u64.bits n &&& BitVec.ofInt IntKind.u64.bits (2 ^ k-1)).toNat:Int)=_;rw[hb];have e:(2:Int) ^ k-1=((2 ^ k-1:Nat):Int):=by
  have h:=Nat.one_le_two_pow (n:=k);have j:(2:Int) ^ k=((2 ^ k:Nat):Int):=by simp
  rw[j];omega
 have p:BitVec.ofInt 64 (n:Int)=BitVec.ofNat 64 n:=by simp
 have q:BitVec.ofInt 64 ((2 ^ k-1:Nat):Int)=BitVec.ofNat 64 (2 ^ k-1):=by simp
 rw[e,p,q,BitVec.toNat_and,IN,IN];have r:n % 2 ^ 64=n:=Ou ab;have hp:2 ^ k<=2 ^ 63:=IX ab f;have s:(2 ^ k-1) % 2 ^ 64=2 ^ k-1:=Ou ab;rw[r,s,Nat.and_two_pow_sub_one_eq_mod];show wU _=_;rw[Xw ab ab];simp
def PT{α:Type}(o:Option α)(P:α->Prop):Prop:=∀r,o=some r->P r
def tU(n:Int):Prop:=0<=n/\n<=18446744073709551615
def tW(n:Int):Prop:=0<=n/\n<=4294967295
def tL{α:Type}(T:α->Prop)(l:List α):Prop:=∀x∈l,T x
def tE{α β:Type}(A:α->Prop)(B:β->Prop):Ex α β->Prop
 |.ret a=>A a
 |.nxt b=>B b
section
variable {α β γ:Type}{P:β->Prop}{T:α->Prop}
def WE{x:β}(h:P x):PT (some x) P:=λr e=>Wz e▸h
def Oj:PT none P:=λr e=>by grind
def OZ{o:Option α}{f:α->Option β}{Q:α->Prop}(h:PT o Q)(k:∀y,Q y->PT (f y) P):PT (Sx.bnd o f) P:=by
 cases o with
 |none=>rw[Kc];exact Oj
 |some y=>rw[Xa];exact k y (h y rfl)
def UH{o:Option α}{f:α->Option β}(k:∀y,PT (f y) P):PT (Sx.bnd o f) P:=by
 cases o with
 |none=>rw[Kc];exact Oj
 |some y=>simp_all[Xa]
def Oh{p:Prop}[Decidable p]{x:Option β}(k:PT x P):PT (Sx.grd p x) P:=by
 unfold Sx.grd;split
 .omega
 exact Oj
def U0{κ:Type}{k:κ}{f:κ->Option β}{Q:κ->Prop}(h:Q k)(g:∀j,Q j->PT (f j) P):PT (Sx.jn k f) P:=by simp_all[Xt]
def WA{b:Bool}{x y:Option β}(e:PT x P)(f:PT y P):PT (bif b then x else y) P:=by grind
def PT.get{l:List α}{i:Int}{f:α->Option β}(h:tL T l)(k:∀p,T p->PT (f p) P):PT (Sx.bnd (Xd l i) f) P:=
 OZ (Q:=T) (λr e=>h r (Ys e)) k
def Sd{α':Type}{o:Option (Ex α' α)}{f:α'->Option β}{k:α->Option β}{A:α'->Prop}(h:PT o (tE A T))(j:∀a,A a->PT (f a) P)(p:∀b,T b->PT (k b) P):PT (Sx.bnd o λe=>exK e f k) P:=by
 refine OZ h λy g=>?_;cases y with
 |ret a=>rw[Xs];exact j a g
 |nxt b=>rw[Xm];exact p b g
def Sq{o:Option β}{r:β}(h:PT o P)(e:o=.some r):P r:=h r e
end
@[simp] def Xvm{α β:Type}(A:α->Prop)(B:β->Prop)(a:α):tE A B (.ret a)=A a:=rfl
@[simp] def Xvn{α β:Type}(A:α->Prop)(B:β->Prop)(b:β):tE A B (.nxt b)=B b:=rfl
@[simp] def Xvo(n:Nat):tU (no_index (OfNat.ofNat n):Int)=((OfNat.ofNat n:Nat)<=18446744073709551615):=by have:(no_index (OfNat.ofNat n):Int)=(n:Int):=rfl;simp only[eq_iff_iff];show(0:Int)<=n/\(n:Int)<=18446744073709551615↔n<=18446744073709551615;omega
@[simp] def Xvp(n:Nat):tW (no_index (OfNat.ofNat n):Int)=((OfNat.ofNat n:Nat)<=4294967295):=by have:(no_index (OfNat.ofNat n):Int)=(n:Int):=rfl;simp only[eq_iff_iff];show(0:Int)<=n/\(n:Int)<=4294967295↔n<=4294967295;omega
@[simp] def Xv8(n:Int):tU (wU n):=V0 n
@[simp] def XtW(n:Int):tW (wW n):=by unfold tW;rw[Xko];omega
def Xbz(n:Int):tU (IntKind.wrap .u64 n):=V0 n
def XnS(n:Int):tW (IntKind.wrap .u32 n):=XtW n
@[simp] def Xu6(a b:Int):tU (Zq .u64 a b):=Xbz _
@[simp] def Xvq(a b:Int):tU (bOr .u64 a b):=Xbz _
@[simp] def Xu7(a b:Int):tU (Xr7 .u64 a b):=Xbz _
@[simp] def Xu8(a b:Int):tU (ZY .u64 a b):=Xbz _
@[simp] def Xu9(a b:Int):tW (Zq .u32 a b):=XnS _
def XrO{a b:Int}(h:0<=a)(k:IntKind):0<=Yz k a b/\Yz k a b<=a:=by show 0<=a.fdiv _/\a.fdiv _<=a;have hp:(0:Int)<2 ^ min b.toNat (IntKind.bits k):=Int.pow_pos ag;rw[Int.fdiv_eq_ediv_of_nonneg _ ab];exact⟨Int.ediv_nonneg h ab,Int.ediv_le_self _ h⟩
@[simp] def Xva{a b:Int}(h:tU a):tU (Yz .u64 a b):=by have:=XrO (b:=b) h.1 .u64;unfold tU at *;omega
@[simp] def Xvb{a b:Int}(h:tW a):tW (Yz .u32 a b):=by have:=XrO (b:=b) h.1 .u32;unfold tW at *;omega
@[simp] def Xvc{a b:Int}(h:tU a):tU (a.tmod b):=by
 unfold tU at *;rw[IO h.1];by_cases hb:b=0
 .subst hb;rw[Int.emod_zero];exact h
 have h1:=Int.emod_nonneg a hb;have h2:a % b<=a:=by
  obtain⟨n,rfl⟩:=UQ h.1;rcases Int.natAbs_eq b with e|e
  .rw[e,←Int.natCast_emod];have:=Nat.mod_le n b.natAbs;omega
  rw[e,Int.emod_neg,←Int.natCast_emod];have:=Nat.mod_le n b.natAbs;omega
 omega
section
variable {α:Type}{T:α->Prop}
@[simp] def Xvr:tL T ([]:List α):=λx h=>by grind
@[simp] def Xvd{x:α}{l:List α}:tL T (x::l)↔T x/\tL T l:=by unfold tL;simp
@[simp] def Xts{a b:List α}:tL T (a++b)↔tL T a/\tL T b:=by unfold tL;simp;exact⟨λh=>⟨λx hx=>h x (.inl hx),λx hx=>h x (.inr hx)⟩,λh x hx=>hx.elim (h.1 x) (h.2 x)⟩
@[simp] def XdF{l:List α}{i:Nat}{x:α}(h:tL T l)(hx:T x):tL T (l.set i x):=λy hy=>by
 rcases WZ hy with h1|h1
 .exact h y h1
 simp_all
@[simp] def Xve{l:List α}{i:Nat}(h:tL T l):tL T (l.take i):=λy hy=>h y (WR hy)
@[simp] def Xvf{l:List α}{i:Nat}(h:tL T l):tL T (l.drop i):=λy hy=>h y (WS hy)
@[simp] def Xvs{n:Nat}{x:α}(h:T x):tL T (List.replicate n x):=λy hy=>by simp_all
end
@[simp] def Xvt{p:Prop}[Decidable p]{a b:Int}(ha:tU a)(hb:tU b):tU (if p then a else b):=by split;exact ha;exact hb
set_option maxHeartbeats 1000000
class TY{α:Type}(o:Option α)(H:outParam Prop)(P:outParam (α->Prop)):Prop where
 h:H->PT o P
class TE(α:Type)(T:outParam (α->Prop)):Prop where
 e:True
section
variable {α β:Type}{P:β->Prop}{T:α->Prop}{o:Option α}{H:Prop}{Q:α->Prop}
def Uv{f:α->Option β}[c:TY o H Q](h:H)(k:∀y,Q y->PT (f y) P):PT (Sx.bnd o f) P:=OZ (c.h h) k
def Sk{α':Type}{o:Option (Ex α' α)}{f:α'->Option β}{k:α->Option β}{A:α'->Prop}[c:TY o H (tE A T)](h:H)(g:∀a,A a->PT (f a) P)(j:∀b,T b->PT (k b) P):PT (Sx.bnd o λe=>exK e f k) P:=Sd (c.h h) g j
def Sl{l:List α}{i:Int}{f:α->Option β}[TE α T](h:tL T l)(k:∀p,T p->PT (f p) P):PT (Sx.bnd (Xd l i) f) P:=PT.get h k
end
def XS(s:Wi):Prop:=(tL tU) s.w
def KP(s:UF):Prop:=tU s.a
def XM(s:Wq):Prop:=(tL KP) s.S
def Yi(s:W6):Prop:=tU s.a
def Yr(s:WD):Prop:=(tL Yi) s.e
def KI(s:UB):Prop:=tU s.a
def Yt(s:Uj):Prop:=XS s.h/\XM s.l/\Yr s.g/\Yr s.v/\(tL KI) s.P/\(tL tU) s.R
def YO(s:Ws):Prop:=tW s.Map
def ZH(s:UZ):Prop:=YO s.H/\(tL tU) s.D
def V1(s:IF):Prop:=tU s.I/\tU s.B0
def XP(s:WP):Prop:=(tL ZH) s.T/\XM s.l/\Yr s.g/\Yr s.v/\(tL V1) s.m/\(tL tU) s.R
def KQ(s:Iw):Prop:=Yt s.N/\XP s.z/\(tL tU) s.w
def Xkp(s:Oi):Prop:=(tL ZH) s.Nodes
def V2(s:OA):Prop:=tU s.A/\tU s.B/\tU s.C
def Xgj(s:OE):Prop:=tU s.B0
def XhJ(s:IQ):Prop:=XM s.l
def Xfj(s:Un):Prop:=tU s.Addr
def Xkq(s:UT):Prop:=tU s.addr/\YO s.hd
def Yj(s:Wv):Prop:=XS s.h/\(tL tU) s.o/\(tL tU) s.q
def Xkr(s:Ik):Prop:=tU s.Value
@[simp] def XqF{l:List UF}{i:Nat}{x:UF}(h:tL KP l)(hx:tU x.a):tL KP (l.set i x):=XdF h hx
@[simp] def XpC{l:List W6}{i:Nat}{x:W6}(h:tL Yi l)(hx:tU x.a):tL Yi (l.set i x):=XdF h hx
@[simp] def XrP{l:List UB}{i:Nat}{x:UB}(h:tL KI l)(hx:tU x.a):tL KI (l.set i x):=XdF h hx
@[simp] def XqG{l:List IF}{i:Nat}{x:IF}(h:tL V1 l)(hx:tU x.I/\tU x.B0):tL V1 (l.set i x):=XdF h hx
@[simp] def XpD{l:List UZ}{i:Nat}{x:UZ}(h:tL ZH l)(hx:tW x.H.Map/\(tL tU) x.D):tL ZH (l.set i x):=XdF h hx
instance teTHeap:TE Wi XS:=⟨trivial⟩
instance teTSlot:TE UF KP:=⟨trivial⟩
instance teTLocals:TE Wq XM:=⟨trivial⟩
instance teTEntry:TE W6 Yi:=⟨trivial⟩
instance teTTable:TE WD Yr:=⟨trivial⟩
instance teTPin:TE UB KI:=⟨trivial⟩
instance teTEnv:TE Uj Yt:=⟨trivial⟩
instance teTHeader:TE Ws YO:=⟨trivial⟩
instance teTThing:TE UZ ZH:=⟨trivial⟩
instance teTMark:TE IF V1:=⟨trivial⟩
instance teTWorld:TE WP XP:=⟨trivial⟩
instance teTPair:TE Iw KQ:=⟨trivial⟩
instance teTGraph:TE Oi Xkp:=⟨trivial⟩
instance teTDeed:TE OA V2:=⟨trivial⟩
instance teTFact:TE OE Xgj:=⟨trivial⟩
instance teTframes:TE IQ XhJ:=⟨trivial⟩
instance teTFinding:TE Un Xfj:=⟨trivial⟩
instance teTfound:TE UT Xkq:=⟨trivial⟩
instance teTWork:TE Wv Yj:=⟨trivial⟩
instance teTField:TE Ik Xkr:=⟨trivial⟩
attribute [local simp] XS KP XM Yi Yr KI Yt YO ZH V1 XP KQ Xkp V2 Xgj XhJ Xfj Xkq Yj Xkr
def W4{p:Prop}(h:p:=by
 repeat' first
  |exact Oj
  |refine WE ?_
  |refine Oh ?_
  |refine WA ?_ ?_
  |refine Sk ?_ (λ_ _=>?_) λ_ _=>?_
  |refine Uv ?_ λ_ _=>?_
  |refine TY.h ?_
  |refine Sl ?_ λ_ _=>?_
  |(refine PT.get (T:=tU) ?_ λ_ _=>?_;.first|assumption|simp_all (maxDischargeDepth:=9))
  |refine UH λ_=>?_
 all_goals ((try clear e);simp_all (maxDischargeDepth:=9))):p:=h
instance Qpt{N e}:TY (Qgb N e) (True) (λr=>XS r.1):=⟨λh=>by
 rw[Qgb]
 exact W4⟩
instance Qpu{N e}:TY (QeW N e) (True) (λr=>Yt r.1):=⟨λh=>by
 rw[QeW]
 exact W4⟩
instance Qpv{N e}:TY (Qgc N e) (True) (λr=>XP r.1):=⟨λh=>by
 rw[Qgc]
 exact W4⟩
instance Qoe{N e}:TY (Qbj N e) (True) (λr=>KQ r.1):=⟨λh=>by
 rw[Qbj]
 exact W4⟩
instance QiE{N e}:∀n g f,TY (QbQ N e n g f) (Yr e/\(tL tU) f) (tL tU)
 |0,_,_=>⟨λh=>by rw[QbQ];exact Oj⟩
 |n+1,g,f=>⟨λh=>by
  have j:=@QiE N e n
  rw[QbQ]
  exact W4⟩
instance Qo8{N e}:TY (Qbu N e) (Yr e) (tL tU):=⟨λh=>by
 rw[Qbu]
 exact W4⟩
instance QiF{N e}:∀n g f,TY (QbR N e n g f) (XM e/\(tL tU) f) (tL tU)
 |0,_,_=>⟨λh=>by rw[QbR];exact Oj⟩
 |n+1,g,f=>⟨λh=>by
  have j:=@QiF N e n
  rw[QbR]
  exact W4⟩
instance Qo9{N e}:TY (QcL N e) (XM e) (tL tU):=⟨λh=>by
 rw[QcL]
 exact W4⟩
instance QhW{N e}:∀n g f,TY (QbH N e n g f) (Yt e/\(tL tU) f) (tL tU)
 |0,_,_=>⟨λh=>by rw[QbH];exact Oj⟩
 |n+1,g,f=>⟨λh=>by
  have j:=@QhW N e n
  rw[QbH]
  exact W4⟩
instance QoA{N e}:TY (Qcy N e) (Yt e) (tL tU):=⟨λh=>by
 rw[Qcy]
 exact W4⟩
instance Qpa{N e f}:TY (Qbk N e f) ((tL tU) e/\tU f) (λr=>tU r.1):=⟨λh=>by
 rw[Qbk]
 exact W4⟩
instance QoB{N e}:TY (Qcz N e) (YO e) (λr=>tU r.1):=⟨λh=>by
 rw[Qcz]
 exact W4⟩
instance QoC{N e}:TY (QcA N e) (tU e) (λr=>YO r.1):=⟨λh=>by
 rw[QcA]
 exact W4⟩
instance QpL{N f g}:TY (Qao N f g) (XS f/\tU g) (λr=>YO r.1):=⟨λh=>by
 rw[Qao]
 refine(UH λj=>(WA (WE ?_) (UH λp=>(WA (WE ?_) (UH λq=>(Uv ?_ λs u=>(Uv ?_ λv w=>(U0 (Q:=λk=>∀(_:Unit),PT (k ()) _) (λ_=>(UH λx=>(WA (WA (WE ?_) (WA (WA (WE ?_) (WA (WE ?_) (WE ?_))) (WE ?_))) (WA (WA (WE ?_) (WA (WE ?_) (WE ?_))) (WE ?_))))) λy e=>(WA (WA (WE ?_) (WA (WE ?_) (WA (WE ?_) (e ())))) (WA (WE ?_) (WA (WE ?_) (e ()))))))))))))
 all_goals ((try clear z);simp_all (maxDischargeDepth:=9))⟩
instance Qon{N e f g}:TY (Qbx N e f g) (True) (λr=>tU r.1):=⟨λh=>by
 rw[Qbx]
 exact W4⟩
instance QiG{N e g j}:∀n k f,TY (Qai N e g j n k f) (XS e/\(tL tU) f) (tE (λr=>(tL tU) r.1) (tL tU))
 |0,_,_=>⟨λh=>by rw[Qai];exact Oj⟩
 |n+1,k,f=>⟨λh=>by
  have p:=@QiG N e g j n
  rw[Qai]
  exact W4⟩
instance Qpb{N e f}:TY (Qag N e f) (XS e) (λr=>(tL tU) r.1):=⟨λh=>by
 rw[Qag]
 exact W4⟩
instance QhX{N e}:∀n g f,TY (QaK N e n g f) (XS e/\(tL tU) f) (tE (λr=>(tL tU) r.1) (tL tU))
 |0,_,_=>⟨λh=>by rw[QaK];exact Oj⟩
 |n+1,g,f=>⟨λh=>by
  have j:=@QhX N e n
  rw[QaK]
  exact W4⟩
instance QoD{N e}:TY (QbA N e) (XS e) (λr=>(tL tU) r.1):=⟨λh=>by
 rw[QbA]
 exact W4⟩
instance QhE{N e f}:∀n j g,TY (Qa8 N e f n j g) (XS e/\(λr=>(tL tU) r.1) f/\(tL tU) g) (tL tU)
 |0,_,_=>⟨λh=>by rw[Qa8];exact Oj⟩
 |n+1,j,g=>⟨λh=>by
  have k:=@QhE N e f n
  rw[Qa8]
  exact W4⟩
instance Qoo{N e}:TY (Qal N e) (XS e) (λr=>(tL tU) r.1):=⟨λh=>by
 rw[Qal]
 exact W4⟩
instance Qpw{N e f}:TY (QbM N e f) (XS e/\tU f) (λr=>YO r.1):=⟨λh=>by
 rw[QbM]
 exact W4⟩
instance Qpc{N e f g}:TY (Qdb N e f g) ((tL tU) e/\tU f) (λr=>(tL tU) r.1):=⟨λh=>by
 rw[Qdb]
 exact W4⟩
instance QoO{N e}:TY (Qc4 N e) (XS e) (λr=>Yj r.1):=⟨λh=>by
 rw[Qc4]
 exact W4⟩
instance QoE{N e}:TY (QcB N e) (tU e) (λr=>tU r.1):=⟨λh=>by
 rw[QcB]
 exact W4⟩
instance Qie{N e g}:∀n j f,TY (Qck N e g n j f) ((tL tU) e/\(tL tU) f) (tL tU)
 |0,_,_=>⟨λh=>by rw[Qck];exact Oj⟩
 |n+1,j,f=>⟨λh=>by
  have k:=@Qie N e g n
  rw[Qck]
  exact W4⟩
instance QoP{N e f g}:TY (Qch N e f g) ((tL tU) e/\tU f/\(tL tU) g) (λr=>(tL tU) r.1):=⟨λh=>by
 rw[Qch]
 exact W4⟩
instance QoQ{N e f g}:TY (QdJ N e f g) ((tL tU) e/\tU f/\tU g) (λr=>(tL tU) r.1):=⟨λh=>by
 rw[QdJ]
 exact W4⟩
instance Qpd{N e f}:TY (QcQ N e f) (Yj e/\tU f) Yj:=⟨λh=>by
 rw[QcQ]
 exact W4⟩
instance QoR{N f g}:TY (QcC N f g) (Yj f) (λr=>Yj r.1/\tU r.2.1):=⟨λh=>by
 rw[QcC]
 refine(Oh (U0 (Q:=λk=>∀(_:Unit),PT (k ()) _) (λ_=>(UH λw=>(WA (WE ?_) (UH λx=>(Oh (Oh (UH λj=>(UH λp=>(UH λq=>(WE ?_)))))))))) λy e=>(WA (UH λz=>(UH λA=>(WA (UH λB=>(UH λs=>(UH λu=>(UH λv=>(WE ?_))))) (e ())))) (e ()))))
 all_goals ((try clear D);simp_all (maxDischargeDepth:=9))⟩
instance Qpe{N e f g j}:TY (QfE N e f g j) ((tL tU) e/\tU f/\tU g) (λr=>(tL tU) r.1):=⟨λh=>by
 rw[QfE]
 exact W4⟩
instance Qop{N e}:TY (QcR N e) (tU e) (λr=>tU r.1):=⟨λh=>by
 rw[QcR]
 exact W4⟩
instance Qoq{N e f}:TY (QaH N e f) (Yj e/\tU f) (λr=>Yj r.1/\tU r.2.1):=⟨λh=>by
 rw[QaH]
 exact W4⟩
instance Qif{N j}:∀n p q s k u v6 v7 v8 v9 v10 v11 e v13 f v15 g v17 v18,TY (Qa5 N j n p q s k u v6 v7 v8 v9 v10 v11 e v13 f v15 g v17 v18) ((tL tU) j/\(tL tU) k/\(tL tU) v8/\(tL tU) v10/\(tL tU) v18) (tE (λr=>Yj r.1/\(tL tU) r.2.1) (λr=>(tL tU) r.2.2.1/\(tL tU) r.2.2.2.2.2.2.1/\(tL tU) r.2.2.2.2.2.2.2.2.1/\(tL tU) r.2.2.2.2.2.2.2.2.2.2.2.2.2.2.2.2))
 |0,_,_,_,_,_,_,_,_,_,_,_,_,_,_,_,_,_,_=>⟨λh=>by rw[Qa5];exact Oj⟩
 |n+1,p,q,s,k,u,v6,v7,v8,v9,v10,v11,e,v13,f,v15,g,v17,v18=>⟨λh=>by
  have v:=@Qif N j n
  rw[Qa5]
  exact W4⟩
instance QoS{N e f}:TY (Qc5 N e f) (Yj e/\(tL tU) f) (λr=>Yj r.1/\(tL tU) r.2.1):=⟨λh=>by
 rw[Qc5]
 exact W4⟩
instance Qpx{N e f}:TY (Qdp N e f) (Yj e/\tU f) YO:=⟨λh=>by
 rw[Qdp]
 exact W4⟩
instance QiH{N j k}:∀n p q v6 v7 v8 v9 v10 v11 e v13 f v15 g v17 v18 v19 v20,TY (Qbf N j k n p q v6 v7 v8 v9 v10 v11 e v13 f v15 g v17 v18 v19 v20) (tU j/\(tL tU) v7/\(tL tU) v11/\(tL tU) v13) (tE (λr=>Yj r.1) (λr=>(tL tU) r.2.2.1/\(tL tU) r.2.2.2.2.2.2.1/\(tL tU) r.2.2.2.2.2.2.2.2.1))
 |0,_,_,_,_,_,_,_,_,_,_,_,_,_,_,_,_,_=>⟨λh=>by rw[Qbf];exact Oj⟩
 |n+1,p,q,v6,v7,v8,v9,v10,v11,e,v13,f,v15,g,v17,v18,v19,v20=>⟨λh=>by
  have s:=@QiH N j k n
  rw[Qbf]
  exact W4⟩
instance Qpf{N e}:TY (Qei N e) (Yj e) (λr=>Yj r.1):=⟨λh=>by
 rw[Qei]
 exact W4⟩
instance QjE{N}:∀n k p j q s v6 v7 v8 v9 v10 v11 e v13 f v15 g,TY (QbT N n k p j q s v6 v7 v8 v9 v10 v11 e v13 f v15 g) ((tL tU) j/\(tL tU) v7/\(tL tU) v9) (λr=>Yj r.1)
 |0,_,_,_,_,_,_,_,_,_,_,_,_,_,_,_,_=>⟨λh=>by rw[QbT];exact Oj⟩
 |n+1,k,p,j,q,s,v6,v7,v8,v9,v10,v11,e,v13,f,v15,g=>⟨λh=>by
  have u:=@QjE N n
  rw[QbT]
  exact W4⟩
instance Qpy{N e}:TY (Qeo N e) (Yj e) (λr=>Yj r.1):=⟨λh=>by
 rw[Qeo]
 exact W4⟩
instance QoT{N e f}:TY (QcD N e f) (Yj e/\tU f) tU:=⟨λh=>by
 rw[QcD]
 exact W4⟩
instance QiI{N e f g j k}:∀n v7 v8,TY (Qbg N e f g j k n v7 v8) (Yj e/\(tL tU) v8) (tL tU)
 |0,_,_=>⟨λh=>by rw[Qbg];exact Oj⟩
 |n+1,v7,v8=>⟨λh=>by
  have p:=@QiI N e f g j k n
  rw[Qbg]
  exact W4⟩
instance QiJ{N e}:∀n g j f k,TY (QaN N e n g j f k) (Yj e/\(tL tU) f) (λr=>(tL tU) r.2.1)
 |0,_,_,_,_=>⟨λh=>by rw[QaN];exact Oj⟩
 |n+1,g,j,f,k=>⟨λh=>by
  have p:=@QiJ N e n
  rw[QaN]
  exact W4⟩
instance Qpg{N e}:TY (Qej N e) (Yj e) Yj:=⟨λh=>by
 rw[Qej]
 exact W4⟩
instance QiK{N e}:∀n g f j,TY (QaD N e n g f j) (Yj e/\(tL tU) f) (λr=>(tL tU) r.1)
 |0,_,_,_=>⟨λh=>by rw[QaD];exact Oj⟩
 |n+1,g,f,j=>⟨λh=>by
  have k:=@QiK N e n
  rw[QaD]
  exact W4⟩
instance Qph{N e}:TY (Qek N e) (Yj e) Yj:=⟨λh=>by
 rw[Qek]
 exact W4⟩
instance QhF{N q s u}:∀n v7 v8 v9,TY (QaM N q s u n v7 v8 v9) ((tL tU) q/\(λr=>Yj r.1/\(tL tU) r.2.1) s/\(λr=>Yj r.1) u/\(tL tU) v9) (λr=>(tL tU) r.2)
 |0,_,_,_=>⟨λh=>by rw[QaM];exact Oj⟩
 |n+1,v7,v8,v9=>⟨λh=>by
  have v:=@QhF N q s u n
  rw[QaM]
  refine(WA (PT.get (T:=tU) ?_ λw z=>(U0 (Q:=λk=>∀(e f:Int),tU e->PT (k e f) _) (λe f A=>(Oh (TY.h ?_))) λB g=>(WA (PT.get (T:=tU) ?_ λx D=>(Uv ?_ λy E=>(U0 (Q:=λk=>∀(j:Int),PT (k j) _) (λj=>(g _ _ ?_)) λG p=>(WA (p _) (p _))))) (g _ _ ?_)))) (WE ?_))
  all_goals ((try clear v);simp_all (maxDischargeDepth:=9))⟩
instance Qor{N j p q}:TY (Qci N j p q) (XS j/\(tL tU) p/\(tL tU) q) (λr=>XS r.1/\(tL tU) r.2.1/\(tL tU) r.2.2.1):=⟨λh=>by
 rw[Qci]
 refine(UH λx=>(WA (WE ?_) (U0 (Q:=λk=>∀(_:Unit),PT (k ()) _) (λ_=>(WE ?_)) λy e=>(UH λz=>(WA (e ()) (UH λA=>(WA (e ()) (Uv ?_ λB D=>(Uv ?_ λE G=>(WA (WE ?_) (Uv ?_ λI J=>(WA (WE ?_) (Uv ?_ λs K=>(Uv ?_ λu L=>(Uv ?_ λv M=>(U0 (Q:=λk=>∀(f:Int),PT (k f) _) (λf=>(WE ?_)) λO g=>(WA (UH λw=>(g _)) (g _))))))))))))))))))
 all_goals ((try clear R);simp_all (maxDischargeDepth:=9))⟩
instance QiL{N e f}:∀n j k g,TY (Qbh N e f n j k g) (XM e/\(tL tU) f/\(tL KP) g) (tE (λr=>XM r.1) (tL KP))
 |0,_,_,_=>⟨λh=>by rw[Qbh];exact Oj⟩
 |n+1,j,k,g=>⟨λh=>by
  have p:=@QiL N e f n
  rw[Qbh]
  exact W4⟩
instance Qpi{N e f}:TY (Qde N e f) (XM e/\(tL tU) f) (λr=>XM r.1):=⟨λh=>by
 rw[Qde]
 exact W4⟩
instance QiM{N e}:∀n g j f,TY (Qbi N e n g j f) ((tL tU) e/\(tL Yi) f) (tL Yi)
 |0,_,_,_=>⟨λh=>by rw[Qbi];exact Oj⟩
 |n+1,g,j,f=>⟨λh=>by
  have k:=@QiM N e n
  rw[Qbi]
  exact W4⟩
instance Qpj{N e f}:TY (Qb8 N e f) (Yr e/\(tL tU) f) (λr=>Yr r.1):=⟨λh=>by
 rw[Qb8]
 exact W4⟩
instance QhG{N e f g j k p q}:∀n v10 v11,TY (QaX N e f g j k p q n v10 v11) (Yt e/\(λr=>XS r.1/\(tL tU) r.2.1/\(tL tU) r.2.2.1) f/\(tL tU) g/\(tL tU) j/\(λr=>XM r.1) k/\(λr=>Yr r.1) p/\(λr=>Yr r.1) q/\(tL KI) v11) (tL KI)
 |0,_,_=>⟨λh=>by rw[QaX];exact Oj⟩
 |n+1,v10,v11=>⟨λh=>by
  have s:=@QhG N e f g j k p q n
  rw[QaX]
  exact W4⟩
instance Qos{N e}:TY (QaY N e) (Yt e) (λr=>Yt r.1):=⟨λh=>by
 rw[QaY]
 exact W4⟩
instance QhH{N e g}:∀n j f,TY (Qbq N e g n j f) (XP e/\(tL tU) f) (tL tU)
 |0,_,_=>⟨λh=>by rw[Qbq];exact Oj⟩
 |n+1,j,f=>⟨λh=>by
  have k:=@QhH N e g n
  rw[Qbq]
  exact W4⟩
instance Qot{N e}:TY (Qdq N e) (XP e) (λr=>XP r.1):=⟨λh=>by
 rw[Qdq]
 exact W4⟩
instance QoF{N e}:TY (Qab N e) (True) (λr=>Yt r.1/\tU r.2.1):=⟨λh=>by
 rw[Qab]
 exact W4⟩
instance QoU{N g e f}:TY (QcE N g e f) (tU e/\tU f) (λr=>YO r.1):=⟨λh=>by
 rw[QcE]
 exact W4⟩
instance Qpz{N e f}:TY (Qeq N e f) (XM e/\tU f) (λr=>XM r.1):=⟨λh=>by
 rw[Qeq]
 exact W4⟩
instance QoV{N f g}:TY (Qer N f g) (XS f) (λr=>XS r.1/\tU r.2.1):=⟨λh=>by
 rw[Qer]
 refine(Oh (UH λw=>(UH λx=>(U0 (Q:=λk=>∀(_:Unit),PT (k ()) _) (λ_=>(UH λy=>(WA (WE ?_) (WA (WE ?_) (UH λz=>(UH λj=>(UH λp=>(UH λq=>(WE ?_))))))))) λA e=>(WA (e ()) (UH λB=>(WA (e ()) (UH λD=>(WA (e ()) (WA (e ()) (UH λs=>(UH λu=>(UH λv=>(WE ?_))))))))))))))
 all_goals ((try clear E);simp_all (maxDischargeDepth:=9))⟩
instance QoW{N e f g}:TY (Qes N e f g) (XS e) (λr=>XS r.1/\tU r.2.1):=⟨λh=>by
 rw[Qes]
 exact W4⟩
instance Qpk{N e f g}:TY (Qa1 N e f g) (XS e/\tU f/\YO g) (λr=>XS r.1):=⟨λh=>by
 rw[Qa1]
 exact W4⟩
instance QpA{N u v}:TY (Qbm N u v) (XS u/\YO v) (λr=>XS r.1/\tU r.2.1):=⟨λh=>by
 rw[Qbm]
 refine(UH λz=>(WA (WE ?_) (UH λA=>(WA (WE ?_) (UH λB=>(UH λD=>(Uv ?_ λE G=>(U0 (Q:=λk=>∀(s:Int) (w:Bool) (x f:Int) (e:List Int) (g:List Wo) (j p:Int),tU s->(tL tU) e->PT (k s w x f e g j p) _) (λs w x f e g j p I J=>(WA (WE ?_) (Uv ?_ λy K=>(WE ?_)))) λL q=>(WA (Uv ?_ λM O=>(q _ _ _ _ _ _ _ _ ?_ ?_)) (q _ _ _ _ _ _ _ _ ?_ ?_))))))))))
 all_goals ((try clear R);simp_all (maxDischargeDepth:=9))⟩
instance QoX{N J K}:TY (Qcj N J K) (Yt J/\YO K) (λr=>Yt r.1/\tU r.2.1):=⟨λh=>by
 rw[Qcj]
 refine(UH λU=>(WA (WE ?_) (Uv ?_ λV W=>(U0 (Q:=λk=>∀(G L M O:Int) (I:List Int) (s:List Wo) (u v:Int) (e:List UF) (w:List UX) (x:List Int) (f g:List W6) (j:List UB) (p:List Int) (y z:Int) (q:List Int) (A:List Wo) (B D:Int),tU G->(tL tU) I->(tL KP) e->(tL Yi) f->(tL Yi) g->(tL KI) j->(tL tU) p->(tL tU) q->PT (k G L M O I s u v e w x f g j p y z q A B D) _) (λG L M O I s u v e w x f g j p y z q A B D Y Z h4 h5 h6 h7 h8 h9=>(WA (WE ?_) (WE ?_))) λj1 E=>(WA (Uv ?_ λy3 R=>(WA (WE ?_) (Uv ?_ λy4 S=>(E _ _ _ _ _ _ _ _ _ _ _ _ _ _ _ _ _ _ _ _ _ ?_ ?_ ?_ ?_ ?_ ?_ ?_ ?_)))) (E _ _ _ _ _ _ _ _ _ _ _ _ _ _ _ _ _ _ _ _ _ ?_ ?_ ?_ ?_ ?_ ?_ ?_ ?_))))))
 all_goals ((try clear ih);simp_all (maxDischargeDepth:=9))⟩
instance QoG{N e}:TY (Qca N e) (True) (λr=>tU r.1):=⟨λh=>by
 rw[Qca]
 exact W4⟩
instance QoY{N e f}:TY (QcG N e f) (Yt e/\tU f) (λr=>Yt r.1/\tU r.2.1):=⟨λh=>by
 rw[QcG]
 exact W4⟩
instance QoH{N f p g j}:TY (QdO N f p g j) (Yt f/\tU g/\tU j) (λr=>Yt r.1/\tU r.2.1):=⟨λh=>by
 rw[QdO]
 refine(WA (Uv ?_ λq s=>(WE ?_)) (Uv ?_ λu v=>(U0 (Q:=λk=>∀(_:Unit),PT (k ()) _) (λ_=>(Uv ?_ λw x=>(WE ?_))) λy e=>(WA (e ()) (UH λz=>(WA (e ()) (Uv ?_ λA B=>(WA (Uv ?_ λD E=>(WE ?_)) (Uv ?_ λG I=>(WA (Uv ?_ λJ K=>(WE ?_)) (Uv ?_ λL M=>(WE ?_))))))))))))
 all_goals ((try clear O);simp_all (maxDischargeDepth:=9))⟩
instance QpB{N e f g}:TY (QeZ N e f g) (XM e) (λr=>tU r.1):=⟨λh=>by
 rw[QeZ]
 exact W4⟩
instance QpC{N e f g}:TY (QdP N e f g) (Yr e) (λr=>tU r.1):=⟨λh=>by
 rw[QdP]
 exact W4⟩
instance Qou{N e f}:TY (QaZ N e f) (Yt e/\tU f) (λr=>tU r.1):=⟨λh=>by
 rw[QaZ]
 exact W4⟩
instance QoZ{N e f}:TY (QbY N e f) (Yt e/\tU f) (λr=>tU r.1):=⟨λh=>by
 rw[QbY]
 exact W4⟩
instance Qo0{N e f g j}:TY (Qc6 N e f g j) (Yt e/\tU f/\tU g) (λr=>tU r.1):=⟨λh=>by
 rw[Qc6]
 exact W4⟩
instance Qo1{N e f g}:TY (Qc7 N e f g) (XS e/\tU f) (λr=>tU r.1):=⟨λh=>by
 rw[Qc7]
 exact W4⟩
instance Qoj{N e f j g}:TY (Qcm N e f j g) (XS e/\tU f/\tU g) (λr=>XS r.1):=⟨λh=>by
 rw[Qcm]
 exact W4⟩
instance Qo2{N p x q s u}:TY (Qc8 N p x q s u) (Yt p/\tU q/\tU s/\tU u) (λr=>Yt r.1/\tU r.2.1):=⟨λh=>by
 rw[Qc8]
 refine(U0 (Q:=λk=>∀(j v w:Int),tU j->PT (k j v w) _) (λj v w B=>(WA (Uv ?_ λD E=>(WE ?_)) (Uv ?_ λG I=>(WA (WE ?_) (WA (Uv ?_ λJ K=>(WE ?_)) (U0 (Q:=λk=>∀(e:Int),tU e->PT (k e) _) (λe L=>(Uv ?_ λy M=>(WE ?_))) λO f=>(WA (Uv ?_ λR S=>(WA (Uv ?_ λz U=>(WE ?_)) (f _ ?_))) (f _ ?_)))))))) λV g=>(WA (Uv ?_ λW Y=>(g _ _ _ ?_)) (Uv ?_ λZ A=>(g _ _ _ ?_))))
 all_goals ((try clear ih);simp_all (maxDischargeDepth:=9))⟩
instance Qo3{N f q g j}:TY (QcI N f q g j) (Yt f/\tU g/\tU j) (λr=>Yt r.1/\tU r.2.1):=⟨λh=>by
 rw[QcI]
 refine(U0 (Q:=λk=>∀(p:Bool),PT (k p) _) (λp=>(WA (Uv ?_ λw x=>(WA (Uv ?_ λy z=>(WE ?_)) (Uv ?_ λA B=>(WA (WE ?_) (WE ?_))))) (WA (Uv ?_ λD E=>(WA (Uv ?_ λG I=>(WE ?_)) (Uv ?_ λJ K=>(WA (Uv ?_ λL M=>(WE ?_)) (WA (WE ?_) (WE ?_)))))) (Uv ?_ λO R=>(WA (Uv ?_ λs S=>(WE ?_)) (Uv ?_ λu v=>(WE ?_))))))) λU e=>(WA (e _) (e _)))
 all_goals ((try clear V);simp_all (maxDischargeDepth:=9))⟩
instance QjF{N e f}:∀n g,TY (Qcb N e f n g) (Yr e/\tU f) (tE (λr=>Yr r.1) (λ_=>True))
 |0,_=>⟨λh=>by rw[Qcb];exact Oj⟩
 |n+1,g=>⟨λh=>by
  have j:=@QjF N e f n
  rw[Qcb]
  exact W4⟩
instance QpD{N e f}:TY (QcZ N e f) (Yr e/\tU f) (λr=>Yr r.1):=⟨λh=>by
 rw[QcZ]
 exact W4⟩
instance Qov{N q v s}:TY (Qdr N q v s) (Yt q/\tU s) (λr=>Yt r.1/\tU r.2.1):=⟨λh=>by
 rw[Qdr]
 refine(Uv ?_ λw x=>(WA (Uv ?_ λy z=>(WE ?_)) (U0 (Q:=λk=>∀(u:Int) (g:List W6),(tL Yi) g->PT (k u g) _) (λu g A=>(Uv ?_ λB D=>(WA (Uv ?_ λE G=>(WE ?_)) (U0 (Q:=λk=>∀(j p:List W6),(tL Yi) j->(tL Yi) p->PT (k j p) _) (λj p I J=>(Uv ?_ λK L=>(WE ?_))) λM e=>(WA (e _ _ ?_ ?_) (e _ _ ?_ ?_)))))) λO f=>(WA (f _ _ ?_) (f _ _ ?_)))))
 all_goals ((try clear R);simp_all (maxDischargeDepth:=9))⟩
instance QoI{N e f g}:TY (QdQ N e f g) (XM e) (λr=>XM r.1):=⟨λh=>by
 rw[QdQ]
 exact W4⟩
instance QpE{N e g f}:TY (QgN N e g f) (Yr e/\Yi f) Yr:=⟨λh=>by
 rw[QgN]
 exact W4⟩
instance QoJ{N e f g}:TY (QcJ N e f g) (Yr e) (λr=>Yr r.1):=⟨λh=>by
 rw[QcJ]
 exact W4⟩
instance QoK{N g p j}:TY (QdR N g p j) (Yt g/\tU j) (λr=>Yt r.1/\tU r.2.1):=⟨λh=>by
 rw[QdR]
 refine(WA (Uv ?_ λq s=>(WE ?_)) (Uv ?_ λu v=>(WA (Uv ?_ λw x=>(WE ?_)) (UH λy=>(U0 (Q:=λk=>∀(_:Unit),PT (k ()) _) (λ_=>(WA (Uv ?_ λz A=>(WE ?_)) (WA (Uv ?_ λB D=>(WE ?_)) (Uv ?_ λE G=>(WE ?_))))) λI e=>(U0 (Q:=λk=>∀(_:Unit),PT (k ()) _) (λ_=>(Uv ?_ λJ K=>(WE ?_))) λL f=>(WA (WA (f ()) (WA (WA (f ()) (WA (WA (f ()) (e ())) (e ()))) (WA (WA (f ()) (e ())) (e ())))) (WA (WA (f ()) (WA (WA (f ()) (e ())) (e ()))) (WA (WA (f ()) (e ())) (e ()))))))))))
 all_goals ((try clear M);simp_all (maxDischargeDepth:=9))⟩
instance Qpl{N f g j}:TY (Qgo N f g j) (XM f) (λr=>XM r.1):=⟨λh=>by
 rw[Qgo]
 refine(UH λp=>(WA (WE ?_) (WA (WE ?_) (WA (WE ?_) (U0 (Q:=λk=>∀(_:Unit),PT (k ()) _) (λ_=>(WA (WE ?_) (Oh (Oh (WE ?_))))) λq e=>(WA (WA (WE ?_) (e ())) (e ())))))))
 all_goals ((try clear s);simp_all (maxDischargeDepth:=9))⟩
instance Qpm{N e f}:TY (Qel N e f) (XM e) (λr=>XM r.1):=⟨λh=>by
 rw[Qel]
 exact W4⟩
instance QpF{N e f}:TY (QgO N e f) (XM e) XM:=⟨λh=>by
 rw[QgO]
 exact W4⟩
instance QpG{N e}:TY (Qe0 N e) (XM e) (λr=>XM r.1):=⟨λh=>by
 rw[Qe0]
 exact W4⟩
instance QoL{N e g f}:TY (QdS N e g f) (Yt e/\tU f) (λr=>Yt r.1/\tU r.2.1):=⟨λh=>by
 rw[QdS]
 exact W4⟩
instance Qo4{N e f g}:TY (QbZ N e f g) (XS e/\tU f) XS:=⟨λh=>by
 rw[QbZ]
 exact W4⟩
instance Qow{N e f g}:TY (Qds N e f g) (XS e/\(tL KI) f/\tU g) (λr=>XS r.1/\(tL KI) r.2.1):=⟨λh=>by
 rw[Qds]
 exact W4⟩
instance QpH{N j p q}:TY (Qfz N j p q) (XS j/\(tL KI) p/\tU q) (λr=>XS r.1/\(tL KI) r.2.1/\tU r.2.2.1):=⟨λh=>by
 rw[Qfz]
 refine(UH λv=>(WA (WE ?_) (WA (WE ?_) (UH λw=>(WA (WE ?_) (UH λx=>(U0 (Q:=λk=>∀(_:Unit),PT (k ()) _) (λ_=>(Oh (U0 (Q:=λk=>∀(f:List UB),(tL KI) f->PT (k f) _) (λf y=>(Uv ?_ λs z=>(WE ?_))) λA g=>(WA (PT.get (T:=KI) ?_ λB D=>(PT.get (T:=KI) ?_ λu E=>(g _ ?_))) (Oh (g _ ?_)))))) λG e=>(WA (PT.get (T:=KI) ?_ λI J=>(WA (WE ?_) (WA (WA (WE ?_) (UH λK=>(WA (WE ?_) (e ())))) (UH λL=>(WA (WE ?_) (e ())))))) (WA (WA (WE ?_) (UH λM=>(WA (WE ?_) (e ())))) (UH λO=>(WA (WE ?_) (e ()))))))))))))
 all_goals ((try clear R);simp_all (maxDischargeDepth:=9))⟩
instance Qpn{N e g f}:TY (Qe1 N e g f) (Yt e/\tU f) (λr=>Yt r.1/\tU r.2.1):=⟨λh=>by
 rw[Qe1]
 exact W4⟩
instance Qpo{N L Z M O R}:TY (Qah N L Z M O R) (Yt L/\tU M/\tU O/\tU R) (λr=>Yt r.1/\tU r.2.1):=⟨λh=>by
 rw[Qah]
 refine(UH λy1=>(WA (Uv ?_ λy2 h1=>(WE ?_)) (U0 (Q:=λk=>∀(S:Bool),PT (k S) _) (λS=>(WA (Uv ?_ λy5 h2=>(WE ?_)) (U0 (Q:=λk=>∀(U:Bool),PT (k U) _) (λU=>(WA (Uv ?_ λy9 h3=>(WE ?_)) (U0 (Q:=λk=>∀(p:Bool),PT (k p) _) (λp=>(WA (Uv ?_ λy13 h4=>(WE ?_)) (U0 (Q:=λk=>∀(q:Bool),PT (k q) _) (λq=>(WA (Uv ?_ λy15 h5=>(WE ?_)) (U0 (Q:=λk=>∀(s:Bool),PT (k s) _) (λs=>(WA (Uv ?_ λy18 h6=>(WE ?_)) (U0 (Q:=λk=>∀(u:Bool),PT (k u) _) (λu=>(WA (Uv ?_ λy20 h7=>(WE ?_)) (U0 (Q:=λk=>∀(v:Bool),PT (k v) _) (λv=>(WA (Uv ?_ λy22 h8=>(WE ?_)) (Uv ?_ λy23 h9=>(WE ?_)))) λj13 e=>(WA (e _) (e _))))) λj12 f=>(WA (f _) (f _))))) λj11 g=>(WA (g _) (U0 (Q:=λk=>∀(w:Bool),PT (k w) _) (λw=>(g _)) λj10 j=>(WA (j _) (j _))))))) λj9 x=>(WA (x _) (x _))))) λj8 y=>(WA (y _) (U0 (Q:=λk=>∀(z:Bool),PT (k z) _) (λz=>(y _)) λj7 A=>(WA (A _) (U0 (Q:=λk=>∀(B:Bool),PT (k B) _) (λB=>(A _)) λj6 D=>(WA (D _) (D _))))))))) λj5 E=>(WA (E _) (U0 (Q:=λk=>∀(V:Bool),PT (k V) _) (λV=>(E _)) λj4 G=>(WA (G _) (U0 (Q:=λk=>∀(W:Bool),PT (k W) _) (λW=>(G _)) λj3 I=>(WA (I _) (I _))))))))) λj2 J=>(WA (J _) (U0 (Q:=λk=>∀(Y:Bool),PT (k Y) _) (λY=>(J _)) λj1 K=>(WA (K _) (K _)))))))
 all_goals ((try clear ih);simp_all (maxDischargeDepth:=9))⟩
instance Qox{N g j s p u}:TY (QeN N g j s p u) (Yt g/\Yt j/\tU p) Xgj:=⟨λh=>by
 rw[QeN]
 refine(U0 (Q:=λk=>∀(q:Bool),PT (k q) _) (λq=>(U0 (Q:=λk=>∀(r:Bool),PT (k r) _) (λr=>(WA (WA (WE ?_) (WE ?_)) (WE ?_))) λv f=>(WA (f _) (f _)))) λw e=>(WA (e _) (WA (e _) (e _))))
 all_goals ((try clear x);simp_all (maxDischargeDepth:=9))⟩
instance Qoy{N e f}:TY (QaI N e f) (XP e/\tU f) (λr=>tU r.1):=⟨λh=>by
 rw[QaI]
 exact W4⟩
instance Qo5{N e f}:TY (Qda N e f) (XP e/\tU f) (λr=>XP r.1/\tU r.2):=⟨λh=>by
 rw[Qda]
 exact W4⟩
instance QpI{N e f j g}:TY (QfA N e f j g) (XP e/\tU f/\tU g) XP:=⟨λh=>by
 rw[QfA]
 exact W4⟩
instance Qoz{N j v p}:TY (QeO N j v p) (XP j/\tU p) (λr=>XP r.1/\tU r.2):=⟨λh=>by
 rw[QeO]
 refine(U0 (Q:=λk=>∀(f g:List W6) (q s u:Int),(tL Yi) f->(tL Yi) g->PT (k f g q s u) _) (λf g q s u w x=>(Uv ?_ λy z=>(WE ?_))) λA e=>(WA (Uv ?_ λB D=>(e _ _ _ _ _ ?_ ?_)) (Uv ?_ λE G=>(e _ _ _ _ _ ?_ ?_))))
 all_goals ((try clear I);simp_all (maxDischargeDepth:=9))⟩
instance QoM{N e f}:TY (Qfq N e f) (XP e/\tU f) XP:=⟨λh=>by
 rw[Qfq]
 exact W4⟩
instance Qpp{N e j f g}:TY (QfG N e j f g) (XP e/\tU f/\tU g) (λr=>XP r.1/\tU r.2):=⟨λh=>by
 rw[QfG]
 exact W4⟩
instance Qpq{N J W K L M O}:TY (QfH N J W K L M O) (XP J/\tU K/\tU L/\tU M/\Xgj O) (λr=>XP r.1/\tU r.2.1):=⟨λh=>by
 rw[QfH]
 refine(UH λy1=>(WA (WE ?_) (U0 (Q:=λk=>∀(G:Int),tU G->PT (k G) _) (λG h1=>(U0 (Q:=λk=>∀(R:Bool),PT (k R) _) (λR=>(WA (U0 (Q:=λk=>∀(S U:Int) (I:List UZ) (e:List UF) (s:List UX) (u:List Int) (f g:List W6) (j:List IF) (p:List Int),(tL ZH) I->(tL KP) e->(tL Yi) f->(tL Yi) g->(tL V1) j->(tL tU) p->PT (k S U I e s u f g j p) _) (λS U I e s u f g j p h2 h3 h4 h5 h6 h7=>(Uv ?_ λY h8=>(Oh (Oh (Oh (Oh (Uv ?_ λZ h9=>(WE ?_)))))))) λj4 v=>(WA (Uv ?_ λy6 h10=>(v _ _ _ _ _ _ _ _ _ _ ?_ ?_ ?_ ?_ ?_ ?_)) (v _ _ _ _ _ _ _ _ _ _ ?_ ?_ ?_ ?_ ?_ ?_))) (WA (PT.get (T:=ZH) ?_ λp19 h11=>(WE ?_)) (WA (PT.get (T:=ZH) ?_ λp20 h12=>(WE ?_)) (WA (PT.get (T:=ZH) ?_ λp21 h13=>(PT.get (T:=tU) ?_ λp22 h14=>(WE ?_))) (WA (Uv ?_ λy23 h15=>(WE ?_)) (WA (PT.get (T:=ZH) ?_ λp24 h16=>(PT.get (T:=tU) ?_ λp25 h17=>(Uv ?_ λy26 h18=>(WE ?_)))) (WA (Uv ?_ λy27 h19=>(Uv ?_ λy28 h20=>(WE ?_))) (WA (Uv ?_ λy29 h21=>(WA (WE ?_) (WE ?_))) (WA (Uv ?_ λy30 h22=>(WE ?_)) (U0 (Q:=λk=>∀(w:Bool),PT (k w) _) (λw=>(WA (Uv ?_ λy32 h23=>(WE ?_)) (U0 (Q:=λk=>∀(x:Bool),PT (k x) _) (λx=>(WA (Uv ?_ λy35 h24=>(WE ?_)) (WA (Uv ?_ λy36 h25=>(WE ?_)) (WA (Uv ?_ λy37 h26=>(Uv ?_ λy38 h27=>(WE ?_))) (Uv ?_ λy39 h28=>(WE ?_)))))) λj7 y=>(WA (y _) (U0 (Q:=λk=>∀(z:Bool),PT (k z) _) (λz=>(y _)) λj6 A=>(WA (A _) (A _))))))) λj5 B=>(WA (B _) (B _))))))))))))) λj3 D=>(WA (D _) (U0 (Q:=λk=>∀(V:Bool),PT (k V) _) (λV=>(D _)) λj2 E=>(WA (E _) (E _)))))) λj1 q=>(WA (WA (Uv ?_ λy2 h29=>(q _ ?_)) (q _ ?_)) (q _ ?_)))))
 all_goals ((try clear ih);simp_all (maxDischargeDepth:=9))⟩
instance QoN{N Z a1}:TY (QbU N Z a1) (KQ Z/\V2 a1) (λr=>KQ r.1/\tU r.2.1):=⟨λh=>by
 rw[QbU]
 refine(WA (Uv ?_ λy1 h1=>(U0 (Q:=λk=>∀(x3 x4:Int) (W:List Int) (x6:List Wo) (x7 x8:Int) (Y:List UF) (E:List UX) (G:List Int) (e f:List W6) (g:List UB) (j:List Int) (I J:Int) (p:List UZ) (q:List UF) (K:List UX) (L:List Int) (s u:List W6) (v:List IF) (w:List Int),(tL tU) W->(tL KP) Y->(tL Yi) e->(tL Yi) f->(tL KI) g->(tL tU) j->(tL ZH) p->(tL KP) q->(tL Yi) s->(tL Yi) u->(tL V1) v->(tL tU) w->PT (k x3 x4 W x6 x7 x8 Y E G e f g j I J p q K L s u v w) _) (λx3 x4 W x6 x7 x8 Y E G e f g j I J p q K L s u v w h2 h3 h4 h5 h6 h7 h8 h9 h10 h11 h12 h13=>(WE ?_)) λj1 M=>(WA (Uv ?_ λy2 h14=>(M _ _ _ _ _ _ _ _ _ _ _ _ _ _ _ _ _ _ _ _ _ _ _ ?_ ?_ ?_ ?_ ?_ ?_ ?_ ?_ ?_ ?_ ?_ ?_)) (M _ _ _ _ _ _ _ _ _ _ _ _ _ _ _ _ _ _ _ _ _ _ _ ?_ ?_ ?_ ?_ ?_ ?_ ?_ ?_ ?_ ?_ ?_ ?_)))) (Uv ?_ λy26 h15=>(Uv ?_ λy27 h16=>(Uv ?_ λy28 h17=>(U0 (Q:=λk=>∀(O R:Int) (x:List UZ) (y:List UF) (S:List UX) (U:List Int) (z A:List W6) (B:List IF) (D:List Int),(tL ZH) x->(tL KP) y->(tL Yi) z->(tL Yi) A->(tL V1) B->(tL tU) D->PT (k O R x y S U z A B D) _) (λO R x y S U z A B D h18 h19 h20 h21 h22 h23=>(WA (WA (Oh (Oh (WE ?_))) (WE ?_)) (WE ?_))) λj2 V=>(WA (V _ _ _ _ _ _ _ _ _ _ ?_ ?_ ?_ ?_ ?_ ?_) (V _ _ _ _ _ _ _ _ _ _ ?_ ?_ ?_ ?_ ?_ ?_)))))))
 all_goals ((try clear ih);simp_all (maxDischargeDepth:=9))⟩
instance Qok{N g q}:TY (Qb0 N g q) (KQ g) (λr=>tU r.1):=⟨λh=>by
 rw[Qb0]
 refine(UH λw=>(WA (UH λx=>(PT.get (T:=tU) ?_ λy z=>(WE ?_))) (WA (UH λA=>(PT.get (T:=tU) ?_ λB D=>(UH λE=>(WE ?_)))) (U0 (Q:=λk=>∀(j:Bool),PT (k j) _) (λj=>(WA (UH λG=>(PT.get (T:=tU) ?_ λs I=>(WE ?_))) (UH λu=>(PT.get (T:=tU) ?_ λv J=>(WE ?_))))) λK e=>(WA (e _) (U0 (Q:=λk=>∀(p:Bool),PT (k p) _) (λp=>(e _)) λL f=>(WA (f _) (f _))))))))
 all_goals ((try clear M);simp_all (maxDischargeDepth:=9))⟩
instance Qol{N q u}:TY (Qc0 N q u) (KQ q) (λr=>V2 r.1):=⟨λh=>by
 rw[Qc0]
 refine(UH λD=>(UH λE=>(WA (UH λG=>(Oh (UH λI=>(WE ?_)))) (U0 (Q:=λk=>∀(s:Bool),PT (k s) _) (λs=>(WA (UH λJ=>(UH λK=>(WA (UH λL=>(WE ?_)) (WE ?_)))) (WA (UH λM=>(WE ?_)) (Uv ?_ λv O=>(UH λw=>(UH λx=>(U0 (Q:=λk=>∀(g:List Int) (j e:Int),tU e->PT (k g j e) _) (λg j e R=>(WA (Uv ?_ λy S=>(WE ?_)) (WE ?_))) λU f=>(WA (Uv ?_ λz V=>(f _ _ _ ?_)) (UH λA=>(WA (Uv ?_ λB W=>(f _ _ _ ?_)) (f _ _ _ ?_))))))))))) λY p=>(WA (p _) (p _))))))
 all_goals ((try clear Z);simp_all (maxDischargeDepth:=9))⟩
instance Qod{N p q}:TY (QcV N p q) (True) (λr=>YO r.1):=⟨λh=>by
 rw[QcV]
 refine(UH λs=>(UH λu=>(UH λv=>(U0 (Q:=λk=>∀(f:Int) (g:List Int) (j:Int),PT (k f g j) _) (λf g j=>(UH λw=>(WA (WE ?_) (WA (WE ?_) (Oh (UH λx=>(WE ?_))))))) λy e=>(WA (UH λz=>(e _ _ _)) (e _ _ _))))))
 all_goals ((try clear A);simp_all (maxDischargeDepth:=9))⟩
def Qig{N f g}(e:KQ f):PT (Qc0 N f g) (λr=>V2 r.1):=TY.h e
def QiN{N g j}(e:XP g)(f:tU j):PT (QaI N g j) (λr=>tU r.1):=TY.h ⟨e,f⟩
def QhY{N e}:PT (Qbj N e) (λr=>KQ r.1):=TY.h trivial
def QjG{N g j}(e:KQ g)(f:V2 j):PT (QbU N g j) (λr=>KQ r.1/\tU r.2.1):=TY.h ⟨e,f⟩
def BIG:Nat:=1099511627776
def XcY{ws:List Int}(e:ws.length<=BIG)(N:Nat)(a k:Int)(h:-1<=k/\k<=1000000000000000000):QdI N ws a k =
 some (if 4096<=a/\a<=4096+ws.length then(a-4096,decide (a+k<=4096+ws.length))else(0,false)):=by
 unfold BIG at e;simp only[QdI,UL];rw[Xw (n:=(ws.length:Int)) ab ab,Xw (n:=4096+(ws.length:Int)) ab ab];by_cases f:a<4096
 .grind
 rw[Wj f];by_cases g:a>4096+ws.length
 .grind
 rw[Wj g,Wm ab,Xw (n:=a-4096) ab ab,Xe (n:=a-4096) ab ab,Xe ab ab];grind
def inW(ws:List Int)(a:Int):Prop:=4096<=a/\a<4096+ws.length
instance(ws:List Int)(a:Int):Decidable (inW ws a):=by unfold inW;infer_instance
def ix(a:Int):Nat:=(a-4096).toNat
def Ye{ws:List Int}(g:ws.length<=BIG)(N:Nat)(a:Int):Qbk N ws a=some (if inW ws a then(ws.getD (ix a) 0,0)else(0,2)):=by
 simp only[Qbk,QfY,XcY g N a 1 ab,Xa];by_cases h:4096<=a/\a<=4096+ws.length
 .simp only[Wm h];by_cases e:inW ws a
  .have f:a+1<=4096+ws.length:=by unfold inW at e;omega
   simp only[Wm e,f,decide_true,Wh,Wa,Xa];have j:(a-4096).toNat<ws.length:=by unfold inW at e;omega
   rw[show((0:Int) != 0)=false from rfl,Wa,X6 ab ab,Xa];simp[ix,List.getD,j]
  have f:¬a+1<=4096+ws.length:=by unfold inW at e;omega
  simp[Wj,e,f,decide_false,Ug,Wc,Xa]
 have e:¬inW ws a:=by unfold inW;omega
 simp[Wj,h,e,Ug,Wc,Xa]
def ovr(ws l:List Int)(i:Nat):List Int:=ws.take i++l++ws.drop (i+l.length)
def Zz{ws l:List Int}{i:Nat}(h:i+l.length<=ws.length):(ovr ws l i).length=ws.length:=by grind[ovr]
def Xgk{ws l:List Int}{i:Nat}(h:i+l.length<=ws.length)(j:Nat):(ovr ws l i)[j]? = if i<=j/\j<i+l.length then l[j-i]? else ws[j]?:=by
 unfold ovr;have e:(ws.take i).length=i:=by simp only[Wu];omega
 grind
def V3{ws l:List Int}{i:Nat}(h:i+l.length<=ws.length)(j:Nat):(ovr ws l i).getD j 0=if i<=j/\j<i+l.length then l.getD (j-i) 0 else ws.getD j 0:=by simp only[Wk,Xgk h];grind
def XhK{l:List Int}(y:Int×Bool)(i N:Nat)(ws:List Int)(p:y.1=i)(h:i+l.length<=ws.length)(s:ws.length<=BIG):∀(n k:Nat) (v:List Int),k<=l.length->l.length-k<n->v=ovr ws (l.take k) i ->
 Qck N l y n (k:Int) v=some (ovr ws l i)
 |0,k,v,_,u,_=>by omega
 |n+1,k,v,B,u,q=>by
  unfold BIG at s;rw[Qck];have g:(l.take k).length=k:=by simp;omega
  have w:v.length=ws.length:=by rw[q];exact Zz ab
  by_cases x:k<l.length
  .have z:decide ((k:Int)<(l.length:Int))=true:=by simp;omega
   have A:wI (y.1+(k:Int))=((i+k:Nat):Int):=by rw[p,Xe ab ab];simp
   have e3:wI ((k:Int)+1)=((k+1:Nat):Int):=by rw[Xe ab ab];simp
   rw[z,Wc,X6 ab ab,Xa,A,X6 ab ab,Xa,e3];refine XhK y i N ws p h (by unfold BIG;omega) n (k+1) _ ab ab ?_;rw[q];simp only[Int.toNat_natCast];apply List.ext_getElem?;intro j;have e:(l.take (k+1)).length=k+1:=by simp only[Wu];omega
   rw[U4,Zz ab,Xgk ab,Xgk ab,g,e];by_cases r:i+k=j
   .subst r;rw[Wm rfl,Wm ab,Wm ab,Us,Wm ab,I8,Wb x]
   rw[Wj r];by_cases f:i<=j/\j<i+k
   .rw[Wm f,Wm ab,Us,Us,Wm ab,Wm ab]
   rw[Wj f,Wj ab]
  grind
def Ym(ws:List Int)(a:Int)(k:Nat):Prop:=4096<=a/\a+k<=4096+ws.length
instance(ws:List Int)(a:Int)(k:Nat):Decidable (Ym ws a k):=by unfold Ym;infer_instance
def ZA{ws l:List Int}(e:ws.length<=BIG)(j:l.length<=BIG){N:Nat}(hN:l.length<N)(a:Int):Qch N ws a l=some (if Ym ws a l.length then(ovr ws l (ix a),0)else([],2)):=by
 simp only[Qch];rw[XcY e N a _ (by unfold BIG at j;omega),Xa];by_cases h:Ym ws a l.length
 .have f:4096<=a/\a<=4096+ws.length:=by unfold Ym at h;omega
  have g:a+(l.length:Int)<=4096+ws.length:=by unfold Ym at h;omega
  simp only[Wm h,Wm f,g,decide_true,Wh,Wa];rw[Xb (by unfold BIG at e;omega)];have:=XhK (l:=l) (a-4096,true) (ix a) N ws (by unfold ix;omega) (by unfold ix;omega) e N 0 ws ab ab (by simp[ovr]);rw[show((0:Nat):Int)=0 from rfl]at this;rw[this,Xa]
 by_cases f:4096<=a/\a<=4096+ws.length
 .have g:¬a+(l.length:Int)<=4096+ws.length:=by unfold Ym at h;omega
  simp only[Wj h,Wm f,g,decide_false,Ug,Wc]
 grind
def KJ{ws:List Int}(g:ws.length<=BIG){N:Nat}(hN:1<N)(a v:Int):QdJ N ws a v=some (if inW ws a then(ws.set (ix a) v,0)else([],2)):=by
 simp only[QdJ];rw[ZA (l:=[v]) g (by unfold BIG;simp) ab,Xa];by_cases h:inW ws a
 .have f:Ym ws a [v].length:=by unfold inW at h;unfold Ym;simp only[Ul,IT];omega
  simp only[Wm h,Wm f];unfold ovr;have e:ix a<ws.length:=by unfold inW at h;unfold ix;omega
  simp[Il,e]
 have f:¬Ym ws a [v].length:=by unfold inW at h;unfold Ym;simp only[Ul,IT];omega
 simp_all
def XcZ{ws:List Int}(g:ws.length<=BIG)(N:Nat)(a:Int)(k:Nat)(q:k<=1000000000):Qdb N ws a (k:Int)=some (if Ym ws a k then((ws.drop (ix a)).take k,0)else([],2)):=by
 simp only[Qdb];have j:decide ((k:Int)<0)=false:=Wg ab;rw[j,Wa,XcY g N a _ ab,Xa];unfold BIG at g;by_cases h:Ym ws a k
 .have e:4096<=a/\a<=4096+ws.length:=by unfold Ym at h;omega
  have f:a+(k:Int)<=4096+ws.length:=by unfold Ym at h;omega
  simp only[Wm h,Wm e,f,decide_true,Wh,Wa];rw[Xe (n:=a-4096+(k:Int)) ab ab,Xb ab,Xb ab];have p:(a-4096+(k:Int)).toNat-(a-4096).toNat=k:=ab;rw[p];rfl
 by_cases e:4096<=a/\a<=4096+ws.length
 .have f:¬a+(k:Int)<=4096+ws.length:=by unfold Ym at h;omega
  simp only[Wj h,Wm e,f,decide_false,Ug,Wc]
 grind
def Xgl{ws:List Int}(j:ws.length<=BIG){N:Nat}(f a:Int)(k:Nat)(p:k<=1000000000)(hN:k<N):QfE N ws f a (k:Int) =
 some (if Ym ws a k/\Ym ws f k then(ovr ws ((ws.drop (ix a)).take k) (ix f),0)else([],2)):=by
 simp only[QfE];rw[XcZ j N a k p,Xa];by_cases h:Ym ws a k
 .have e:((ws.drop (ix a)).take k).length=k:=by unfold Ym at h;simp[ix];omega
  simp only[Wm h];rw[show((0:Int) != 0)=false from rfl,Wa,ZA j (by unfold BIG;omega) (by rw[e];exact hN),Xa,e];by_cases g:Ym ws f k
  .rw[Wm g,Wm ⟨h,g⟩]
  rw[Wj g,Wj (λq=>g q.2)]
 simp_all
def Xx(d:Ws):Bool:=decide (0<=d.k/\d.k<=3/\0<=d.n/\d.n<=255)&&(if d.k=1 then decide (d.n<=32)&&decide (d.Map % 18446744073709551616<2 ^ d.n.toNat)else decide (d.Map=0))
def Zp(N:Nat)(d:Ws):Qc3 N d=some (Xx d):=by
 simp only[Qc3,UL,Xx];by_cases f:d.k<0
 .rw[Wm f,Wg ab,UJ]
 rw[Wj f];by_cases g:d.k>3
 .rw[Wm g,Wg ab,UJ]
 rw[Wj g];by_cases h:d.n<0
 .rw[Wm h,Wg ab,UJ]
 rw[Wj h];by_cases j:d.n>255
 .rw[Wm j,Wg ab,UJ]
 rw[Wj j,We (p:=0<=d.k/\d.k<=3/\0<=d.n/\d.n<=255) ab,Ue];by_cases q:d.k=1
 .rw[Wm q,q,show((1:Int) != 1)=false from rfl,Wa];by_cases e:d.n<=32
  .rw[Wm e,Xw (n:=d.n) ab ab,Xb ab,XnR ab ab,XcD,We e,Ue]
  rw[Wj e,Wg e,UJ]
 grind
def XB{d:Ws}(h:Xx d=true):0<=d.k/\d.k<=3/\0<=d.n/\d.n<=255:=by unfold Xx at h;simp_all
def Xj(d:Ws):Int:=if Xx d then d.n+1 else 0
def XI(N:Nat)(d:Ws):QcN N d=some (Xj d):=by
 simp only[QcN,Zp,Xa,Xj];cases h:Xx d with
 |false=>rfl
 |true=>have:=XB h;simp[Xe (n:=d.n+1) ab ab]
def XnT(d:Ws):0<=Xj d/\Xj d<=256:=by
 unfold Xj;split
 .rename_i h;have:=XB h;omega
 omega
def ZB(d:Ws):Int:=wU (wU (wU (1+wU (4*wU d.k))+wU (16*wU d.n))+ZY .u64 (wU d.Map) 16)
def KB(N:Nat)(d:Ws):Qcz N d=some (if Xx d then(ZB d,0)else(0,1)):=by simp only[Qcz,Zp,Xa];cases h:Xx d<;>rfl
def Xb7(w:Int):Ws:=⟨wI (Zq .u64 (Yz .u64 w 2) 3),wI (Zq .u64 (Yz .u64 w 4) 4095),wW (Yz .u64 w 16)⟩
def okH(w:Int):Bool:=Xx (Xb7 w)&&(ZB (Xb7 w)==w)
def Zf(w:Int):Ws:=if okH w then Xb7 w else⟨0,0,0⟩
def ZI(N:Nat)(w:Int):QcA N w=some (Zf w,okH w):=by simp only[QcA];rw[KB N (Ws.mk _ _ _),Xa];unfold Zf okH Xb7;grind
def Z0(w:Int):Xx (Zf w)=true:=by
 unfold Zf;split
 .rename_i h;unfold okH at h;simp_all
 rfl
def Xfk(w:Int):Xj (Zf w)=(Zf w).n+1/\1<=Xj (Zf w)/\Xj (Zf w)<=256:=by have h:=Z0 w;have:=XB h;unfold Xj;grind
def Kk(d:Ws)(i:Int):Bool:=Xx d&&(decide (0<=i/\i<d.n)&&(decide (d.k=2)||(decide (d.k=1)&&(Zq .u32 (Yz .u32 d.Map (wU i)) 1==1))))
def KY(N:Nat)(d:Ws)(i:Int):Qby N d i=some (Kk d i):=by
 simp only[Qby,Zp,Xa,Kk,UL];cases h:Xx d with
 |false=>rfl
 |true=>
  simp only[Wh,Wa,Ue];by_cases e:i<0
  .rw[Wm e,Wg ab,UJ]
  rw[Wj e];by_cases f:i>=d.n
  .rw[Wm f,Wg ab,UJ]
  rw[Wj f,We (p:=0<=i/\i<d.n) ab,Ue,Xb (V0 i).1];grind
def X2(d:Ws):Nat->Int->List Int
 |0,_=>[]
 |k+1,i=>(if Kk d i then[i]else[])++X2 d k (i+1)
def XL(d:Ws):List Int:=if Xx d then X2 d d.n.toNat 0 else[]
def KZ{d:Ws}:∀{k:Nat} {i x:Int},x∈X2 d k i->i<=x/\x<i+k/\Kk d x=true
 |0,i,x,h=>by simp_all[X2]
 |k+1,i,x,h=>by
  simp only[X2,Wr]at h;rcases h with h|h
  .grind
  have:=KZ h;grind
def Vu{d:Ws}:∀{k:Nat} {i:Int},(X2 d k i).length<=k
 |0,i=>by simp[X2]
 |k+1,i=>by have:=Vu (d:=d) (k:=k) (i:=i+1);grind[X2,WK]
def V4(N:Nat)(d:Ws)(f:Xx d=true):∀(n:Nat) (i:Int) (v:List Int),0<=i->i<=d.n->(d.n-i).toNat<n->v.length<=1000-(d.n-i).toNat->v.length+(d.n-i).toNat<=1000 ->
 Qb5 N d n i v=some (v++X2 d (d.n-i).toNat i)
 |0,i,v,_,_,h,_,_=>by omega
 |n+1,i,v,j,p,q,r,s=>by
  have hb:=XB f;rw[Qb5];by_cases h:i<d.n
  .obtain⟨k,g⟩:∃k,(d.n-i).toNat=k+1:=⟨(d.n-i).toNat-1,ab⟩
   have e:(d.n-(i+1)).toNat=k:=ab;rw[We h,Wc,Zp,Xa,f,Wc,KY,Xa,g,Xe (n:=i+1) ab ab];simp only[X2];cases hp:Kk d i with
   |true=>rw[Wc,Xb ab,V4 N d f n (i+1) _ ab ab ab (by grind) (by grind),e];simp
   |false=>rw[Wa,V4 N d f n (i+1) _ ab ab ab ab ab,e];simp
  rw[Wg h,Wa,show(d.n-i).toNat=0 by omega];simp[X2]
def XdG{N:Nat}(hN:300<N)(d:Ws):Qfp N d=some (XL d):=by
 simp only[Qfp,XL];cases e:Xx d with
 |true=>have hb:=XB e;rw[V4 N d e N 0 [] ab ab ab ac (by grind),Xa];simp
 |false=>
  obtain⟨n,rfl⟩:∃n,N=n+1:=⟨N-1,ab⟩
  simp[Qb5,Zp,Xa,e,Wa]
def XbA(w:Int):Bool:=decide (w.tmod 4=2)&&decide (Yz .u64 w 2<4294967296)
def Kv(N:Nat)(w:Int):QcB N w=some (if XbA w then(Yz .u64 w 2,true)else(0,false)):=by simp only[QcB,XbA,UL];grind
def Vv(N:Nat)(a:Int):QcR N a=some (if a>=4294967296 then(0,1)else(wU (wU (4*a)+2),0)):=by simp only[QcR,UL];grind
def XR(c:WN):Bool:=decide (16<=c.W/\c.W<=64/\c.W % 4=0/\8<=c.p/\c.p<=64)
theorem Xh{c:WN}:XR c=true↔16<=c.W/\c.W<=64/\c.W % 4=0/\8<=c.p/\c.p<=64:=by simp[XR]
def Zi(N:Nat)(c:WN):QaR N c=some (XR c):=by simp only[QaR,UL,XR];grind
def Ke(c:WN):Int:=if XR c then c.p / 4 else 0
def Xb8(N:Nat)(c:WN):QfZ N c=some (Ke c):=by
 simp only[QfZ,Zi,Xa,Ke];cases h:XR c with
 |false=>rfl
 |true=>have:=Xh.1 h;simp;rw[UV ab,Xe ab ab]
def smC(c:WN):Int:=if XR c then c.W / 4 else 0
def Xfl(N:Nat)(c:WN):QcT N c=some (smC c):=by
 simp only[QcT,Zi,Xa,smC];cases h:XR c with
 |false=>rfl
 |true=>have:=Xh.1 h;simp;rw[UV ab,Xe ab ab]
def Xn(c:WN)(w:Int):Int:=
 if XR c=true/\1<=w then(if w<=c.W / 4 then 0 else if c.W>=w then 1 else if 2*c.W>=w then 2 else if 3*c.W>=w then 3 else if 4*c.W>=w then 4 else -1)else -1
def Xc0(N:Nat)(c:WN)(w:Int)(e:XR c=true)(k:Int)(f:1<=k/\k<=4)(n:Nat):QcM N c w (n+1) k=if k*c.W>=w then some (.ret k)else QcM N c w n (k+1):=by
 have h:=Xh.1 e;have g:0<=k*c.W/\k*c.W<=256:=by
  constructor
  .exact Int.mul_nonneg ab ab
  have:=Int.mul_le_mul (a:=k) (b:=c.W) (c:=4) (d:=64) ab ab ab ab;omega
 rw[QcM,We ab,Wc,UL,Xe (n:=k*c.W) ab ab,Xe (n:=k+1) ab ab]
def Zg{N:Nat}(hN:10<=N)(c:WN)(w:Int):QdH N c w=some (Xn c w):=by
 simp only[QdH,Zi,Xfl,Xa,Xn,smC];cases e:XR c with
 |false=>simp
 |true=>
  simp only[Wh,Wa,if_true,UL];by_cases g:w<1
  .rw[Wm g,Wj (show¬(True/\1<=w)fromλh=>ab)]
  rw[Wj g,Wm (show True/\1<=w from⟨trivial,ab⟩)];by_cases f:w<=c.W / 4
  .rw[Wm f,Wm f]
  rw[Wj f,Wj f];obtain⟨n,rfl⟩:∃n,N=n+5:=⟨N-5,ab⟩
  rw[Xc0 _ c w e 1 ab,Xc0 _ c w e (1+1) ab,Xc0 _ c w e (1+1+1) ab,Xc0 _ c w e (1+1+1+1) ab];rw[show QcM (n+5) c w (n+1) (1+1+1+1+1)=some (.nxt ()) by rw[QcM,Wg ab,Wa]];simp;by_cases j:c.W>=w
  .simp only[Wm j,Xa,Xs]
  simp only[Wj j];by_cases k:2*c.W>=w
  .simp only[Wm k,Xa,Xs]
  simp only[Wj k];by_cases p:3*c.W>=w
  .simp only[Wm p,Xa,Xs]
  simp only[Wj p];by_cases q:4*c.W>=w
  .simp only[Wm q,Xa,Xs]
  simp[Wj,q,Xa,Xm]
def KC(c:WN)(w:Int):-1<=Xn c w/\Xn c w<=4:=by unfold Xn;omega
def XE{c:WN}(e:XR c=true){i:Int}(f:0<=i)(g:i<c.p):0<=i*c.W/\i*c.W+c.W<=c.p*c.W/\c.p*c.W<=4096:=by
 have h:=Xh.1 e;refine⟨Int.mul_nonneg f ab,?_,?_⟩
 .have:=WU (a:=i+1) (b:=c.p) (c:=c.W) ab ab;grind
 have:=Int.mul_le_mul (a:=c.p) (b:=c.W) (c:=64) (d:=64) ab ab ab ab;omega
def Xc(c:WN)(p o:Int):Int:=4096+p*c.W+o
def ZJ(N:Nat)(c:WN)(p o:Int):Qbx N c p o=some (if XR c=false then(0,1)else if 0<=p/\p<c.p/\0<=o/\o<c.W then(Xc c p o,0)else(0,2)):=by
 simp only[Qbx,Zi,Xa,UL];cases e:XR c with
 |false=>simp
 |true=>
  rw[Wj (show¬(true=false) by simp)];by_cases f:p<0
  .grind
  rw[Wj f];by_cases g:p>=c.p
  .grind
  rw[Wj g];by_cases h:o<0
  .grind
  rw[Wj h];by_cases j:o>=c.W
  .simp_all
  rw[Wj j,Wm ab];have k:=XE e (i:=p) ab ab;rw[Xe (n:=p*c.W) ab ab,Xe (n:=4096+p*c.W) ab ab,Xe (n:=4096+p*c.W+o) ab ab,Xw ab ab];rfl
def KV(N:Nat)(c:WN)(a:Int):Qb9 N c a=some (if XR c=false then(0,0,1)else if 4096<=a/\a<4096+c.p*c.W then((a-4096) / c.W,(a-4096) % c.W,0)else(0,0,2)):=by
 simp only[Qb9,Zi,Xa,UL];cases e:XR c with
 |false=>simp
 |true=>
  have h:=Xh.1 e;have k:=XE e (i:=0) ab ab;simp only[Wh,Wa];rw[Wj (show¬(true=false) by simp)];rw[Xe (n:=c.p*c.W) ab ab,Xe (n:=4096+c.p*c.W) ab ab,Xw (n:=4096+c.p*c.W) ab ab];by_cases f:a<4096
  .grind
  rw[Wj f];by_cases g:a>=4096+c.p*c.W
  .simp_all
  rw[Wj g,Wm ab,Xb ab,Xb ab];rw[Xw (n:=a-4096) ab ab,Xe (n:=a-4096) ab ab,UV ab,IO ab];have hd:0<=(a-4096) / c.W:=Int.ediv_nonneg ab ab;have j:(a-4096) / c.W<=a-4096:=Int.ediv_le_self _ ab;rw[Xe ab ab]
def Xgm{c:WN}(e:XR c=true){a:Int}(f:4096<=a)(g:a<4096+c.p*c.W):
 0<=(a-4096) / c.W/\(a-4096) / c.W<c.p/\0<=(a-4096) % c.W/\(a-4096) % c.W<c.W/\a=Xc c ((a-4096) / c.W) ((a-4096) % c.W):=by have h:=Xh.1 e;refine⟨Int.ediv_nonneg ab ab,Int.ediv_lt_of_lt_mul ab ab,Int.emod_nonneg _ ab,Int.emod_lt_of_pos _ ab,?_⟩;have:=Int.mul_ediv_add_emod (a-4096) c.W;unfold Xc;grind
def XqH{c:WN}(h:XR c=true){p o:Int}(f:0<=o)(g:o<c.W):(Xc c p o-4096) / c.W=p/\(Xc c p o-4096) % c.W=o:=by
 have e:Xc c p o-4096=o+c.W*p:=by unfold Xc;rw[Int.mul_comm p];omega
 rw[e,Int.add_mul_ediv_left _ _ ab,Int.add_mul_emod_self_left,Int.ediv_eq_zero_of_lt f g,Int.emod_eq_of_lt f g];omega
def Y5:Wo:=⟨0,0,0,0⟩
def pg(ps:List Wo)(i:Int):Wo:=ps.getD i.toNat Y5
def Yu{ps:List Wo}{i:Int}{p:Wo}(h:Xd ps i=some p):pg ps i=p:=by have:=(KA.1 h).2;simp[pg,this]
def Xo{ps:List Wo}{i:Int}(e:0<=i)(f:i<ps.length):Xd ps i=some (pg ps i):=by rw[X6 e f];have:i.toNat<ps.length:=ab;simp[pg,List.getD,this]
def XhL(N:Nat)(ps:List Wo)(sp:Int)(w:ps.length<=BIG):∀(n:Nat) (c i:Int),0<=i->0<=c->c<=BIG*2->i<=BIG*2->(ps.length:Int)+c-i<=BIG*2->(ps.length-i).toNat<n ->
 Ok (Qdx N ps sp n c i) λr=>c<=r/\∀m,0<=m->m<r-c->i+m<ps.length/\(pg ps (i+m)).k=3
 |0,c,i,_,_,_,_,_,h=>by omega
 |n+1,c,i,g,x,q,y,z,A=>by
  unfold BIG at *;refine Wn (λh=>?_) λh=>Wd ⟨Ut _,λm e f=>ab⟩;have e:i<ps.length:=by simpa using h
  refine Ok.get g e λp hp=>Wn (λj=>?_) λj=>Wd ⟨Ut _,λm e f=>ab⟩;refine Ok.get g e λB s=>Wn (λu=>?_) λj=>Wd ⟨Ut _,λm e f=>ab⟩;rw[Xe (n:=c+1) ab ab,Xe (n:=i+1) ab ab];refine(XhL N ps sp ah n (c+1) (i+1) ab ab (by unfold BIG;omega) (by unfold BIG;omega) (by unfold BIG;omega) ab).mono λr v=>⟨ab,λm f D=>?_⟩
  by_cases E:m=0
  .simp_all[Int.add_zero,Yu,hp]
  have:=v.2 (m-1) ab ab;grind
def XnU{N:Nat}{ps:List Wo}(sp i:Int)(f:ps.length<N)(e:ps.length<=100000000)(g:0<=i)(j:i<=100000000):Ok (Qe7 N ps i sp) λr=>0<=r/\∀m,1<=m->m<=r->i+m<ps.length/\(pg ps (i+m)).k=3:=by rw[Qe7,Xe (n:=i+1) ab ab];refine WJ (XhL N ps sp (by unfold BIG;omega) N 0 (i+1) ab ab ab (by unfold BIG;omega) (by unfold BIG;omega) ab) λr _ h=>Wd ⟨h.1,λm p q=>?_⟩;have:=h.2 (m-1) ab ab;grind
def Xgn(N:Nat)(n:Int):QgU N n=some (decide (0<=n/\n<=2147483647)):=by simp only[QgU,UL];grind
structure Sb(h:Wi)(i:Int):Prop where
 kind:0<=(pg h.p i).k/\(pg h.p i).k<=3
 space:0<=(pg h.p i).s/\(pg h.p i).s<=1
 pins:0<=(pg h.p i).P/\(pg h.p i).P<=2147483647
 free:(pg h.p i).k=0->pg h.p i=Y5
 small:(pg h.p i).k=1->0<=(pg h.p i).u/\(pg h.p i).u<=h.c.W
 large:(pg h.p i).k=2->1<=Xn h.c (pg h.p i).u/\∀m,1<=m->m<Xn h.c (pg h.p i).u->i+m<h.p.length/\(pg h.p (i+m)).k=3
structure Uu(h:Wi):Prop where
 conf:XR h.c=true
 words:(h.w.length:Int)=h.c.p*h.c.W
 pages:(h.p.length:Int)=h.c.p
 space:0<=h.s/\h.s<=1
 bump:h.b = -1\/(0<=h.b/\h.b<h.p.length/\(pg h.p h.b).k=1)
 pgs:∀i:Int,0<=i->i<h.p.length->Sb h i
 first:(pg h.p 0).k≠3
def PL(h:Wi)(i:Int):Ex Bool Unit->Prop
 |.ret a=>a=false
 |.nxt _=>(∀j,i<=j->j<h.p.length->Sb h j)/\(i=0->(0:Int)<h.p.length->(pg h.p 0).k≠3)
def Xfm{N:Nat}{h:Wi}(B:XR h.c=true)(hN:100000<N)(K:(h.p.length:Int)=h.c.p):∀(n:Nat) (due i:Int),0<=i->0<=due->due<=4->(h.p.length-i).toNat<n->(i=0->due=0) ->
 Ok (QaB N h n due i) (PL h i)
 |0,due,i,_,_,_,L,_=>by omega
 |n+1,due,i,D,hd,g,L,M=>by
  have Z:=Xh.1 B;refine Wn (λE=>?_) λE=>Wd ⟨λj O k=>?_,λR q=>?_⟩;rotate_left
  .grind
  .grind
  have x:i<h.p.length:=by simpa using E
  refine Ok.get D x λp hp=>?_;have y:=Yu hp;refine Wn (λ_=>Wd rfl) λg1=>?_;refine Wn (λ_=>Wd rfl) λg2=>?_;refine Wn (λ_=>Wd rfl) λg3=>?_;rw[Xgn,Xa];refine Wn (λ_=>Wd rfl) λg4=>?_;simp at g1 g2 g3 g4;have next:∀(f:Int),0<=f->f<=4->Sb h i->Ok (QaB N h n (if 0<wI (f-1)then wI (f-1)else 0) (wI (i+1))) (PL h i):=by
   intro f S U z;rw[Xe (n:=i+1) ab ab,Xe (n:=f-1) ab ab];refine(Xfm B hN K n _ (i+1) ab ab ab ab ab).mono λe G=>?_;cases e with
   |ret a=>exact G
   |nxt b=>
   have⟨k1,k2⟩:=G;refine⟨λj O k=>?_,λR q hk=>?_⟩
   .by_cases A:j=i
    .subst A;exact z
    exact k1 j ab k
   simp_all
  refine Ir ?_;refine Wn (λV=>Wn (λ_=>Wd rfl) λr=>?_) λV=>Ir (Wn (λr=>Wn (λ_=>Wd rfl) λI=>Wn (λ_=>Wd rfl) λw=>?_) λr=>Ir (Wn (λI=>?_) λI=>Wn (λw=>Wn (λ_=>Wd rfl) λJ=>Wn (λ_=>Wd rfl) λq5=>?_) λw=>Wd rfl))
  .refine next due hd g ?_
   simp at r;have v:pg h.p i=Y5:=by rw[y];cases p;simp only at r;obtain⟨rfl,rfl,rfl,rfl⟩:=r;rfl
   refine⟨by rw[v];decide,by rw[v];decide,by rw[v];decide,λ_=>v,λe=>?_,λe=>?_⟩
   .rw[v]at e;cases e
   simp_all
  .refine next due hd g ?_
   exact⟨by simp_all,by simp_all,by simp_all,λe=>by simp_all,λ_=>by simp_all,λe=>by simp_all⟩
  .rw[Zg ab,Xa];refine Wn (λ_=>Wd rfl) λw=>?_;refine WJ (XnU (N:=N) (ps:=h.p) p.s i ab ab D ab) λt _ ht=>?_;refine Wn (λ_=>Wd rfl) λJ=>?_;have hr:=KC h.c p.u;have W:1<=Xn h.c p.u:=by have:=WM w;omega
   have Y:Xn h.c p.u-1<=t:=by have:=WM J;rw[Xe ab ab]at this;omega
   refine next _ ab ab ?_
   exact⟨by simp_all,by simp_all,by simp_all,λe=>by simp_all,λe=>by simp_all,λ_=>by grind⟩
  refine next due hd g ?_
  exact⟨by simp_all,by simp_all,by simp_all,λe=>by simp_all,λe=>by simp_all,λe=>by simp_all⟩
def YI{N:Nat}(hN:100000<N){h:Wi}(hw:h.w.length<=100000)(hp:h.p.length<=100000):Ok (Qaa N h) λb=>b=true->Uu h:=by
 rw[Qaa,Zi,Xa];refine Wn (λ_=>Wd λe=>by cases e) λg1=>?_;have f:XR h.c=true:=by simpa using g1
 have A:=Xh.1 f;have B:=XE f (i:=0) ab ab;refine Wn (λ_=>Wd λe=>by cases e) λg2=>?_;refine Wn (λ_=>Wd λe=>by cases e) λg3=>?_;refine Wn (λ_=>Wd λe=>by cases e) λg4=>?_;refine Wn (λ_=>Wd λe=>by cases e) λg5=>?_;have v:(h.w.length:Int)=h.c.p*h.c.W:=by
  have:(h.w.length:Int)=wI (h.c.p*h.c.W):=by simpa using g2
  rwa[Xe ab ab]at this
 have e3:(h.p.length:Int)=h.c.p:=by simpa using g3
 have e4:0<=h.s/\h.s<=1:=⟨by simpa using g4,by simpa using g5⟩
 have main:(h.b = -1\/(0<=h.b/\h.b<h.p.length/\(pg h.p h.b).k=1))->Ok (bnd (QaB N h N 0 0) λe=>exK e (λr=>some r) λx=>some true) λb=>b=true->Uu h:=by
  intro hb;refine I6 (Xfm (N:=N) (h:=h) f hN e3 N 0 0 ab ab ab ab ab) (λa g=>?_) λb g=>Wd λ_=>?_
  .have y:a=false:=g;subst y;exact Wd λe=>by cases e
  have⟨k1,k2⟩:=g;exact⟨f,v,e3,e4,hb,k1,k2 rfl ab⟩
 refine Ir (Wn (λj=>Wn (λ_=>Wd λe=>by cases e) λb2=>Wn (λ_=>Wd λe=>by cases e) λz=>?_) λj=>main (.inl (by simpa using j)));have q:0<=h.b:=by simpa using b2
 have u:h.b<h.p.length:=by simpa using z
 refine Ok.get q u λp hp=>Wn (λ_=>Wd λe=>by cases e) λD=>main (.inr ⟨q,u,?_⟩);rw[Yu hp];grind
def dlt{a b:Int}(h:decide (a<b)=true):a<b:=Wx h
def YW{ps:List Wo}{i j:Int}(p:Wo)(f:0<=i)(e:i<ps.length)(g:0<=j):pg (ps.set i.toNat p) j=if j=i then p else pg ps j:=by unfold pg;grind
def XdH(N:Nat)(ps:List Wo)(e:ps.length<=100000000):∀(n:Nat) (c i:Int),0<=i->0<=c->c<=i->i<=ps.length->(ps.length-i).toNat<n->Ok (QbF N ps n c i) λr=>0<=r/\r<=ps.length
 |0,c,i,_,_,_,_,h=>by omega
 |n+1,c,i,f,g,j,q,s=>by
  refine Wn (λh=>?_) λh=>Wd ⟨g,ab⟩;have k:i<ps.length:=dlt h;refine Ok.get f k λp hp=>?_;rw[Xe (n:=c+1) ab ab,Xe (n:=i+1) ab ab];refine Wn (λ_=>?_) λ_=>?_
  .exact XdH N ps e n (c+1) (i+1) ab ab ab ab ab
  exact XdH N ps e n c (i+1) ab ab ab ab ab
def J8{N:Nat}{ps:List Wo}(e:ps.length<=100000000)(hN:ps.length<N):Ok (QcF N ps) λr=>0<=r/\r<=ps.length:=
 WJ (XdH N ps e N 0 0 ab ab ab ab ab) λr _ h=>Wd h
def RunOK(ps:List Wo)(i k:Int):Prop:=0<=i/\1<=k/\i+k<=ps.length/\∀m,0<=m->m<k->(pg ps (i+m)).k=0
def Xc1(N:Nat)(ps:List Wo)(x:ps.length<=100000000):∀(n:Nat) (i:Int) (rs:List OD),0<=i->i<=ps.length->(ps.length-i).toNat<n->rs.length<=i->(∀r∈rs,RunOK ps r.O r.Len) ->
 Ok (Qbz N ps n i rs) λout=>out.length<=ps.length/\(∀r∈out,RunOK ps r.O r.Len)/\(out=[]->rs=[]/\∀j,i<=j->j<ps.length->(pg ps j).k≠0)
 |0,i,rs,_,_,h,_,_=>by omega
 |n+1,i,rs,B,M,R,D,s=>by
  refine Wn (λh=>?_) λh=>Wd ⟨ab,s,λe=>⟨e,λj _ _=>by have:=WM h;omega⟩⟩;have v:i<ps.length:=dlt h;refine Ok.get B v λp hp=>?_;have G:=Yu hp;rw[Xe (n:=i+1) ab ab];refine Wn (λI=>(Xc1 N ps x n (i+1) rs ab ab ab ab s).mono λout ⟨a,b,c⟩=>⟨a,b,λe=>⟨(c e).1,λj S J=>by by_cases U:j=i;{grind};exact(c e).2 j ab J⟩⟩) λI=>?_;have new:Ok (grd ((rs.length+1)*16<=140737488355328) (Qbz N ps n (i+1) (rs++[OD.mk i 1]))) λout=>out.length<=ps.length/\(∀r∈out,RunOK ps r.O r.Len)/\(out=[]->rs=[]/\∀j,i<=j->j<ps.length->(pg ps j).k≠0):=by
   refine Uc ab ((Xc1 N ps x n (i+1) _ ab ab ab (by simp_all) λr g=>?_).mono λout ⟨a,b,c⟩=>⟨a,b,λe=>by have:=(c e).1;simp at this⟩);rcases Wr.1 g with g|g
   .simp_all
   have:r=OD.mk i 1:=by simpa using g
   subst this;refine⟨B,by show(1:Int)<=1;omega,by show i+1<=_;omega,λm v K=>?_⟩;grind
  refine Uc ab (Ir (Wn (λu=>?_) λ_=>new));have u:0<(rs.length:Int):=Wx u;rw[Xe (n:=(rs.length:Int)-1) ab ab];refine Ok.get ab ab λq w=>Ok.get ab ab λq' y=>?_;obtain rfl:q=q':=Wz (w.symm.trans y);have f:=s q (Ys w);have hb:=f.2.2.1;rw[Xe (n:=q.O+q.Len) (by have:=f.1;have:=f.2.1;omega) ab];refine Wn (λE=>?_) λ_=>new;have E:q.O+q.Len=i:=by simpa using E
  refine Ok.get ab ab λq2 z=>Ok.get ab ab λq3 A=>?_;obtain rfl:q=q2:=Wz (w.symm.trans z);obtain rfl:q=q3:=Wz (w.symm.trans A);have:=f.1;have:=f.2.1;rw[Xe (n:=q.Len+1) ab ab];refine(Xc1 N ps x n (i+1) _ ab ab ab (by grind) λr g=>?_).mono λout ⟨a,b,c⟩=>⟨a,b,λe=>by have:=congrArg List.length (c e).1;simp at this;simp_all⟩
  rcases WZ g with g|g
  .simp_all
  subst g;refine⟨f.1,by show 1<=q.Len+1;omega,by show q.O+(q.Len+1)<=_;omega,λm v K=>?_⟩;by_cases L:m<q.Len
  .exact f.2.2.2 m v L
  grind
def Xks{N:Nat}{ps:List Wo}(f:ps.length<=100000000)(hN:ps.length<N):Ok (Qgm N ps) λout=>out.length<=ps.length/\(∀r∈out,RunOK ps r.O r.Len)/\(out=[]->∀j:Int,0<=j->j<ps.length->(pg ps j).k≠0):=
 WJ (Xc1 N ps f N 0 [] ab ab ab ac ac) λr _ h=>Wd ⟨h.1,h.2.1,λe=>(h.2.2 e).2⟩
def RunOK.less{ps:List Wo}{i k j:Int}(h:RunOK ps i k)(e:1<=j)(f:j<=k):RunOK ps i j:=⟨h.1,e,by have:=h.2.2.1;omega,λm a b=>h.2.2.2 m a ab⟩
def XhM(N:Nat)(ps:List Wo)(k:Int)(rs:List OD)(w:rs.length<=100000000)(g:∀r∈rs,RunOK ps r.O r.Len):∀(n:Nat) (i:Int),0<=i->i<=rs.length->(rs.length-i).toNat<n ->
 Ok (QbE N k rs n i) λe=>(∀a,e=.ret a->RunOK ps a k)/\(∀u,e=.nxt u->k=1->i=rs.length)
 |0,i,_,_,h=>by omega
 |n+1,i,s,x,y=>by
  refine Wn (λh=>?_) λh=>Wd ⟨λa e=>by grind,λ_ _ _=>by have:=WM h;omega⟩;have v:i<rs.length:=dlt h;rw[Xe (n:=i+1) ab ab];have next:=XhM N ps k rs w g n (i+1) ab ab ab
  refine Wn (λj=>?_) λj=>next.mono λe h=>⟨h.1,λ_ _ _=>by have:=WM j;omega⟩
  refine Ok.get s v λp hp=>Wn (λf=>?_) λf=>next.mono λe h=>⟨h.1,λ_ _ _=>by have:=WM f;have:=(g p (Ys hp)).2.1;omega⟩
  refine Ok.get s v λp' q=>Wd ⟨λa e=>?_,λ_ e=>by cases e⟩;obtain rfl:p=p':=Wz (hp.symm.trans q);cases e;have j:1<=k:=Wx j;have f:k<=p.Len:=Wx f;exact(g p (Ys hp)).less j f
def Xb9{N:Nat}{ps:List Wo}(k:Int)(f:ps.length<=100000000)(hN:ps.length<N):Ok (Qba N ps k) λi=>i = -1/\(k=1->∀j:Int,0<=j->j<ps.length->(pg ps j).k≠0)\/RunOK ps i k:=by refine WJ (Xks f hN) λrs _ h=>?_;refine I6 (XhM N ps k rs ab h.2.1 N 0 ab ab ab) (λa q=>Wd (.inr (q.1 a rfl))) λ_ q=>Wd (.inl ⟨rfl,λe=>h.2.2 ?_⟩);have:=q.2 _ rfl e;exact WG ab
def Zj{N:Nat}{ps:List Wo}(k:Int)(e:ps.length<=100000000)(hN:ps.length<N):Ok (Qba N ps k) λi=>i = -1\/RunOK ps i k:=(Xb9 k e hN).mono λ_ h=>h.imp And.left id
def Taken(ps out:List Wo)(i k:Int)(first rest:Wo):Prop:=out.length=ps.length/\∀j,0<=j->pg out j=if j=i then first else if i<=j/\j<i+k then rest else pg ps j
def Xkt(N:Nat)(ps:List Wo)(i k:Int)(f r:Wo)(A:ps.length<=100000000)(B:0<=i)(D:i+k<=ps.length):∀(n:Nat) (m:Int) (v:List Wo),0<=m->(m<=k\/m=0)->(k-m).toNat<n->v.length=ps.length->(∀j,0<=j->pg v j=if i<=j/\j<i+m then r else pg ps j) ->
 Ok (Qd2 N i k f r n m v) λe=>(∀o,e=.nxt o->o.length=ps.length/\∀j,0<=j->pg o j=if i<=j/\j<i+k then r else pg ps j)/\(∀o,e=.ret o->o.2=20/\o.1=[])/\((∀j,m<=j->j<k->(pg ps (i+j)).k=0)->∀o,e≠.ret o)
 |0,m,v,_,_,h,_,_=>by omega
 |n+1,m,v,I,J,K,y,q=>by
  refine Wn (λh=>?_) λh=>Wd ⟨λo e=>?_,λo e=>(by cases e),λ_ o e=>(by cases e)⟩;rotate_left
  .cases e;have:¬m<k:=WM h;refine⟨y,λj u=>?_⟩;rw[q j u];by_cases z:i<=j/\j<i+m
   .rw[Wm z,Wm ab]
   rw[Wj z,Wj ab]
  have E:m<k:=dlt h;rw[Xe (n:=i+m) ab ab,Xe (n:=m+1) ab ab];refine Ok.get ab ab λp hp=>?_;have w:p=pg ps (i+m):=by rw[←Yu hp,q _ ab,Wj ab]
  refine Wn (λs=>Wd ⟨λo e=>(by cases e),λo e=>(by cases e;exact⟨rfl,rfl⟩),λg=>?_⟩) λs=>?_
  .have:=g m ab E;rw[←w]at this;simp[this]at s
  refine Ok.get ab ab λL G=>?_;refine(Xkt N ps i k f r A B D n (m+1) _ ab ab ab (by rw[WL];exact y) λj u=>?_).mono λe x=>⟨x.1,x.2.1,λg=>x.2.2 λj a b=>g j ab b⟩
  rw[YW r ab ab u,q j u];grind
def Xku{N:Nat}{ps:List Wo}(i k:Int)(f r:Wo)(B:ps.length<=1000000)(hN:1000000<N)(y:1<=k)(z:k<=1000000):Ok (Qdd N ps i k f r) λo=>(o.2=0->0<=i/\i+k<=ps.length/\Taken ps o.1 i k f r)/\(o.2≠0->o.1=[])/\(RunOK ps i k->o.2=0):=by
 refine Wn (λh=>Wd ⟨λe=>ab,λ_=>rfl,λg=>?_⟩) λv=>?_
 .have:=Wx h;have:=g.1;omega
 have v:¬i<0:=WM v;refine Wn (λh=>Wd ⟨λe=>ab,λ_=>rfl,λg=>?_⟩) λw=>?_
 .have:=Wx h;have:=g.2.2.1;omega
 have w:¬i>=(ps.length:Int):=WM w;rw[Xe (n:=(ps.length:Int)-i) ab ab];refine Wn (λh=>Wd ⟨λe=>ab,λ_=>rfl,λg=>?_⟩) λx=>?_
 .have:=Wx h;have:=g.2.2.1;omega
 have x:¬k>(ps.length:Int)-i:=WM x;refine Uc ab (I6 (Xkt N ps i k f r ab ab ab N 0 ps ab ab ab rfl λj s=>(by grind)) (λa q=>?_) λo q=>?_)
 .have⟨A,u⟩:=q.2.1 a rfl;refine Wd ⟨λe=>ab,λ_=>u,λg=>?_⟩;exact absurd rfl (q.2.2 (λj a b=>g.2.2.2 j a b) a)
 have⟨A,u⟩:=q.1 o rfl;refine Ok.get ab ab λp hp=>Wd ⟨λ_=>⟨ab,ab,⟨by simp_all,λj s=>?_⟩⟩,λe=>absurd rfl e,λ_=>rfl⟩;rw[YW f ab ab s,u j s]
def XdI{N:Nat}{ps:List Wo}(i sp:Int)(k:ps.length<=1000000)(hN:1000000<N):Ok (QbJ N ps i sp) λo=>(o.2=0->0<=i/\i+1<=ps.length/\Taken ps o.1 i 1 ⟨1,sp,0,0⟩ ⟨0,0,0,0⟩)/\(o.2≠0->o.1=[])/\(RunOK ps i 1->0<=sp->sp<=1->o.2=0):=by
 refine Wn (λh=>Wd ⟨λe=>ab,λ_=>rfl,λ_ g j=>?_⟩) λg=>?_
 .grind
 refine Wn (λh=>Wd ⟨λe=>ab,λ_=>rfl,λ_ g j=>?_⟩) λj=>?_
 .grind
 refine WJ (Xku i 1 ⟨1,sp,0,0⟩ ⟨0,0,0,0⟩ k hN ab ab) λy _ f=>Wd ⟨f.1,f.2.1,λp _ _=>f.2.2 p⟩
def XnV{N:Nat}{ps:List Wo}(c:WN)(i sp w:Int)(g:ps.length<=1000000)(hN:1000000<N):Ok (QdK N c ps i sp w) λo=>(o.2=0->0<=i/\i+Xn c w<=ps.length/\1<=Xn c w/\Taken ps o.1 i (Xn c w) ⟨2,sp,w,0⟩ ⟨3,sp,0,0⟩)/\(o.2≠0->o.1=[]):=by rw[QdK,Zg ab,Xa];refine Wn (λh=>Wd ⟨λe=>(by cases e),λ_=>rfl⟩) λf=>?_;have f:¬Xn c w<1:=WM f;refine Wn (λh=>Wd ⟨λe=>(by cases e),λ_=>rfl⟩) λk=>?_;refine Wn (λh=>Wd ⟨λe=>(by cases e),λ_=>rfl⟩) λp=>?_;have q:=KC c w;refine WJ (Xku i (Xn c w) ⟨2,sp,w,0⟩ ⟨3,sp,0,0⟩ g hN ab ab) λy _ j=>Wd ⟨λe=>?_,j.2.1⟩;simp_all
def HB(h:Wi):Prop:=h.w.length<=100000/\h.p.length<=100000
def NB(N:Nat):Prop:=10000000<N
def zH:Wi:=⟨⟨0,0⟩,[],[],0,0⟩
def Kq:HB zH:=⟨ag,ag⟩
def wd(ws:List Int)(a:Int):Int:=ws.getD (ix a) 0
def hdA(ws:List Int)(a:Int):Ws:=Zf (wd ws a)
def szA(ws:List Int)(a:Int):Int:=(hdA ws a).n+1
def XA(ws:List Int)(a:Int):Xj (hdA ws a)=szA ws a/\1<=szA ws a/\szA ws a<=256:=by have:=Xfk (wd ws a);unfold szA hdA;omega
def pgi(c:WN)(a:Int):Int:=(a-4096) / c.W
def pgo(c:WN)(a:Int):Int:=(a-4096) % c.W
structure II(h:Wi)(a:Int):Prop where
 rng:4096<=a/\a<4096+h.c.p*h.c.W
 kind:(pg h.p (pgi h.c a)).k=1\/(pg h.p (pgi h.c a)).k=2
 ok:okH (wd h.w a)=true
 used:pgo h.c a<(pg h.p (pgi h.c a)).u
 small:(pg h.p (pgi h.c a)).k=1->pgo h.c a+szA h.w a<=(pg h.p (pgi h.c a)).u
 large:(pg h.p (pgi h.c a)).k=2->pgo h.c a=0/\szA h.w a=(pg h.p (pgi h.c a)).u
def XcE{N:Nat}(hN:NB N){h:Wi}(hb:HB h)(a:Int):Ok (Qao N h a) λr=>r.2=0->Uu h/\Qaa N h=some true/\II h a/\r.1=hdA h.w a:=by
 unfold NB at hN;refine WJ (YI (N:=N) ab hb.1 hb.2) λb eb hp=>?_;refine Wn (λ_=>Wd λe=>by cases e) λv=>?_;have x:b=true:=by simpa using v
 subst x;have hp:=hp rfl;rw[KV,Xa,hp.conf,Wj ac];have O:=Xh.1 hp.conf;by_cases q:4096<=a/\a<4096+h.c.p*h.c.W;rotate_left
 .rw[Wj q];exact Wn (λ_=>Wd λe=>by cases e) λe=>by cases e
 rw[Wm q,show(a-4096) / h.c.W=pgi h.c a from rfl,show(a-4096) % h.c.W=pgo h.c a from rfl];have j:=Xgm hp.conf q.1 q.2;have R:=hp.pages;have J:0<=pgi h.c a:=j.1;have K:pgi h.c a<h.p.length:=by have:pgi h.c a<h.c.p:=j.2.1;omega
 refine Ok.get J K λp y=>?_;have f:=Yu y;have z:inW h.w a:=by unfold inW;have:=hp.words;omega
 rw[Ye (by unfold BIG;have:=hb.1;omega),Xa,Wm z];show Ok (bnd (QcA N (wd h.w a)) _) _;rw[ZI,Xa];have A:=XA h.w a;have L:pgo h.c a<h.c.W:=j.2.2.2.1;have D:0<=pgo h.c a:=j.2.2.1;have rest:okH (wd h.w a)=true->(p.k=1\/p.k=2)->pgo h.c a<p.u->Ok (α:=Ws×Int) (bnd (QcN N (Zf (wd h.w a))) λB=>
  bif (p.k==1)then(bif (decide ((wI (pgo h.c a+B))>p.u))then some ((Ws.mk 0 0 0),19)
   else bif (p.k==2)then(bif (pgo h.c a != 0)then some ((Ws.mk 0 0 0),19)
    else bif (B != p.u)then some ((Ws.mk 0 0 0),19)
    else some (Zf (wd h.w a),0))
   else some (Zf (wd h.w a),0))
  else bif (p.k==2)then(bif (pgo h.c a != 0)then some ((Ws.mk 0 0 0),19)
   else bif (B != p.u)then some ((Ws.mk 0 0 0),19)
   else some (Zf (wd h.w a),0))
  else some (Zf (wd h.w a),0)) λr=>r.2=0->Uu h/\Qaa N h=some true/\II h a/\r.1=hdA h.w a:=by
  intro E G I
  rw[XI,Xa]
  have M:Xj (Zf (wd h.w a))=szA h.w a:=A.1
  rw[M,Xe ab ab]
  refine Wn (λk1=>?_) λk1=>?_
  .have k1:p.k=1:=by simpa using k1
   refine Wn (λ_=>Wd λe=>by cases e) λk2=>?_
   have k2:¬pgo h.c a+szA h.w a>p.u:=WM k2
   refine Wn (λg=>by rw[k1]at g;cases g) λ_=>Wd λ_=>⟨hp,eb,⟨q,by rw[f];exact G,E,by rw[f];exact I,λ_=>by rw[f];omega,λe=>by rw[f,k1]at e;cases e⟩,rfl⟩
  .have k1:¬p.k=1:=by simpa using k1
   have k2:p.k=2:=ab
   refine Wn (λ_=>?_) λg=>by rw[k2]at g;cases g
   refine Wn (λ_=>Wd λe=>by cases e) λg=>?_
   refine Wn (λ_=>Wd λe=>by cases e) λs=>Wd λ_=>⟨hp,eb,⟨q,by rw[f];exact G,E,by rw[f];exact I,λe=>by rw[f]at e;omega,λ_=>⟨by simpa using g,by rw[f];simpa using s⟩⟩,rfl⟩
 refine Ir (Wn (λk1=>Wn (λ_=>Wd λe=>by cases e) λk2=>Wn (λ_=>Wd λe=>by cases e) λg=>Wn (λ_=>Wd λe=>by cases e) λs=>?_) λk1=>Wn (λ_=>Wd λe=>by cases e) λg=>Wn (λ_=>Wd λe=>by cases e) λs=>?_)
 .exact rest (by simpa using s) (.inr (by simpa using k2)) (by have S:¬(pgo h.c a>=p.u):=WM g;omega)
 grind
def XdJ{N:Nat}(hN:NB N){h:Wi}(hb:HB h)(a:Int):Ok (QbM N h a) λr=>r.2=0->Uu h/\Qaa N h=some true/\II h a/\r.1=hdA h.w a/\r.1.k≠0:=by
 have f:=hN;unfold NB at hN;refine WJ (YI (N:=N) ab hb.1 hb.2) λb eb hp=>?_;refine Wn (λ_=>Wd λe=>by cases e) λg=>?_;refine Wn (λ_=>Wd λe=>by cases e) λ_=>?_;refine WJ (XcE f hb a) λy v j=>?_;refine Wn (λk1=>Wn (λ_=>Wd λe=>by cases e) λk2=>Wd λe=>?_) λk1=>Wd λe=>?_
 .have⟨p,q,s,u⟩:=j e;exact⟨p,q,s,u,by simpa using k2⟩
 simp_all
def XhN{N:Nat}(hN:NB N){h:Wi}(hb:HB h)(a i:Int):Ok (Qc7 N h a i) λr=>r.2=0->Uu h/\II h a/\0<=i/\i<(hdA h.w a).n:=by
 refine WJ (XdJ hN hb a) λy p f=>?_;refine Wn (λk=>Wd λe=>absurd e (by simpa using k)) λk1=>?_;refine Wn (λ_=>Wd λe=>by cases e) λk2=>?_;refine Wn (λ_=>Wd λe=>by cases e) λq=>?_;have⟨g,s,j,u,v⟩:=f (by simpa using k1);rw[Ye (by unfold BIG;have:=hb.1;omega),Xa];refine Wd λ_=>⟨g,j,?_,?_⟩
 .have:=WM k2;omega
 simp_all
def XhO{N:Nat}(hN:NB N){h:Wi}(hb:HB h)(a i v:Int):Ok (Qcm N h a i v) λr=>HB r.1:=by
 refine WJ (XhN hN hb a i) λy f g=>?_;refine Wn (λ_=>Wd Kq) λk1=>?_;have e:=hN;unfold NB at e;rw[KJ (by unfold BIG;have:=hb.1;omega) ab,Xa];refine Wd ?_;split
 .exact⟨by rw[WL];exact hb.1,hb.2⟩
 exact⟨ac,hb.2⟩
def Xl2{N:Nat}(hN:NB N){h:Wi}(hb:HB h)(a:Int):Ok (Qdc N h a) λr=>r.1.length<=256:=by
 refine WJ (XdJ hN hb a) λy q f=>?_;refine Wn (λ_=>Wd ac) λk1=>?_;have⟨s,u,v,g,x⟩:=f (by simpa using k1);have j:=XA h.w a;have e:y.1.n=szA h.w a-1:=by rw[g];unfold szA;omega
 have⟨k,p⟩:=UQ (a:=y.1.n) ab;rw[p,XcZ (by unfold BIG;have:=hb.1;omega) N _ k ab,Xa];refine Wd ?_;grind
def Xkv{N:Nat}(hN:NB N){h:Wi}(hb:HB h)(a:Int)(hd:Ws):Ok (Qa1 N h a hd) λr=>HB r.1:=by
 have f:=hN;unfold NB at f;rw[Qa1,KB,Xa];refine WJ (YI (N:=N) ab hb.1 hb.2) λb eb hp=>?_;refine Wn (λ_=>Wd Kq) λ_=>?_;refine Wn (λ_=>Wd Kq) λk1=>?_;have g:Xx hd=true:=by
  cases g:Xx hd with
  |true=>rfl
  |false=>simp_all
 have k:=XB g;refine Uc ab (Uc ab ?_);rw[Wm g,ZA (by unfold BIG;have:=hb.1;omega) (by unfold BIG;grind) (by grind),Xa];split
 .rename_i j;refine Wn (λe=>by grind) λ_=>Wd ⟨?_,hb.2⟩;have p:=hb.1;rw[Zz]
  .omega
  unfold Ym at j;unfold ix;omega
 exact Wn (λ_=>Wd Kq) λe=>by grind
def XnW(N:Nat)(l:List Int)(v:Int)(g:l.length<=1000000000):∀(n k:Nat),k<=l.length->l.length-k<n->Qfo N l v n (k:Int)=some (if(l.drop k).contains v then .ret true else .nxt ())
 |0,k,_,h=>by omega
 |n+1,k,p,q=>by
  rw[Qfo];by_cases h:k<l.length
  .have j:decide ((k:Int)<(l.length:Int))=true:=We ab;rw[j,Wc,Xf,Wb h,Xa,Xe ab ab];rw[show((k:Int)+1)=((k+1:Nat):Int) by omega,XnW N l v g n (k+1) ab ab];rw[Wl h,List.contains_cons];by_cases f:l[k]=v
   .subst f;simp
   rw[show(l[k]==v)=false by simpa using f,Wa,show(v==l[k])=false by simpa usingλe=>f e.symm,Iz]
  grind
def X0{N:Nat}{l:List Int}(v:Int)(e:l.length<=1000000000)(hN:l.length<N):QbL N l v=some (l.contains v):=by have h:=XnW N l v e N 0 ab ab;rw[show((0:Nat):Int)=0 from rfl,WX]at h;rw[QbL,h,Xa];grind[Xm,Xs]
structure OT(N:Nat)(h:Wi)(l:List Int):Prop where
 at_:∀a∈l,II h a
 ev:∀a∈l,Qao N h a=some (hdA h.w a,0)
 pw:l.Pairwise λa b=>a+szA h.w a<=b
def Xju(h:Wi)(i:Int)(l:List Int):Prop:=∀a∈l,Xc h.c i 0<=a/\pgi h.c a=i
def Xfn{c:WN}{i o p:Int}(h:o<=p):Xc c i o<=Xc c i p:=by unfold Xc;omega
def Yb{c:WN}(e:XR c=true){p o:Int}(f:0<=o)(g:o<c.W):pgi c (Xc c p o)=p/\pgo c (Xc c p o)=o:=XqH e f g
def XN{c:WN}(e:XR c=true){a:Int}(h:4096<=a/\a<4096+c.p*c.W):a=Xc c (pgi c a) (pgo c a)/\0<=pgi c a/\pgi c a<c.p/\0<=pgo c a/\pgo c a<c.W:=by have:=Xgm e h.1 h.2;exact⟨this.2.2.2.2,this.1,this.2.1,this.2.2.1,this.2.2.2.1⟩
def Xvu(N:Nat)(h:Wi)(i o:Int)(l:List Int):Prop:=OT N h l/\Xju h i l/\(∀a∈l,a+szA h.w a<=Xc h.c i o)/\(l.length:Int)<=o
def OT.snoc{N:Nat}{h:Wi}{l:List Int}{a:Int}(f:OT N h l)(k:II h a)(g:Qao N h a=some (hdA h.w a,0))(j:∀b∈l,b+szA h.w b<=a):OT N h (l++[a]):=by
 refine⟨λx e=>?_,λx e=>?_,?_⟩
 .rcases Wr.1 e with e|e
  .exact f.at_ x e
  simp_all
 .rcases Wr.1 e with e|e
  .exact f.ev x e
  simp_all
 rw[Ol];refine⟨f.pw,ac,λb hb c p=>?_⟩;simp_all
def PageL(N:Nat)(h:Wi)(i:Int)(l:List Int):Prop:=OT N h l/\Xju h i l/\(l.length:Int)<=64
def XtX(N:Nat)(h:Wi)(i:Int):Ex (List Int×Int) (List Int)->Prop
 |.ret r=>r=([],19)
 |.nxt l=>PageL N h i l
def QkL{N:Nat}(hN:NB N){h:Wi}(hb:HB h)(hp:Uu h){i:Int}(K:0<=i)(L:i<h.p.length)(g:(pg h.p i).k=1\/(pg h.p i).k=2):∀(n:Nat) (o:Int) (l:List Int),0<=o->(65-o).toNat<n->Xvu N h i o l->((pg h.p i).k=1->o<=(pg h.p i).u)->((pg h.p i).k=2->o=0) ->
 Ok (Qai N h i (pg h.p i) n o l) (XtX N h i)
 |0,o,l,_,M,j,k1,k2=>by omega
 |n+1,o,l,v,M,j,k1,k2=>by
  have hv:=Xh.1 hp.conf;have O:=(hp.pgs i K L).small;have R:=hp.pages;have r:(l.length:Int)<=64:=by
   have:=j.2.2.2;rcases g with g|g
   .omega
   omega
  refine Wn (λz=>?_) λ_=>Wd ⟨j.1,j.2.1,r⟩;have z:o<(pg h.p i).u:=Wx z;have A:o<h.c.W:=by
   rcases g with g|g
   .omega
   omega
  rw[ZJ,hp.conf,Xa,Wj ac,Wm ab];dsimp only;refine WJ (XcE hN hb (Xc h.c i o)) λy S U=>?_;refine Wn (λ_=>Wd rfl) λV=>?_;have⟨_,_,B,D⟩:=U (by simp_all);have s:=Yb hp.conf (p:=i) v A;have G:=XA h.w (Xc h.c i o);have I:Qao N h (Xc h.c i o)=some (hdA h.w (Xc h.c i o),0):=by rw[S];congr 1;exact Prod.ext D (by simp_all)
  have q:OT N h (l++[Xc h.c i o]):=j.1.snoc B I j.2.2.1;have E:Xju h i (l++[Xc h.c i o]):=by
   intro x f;rcases Wr.1 f with f|f
   .exact j.2.1 x f
   have:x=Xc h.c i o:=by simpa using f
   subst this;exact⟨Xfn v,s.1⟩
  have J:((l++[Xc h.c i o]).length:Int)=l.length+1:=by simp
  have Y:=j.2.2.2;refine Uc ab (Wn (λkk=>Wd ⟨q,E,ab⟩) λkk=>?_);have kk:(pg h.p i).k=1:=by
   rcases g with g|g
   .omega
   simp_all
  rw[D,XI,Xa];rw[G.1];have Z:=B.small (by simp_all);rw[s.1,s.2]at Z;rw[Xe ab ab];refine QkL hN hb hp K L g n _ _ ab ab ⟨q,E,λx f=>?_,ab⟩ (λ_=>ab) (λe=>ab);rcases Wr.1 f with f|f
  .have:=j.2.2.1 x f;have:=Xfn (c:=h.c) (i:=i) (o:=o) (p:=o+szA h.w (Xc h.c i o)) ab;omega
  have:x=Xc h.c i o:=by simpa using f
  subst this;unfold Xc;omega
def PageL.nil(N:Nat)(h:Wi)(i:Int):PageL N h i []:=⟨⟨ac,ac,ac⟩,λa e=>by simp_all,ac⟩
def QkM{N:Nat}(hN:NB N){h:Wi}(hb:HB h)(i:Int):Ok (Qag N h i) λr=>(r.2≠0->r.1=[])/\r.1.length<=64/\(Uu h->PageL N h i r.1):=by
 have j:=hN;unfold NB at j;refine WJ (YI (N:=N) ab hb.1 hb.2) λb eb hp=>?_;refine Wn (λ_=>Wd ⟨λ_=>rfl,ac,λ_=>PageL.nil N h i⟩) λw=>?_;have hp:=hp (by simp_all);refine Wn (λ_=>Wd ⟨λ_=>rfl,ac,λ_=>PageL.nil N h i⟩) λf=>?_;refine Wn (λ_=>Wd ⟨λ_=>rfl,ac,λ_=>PageL.nil N h i⟩) λg=>?_;have f:0<=i:=by have:=WM f;omega
 have g:i<h.p.length:=by have:=WM g;omega
 refine Ok.get f g λp s=>?_;have u:=Yu s;subst u;refine Wn (λ_=>Wd ⟨λ_=>rfl,ac,λ_=>PageL.nil N h i⟩) λk0=>?_;refine Wn (λ_=>Wd ⟨λ_=>rfl,ac,λ_=>PageL.nil N h i⟩) λv=>?_;have x:=(hp.pgs i f g).kind;have k0:¬(pg h.p i).k=0:=by simpa using k0
 have v:¬(pg h.p i).k=3:=by simpa using v
 refine I6 (QkL hN hb hp f g ab N 0 [] ab ab ⟨⟨ac,ac,ac⟩,λa y=>by simp_all,ac,ac⟩ (λk=>((hp.pgs i f g).small k).1) (λ_=>rfl)) (λa q=>?_) λl q=>?_
 .have:a=([],19):=q;subst this;exact Wd ⟨λ_=>rfl,ac,λ_=>PageL.nil N h i⟩
 exact Wd ⟨λe=>absurd rfl e,by have:=q.2.2;grind,λ_=>q⟩
def Xgo{c:WN}(e:XR c=true){w:Int}(h:1<=Xn c w):w<=Xn c w*c.W:=by unfold Xn at h⊢;grind
def Xc2{h:Wi}(hp:Uu h){a:Int}(g:II h a):∃k,1<=k/\pgi h.c a+k<=h.c.p/\a+szA h.w a<=Xc h.c (pgi h.c a+k) 0/\∀m,1<=m->m<k->(pg h.p (pgi h.c a+m)).k=3:=by
 have⟨e,q,z,A,B⟩:=XN hp.conf g.rng;have x:=hp.pages;rcases g.kind with f|f
 .have D:=g.small f;have:=(hp.pgs _ q ab).small f;refine⟨1,ab,ab,?_,λm j r=>ab⟩;have E:Xc h.c (pgi h.c a+1) 0=4096+pgi h.c a*h.c.W+h.c.W:=by unfold Xc;rw[UY];omega
  have e3:a=4096+pgi h.c a*h.c.W+pgo h.c a:=e;omega
 have⟨G,I⟩:=g.large f;have⟨s,v⟩:=(hp.pgs _ q ab).large f;have y:=Xgo hp.conf s;refine⟨_,s,?_,?_,λm j r=>(v m j r).2⟩
 .by_cases j:Xn h.c (pg h.p (pgi h.c a)).u=1
  .omega
  have:=(v (Xn h.c (pg h.p (pgi h.c a)).u-1) ab ab).1;omega
 have e3:a=4096+pgi h.c a*h.c.W+pgo h.c a:=e;unfold Xc;grind
def KD{h:Wi}(hp:Uu h){a:Int}(e:II h a):a+szA h.w a<=4096+h.w.length:=by have⟨k,j,f,g,_⟩:=Xc2 hp e;have q:=Xh.1 hp.conf;have:=hp.words;have r:(pgi h.c a+k)*h.c.W<=h.c.p*h.c.W:=WU f ab;unfold Xc at g;omega
def Xl3{h:Wi}(hp:Uu h){a b:Int}(g:II h a)(hb:II h b)(j:pgi h.c a<pgi h.c b):a+szA h.w a<=b:=by
 have⟨k,u,v,p,q⟩:=Xc2 hp g;have⟨e,x,y,z,A⟩:=XN hp.conf hb.rng;have f:pgi h.c a+k<=pgi h.c b:=by
  rcases(by omega:pgi h.c b<pgi h.c a+k\/pgi h.c a+k<=pgi h.c b)with r|r
  .have:=q (pgi h.c b-pgi h.c a) ab ab;rw[show pgi h.c a+(pgi h.c b-pgi h.c a)=pgi h.c b by omega]at this;rcases hb.kind with s|s<;>omega
  omega
 have B:(pgi h.c a+k)*h.c.W<=pgi h.c b*h.c.W:=WU f ab;unfold Xc at p e;omega
def QfL{N:Nat}(hN:NB N){h:Wi}(hb:HB h)(hp:Uu h)(i:Int)(f:0<=i)(g:i<h.p.length):Ok (Qag N h i) λr=>PageL N h i r.1/\r.1.length<=64:=(QkM hN hb i).mono λr e=>⟨e.2.2 hp,e.2.1⟩
structure IG(N:Nat)(h:Wi)(l:List Int):Prop where
 obj:OT N h l
 page:∀a∈l,∃r,Qag N h (pgi h.c a)=some r/\a∈r.1
 len:l.length<=4096
def IG.nil(N:Nat)(h:Wi):IG N h []:=⟨⟨ac,ac,ac⟩,ac,ac⟩
def Xfo{N:Nat}(hN:NB N){h:Wi}(hb:HB h)(hp:Uu h):∀(n:Nat) (i:Int) (l:List Int),0<=i->i<=h.p.length->(h.p.length-i).toNat<n->OT N h l->(∀a∈l,∃r,Qag N h (pgi h.c a)=some r/\a∈r.1)->(∀a∈l,pgi h.c a<i)->(l.length:Int)<=64*i ->
 Ok (QaK N h n i l) λe=>match e with|.ret r=>r.1=[]/\r.2≠0|.nxt l=>IG N h l
 |0,i,l,_,_,z,_,_,_,_=>by omega
 |n+1,i,l,A,E,z,g,j,u,w=>by
  have G:=Xh.1 hp.conf;have B:=hp.pages;refine Wn (λv=>?_) λ_=>Wd ⟨g,j,ab⟩;have v:i<h.p.length:=Wx v;refine WJ (QfL hN hb hp i A v) λy D k=>?_;refine Wn (λx=>Wd ⟨rfl,by simpa using x⟩) λx=>?_;refine Uc ab ?_;rw[Xe ab ab];have q:∀a∈y.1,pgi h.c a=i:=λa f=>(k.1.2.1 a f).2;refine Xfo hN hb hp n (i+1) _ ab ab ab ⟨λa f=>?_,λa f=>?_,?_⟩ (λa f=>?_) (λa f=>?_) (by rw[WK];omega)
  .rcases Wr.1 f with f|f
   .exact g.at_ a f
   exact k.1.1.at_ a f
  .rcases Wr.1 f with f|f
   .exact g.ev a f
   exact k.1.1.ev a f
  .rw[Ol];refine⟨g.pw,k.1.1.pw,λa f b s=>?_⟩;exact Xl3 hp (g.at_ a f) (k.1.1.at_ b s) (by rw[q b s];exact u a f)
  .rcases Wr.1 f with f|f
   .exact j a f
   exact⟨y,by rw[q a f];exact D,f⟩
  grind
def J9{N:Nat}(hN:NB N){h:Wi}(hb:HB h):Ok (QbA N h) λr=>IG N h r.1/\(r.2=0->Uu h)/\(r.2≠0->r.1=[]):=by have f:=hN;unfold NB at f;refine WJ (YI (N:=N) ab hb.1 hb.2) λb eb hp=>?_;refine Wn (λ_=>Wd ⟨IG.nil N h,λe=>ab,λ_=>rfl⟩) λg=>?_;have hp:=hp (by simp_all);have j:=hb.2;refine I6 (Xfo hN hb hp N 0 [] ab ab ab ⟨ac,ac,ac⟩ ac ac ac) (λa q=>?_) λl q=>Wd ⟨q,λ_=>hp,λe=>absurd rfl e⟩;refine Wd ⟨?_,λe=>absurd e q.2,λ_=>q.1⟩;rw[q.1];exact IG.nil N h
def IG.sub{N:Nat}{h:Wi}{l l':List Int}(e:IG N h l)(f:l'.Sublist l):IG N h l':=
 ⟨⟨λa g=>e.obj.at_ a (f.subset g),λa g=>e.obj.ev a (f.subset g),e.obj.pw.sublist f⟩,λa g=>e.page a (f.subset g),UK f.length_le e.len⟩
def Xbb{N:Nat}(hN:NB N){h:Wi}(hb:HB h)(y:List Int×Int)(r:y.1.length<=4096):∀(n k:Nat) (l:List Int),k<=y.1.length->y.1.length-k<n->l.Sublist (y.1.take k)->Ok (Qa8 N h y n (k:Int) l) λo=>o.Sublist y.1
 |0,k,l,_,u,_=>by omega
 |n+1,k,l,x,u,j=>by
  have s:l.length<=4096:=UK j.length_le (by rw[Wu];omega);refine Wn (λg=>?_) λ_=>Wd (j.trans (List.take_sublist _ _));have g:(k:Int)<y.1.length:=Wx g;have e:k<y.1.length:=ab;refine Ok.get ab g λp hp=>?_;refine WJ (XcE hN hb p) λz A B=>?_;have v:wI ((k:Int)+1)=((k+1:Nat):Int):=by rw[Xe ab ab];omega
  rw[v];refine Wn (λ_=>?_) λ_=>Xbb hN hb y r n (k+1) l ab ab (j.trans (List.take_sublist_take_left ab));refine Ok.get ab g λw f=>Uc ab (Xbb hN hb y r n (k+1) _ ab ab ?_);have q:w=y.1[k]:=by rw[Xf,Wb e]at f;exact(Wz f).symm
  simp_all[List.take_succ_eq_append_getElem,e,q]
def Kw{N:Nat}(hN:NB N){h:Wi}(hb:HB h):Ok (Qal N h) λr=>IG N h r.1/\(r.2=0->Uu h)/\(r.1≠[]->Uu h):=by refine WJ (J9 hN hb) λy p e=>?_;have f:=hN;unfold NB at f;have g:=e.1.len;have:=Xbb hN hb y g N 0 [] ab ab ac;refine WJ this λo q j=>Wd ⟨e.1.sub j,e.2.1,λk=>?_⟩;grind
def XcF{N:Nat}(hN:NB N){h:Wi}(hb:HB h)(a:Int):Ok (QdC N h a) λb=>b=true->Uu h/\II h a:=by
 have f:=hN;unfold NB at f;refine WJ (Kw hN hb) λy k g=>?_;have p:=g.1.len;rw[X0 a ab ab,Xa];refine Wd λe=>?_;have j:a∈y.1:=by simpa using e
 exact⟨g.2.2 (Oc j),g.1.obj.at_ a j⟩
def XqI{N:Nat}{h:Wi}(hb:HB h)(i o:Int):Ok (QfC N h i o) λ_=>True:=by rw[QfC,QgW,ZJ,Xa,Ye (by unfold BIG;have:=hb.1;omega),Xa,Xa];exact Wd trivial
def XdK(h:Wi)(i:Int)(l:List Int):Prop:=(pg h.p i).k=1->∀a∈l,szA h.w a<=smC h.c
def XhP{N:Nat}(hN:NB N){h:Wi}(hb:HB h){i:Int}(x:0<=i)(y:i<h.p.length)(l:List Int)(D:l.length<=4096)(j:∀a∈l,Qao N h a=some (hdA h.w a,0)/\a≠0):∀(n k:Nat),k<=l.length->l.length-k<n ->
 Ok (QaS N h i l n (k:Int)) λe=>match e with|.ret r=>r≠0|.nxt _=>(pg h.p i).k=1->∀a∈l.drop k,szA h.w a<=smC h.c
 |0,k,_,E=>by omega
 |n+1,k,O,E=>by
  refine Wn (λs=>?_) λs=>Wd ?_;rotate_left
  .grind
  have s:(k:Int)<l.length:=Wx s;have v:k<l.length:=ab;refine Ok.get ab s λp hp=>?_;have G:p=l[k]:=by rw[Xf,Wb v]at hp;exact(Wz hp).symm
  have z:p∈l:=Ys hp;rw[(j p z).1,Xa];rw[XI,Xa,Xfl,Xa,(XA h.w p).1];have I:wI ((k:Int)+1)=((k+1:Nat):Int):=by rw[Xe ab ab];omega
  rw[I];have ret:∀g,Xd l (k:Int)=some g->g≠0:=λg f=>(j g (Ys f)).2;have next:((pg h.p i).k=1->szA h.w p<=smC h.c)->Ok (QaS N h i l n ((k+1:Nat):Int)) λe=>match e with|.ret r=>r≠0|.nxt _=>(pg h.p i).k=1->∀a∈l.drop k,szA h.w a<=smC h.c:=by
   intro u
   refine(XhP hN hb x y l D j n (k+1) ab ab).mono λe R=>?_
   cases e with
   |ret r=>omega
   |nxt _=>
    intro J a K
    rw[Wl v]at K
    grind
  refine Ok.get x y λq L=>?_;have A:=Yu L;refine Wn (λk1=>?_) λk1=>?_
  .refine Wn (λ_=>Ok.get ab s λg f=>Wd (ret g f)) λk2=>?_;have u:szA h.w p<=smC h.c:=by simpa using k2
   refine Ok.get x y λM B=>Wn (λ_=>Wn (λ_=>Ok.get ab s λg f=>Wd (ret g f)) λ_=>next λ_=>u) λ_=>next λ_=>u
  have u:(pg h.p i).k=1->szA h.w p<=smC h.c:=by intro e;rw[A]at e;rw[e]at k1;cases k1
  refine Ok.get x y λM B=>Wn (λ_=>Wn (λ_=>Ok.get ab s λg f=>Wd (ret g f)) λ_=>next u) λ_=>next u
def XnX{N:Nat}(hN:NB N){h:Wi}(hb:HB h){i:Int}(j:0<=i)(k:i<h.p.length){l:List Int}(s:l.length<=64)(f:∀a∈l,Qao N h a=some (hdA h.w a,0)/\a≠0):
 Ok (Qen N h i l) λr=>r=0->XdK h i l:=by have g:=hN;unfold NB at g;have:=XhP hN hb j k l ab f N 0 ab ab;refine I6 this (λa q=>Wd λe=>absurd e q) λ_ q=>Wd λ_=>?_;assumption
def Xgp{N:Nat}{h:Wi}(i:Int)(l:List Int)(k:Int)(e:0<=k)(f:k<l.length)(x:Int)(g:x<=256):∀(n:Nat) (w:Int) (u:List Bool),0<=w->(x-w).toNat<n->u.length<=1000->Ok (QbS N h i l k x n w u) λr=>r.length=u.length
 |0,w,u,_,v,_=>by omega
 |n+1,w,u,A,v,j=>by
  refine Wn (λs=>?_) λ_=>Wd rfl;have s:w<x:=Wx s;refine Ok.get e f λp hp=>?_;rw[Xe (n:=w+1) ab ab];have next:=Xgp (N:=N) (h:=h) i l k e f x g n (w+1) u ab ab j
  refine Wn (λy=>?_) λ_=>next
  refine Uc ab (Wn (λz=>?_) λ_=>next);refine Ok.get (Wx y) (Wx z) λq B=>?_;refine(Xgp i l k e f x g n (w+1) _ ab ab (by rw[WL];exact j)).mono λr D=>?_;simp_all
def Xkw{N:Nat}(hN:NB N){h:Wi}(hb:HB h)(i:Int)(l:List Int)(q:l.length<=100000):∀(n:Nat) (k:Int) (u:List Bool),0<=k->k<=l.length->(l.length-k).toNat<n->u.length<=1000->Ok (Qdo N h i l n k u) λr=>r.length=u.length
 |0,k,u,_,_,s,_=>by omega
 |n+1,k,u,j,z,s,v=>by
  refine Wn (λe=>?_) λ_=>Wd rfl;have e:k<l.length:=Wx e;have f:=hN;unfold NB at f;refine Ok.get j e λp hp=>WJ (XcE hN hb p) λy A B=>?_;rw[XI,Xa];have D:=XnT y.1;have next:∀x:Int,x<=256->Ok (bnd (QbS N h i l k x N 0 u) λg=>Qdo N h i l n (wI (k+1)) g) λr=>r.length=u.length:=by intro x w;refine WJ (Xgp i l k j e x w N 0 u ab ab v) λr E G=>?_;rw[Xe (n:=k+1) ab ab];exact(Xkw hN hb i l q n (k+1) r ab ab ab ab).mono λo I=>by omega
  exact Ir (Wn (λ_=>next 1 ab) λ_=>next _ ab)
def Xgq(N:Nat){h:Wi}(e:(pg h.p 0).k≠3):∀(n:Nat) (i:Int),0<=i->i<h.p.length->h.p.length<=100000->i.toNat<n->Ok (QcO N h n i) λr=>0<=r/\r<h.p.length
 |0,i,_,_,_,j=>by omega
 |n+1,i,f,g,q,j=>by
  refine Ok.get f g λp hp=>Wn (λs=>?_) λ_=>Wd ⟨f,g⟩;have:i≠0:=by rintro rfl;exact e (by simp_all[Yu,hp])
  rw[Xe ab ab];exact Xgq N e n (i-1) ab ab q ab
def Xkx{N:Nat}{h:Wi}(hb:HB h)(i:Int)(u:List Bool)(f:u.length<=1000):∀(n:Nat) (k:Int),0<=k->k<=u.length->(u.length-k).toNat<n->Ok (QcP N h i u n k) λ_=>True
 |0,k,_,_,g=>by omega
 |n+1,k,j,q,g=>by
  refine Wn (λe=>?_) λ_=>Wd trivial;have e:k<u.length:=Wx e;rw[Xe (n:=k+1) ab ab];have next:=Xkx (N:=N) hb i u f n (k+1) ab ab ab
  refine Ok.get j e λp hp=>Wn (λ_=>WJ (XqI hb i k) λy _ _=>Wn (λ_=>?_) λ_=>next) λ_=>next
  rw[QfN,Xa];exact Wd trivial
def XqJ{N:Nat}(hN:NB N){h:Wi}(hb:HB h)(hp:Uu h){i:Int}(k:0<=i)(q:i<h.p.length):Ok (Qeg N h i) λ_=>True:=by
 have f:=hN;unfold NB at f;have g:=hb.2;have s:=Xh.1 hp.conf;refine WJ (WJ (Xgq N hp.first N i k q g ab) λr _ e=>Wd e) λr _ e=>?_;refine WJ (QfL hN hb hp r e.1 e.2) λy _ v=>?_;refine WJ (Q:=λr=>r.length<=1000) (Uc ab (WJ (Xkw hN hb i y.1 ab N 0 _ ab ab ab (by grind)) λu _ j=>Wd ?_)) λu _ j=>?_
 .grind
 exact I6 (Xkx hb i u j N 0 ab ab ab) (λ_ _=>Wd trivial) λ_ _=>Wd trivial
def XnY{N:Nat}(hN:NB N){h:Wi}(hb:HB h)(hp:Uu h){i:Int}(g:0<=i)(j:i<h.p.length):Ok (Qeh N h i) λf=>f.Fault=0->∀r,Qag N h i=some r->XdK h i r.1/\r.2=0:=by
 have main:Ok (bnd (Qag N h i) λq=>
  bif (q.2 != 0)then some (Un.mk 3 i 0)
  else bnd (Qen N h i q.1) λs=>
  bif (s != 0)then some (Un.mk 5 i s)
  else bnd (Qeg N h i) λu=>
  bif (u != 0)then some (Un.mk 4 i u)
  else some (Un.mk 0 0 0)) λf=>f.Fault=0->∀r,Qag N h i=some r->XdK h i r.1/\r.2=0:=by
  refine WJ (QfL hN hb hp i g j) λy x k=>?_
  refine Wn (λ_=>Wd λe=>by grind) λz=>?_
  refine WJ (XnX hN hb g j k.2 λa v=>⟨k.1.1.ev a v,by have:=(k.1.1.at_ a v).rng;omega⟩) λc _ A=>?_
  refine Wn (λ_=>Wd λe=>by grind) λB=>?_
  refine WJ (XqJ hN hb hp g j) λd _ _=>?_
  refine Wn (λ_=>Wd λe=>by grind) λ_=>Wd λ_ r w=>?_
  rw[x]at w
  exact Wz w▸⟨A (by simp_all),by simp_all⟩
 refine Ir (Ok.get g j λp hp=>Wn (λ_=>Ok.get g j λp hp=>Wn (λ_=>Wd λe=>by grind) λ_=>main) λ_=>main)
def XcG{N:Nat}{h:Wi}(r g:List Int×Int)(y:r.1.length<=4096)(z:g.1.length<=256)(hN:1000000<N)(v:Int)(j:0<=v)(u:v<r.1.length)(w:Ws×Int):∀(n:Nat) (k:Int),0<=k->k<=g.1.length->(g.1.length-k).toNat<n->Ok (Qav N h r g v w n k) λe=>∀f,e=.ret f->f.Fault=6
 |0,k,_,_,A=>by omega
 |n+1,k,x,B,A=>by
  refine Uc ab (Wn (λs=>?_) λ_=>Wd λf e=>by grind);have s:k<g.1.length:=Wx s;rw[Xe (n:=k+1) ab ab];have next:=XcG (N:=N) (h:=h) r g y z hN v j u w n (k+1) ab ab ab
  rw[KY,Xa];refine Wn (λ_=>Ok.get x s λp hp=>Wn (λ_=>Ok.get x s λp hp=>?_) λ_=>next) λ_=>next
  rw[X0 p ab ab,Xa];refine Wn (λ_=>Ok.get j u λq D=>?_) λ_=>next
  rw[KV,Xa];exact Wd λf e=>by grind
def XcH{N:Nat}(hN:NB N){h:Wi}(hb:HB h)(g:List Int×Int)(u:g.1.length<=4096):∀(n:Nat) (k:Int),0<=k->k<=g.1.length->(g.1.length-k).toNat<n->Ok (Qbv N h g n k) λe=>∀f,e=.ret f->f.Fault=6
 |0,k,_,_,v=>by omega
 |n+1,k,r,z,v=>by
  have s:=hN;unfold NB at s;refine Wn (λj=>?_) λ_=>Wd λf e=>by cases e
  have j:k<g.1.length:=Wx j;rw[Xe (n:=k+1) ab ab];refine Ok.get r j λp hp=>WJ (XdJ hN hb p) λw _ _=>Ok.get r j λp hp=>WJ (Xl2 hN hb p) λx _ y=>?_;refine I6 (XcG g x u y ab k r j w N 0 ab ab ab) (λa q=>Wd λf e=>?_) λ_ _=>XcH hN hb g u n (k+1) ab ab ab;simp_all
def XhQ{N:Nat}(hN:NB N){h:Wi}(hb:HB h):Ok (Qdy N h) λ_=>True:=by have e:=hN;unfold NB at e;refine WJ (Kw hN hb) λy _ f=>?_;have:=f.1.len;exact I6 (XcH hN hb y f.1.len N 0 ab ab ab) (λ_ _=>Wd trivial) λ_ _=>Wd trivial
def XhR{N:Nat}(hN:NB N){h:Wi}(hb:HB h)(hp:Uu h):∀(n:Nat) (i:Int),0<=i->i<=h.p.length->(h.p.length-i).toNat<n->Ok (Qbd N h n i) λe=>match e with|.ret f=>f.Fault≠0|.nxt _=>∀j,i<=j->j<h.p.length->∀r,Qag N h j=some r->XdK h j r.1/\r.2=0
 |0,i,_,_,q=>by omega
 |n+1,i,s,y,q=>by
  have u:=hb.2;refine Wn (λg=>?_) λg=>Wd λj v k=>?_;rotate_left
  .grind
  have g:i<h.p.length:=Wx g;refine WJ (XnY hN hb hp s g) λf _ z=>Wn (λw=>Wd (by simp_all)) λw=>?_;rw[Xe ab ab];refine(XhR hN hb hp n (i+1) ab ab ab).mono λe x=>?_;cases e with
  |ret f=>omega
  |nxt _=>
   intro j v k;by_cases A:j=i
   .grind
   exact x j ab k
def XhS{N:Nat}{h:Wi}(g:h.p.length<=100000):∀(n:Nat) (c i:Int),0<=i->i<=h.p.length->(h.p.length-i).toNat<n->Ok (Qa4 N h n c i) λ_=>True
 |0,c,i,_,_,j=>by omega
 |n+1,c,i,f,q,j=>by
  refine Wn (λe=>?_) λ_=>Wd trivial;have e:i<h.p.length:=Wx e;rw[Xe (n:=i+1) ab ab];have next:=λk=>XhS (N:=N) g n k (i+1) ab ab ab
  exact Ok.get f e λp hp=>Wn (λ_=>Ok.get f e λp hp=>Wn (λ_=>next _) λ_=>next _) λ_=>next _
structure OP(N:Nat)(h:Wi):Prop where
 prop:Uu h
 small:∀j:Int,0<=j->j<h.p.length->∀r,Qag N h j=some r->XdK h j r.1/\r.2=0
def KE{N:Nat}(hN:NB N){h:Wi}(hb:HB h):Ok (Qbl N h) λb=>b=true->OP N h:=by
 have g:=hN;unfold NB at g;have j:=hb.2;refine WJ (Q:=λf=>f.Fault=0->OP N h) (WJ (YI (N:=N) ab hb.1 hb.2) λb eb hp=>Wn (λ_=>Wd λe=>by cases e) λk=>?_) λf _ r=>Wd λe=>?_
 .have hp:=hp (by simpa using k);refine I6 (XhR hN hb hp N 0 ab ab ab) (λa q=>Wd λe=>absurd e q) λ_ q=>?_;have p:OP N h:=⟨hp,q⟩
  refine WJ (XhQ hN hb) λf _ _=>Wn (λ_=>Wd λ_=>p) λ_=>?_;exact WJ (XhS j N 0 0 ab ab ab) λc _ _=>Wn (λ_=>Wd λ_=>p) λ_=>Wd λ_=>p
 simp_all
def OP.sz{N:Nat}{h:Wi}(e:OP N h){l:List Int}(g:IG N h l){a:Int}(j:a∈l)(q:(pg h.p (pgi h.c a)).k=1):szA h.w a<=h.c.W / 4:=by have⟨r,s,u⟩:=g.page a j;have f:=g.obj.at_ a j;have⟨_,v,x,_⟩:=XN e.prop.conf f.rng;have:=(e.small _ v (by have:=e.prop.pages;omega) r s).1 q a u;unfold smC at this;omega
def Xfp{N:Nat}(l:List Int)(g:l.length<=100000000)(y:List Int×Int)(h:y.1.length<=4096)(hN:1000000<N):∀(n:Nat) (k:Int),0<=k->k<=l.length->(l.length-k).toNat<n->Ok (QaC N l y n k) λ_=>True
 |0,k,_,_,j=>by omega
 |n+1,k,f,q,j=>by
  refine Wn (λe=>?_) λ_=>Wd trivial;have e:k<l.length:=Wx e;rw[Xe (n:=k+1) ab ab];have next:=Xfp (N:=N) l g y h hN n (k+1) ab ab ab
  refine Ok.get f e λp hp=>Wn (λ_=>Ok.get f e λp hp=>?_) λ_=>next
  rw[X0 p ab ab,Xa];exact Wn (λ_=>Wd trivial) λ_=>next
def Xca{N:Nat}(hN:NB N){h:Wi}(hb:HB h){l:List Int}(q:l.length<=1000000):Ok (QbC N h l) λb=>b=true->OP N h:=by have f:=hN;unfold NB at f;refine WJ (KE hN hb) λb _ g=>Wn (λ_=>Wd λe=>by grind) λk=>?_;have j:=g (by simp_all);refine WJ (Kw hN hb) λy _ p=>?_;exact I6 (Xfp l ab y p.1.len ab N 0 ab ab ab) (λ_ _=>Wd λ_=>j) λ_ _=>Wd λ_=>j
def XnZ(d:Ws):ZB d % 4=1:=by have e:ZY .u64 (wU d.Map) 16=wU (wU d.Map*65536):=rfl;unfold ZB;grind[XcD]
def XqK(ws:List Int)(a:Int)(h:wd ws a % 4=2):szA ws a=1:=by
 have:okH (wd ws a)=false:=by
  unfold okH;have f:=XnZ (Xb7 (wd ws a));have:(ZB (Xb7 (wd ws a))==wd ws a)=false:=by rw[beq_eq_false_iff_ne];intro e;rw[e]at f;omega
  rw[this,Bool.and_false]
 unfold szA hdA Zf;simp_all
structure OF(h0:Wi)(l:List Int)(w:Wv)(O:Int->Prop)(s:Int->Int):Prop where
 old:∀a∈l,O a/\s a=szA h0.w a
 queue:∀a∈w.q,O a
 fit:∀a,O a->4096<=a/\1<=s a/\a+s a<=4096+w.h.w.length/\szA w.h.w a<=s a
 apart:∀a b,O a->O b->a≠b->a+s a<=b\/b+s b<=a
 taken:∀a,O a->∀j∈w.t,a+s a<=Xc h0.c j (pg w.h.p j).u\/Xc h0.c (j+1) 0<=a
 free:∀a,O a->∀j:Int,0<=j->j<w.h.p.length->(pg w.h.p j).k=0->a+s a<=Xc h0.c j 0\/Xc h0.c (j+1) 0<=a
structure CI(h0:Wi)(l:List Int)(w:Wv):Prop where
 conf:w.h.c=h0.c
 wlen:w.h.w.length=h0.w.length
 plen:w.h.p.length=h0.p.length
 spc:w.h.s=h0.s
 old:w.o.Sublist l
 tk:∀j∈w.t,0<=j/\j<w.h.p.length/\(pg w.h.p j).k=1/\0<=(pg w.h.p j).u/\(pg w.h.p j).u<=h0.c.W
 tnd:w.t.Nodup
 knd:∀a∈l,(pg w.h.p (pgi h0.c a)).k=(pg h0.p (pgi h0.c a)).k
 qnd:w.q.Nodup
 obj:∃O s,OF h0 l w O s
def XbB:∀(n:Nat) (a:Int) (l:List Int),l.Nodup->(∀x∈l,a<=x/\x<a+n)->l.length<=n
 |0,a,l,_,h=>by
  cases l with
  |nil=>simp
  |cons x l=>have:=h x ac;omega
 |n+1,a,l,e,h=>by
  by_cases k:a+(n:Int)∈l
  .have g:=XbB n a (l.erase (a+(n:Int))) (e.erase _) λx f=>by have j:=(List.Nodup.mem_erase_iff e).1 f;have p:=h x j.2;omega
   simp_all
  have g:=XbB n a l e λx f=>by grind
  omega
section
variable {N:Nat}{h0:Wi}{l:List Int}
def CI.ql{w:Wv}(hb:HB h0)(e:CI h0 l w):w.q.length<=100000:=by
 have⟨O,s,f⟩:=e.obj;have:=XbB w.h.w.length 4096 w.q e.qnd λx g=>by have:=f.fit x (f.queue x g);omega
 have:=hb.1;have:=e.wlen;omega
def CI.tl{w:Wv}(hb:HB h0)(e:CI h0 l w):w.t.length<=100000:=by
 have:=XbB w.h.p.length 0 w.t e.tnd λx f=>by have:=e.tk x f;omega
 have:=hb.2;have:=e.plen;omega
def Xfq{w:Wv}(f:w.t.length<=100000)(i:Int):∀(n:Nat) (k:Int),0<=k->k<=w.t.length->(w.t.length-k).toNat<n->Ok (QcY N w i n k) λ_=>True
 |0,k,_,_,g=>by omega
 |n+1,k,h0,h,g=>by refine Wn (λe=>?_) λ_=>Wd trivial;have e:k<w.t.length:=Wx e;rw[Xe (n:=k+1) ab ab];exact Ok.get h0 e λp hp=>Wn (λ_=>Wd trivial) λ_=>Xfq f i n (k+1) ab ab ab
def XcI(hN:NB N){w:Wv}(j:w.t.length<=100000)(i:Int):Ok (QbX N w i) λb=>b=true->0<=i/\i<w.h.p.length:=by
 unfold NB at hN;refine Wn (λ_=>Wd λe=>by grind) λf=>Wn (λ_=>Wd λe=>by grind) λg=>?_;have f:0<=i:=by have:=WM f;omega
 have g:i<w.h.p.length:=by have:=WM g;omega
 refine Ok.get f g λp hp=>Wn (λ_=>Wn (λ_=>WJ (Q:=λ_=>True) ?_ λy _ _=>Wd λ_=>⟨f,g⟩) λ_=>Wd λe=>ab) λ_=>Wd λe=>by omega
 exact I6 (Xfq j i N 0 ab ab ab) (λ_ _=>Wd trivial) λ_ _=>Wd trivial
def Xfr(h0:Wi)(w:Wv)(n:Int):Prop:=∀i,w.t.getLast? = some i->h0.c.W<(pg w.h.p i).u+n
structure OO(h0:Wi)(w:Wv)(n:Int)(w':Wv)(at_ j u:Int):Prop where
 rng:0<=j/\j<w.h.p.length
 fit:0<=u/\u+n<=h0.c.W
 addr:at_=Xc h0.c j u
 conf:w'.h.c=w.h.c
 words:w'.h.w=w.h.w
 space:w'.h.s=w.h.s
 old:w'.o=w.o
 queue:w'.q=w.q
 scanned:w'.d=w.d
 plen:w'.h.p.length=w.h.p.length
 other:∀i,0<=i->i≠j->pg w'.h.p i=pg w.h.p i
 this:(pg w'.h.p j).k=1/\(pg w'.h.p j).u=u+n
 sp:(j∈w.t/\(pg w'.h.p j).s=(pg w.h.p j).s/\(pg w'.h.p j).P=(pg w.h.p j).P)\/((pg w'.h.p j).s=1-w.h.s/\(pg w'.h.p j).P=0)
 way:(j∈w.t/\w'.t=w.t/\u=(pg w.h.p j).u)\/((pg w.h.p j).k=0/\w'.t=w.t++[j]/\u=0)
 lst:(w'.t=w.t/\w.t.getLast? = some j)\/(w'.t=w.t++[j]/\Xfr h0 w n)
def XdL(hN:NB N)(hb:HB h0)(hp:Uu h0){w:Wv}(G:CI h0 l w){n:Int}(hn:1<=n)(hn2:n<=h0.c.W):Ok (QcC N w n) λr=>(r.2.2=true->∃j u,OO h0 w n r.1 r.2.1 j u)/\(r.2.2=false->Xfr h0 w n/\∀j:Int,0<=j->j<w.h.p.length->(pg w.h.p j).k≠0):=by
 have V:=hN;unfold NB at V;have hpl:=G.plen;have hv:=Xh.1 hp.conf;have htl:=G.tl hb;have hpp:=hp.pages;have new:Xfr h0 w n->Ok (bnd (Qba N w.h.p 1) λI=>
  bif (decide (I<0))then some ((Wv.mk (Wi.mk (WN.mk 0 0) [] [] 0 0) [] [] [] 0 (WT.mk 0 0 0 0 0 0)),0,false)
  else bnd (QbJ N w.h.p I (wI (1-w.h.s))) λU=>
  grd (w.t.length*8<=140737488355328) <|
  grd ((w.t.length+1)*8<=140737488355328) <|
  bnd (Xd U.1 I) λY=>
  bnd (Xd U.1 I) λZ=>
  bnd (Xd U.1 I) λK=>
  some ((Wv.mk (Wi.mk w.h.c w.h.w (U.1.set I.toNat (Wo.mk K.k K.s (wI (Z.u+n)) K.P)) w.h.s w.h.b) w.o (w.t++[I]) w.q w.d w.r),(wU (wI ((wI (4096+(wI (I*w.h.c.W))))+Y.u))),true)) λr=>(r.2.2=true->∃j u,OO h0 w n r.1 r.2.1 j u)/\(r.2.2=false->Xfr h0 w n/\∀j:Int,0<=j->j<w.h.p.length->(pg w.h.p j).k≠0):=λlf=>by
  refine WJ (Xb9 1 ab ab) λj _ x=>Wn (λR=>Wd ⟨λe=>by grind,λ_=>⟨lf,?_⟩⟩) λR=>?_
  .rcases x with x|x
   .exact x.2 rfl
   .have:=Wx R;have:=x.1;omega
  have hr:RunOK w.h.p j 1:=by
   rcases x with⟨rfl,_⟩|x
   .grind
   .exact x
  have hsp:=hp.space
  have hws:=G.spc
  rw[Xe (n:=1-w.h.s) ab ab]
  refine WJ (XdI j (1-w.h.s) ab ab) λy _ hy=>?_
  have hy0:=hy.2.2 hr ab ab
  obtain⟨z,q1,q2,q3⟩:=hy.1 hy0
  have hk:=hr.2.2.2 0 ab ab
  rw[Int.add_zero]at hk
  have f:j<y.1.length:=ab
  refine Uc ab (Uc ab (Ok.get z f λp1 L=>Ok.get z f λp2 A=>Ok.get z f λp3 M=>Wd ⟨λ_=>?_,λe=>by cases e⟩))
  have g1:=Yu L
  have g2:=Yu A
  have g3:=Yu M
  rw[q3 j z,Wm rfl]at g1 g2 g3
  subst g1;subst g2;subst g3
  have hm:=XE hp.conf (i:=j) z ab
  refine⟨j,0,⟨⟨z,ab⟩,⟨ab,ab⟩,?_,rfl,rfl,rfl,rfl,rfl,rfl,?_,λi D E=>?_,?_,.inr ?_,.inr ⟨hk,rfl,rfl⟩,.inr ⟨rfl,lf⟩⟩⟩
  .show wU (wI (wI (4096+wI (j*w.h.c.W))+0))=_
   rw[G.conf,Xe (n:=j*h0.c.W) ab ab,Xe (n:=4096+j*h0.c.W) ab ab,Xe ab ab,Xw ab ab]
   rfl
  .simp_all
  .show pg (y.1.set _ _) i=_
   rw[YW _ z f D,Wj E,q3 i D,Wj E,Wj ab]
  .show(pg (y.1.set _ _) j).k=1/\(pg (y.1.set _ _) j).u=_
   rw[YW _ z f z,Wm rfl]
   refine⟨rfl,?_⟩
   show wI (0+n)=0+n
   rw[Xe ab ab]
  .show(pg (y.1.set _ _) j).s=_/\(pg (y.1.set _ _) j).P=_
   rw[YW _ z f z,Wm rfl]
   simp
 refine Uc ab (Ir (Wn (λht=>?_) λht=>new λi D=>by
  have:=WM ht
  rw[WG (l:=w.t) ab]at D;cases D))
 have ht:0<(w.t.length:Int):=Wx ht;rw[Xe (n:=(w.t.length:Int)-1) ab ab];refine Ok.get ab ab λj x=>?_;have S:w.t.getLast? = some j:=by rw[List.getLast?_eq_getElem?];have:=(KA.1 x).2;rwa[show((w.t.length:Int)-1).toNat=w.t.length-1 by omega]at this
 have O:=Ys x;have⟨B,J,t2,t3,t4⟩:=G.tk j O;refine Ok.get B J λp A=>?_;have g:=Yu A;subst g;rw[Xe (n:=(pg w.h.p j).u+n) ab ab];refine Wn (λv=>?_) λv=>new λi D=>by obtain rfl:=Wz (S.symm.trans D);have:=WM v;rw[G.conf]at this;omega
 have v:(pg w.h.p j).u+n<=w.h.c.W:=Wx v;rw[G.conf]at v;refine Ok.get ab ab λj' hj'=>?_;obtain rfl:j=j':=Wz (x.symm.trans hj');refine Ok.get B J λp1 L=>Ok.get B J λp2 A=>Ok.get B J λp3 M=>Wd ⟨λ_=>?_,λe=>by cases e⟩;have g1:=Yu L;have g2:=Yu A;have g3:=Yu M;subst g1;subst g2;subst g3;have hm:=XE hp.conf (i:=j) B ab;refine⟨j,(pg w.h.p j).u,⟨⟨B,J⟩,⟨t3,v⟩,?_,rfl,rfl,rfl,rfl,rfl,rfl,?_,λi D E=>?_,?_,.inl ⟨O,?_⟩,.inl ⟨O,rfl,rfl⟩,.inl ⟨rfl,S⟩⟩⟩
 .show wU (wI (wI (4096+wI (j*w.h.c.W))+_))=_;rw[G.conf,Xe (n:=j*h0.c.W) ab ab,Xe (n:=4096+j*h0.c.W) ab ab,Xe ab ab,Xw ab ab];rfl
 .simp
 .simp[YW,B,J,D,Wj,E]
 .rw[YW _ B J B,Wm rfl];refine⟨t2,?_⟩;rw[Xe ab ab]
 rw[YW _ B J B,Wm rfl];simp
end
def XsK{a b:Int}(e:4096<=a)(hb:4096<=b)(h:ix a=ix b):a=b:=by unfold ix at h;omega
def Xcb{ws:List Int}{x a v:Int}(f:inW ws x)(g:4096<=a):wd (ws.set (ix x) v) a=if a=x then v else wd ws a:=by
 unfold wd;have j:ix x<ws.length:=by unfold inW at f;unfold ix;omega
 rw[Wk,Wk,U4];by_cases h:a=x
 .simp_all
 rw[Wj h,Wj];intro e;exact h (XsK g f.1 e.symm)
def XqL{ws:List Int}{f a x:Int}{k:Nat}(g:Ym ws a k)(j:Ym ws f k)(p:4096<=x):wd (ovr ws ((ws.drop (ix a)).take k) (ix f)) x=if f<=x/\x<f+k then wd ws (a+(x-f))else wd ws x:=by
 have e:((ws.drop (ix a)).take k).length=k:=by unfold Ym at g;simp[ix];omega
 unfold wd;rw[V3 (by rw[e];unfold Ym at j;unfold ix;omega),e];unfold Ym at g j;by_cases h:f<=x/\x<f+k
 .rw[Wm h,Wm (by unfold ix;omega),Wk,Us,Wm (by unfold ix;omega),UO,←Wk];congr 1;unfold ix;omega
 rw[Wj h,Wj (by unfold ix;omega)]
def XbC{ws:List Int}{f a:Int}{k:Nat}(g:Ym ws a k)(h:Ym ws f k):(ovr ws ((ws.drop (ix a)).take k) (ix f)).length=ws.length:=by
 have e:((ws.drop (ix a)).take k).length=k:=by unfold Ym at g;simp[ix];omega
 exact Zz (by rw[e];unfold Ym at h;unfold ix;omega)
def Vw{c:WN}(f:XR c=true){i j o p:Int}(h:i<j)(g:o<=c.W)(k:0<=p):Xc c i o<=Xc c j p:=by
 have q:=Xh.1 f;have:(i+1)*c.W<=j*c.W:=WU ab ab;have e:(i+1)*c.W=i*c.W+c.W:=by rw[UY,Om]
 unfold Xc;omega
section
variable {N:Nat}{h0:Wi}{l:List Int}
structure OX(h0:Wi)(l:List Int)(w w':Wv)(O:Int->Prop)(s:Int->Int):Prop where
 ci:CI h0 l w'
 ob:∃O' s',OF h0 l w' O' s'/\∀a,O a->O' a/\s' a=s a
 sc:w'.d=w.d
 ql:w.q.length<=w'.q.length
def SameK(ps e:List Wo):Prop:=e.length=ps.length/\∀i,0<=i->(pg e i).k=(pg ps i).k/\(pg e i).u=(pg ps i).u
def SameK.refl(ps:List Wo):SameK ps ps:=⟨rfl,λ_ _=>⟨rfl,rfl⟩⟩
def SameK.set{ps f:List Wo}(h:SameK ps f){i:Int}(h0:0<=i)(p:i<f.length)(sp pins:Int):SameK ps (f.set i.toNat ⟨(pg f i).k,sp,(pg f i).u,pins⟩):=by
 refine⟨by rw[WL];exact h.1,λj g=>?_⟩;rw[YW _ h0 p g];split
 .rename_i e;subst e;exact h.2 j g
 exact h.2 j g
def Xgr(w:Wv)(a:Int){ps:List Wo}(h:ps.length<=100000):∀(n:Nat) (i:Int) (e:List Wo),0<=i->i<=ps.length->(ps.length-i).toNat<n->SameK ps e->Ok (QaL N w a n i e) λr=>SameK ps r
 |0,i,e,_,_,j,_=>by omega
 |n+1,i,e,h0,q,j,g=>by have s:=g.1;refine Uc ab (Wn (λf=>?_) λ_=>Wd g);have f:i<e.length:=Wx f;rw[Xe (n:=i+1) ab ab];refine Ok.get h0 f λp hp=>Wn (λ_=>Ok.get h0 f λp hp=>?_) λ_=>Wd g;have k:=Yu hp;subst k;exact Xgr w a h n (i+1) _ ab ab ab (g.set h0 f _ _)
def CI.pages{w:Wv}(e:CI h0 l w){r:List Wo}(h:SameK w.h.p r):CI h0 l {w with h:={w.h with p:=r}}:=by
 have⟨O,s,f⟩:=e.obj;refine⟨e.conf,e.wlen,h.1.trans e.plen,e.spc,e.old,λj k=>?_,e.tnd,λa g=>?_,e.qnd,?_⟩
 .have:=e.tk j k;have q:=h.2 j this.1;rw[q.1,q.2,h.1];omega
 .have y:=e.knd a g;by_cases hp:0<=pgi h0.c a
  .rw[(h.2 _ hp).1];omega
  have u:∀ps:List Wo,pg ps (pgi h0.c a)=pg ps 0:=λps=>by unfold pg;grind
  rw[u,(h.2 0 ab).1,←u,y]
 refine⟨O,s,f.old,f.queue,f.fit,f.apart,λa g j k=>?_,λa g j v q x=>?_⟩
 .rw[(h.2 j (e.tk j k).1).2];exact f.taken a g j k
 rw[(h.2 j v).1]at x;exact f.free a g j v (by rw[←h.1];omega) x
def OF.pages{w:Wv}{O:Int->Prop}{s:Int->Int}(u:CI h0 l w)(e:OF h0 l w O s){g:List Wo}(h:SameK w.h.p g):OF h0 l {w with h:={w.h with p:=g}} O s:=by
 refine⟨e.old,e.queue,e.fit,e.apart,λa f j k=>?_,λa f j q v r=>?_⟩
 .rw[(h.2 j (u.tk j k).1).2];exact e.taken a f j k
 rw[(h.2 j q).1]at r;exact e.free a f j q (by rw[←h.1];omega) r
def CI.push{w:Wv}{O:Int->Prop}{s:Int->Int}(e:CI h0 l w)(g:OF h0 l w O s){a:Int}(p:O a)(u:a∉w.q)(k:WT):OX h0 l w {w with q:=w.q++[a],r:=k} O s:=by
 have j:OF h0 l {w with q:=w.q++[a],r:=k} O s:=by
  refine⟨g.old,λx f=>?_,g.fit,g.apart,g.taken,g.free⟩;rcases Wr.1 f with f|f
  .exact g.queue x f
  rw[W9.1 f];exact p
 refine⟨⟨e.conf,e.wlen,e.plen,e.spc,e.old,e.tk,e.tnd,e.knd,?_,⟨O,s,j⟩⟩,⟨O,s,j,λa h=>⟨h,rfl⟩⟩,rfl,?_⟩
 .rw[US];refine⟨e.qnd,ac,λx f y v=>?_⟩;rw[W9.1 v];rintro rfl;exact u f
 simp
end
section
variable {N:Nat}{h0:Wi}{l:List Int}
def Xgs(hp:Uu h0){w w':Wv}{O:Int->Prop}{s:Int->Int}(z:CI h0 l w)(k:OF h0 l w O s){a n at_ j u:Int}(q:a∈l)(hn:n=szA w.h.w a)(J:1<=n)(p:OO h0 w n w' at_ j u)(v:Int):
 Ym w.h.w a n.toNat/\Ym w.h.w at_ n.toNat/\(∀x,O x->x+s x<=at_\/Xc h0.c (j+1) 0<=x)/\¬O at_/\(∀x,O x->x+s x<=at_\/at_+n<=x)/\(∀x,4096<=x->wd ((ovr w.h.w ((w.h.w.drop (ix a)).take n.toNat) (ix at_)).set (ix a) v) x=if x=a then v else if at_<=x/\x<at_+n then wd w.h.w (a+(x-at_))else wd w.h.w x):=by
 have⟨r,K⟩:=k.old a q;have⟨L,M,R,S⟩:=k.fit a r;have U:=z.wlen;have V:=hp.words;have Y:=z.plen;have A:=hp.pages;have⟨B,Z⟩:=p.rng;have hm:=XE hp.conf (i:=j) B ab;have⟨u0,u1⟩:=p.fit;have g:at_=Xc h0.c j u:=p.addr;have D:at_=4096+j*h0.c.W+u:=g;have y:at_+n<=Xc h0.c (j+1) 0:=by
  have e:(j+1)*h0.c.W=j*h0.c.W+h0.c.W:=by rw[UY,Om]
  unfold Xc;omega
 have E:Ym w.h.w a n.toNat:=by unfold Ym;omega
 have G:Ym w.h.w at_ n.toNat:=by unfold Ym;omega
 have away:∀x,O x->x+s x<=at_\/Xc h0.c (j+1) 0<=x:=by
  intro x f;rcases p.way with⟨g1,g2,g3⟩|⟨g1,g2,g3⟩
  .have:=k.taken x f j g1;rw[←g3,←g]at this;exact this
  have:=k.free x f j B Z g1;rw[g3]at g;rw[g];exact this
 have fresh:¬O at_:=by intro f;have:=away at_ f;have:=(k.fit at_ f).2.1;omega
 have aw2:∀x,O x->x+s x<=at_\/at_+n<=x:=λx f=>by have:=away x f;omega
 have I:(ovr w.h.w ((w.h.w.drop (ix a)).take n.toNat) (ix at_)).length=w.h.w.length:=XbC E G;have hwd:∀x,4096<=x->wd ((ovr w.h.w ((w.h.w.drop (ix a)).take n.toNat) (ix at_)).set (ix a) v) x=if x=a then v else if at_<=x/\x<at_+n then wd w.h.w (a+(x-at_))else wd w.h.w x:=by intro x f;rw[Xcb (by unfold inW;omega) f,XqL E G f];have:(n.toNat:Int)=n:=ab;rw[this]
 simp_all
def Xn0(hp:Uu h0)(Y:∀a∈l,(pg h0.p (pgi h0.c a)).k=1\/(pg h0.p (pgi h0.c a)).k=2)(hpr:∀a∈l,0<=pgi h0.c a){w w':Wv}{O:Int->Prop}{s:Int->Int}(A:CI h0 l w)(J:OF h0 l w O s){a n at_ j u:Int}(Z:a∈l)(hn:n=szA w.h.w a)(hn1:1<=n)(g:OO h0 w n w' at_ j u)(v:Int)(hv:v % 4=2)(rp:WT):
 Ym w.h.w a n.toNat/\Ym w.h.w at_ n.toNat/\4096<=at_/\at_<=200000/\OX h0 l w {w' with h:={w'.h with w:=(ovr w.h.w ((w.h.w.drop (ix a)).take n.toNat) (ix at_)).set (ix a) v},q:=w'.q++[at_],r:=rp} O s:=by
 have⟨hOa,hsa⟩:=J.old a Z;have hwl:=A.wlen;have hw0:=hp.words;have hpl:=A.plen;have hpl0:=hp.pages;have⟨r1,r2⟩:=g.rng;have hm:=XE hp.conf (i:=j) r1 ab;have⟨u0,u1⟩:=g.fit;have hat:at_=Xc h0.c j u:=g.addr;have hat1:at_=4096+j*h0.c.W+u:=hat;have hend:at_+n=Xc h0.c j (u+n):=by rw[hat];unfold Xc;omega
 have⟨i1,i2,away,fresh,L,M⟩:=Xgs hp A J Z hn hn1 g v;have hne:a≠at_:=λe=>fresh (e▸hOa);have hlen:(ovr w.h.w ((w.h.w.drop (ix a)).take n.toNat) (ix at_)).length=w.h.w.length:=XbC i1 i2;have E:((ovr w.h.w ((w.h.w.drop (ix a)).take n.toNat) (ix at_)).set (ix a) v).length=w.h.w.length:=by rw[WL,hlen]
 have hsz:∀x,O x->szA ((ovr w.h.w ((w.h.w.drop (ix a)).take n.toNat) (ix at_)).set (ix a) v) x<=s x:=by
  intro x f;have hf:=J.fit x f;by_cases hxa:x=a
  .have:szA ((ovr w.h.w ((w.h.w.drop (ix a)).take n.toNat) (ix at_)).set (ix a) v) x=1:=by apply XqK;rw[M x hf.1,Wm hxa];exact hv
   omega
  have:szA ((ovr w.h.w ((w.h.w.drop (ix a)).take n.toNat) (ix at_)).set (ix a) v) x=szA w.h.w x:=by unfold szA hdA;rw[M x hf.1,Wj hxa,Wj];have:=L x f;omega
  omega
 have R:szA ((ovr w.h.w ((w.h.w.drop (ix a)).take n.toNat) (ix at_)).set (ix a) v) at_=n:=by refine Eq.trans ?_ hn.symm;unfold szA hdA;rw[M at_ ab,Wj (λe=>hne e.symm),Wm ab];rw[show a+(at_-at_)=a by omega]
 have G:=g.this;have hk0:∀i,0<=i->(pg w'.h.p i).k=0->i≠j/\(pg w.h.p i).k=0:=by
  intro i B hk;have z:i≠j:=by rintro rfl;rw[G.1]at hk;cases hk
  rw[g.other i B z]at hk;exact⟨z,hk⟩
 have htk:∀i∈w'.t,i=j\/(i∈w.t/\i≠j):=by
  intro i B;by_cases z:i=j
  .exact .inl z
  right;refine⟨?_,z⟩;rcases g.way with⟨_,g2,_⟩|⟨_,g2,_⟩
  .rwa[g2]at B
  rw[g2]at B;rcases Wr.1 B with B|B
  .exact B
  exact absurd (W9.1 B) z
 have hqe:w'.q=w.q:=g.queue;refine⟨i1,i2,ab,ab,?_⟩;have hO:OF h0 l {w' with h:={w'.h with w:=(ovr w.h.w ((w.h.w.drop (ix a)).take n.toNat) (ix at_)).set (ix a) v},q:=w'.q++[at_],r:=rp} (λx=>O x\/x=at_) (λx=>if x=at_ then n else s x):=by
  have ne:∀x,O x->x≠at_:=λx f e=>fresh (e▸f);refine⟨λx f=>?_,λx f=>?_,λx f=>?_,λx y f I hxy=>?_,λx f i B=>?_,λx f i g1 g2 g3=>?_⟩
  .have⟨q1,q2⟩:=J.old x f;exact⟨.inl q1,by rw[Wj (ne x q1)];exact q2⟩
  .rcases Wr.1 f with f|f
   .rw[hqe]at f;exact .inl (J.queue x f)
   exact .inr (W9.1 f)
  .rw[E];rcases f with f|rfl
   .rw[Wj (ne x f)];have⟨f1,f2,f3,f4⟩:=J.fit x f;exact⟨f1,f2,f3,hsz x f⟩
   rw[Wm rfl,R];omega
  .rcases f with f|rfl
   .rcases I with I|rfl
    .rw[Wj (ne x f),Wj (ne y I)];exact J.apart x y f I hxy
    have:=L x f;omega
   rcases I with I|rfl
   .have:=L y I;omega
   exact absurd rfl hxy
  .rcases htk i B with rfl|⟨K,S⟩
   .rw[G.2];rcases f with f|rfl
    .have:=away x f;omega
    omega
   have⟨t1,t2,t3,t4,t5⟩:=A.tk i K;rw[g.other i t1 S];rcases f with f|rfl
   .rw[Wj (ne x f)];exact J.taken x f i K
   by_cases U:i<j
   .have:=Vw hp.conf (o:=h0.c.W) (p:=u) U ab u0;have e:Xc h0.c (i+1) 0=Xc h0.c i h0.c.W:=by unfold Xc;rw[UY,Om];omega
    omega
   have:=Vw hp.conf (i:=j) (j:=i) (o:=u+n) (p:=(pg w.h.p i).u) ab ab t4;omega
  have⟨k1,k2⟩:=hk0 i g1 g3;rcases f with f|rfl
  .rw[Wj (ne x f)];exact J.free x f i g1 (by rw[←g.plen];exact g2) k2
  by_cases U:i<j
  .have:=Vw hp.conf (o:=h0.c.W) (p:=u) U ab u0;have e:Xc h0.c (i+1) 0=Xc h0.c i h0.c.W:=by unfold Xc;rw[UY,Om];omega
   omega
  have:=Vw hp.conf (i:=j) (j:=i) (o:=u+n) (p:=0) ab ab ab;omega
 refine⟨⟨?_,?_,?_,?_,?_,λi B=>?_,?_,λx f=>?_,?_,⟨_,_,hO⟩⟩,⟨_,_,hO,λx f=>⟨.inl f,?_⟩⟩,g.scanned,?_⟩
 .exact g.conf.trans A.conf
 .exact E.trans A.wlen
 .exact g.plen.trans A.plen
 .exact g.space.trans A.spc
 .exact(by rw[g.old];exact A.old)
 .rw[g.plen];rcases htk i B with rfl|⟨K,S⟩
  .rw[G.1,G.2];omega
  have:=A.tk i K;rw[g.other i this.1 S];exact this
 .rcases g.way with⟨_,g2,_⟩|⟨g1,g2,_⟩
  .rw[g2];exact A.tnd
  rw[g2,US];refine⟨A.tnd,ac,λx f y I=>?_⟩;rw[W9.1 I];rintro rfl;rw[(A.tk x f).2.2.1]at g1;cases g1
 .have D:=A.knd x f;have V:=Y x f;by_cases z:pgi h0.c x=j
  .rw[z]at D V⊢;rw[G.1];rcases g.way with⟨g1,_,_⟩|⟨g1,_,_⟩
   .rw[(A.tk j g1).2.2.1]at D;exact D
   rw[g1]at D;rw[←D]at V;rcases V with h|h<;>cases h
  rw[g.other _ (hpr x f) z];exact D
 .rw[hqe,US];refine⟨A.qnd,ac,λx f y I=>?_⟩;rw[W9.1 I];rintro rfl;exact fresh (J.queue x f)
 .exact Wj (λe=>fresh (by rw[←e];exact f))
 simp_all
structure Start(N:Nat)(h0:Wi)(l:List Int):Prop where
 hb:HB h0
 good:l≠[]->OP N h0
 prop:l≠[]->Uu h0
 st:IG N h0 l
def XhT(a:Int)(h0:0<=a)(e:a<4294967296):wU (wU (4*a)+2) % 4=2:=by rw[Xw (n:=4*a) ab ab,Xw ab ab];omega
def YC{l:List Int}{a:Int}(h:l.contains a=false):a∉l:=by simp_all
def X3{l:List Int}{a:Int}(h:l.contains a=true):a∈l:=by simp_all
def CI.wl{w:Wv}(hb:HB h0)(e:CI h0 l w):w.h.w.length<=BIG:=by have:=hb.1;have:=e.wlen;unfold BIG;omega
def Xbc(hN:NB N)(A:Start N h0 l){w:Wv}{O:Int->Prop}{s:Int->Int}(g:CI h0 l w)(z:OF h0 l w O s)(a:Int):Ok (QaH N w a) λr=>r.2.2=0->OX h0 l w r.1 O s:=by
 have V:=hN;unfold NB at V;have hb:=A.hb;have hql:=g.ql hb;have J:=g.wl hb;have hww:=g.wlen;have hpl:=g.plen;have same:OX h0 l w w O s:=⟨g,⟨O,s,z,λ_ h=>⟨h,rfl⟩⟩,rfl,Uh _⟩
 refine Wn (λ_=>Wd λ_=>same) λ_=>?_;rw[X0 a ab ab,Xa];refine Wn (λ_=>Wd λ_=>same) λU=>?_;have U:=YC U;have hol:=g.old.length_le;have hsl:=A.st.len;rw[X0 a ab ab,Xa];refine Wn (λ_=>Wd λe=>by grind) λf=>?_;have f:a∈l:=g.old.subset (X3 (by simp_all));have K:l≠[]:=Oc f;have hp:=A.prop K;have hg:=A.good K;have W:=A.st.obj.at_ a f;have hwd0:=hp.words;have hpg0:=hp.pages;have hvc:=Xh.1 hp.conf;have B:=W.rng;have⟨_,Y,q1,_⟩:=XN hp.conf B;have L:inW w.h.w a:=by unfold inW;omega
 rw[Ye J,Xa,Wm L,Kv,Xa];have Z:Qb9 N w.h.c a=some (pgi h0.c a,pgo h0.c a,0):=by rw[KV,g.conf,hp.conf,Wj ac,Wm B];rfl
 rw[Z,Xa];refine Wn (λ_=>Wd λ_=>same) λ_=>?_;refine Wn (λ_=>Wd λe=>by grind) λ_=>?_;refine Wn (λ_=>Wd λe=>by grind) λ_=>?_;refine WJ (XcI hN (g.tl hb) _) λb _ _=>Wn (λ_=>?_) λ_=>?_
 .rw[QcQ,Xb ab,Xb ab,Xa];exact Wd λ_=>g.push z (z.old a f).1 U _
 refine Ok.get Y ab λp E=>Wn (λ_=>?_) λhk2=>?_
 .refine Uc ab (Ok.get Y ab λp E=>?_);have G:=Yu E;subst G;rw[Xe (n:=pgi h0.c a+1) ab ab];refine WJ (Xgr w a (ps:=w.h.p) ab N (pgi h0.c a+1) _ ab ab ab ((SameK.refl _).set Y ab _ _)) λqs _ M=>?_;rw[QcQ,Xb (by grind),Xb (by grind),Xa];refine Wd λ_=>?_;have q:=λrp=>(g.pages M).push (z.pages g M) (z.old a f).1 U rp;exact⟨(q _).ci,(q _).ob,(q w.r).sc,(q w.r).ql⟩
 have G:=Yu E;have D:∀x∈l,(pg h0.p (pgi h0.c x)).k=1\/(pg h0.p (pgi h0.c x)).k=2:=λx hx=>(A.st.obj.at_ x hx).kind;have hpr:∀x∈l,0<=pgi h0.c x:=λx hx=>(XN hp.conf (A.st.obj.at_ x hx).rng).2.1;have hk1:(pg h0.p (pgi h0.c a)).k=1:=by
  rcases D a f with h|h
  .omega
  rw[←g.knd a f,G]at h;grind
 have hsz:=hg.sz A.st f hk1;have hso:=(z.old a f).2;have hfit:=z.fit a (z.old a f).1;have I:=XA w.h.w a;rw[ZI,Xa,XI,Xa];have e1:Xj (Zf (w.h.w.getD (ix a) 0))=szA w.h.w a:=I.1;rw[e1];refine WJ (XdL hN hb hp g (n:=szA w.h.w a) I.2.1 ab) λy _ ⟨hy,_⟩=>Wn (λ_=>Wd λe=>by grind) λhy2=>?_;have⟨j,u,pq⟩:=hy (by grind);have q:=λv hv rp=>Xn0 (n:=szA w.h.w a) hp D hpr g z f rfl I.2.1 pq v hv rp;have⟨i1,i2,a1,a2,_⟩:=q 2 rfl y.1.r;rw[pq.words];have en:szA w.h.w a=(((szA w.h.w a).toNat:Nat):Int):=ab;have R:=Xgl (N:=N) J y.2.1 a (szA w.h.w a).toNat ab ab;rw[←en,Wm ⟨i1,i2⟩]at R;rw[R,Xa,Vv,Xa,Wj ab];have ol:=XbC i1 i2;rw[KJ (by grind) ab,Xa];have S:inW (ovr w.h.w ((w.h.w.drop (ix a)).take (szA w.h.w a).toNat) (ix y.2.1)) a:=by unfold inW;rw[ol];exact L
 rw[Wm S];have hqe:=pq.queue;refine Uc (by grind) (Uc (by grind) (Wd λ_=>?_));exact(q _ (XhT y.2.1 ab ab) _).2.2.2.2
end
section
variable {N:Nat}{h0:Wi}{l:List Int}
def XdM(h:Wi)(y:List Int×Int)(j:h.p.length<=100000):∀(n:Nat) (i:Int) (e:List Wo),0<=i->i<=h.p.length->(h.p.length-i).toNat<n->SameK h.p e->Ok (QbD N h y n i e) λr=>SameK h.p r
 |0,i,e,_,_,k,_=>by omega
 |n+1,i,e,h0,s,k,g=>by
  have u:=g.1;refine Uc ab (Wn (λf=>?_) λ_=>Wd g);have f:i<e.length:=Wx f;rw[Xe (n:=i+1) ab ab];have next:=XdM h y j n (i+1) e ab ab ab g
  refine Ok.get h0 f λp hp=>Wn (λ_=>Wn (λ_=>Ok.get h0 f λp hp=>?_) λ_=>next) λ_=>next
  have q:=Yu hp;subst q;exact XdM h y j n (i+1) _ ab ab ab (g.set h0 f _ _)
def Xjv{h:Wi}(hp:Uu h){a:Int}(f:II h a){j:Int}(v:0<=j)(x:(pg h.p j).k=0):a+szA h.w a<=Xc h.c j 0\/Xc h.c (j+1) 0<=a:=by
 have⟨k,k1,k2,y,r⟩:=Xc2 hp f;have⟨z,A,B,s,D⟩:=XN hp.conf f.rng;have u:=f.kind;by_cases g:j<pgi h.c a
 .have:=Vw hp.conf (o:=h.c.W) (p:=pgo h.c a) g ab s;have e:Xc h.c (j+1) 0=Xc h.c j h.c.W:=by unfold Xc;rw[UY,Om];omega
  omega
 by_cases E:j=pgi h.c a
 .grind
 by_cases q:j<pgi h.c a+k
 .have:=r (j-pgi h.c a) ab ab;grind
 have:(pgi h.c a+k)*h.c.W<=j*h.c.W:=WU ab ab;have G:Xc h.c (pgi h.c a+k) 0=4096+(pgi h.c a+k)*h.c.W+0:=rfl;have I:Xc h.c j 0=4096+j*h.c.W+0:=rfl;omega
def XdN{h:Wi}(hb:HB h)(hp:Uu h){l:List Int}(g:IG N h l){w:Wv}(y:w.h.c=h.c)(z:w.h.w=h.w)(e3:w.h.s=h.s)(k:SameK h.p w.h.p)(e4:w.o.Sublist l)(D:w.t=[])(E:w.q=[]):CI h l w:=by
 have A:OF h l w (λa=>a∈l) (szA h.w):=by
  refine⟨λa e=>⟨e,rfl⟩,λa e=>(by simp_all),λa e=>?_,λa b e r B=>?_,λa e j v=>(by simp_all),λa e j f G x=>?_⟩
  .rw[z];have f:=g.obj.at_ a e;exact⟨f.rng.1,(XA h.w a).2.1,KD hp f,Ut _⟩
  .have u:=g.obj.pw;rw[W7]at u;have⟨i,I,J⟩:=Wt e;have⟨j,v,K⟩:=Wt r;grind
  rw[(k.2 j f).1]at x;exact Xjv hp (g.obj.at_ a e) f x
 refine⟨y,by grind,k.1,e3,e4,λj v=>(by simp_all),by simp_all,λa e=>?_,by simp_all,⟨_,_,A⟩⟩;exact(k.2 _ (XN hp.conf (g.obj.at_ a e).rng).2.1).1
def zW:Wv:=⟨zH,[],[],[],0,⟨0,0,0,0,0,0⟩⟩
def Xn1(N:Nat):Start N zH []:=⟨Kq,λh=>absurd rfl h,λh=>absurd rfl h,IG.nil N zH⟩
def XtY:CI zH [] zW:=by refine⟨rfl,rfl,rfl,rfl,.refl _,λj f=>(by cases f),List.nodup_nil,λa e=>(by rfl),List.nodup_nil,⟨λ_=>False,λ_=>0,?_⟩⟩;exact⟨λa e=>(by grind),λa e=>(by cases e),λa e=>e.elim,λa b e=>e.elim,λa e=>e.elim,λa e=>e.elim⟩
structure Sg(N:Nat)(h:Wi)(l:List Int)(w:Wv):Prop where
 st:Start N h l
 ci:CI h l w
 sc:w.d=0
 pr:Uu h\/h.p=[]
def Xn2(hN:NB N){h:Wi}(hb:HB h):Ok (Qc4 N h) λr=>∃e l,Sg N e l r.1:=by
 have f:=hN;unfold NB at f;have g:=hb.2;have zero:∃e l,Sg N e l zW:=⟨zH,[],Xn1 N,XtY,rfl,.inr rfl⟩
 refine WJ (YI (N:=N) ab hb.1 hb.2) λb eb hp=>Wn (λ_=>Wd zero) λs=>?_;have hp:=hp (by simp_all);refine WJ (KE hN hb) λb _ j=>Wn (λ_=>Wd zero) λg=>?_;have j:=j (by simp_all);refine WJ (Kw hN hb) λy _ q=>Uc ab ?_;refine WJ (XdM h y ab N 0 h.p ab ab ab (SameK.refl _)) λu _ k=>Wd ?_;exact⟨h,y.1,⟨hb,λ_=>j,λ_=>hp,q.1⟩,XdN hb hp q.1 rfl rfl rfl k (.refl _) rfl rfl,rfl,.inl hp⟩
def XhU(hN:NB N)(z:Start N h0 l)(rs:List Int)(A:rs.length<=1000000):∀(n:Nat) (i:Int) (w:Wv) (out:List Int),0<=i->i<=rs.length->(rs.length-i).toNat<n->CI h0 l w->(out.length:Int)=i ->
 Ok (Qa5 N rs n i w.h.c.W w.h.c.p w.h.w w.h.p w.h.s w.h.b w.o w.t w.q w.d w.r.j w.r.K w.r.F w.r.E w.r.f w.r.y out) λe=>match e with
  |.ret r=>r.2.2≠0
  |.nxt t=>∃(w':Wv) (g:List Int),CI h0 l w'/\w'.d=w.d/\g.length=rs.length/\t=(w'.h.c.W,w'.h.c.p,w'.h.w,w'.h.p,w'.h.s,w'.h.b,w'.o,w'.t,w'.q,w'.d,w'.r.j,w'.r.K,w'.r.F,w'.r.E,w'.r.f,w'.r.y,g)
 |0,i,w,out,_,_,B,_,_=>by omega
 |n+1,i,w,out,D,M,B,u,R=>by
  refine Wn (λk=>?_) λk=>Wd ⟨w,out,u,rfl,by grind,rfl⟩;have k:i<rs.length:=Wx k;rw[Xe (n:=i+1) ab ab];have⟨O,s,v⟩:=u.obj;refine Ok.get D k λp hp=>WJ (Xbc hN z u v p) λy _ G=>Wn (λx=>Wd (by simp_all)) λx=>?_;have q:=G (by simp_all);refine Uc ab ((XhU hN z rs A n (i+1) y.1 (out++[y.2.1]) ab ab ab q.ci (by simp_all)).mono λe x=>?_);cases e with
  |ret r=>omega
  |nxt t=>have⟨w',o',c1,I,J,L⟩:=x;exact⟨w',o',c1,I.trans q.sc,J,L⟩
def Xn3(hN:NB N)(g:Start N h0 l){rs:List Int}(h:rs.length<=1000000){w:Wv}(j:CI h0 l w):Ok (Qc5 N w rs) λr=>r.2.2=0->CI h0 l r.1/\r.1.d=w.d/\r.2.1.length=rs.length:=by have f:=hN;unfold NB at f;refine I6 (XhU hN g rs h N 0 w [] ab ab ab j rfl) (λa q=>Wd λe=>absurd e q) λb q=>Wd λ_=>?_;obtain⟨w',o',c1,k,p,rfl⟩:=q;exact⟨c1,k,p⟩
end
def Y6{d:Ws}{x:Int}(h:x∈XL d):0<=x/\x<d.n:=by
 unfold XL at h;by_cases e:Xx d=true
 .rw[Wm e]at h;have:=KZ h;omega
 simp_all
def Va(d:Ws):(XL d).length<=255:=by
 unfold XL;by_cases e:Xx d=true
 .rw[Wm e];have:=Vu (d:=d) (k:=d.n.toNat) (i:=0);have:=XB e;omega
 simp_all
section
variable {N:Nat}{h0:Wi}{l:List Int}
def Xgt{w:Wv}{O:Int->Prop}{s:Int->Int}(e:CI h0 l w)(f:OF h0 l w O s){p x:Int}(hp:O p)(y:p<x)(z:x<p+s p)(v:Int):
 inW w.h.w x/\CI h0 l {w with h:={w.h with w:=w.h.w.set (ix x) v}}/\OF h0 l {w with h:={w.h with w:=w.h.w.set (ix x) v}} O s:=by
 have A:=f.fit p hp;have g:inW w.h.w x:=by unfold inW;omega
 have j:OF h0 l {w with h:={w.h with w:=w.h.w.set (ix x) v}} O s:=by
  refine⟨f.old,f.queue,λa k=>?_,f.apart,f.taken,f.free⟩;show 4096<=a/\1<=s a/\a+s a<=4096+(w.h.w.set (ix x) v).length/\szA (w.h.w.set (ix x) v) a<=s a;obtain⟨f1,f2,q,r⟩:=f.fit a k;rw[WL];refine⟨f1,f2,q,?_⟩;have:a≠x:=by
   rintro rfl;by_cases u:a=p
   .omega
   have:=f.apart a p k hp u;omega
  unfold szA hdA at *;rw[Xcb g f1,Wj this];exact r
 refine⟨g,⟨e.conf,?_,e.plen,e.spc,e.old,e.tk,e.tnd,e.knd,e.qnd,⟨O,s,j⟩⟩,j⟩;rw[WL];exact e.wlen
def Xky(hN:NB N)(g:Start N h0 l){p:Int}{ks:List Int}(A:ks.length<=255):∀(n:Nat) (i:Int) (w:Wv) (O:Int->Prop) (s:Int->Int),0<=i->i<=ks.length->(ks.length-i).toNat<n->CI h0 l w->OF h0 l w O s->O p->(∀k∈ks,0<=k/\k<255/\k+1<s p) ->
 Ok (Qbf N p ks n i w.h.c.W w.h.c.p w.h.w w.h.p w.h.s w.h.b w.o w.t w.q w.d w.r.j w.r.K w.r.F w.r.E w.r.f w.r.y) λe=>match e with
  |.ret r=>r.2.2≠0
  |.nxt t=>∃(w':Wv),CI h0 l w'/\w'.d=w.d/\w.q.length<=w'.q.length/\t=(w'.h.c.W,w'.h.c.p,w'.h.w,w'.h.p,w'.h.s,w'.h.b,w'.o,w'.t,w'.q,w'.d,w'.r.j,w'.r.K,w'.r.F,w'.r.E,w'.r.f,w'.r.y)
 |0,i,w,O,s,_,_,M,_,_,_,_=>by omega
 |n+1,i,w,O,s,R,hi,M,v,L,hp,S=>by
  have B:=hN;unfold NB at B;have U:=g.hb.1;refine Wn (λz=>?_) λz=>Wd ⟨w,v,rfl,Uh _,rfl⟩;have z:i<ks.length:=Wx z;rw[Xe (n:=i+1) ab ab];refine Ok.get R z λk D=>?_;have G:=Ys D;have⟨k0,k1,k2⟩:=S k G;have hf:=L.fit p hp;have V:=v.wlen;rw[Xw (n:=p+1) ab ab,Xw (n:=k) ab ab,Xw (n:=p+1+k) ab ab];rw[Ye (v.wl g.hb),Xa];refine WJ (Xbc hN g v L _) λy _ Y=>Wn (λI=>Wd (by simp_all)) λI=>?_;have q:=Y (by simp_all);have⟨O',Z,J,hx⟩:=q.ob;have⟨u,hs'⟩:=hx p hp;have st:=Xgt q.ci J u (x:=p+1+k) ab ab y.2.1;rw[KJ (q.ci.wl g.hb) ab,Xa,Wm st.1];refine(Xky hN g A n (i+1) _ O' Z ab ab ab st.2.1 st.2.2 u (λk' hk'=>by simp_all)).mono λe I=>?_;cases e with
  |ret r=>omega
  |nxt t=>have⟨w',c1,c2,c3,c4⟩:=I;exact⟨w',c1,c2.trans q.sc,UK q.ql c3,c4⟩
def XqM(hN:NB N)(E:Start N h0 l){w:Wv}(g:CI h0 l w)(j:0<=w.d)(v:w.d<=w.q.length):Ok (Qei N w) λr=>r.2.2=0->CI h0 l r.1/\0<=r.1.d/\r.1.d<=r.1.q.length/\(r.2.1=true->r.1.d=w.d+1):=by
 have x:=hN;unfold NB at x;have hb:=E.hb;have G:=g.ql hb;refine Wn (λ_=>Wd λ_=>⟨g,j,v,λe=>by grind⟩) λf=>?_;have f:w.d<w.q.length:=by have:=WM f;omega
 refine Ok.get j f λp hp=>?_;have y:=Ys hp;have⟨O,s,z⟩:=g.obj;have u:=z.queue p y;have K:=z.fit p u;have A:inW w.h.w p:=by unfold inW;omega
 rw[Qdp,Ye (g.wl hb),Xa,Wm A,ZI,Xa,Xa,XdG ab,Xa];have B:=Va (hdA w.h.w p);have D:=XB (Z0 (wd w.h.w p));refine I6 (Xky hN E (p:=p) (ks:=XL (hdA w.h.w p)) B N 0 w O s ab ab ab g z u λk I=>?_) (λa q=>Wd λe=>absurd e q) λt q=>Wd λ_=>?_
 .have L:=Y6 I;have M:szA w.h.w p=(hdA w.h.w p).n+1:=rfl;have R:(hdA w.h.w p).n<=255:=D.2.2.2;omega
 obtain⟨w',c1,J,S,rfl⟩:=q;have e:wI (w'.d+1)=w.d+1:=by rw[J,Xe ab ab]
 refine⟨⟨c1.conf,c1.wlen,c1.plen,c1.spc,c1.old,c1.tk,c1.tnd,c1.knd,c1.qnd,?_⟩,?_,?_,λ_=>e⟩
 .have⟨O,s,h⟩:=c1.obj;exact⟨O,s,⟨h.old,h.queue,h.fit,h.apart,h.taken,h.free⟩⟩
 .show 0<=wI (w'.d+1);omega
 grind
def Xn4(hN:NB N)(g:Start N h0 l):∀(n:Nat) (w:Wv),CI h0 l w->0<=w.d->w.d<=w.q.length->(100001-w.d).toNat<n ->
 Ok (QbT N n w.h.c.W w.h.c.p w.h.w w.h.p w.h.s w.h.b w.o w.t w.q w.d w.r.j w.r.K w.r.F w.r.E w.r.f w.r.y) λr=>r.2=0->CI h0 l r.1
 |0,w,_,_,_,v=>by omega
 |n+1,w,x,z,g1,v=>by refine WJ (XqM hN g x z g1) λy _ A=>Wn (λB=>Wd λe=>absurd e (by simp_all)) λB=>?_;have⟨k,D,G,u⟩:=A (by simp_all);refine Wn (λ_=>Wd λ_=>k) λhb=>?_;have u:y.1.d=w.d+1:=u (by simp_all);have:=k.ql g.hb;exact Xn4 hN g n y.1 k D G ab
def XsL(hN:NB N)(f:Start N h0 l){w:Wv}(g:CI h0 l w)(h:0<=w.d)(g1:w.d<=w.q.length):Ok (Qeo N w) λr=>r.2=0->CI h0 l r.1:=by have e:=hN;unfold NB at e;exact WJ (Xn4 hN f N w g h g1 ab) λy _ j=>Wd j
def Xn5(hN:NB N)(f:Start N h0 l){w:Wv}(g:w.q.length<=100000)(hw:w.h.w.length<=BIG)(a:Int):Ok (QcD N w a) λ_=>True:=by have e:=hN;unfold NB at e;rw[QcD,X0 a ab ab,Xa];refine Wn (λ_=>Wd trivial) λ_=>?_;rw[Ye hw,Xa,Kv,Xa];exact Wd trivial
def Xgu(hN:NB N){w:Wv}(hb:HB h0)(A:CI h0 l w){s:Int->Int}(u:w.o.length<=4096)(q:w.o.Pairwise λa b=>a+s a<=b)(f:∀a∈w.o,4096<=a/\1<=s a/\a+s a<=4096+h0.w.length):∀(n k:Nat) (v:List Int) (c:Int),k<=w.o.length->w.o.length-k<n->v.length=h0.w.length->(∀a∈w.o.drop k,szA v a<=s a) ->
 Ok (QaD N w n (k:Int) v c) λr=>r.1.length=h0.w.length
 |0,k,v,c,_,S,_,_=>by omega
 |n+1,k,v,c,hk,S,B,O=>by
  have D:=hN;unfold NB at D;have U:=hb.1;have V:=A.ql hb;have E:=A.tl hb;refine Wn (λy=>?_) λ_=>Wd B;have y:k<w.o.length:=by have:=Wx y;omega
  have g:(k:Int)<w.o.length:=ab;have hdr:=Wl y;rw[Xe (n:=(k:Int)+1) ab ab,show((k:Int)+1)=((k+1:Nat):Int) by omega];have R:∀p,Xd w.o (k:Int)=some p->p=w.o[k]:=by intro p hp;rw[Xf,Wb y]at hp;exact(Wz hp).symm
  have next:Ok (QaD N w n ((k+1:Nat):Int) v c) λr=>r.1.length=h0.w.length:=
   Xgu hN hb A u q f n (k+1) v c ab ab B λa G=>O a (by rw[hdr];exact WQ _ G)
  refine Ok.get ab g λp hp=>?_;rw[KV,Xa];refine WJ (XcI hN (w:={w with h:={w.h with w:=v},r:=⟨_,_,_,_,_,_⟩}) E _) λb _ _=>Wn (λ_=>next) λ_=>?_;refine Ok.get ab g λp hp=>?_;rw[X0 p ab ab,Xa];refine Wn (λ_=>next) λ_=>Ok.get ab g λp hp=>?_;have j:=R p hp;have I:p∈w.o:=by rw[j];exact Ww y
  have⟨f1,f2,f3⟩:=f p I;have W:=O p (by rw[hdr,←j];exact List.mem_cons_self);have J:inW v p:=by unfold inW;omega
  have Y:=XA v p;rw[Qdp,Ye (by show v.length<=BIG;unfold BIG;omega),Xa,Wm J,ZI,Xa,Xa,KB,Xa];refine Ok.get ab g λp' K=>?_;obtain rfl:p=p':=j.trans (R p' K).symm;have e1:szA v p=(hdA v p).n+1:=rfl;have L:(Zf (v.getD (ix p) 0)).n=(hdA v p).n:=rfl;refine Uc (by rw[L];omega) (Uc (by rw[L];omega) ?_);have e:∀x:Int,([x]++List.replicate (Zf (v.getD (ix p) 0)).n.toNat (0:Int)).length=(szA v p).toNat:=by intro x;rw[WK,Ua,L];simp only[Ul,IT];omega
  rw[ZA (by unfold BIG;omega) (by rw[e];unfold BIG;omega) (by rw[e];omega),Xa,e,Wm (by unfold Ym;omega)];have M:∀x:Int,(ovr v ([x]++List.replicate (Zf (v.getD (ix p) 0)).n.toNat (0:Int)) (ix p)).length=v.length:=by intro x;apply Zz;rw[e];unfold ix;omega
  refine Xgu hN hb A u q f n (k+1) _ _ ab ab ((M _).trans B) λa G=>?_;have Z:p+s p<=a:=by have z:=q.drop (i:=k);rw[hdr,U7]at z;rw[j];exact z.1 a G
  have:∀x:Int,szA (ovr v ([x]++List.replicate (Zf (v.getD (ix p) 0)).n.toNat (0:Int)) (ix p)) a=szA v a:=by intro x;unfold szA hdA wd;rw[V3 (by rw[e];unfold ix;omega),e,Wj];unfold ix;have:p+szA v p<=a:=ab;omega
  grind
def XqN(hN:NB N)(j:Start N h0 l){w:Wv}(e:CI h0 l w):Ok (Qek N w) λr=>r.h.c=h0.c/\r.h.w.length=h0.w.length/\r.h.p=w.h.p/\r.h.p.length=h0.p.length/\r.t.length<=100000:=by
 have k:=hN;unfold NB at k;have hb:=j.hb;have⟨O,s,f⟩:=e.obj;have q:w.o.Pairwise λa b=>a+s a<=b:=by refine List.Pairwise.imp_of_mem ?_ (j.st.obj.pw.sublist e.old);intro a b g _ h;rw[(f.old a (e.old.subset g)).2];exact h
 have u:=UK e.old.length_le j.st.len;have v:=e.wlen;have:=Xgu hN (w:=w) hb e (s:=s) u q (λa g=>by have:=f.fit a (f.old a (e.old.subset g)).1;omega) N 0 w.h.w w.r.F ab ab v λa g=>(f.fit a (f.old a (e.old.subset (WS g))).1).2.2.2;have x:w.t.length<=100000:=e.tl hb;refine WJ this λr _ y=>Wd ⟨e.conf,y,rfl,e.plen,x⟩
def Xkz{w:Wv}(e:List Wo)(f:Wo)(i c:Int)(hp:Uu h0)(g:w.h.c=h0.c)(j:0<=i)(g1:i<h0.c.p):∀(n:Nat) (k:Int) (v:List Int),0<=k->(65-k).toNat<n->v.length=h0.w.length->Ok (Qbg N w e f i c n k v) λr=>r.length=h0.w.length
 |0,k,v,_,s,_=>by omega
 |n+1,k,v,k0,s,u=>by have x:=Xh.1 hp.conf;have y:=XE hp.conf j g1;have hw:=hp.words;rw[Qbg,g];refine Wn (λq=>?_) λ_=>Wd u;have q:k<h0.c.W:=Wx q;rw[Xe (n:=k+1) ab ab,Xe (n:=i*h0.c.W) ab ab,Xe (n:=i*h0.c.W+k) ab ab];refine Ok.get ab ab λp _=>Xkz e f i c hp g j g1 n (k+1) _ ab ab (by simp_all)
def Xgv(hN:NB N){w:Wv}(hb:HB h0)(hp:Uu h0\/h0.p=[])(g:w.h.c=h0.c):∀(n:Nat) (i c:Int) (v:List Int) (ps:List Wo),0<=i->i<=h0.p.length->(h0.p.length-i).toNat<n->v.length=h0.w.length->ps.length=h0.p.length->Ok (QaN N w n i c v ps) λr=>r.2.1.length=h0.w.length/\r.2.2.length=h0.p.length
 |0,i,c,v,ps,_,_,s,_,_=>by omega
 |n+1,i,c,v,ps,j,z,s,k,e=>by
  have q:=hN;unfold NB at q;have u:=hb.2;refine Uc ab (Wn (λf=>?_) λ_=>Wd ⟨k,e⟩);have f:i<ps.length:=Wx f;rw[Xe (n:=i+1) ab ab];have next:=Xgv hN (w:=w) hb hp g n (i+1) c v ps ab ab ab k e
  refine Ok.get j f λp _=>Wn (λ_=>next) λ_=>Wn (λ_=>next) λ_=>Ok.get j f λA _=>?_;rcases hp with hp|hp
  .have x:=hp.pages;refine WJ (Xkz ps p i c hp g j ab N 0 v ab ab k) λr _ y=>?_;exact Xgv hN hb (.inl hp) g n (i+1) _ r _ ab ab ab y (by rw[WL];exact e)
  grind
def XqO(hN:NB N){w:Wv}(hb:HB h0)(hp:Uu h0\/h0.p=[])(g:w.h.c=h0.c)(hw:w.h.w.length=h0.w.length)(e:w.h.p.length=h0.p.length):Ok (Qej N w) λr=>HB r.h/\r.t=w.t:=by
 have f:=hN;unfold NB at f;have j:=hb.1;have k:=hb.2;refine Uc ab (Uc ab (WJ (Xgv hN hb hp g N 0 _ _ _ ab ab ab hw e) λr _ q=>Wd ⟨⟨?_,?_⟩,rfl⟩))
 .show r.2.1.length<=_;omega
 simp_all
def XkA(hN:NB N)(f:Start N h0 l)(ws:List Int)(q:ws.length<=1000000)(j:Wv×List Int×Int)(g:Wv×Int)(h:CI h0 l g.1):∀(n:Nat) (i c:Int) (out:List Int),0<=i->i<=ws.length->(ws.length-i).toNat<n->(out.length:Int)=i->Ok (QaM N ws j g n i c out) λr=>r.2.length=ws.length
 |0,i,c,out,_,_,s,_=>by omega
 |n+1,i,c,out,k,v,s,z=>by
  refine Wn (λe=>?_) λe=>Wd (by grind);have e:i<ws.length:=Wx e;rw[Xe (n:=i+1) ab ab];have next:=λu x=>XkA hN f ws q j g h n (i+1) u (out++[x]) ab ab ab (by simp_all)
  refine Ok.get k e λp _=>Ir (Wn (λ_=>Ok.get k e λp _=>?_) λ_=>Uc ab (next _ _));refine WJ (Xn5 hN f (w:=⟨_,_,_,_,_,_⟩) (h.ql f.hb) (h.wl f.hb) p) λy _ _=>Ir (Wn (λ_=>Uc ab (next _ _)) λ_=>Uc ab (next _ _))
structure Sa(rs ws:List Int)(r:Wi×List Int×List Int×WT×Int):Prop where
 hb:HB r.1
 len:r.2.2.2.2=0->r.2.1.length=rs.length/\r.2.2.1.length=ws.length
 no:r.2.2.2.2≠0->r.2.1=[]/\r.2.2.1=[]
def QjH(hN:NB N){h:Wi}(hb:HB h){rs ws:List Int}(M:rs.length<=1000000)(hw:ws.length<=1000000):Ok (Qci N h rs ws) (Sa rs ws):=by
 have G:=hN;unfold NB at G;have bad:∀e:Int,e≠0->Sa rs ws (zH,[],[],⟨0,0,0,0,0,0⟩,e):=λe v=>⟨Kq,λh=>absurd h v,λ_=>⟨rfl,rfl⟩⟩
 refine WJ (YI (N:=N) ab hb.1 hb.2) λb _ _=>Wn (λ_=>Wd (bad 1 ag)) λ_=>Ir ?_;refine WJ (Xca hN hb M) λb _ _=>Wn (λ_=>Wd (bad 19 ag)) λ_=>?_;refine WJ (Xca hN hb hw) λb _ _=>Wn (λ_=>Wd (bad 19 ag)) λ_=>?_;refine WJ (Xn2 hN hb) λy4 _ I=>?_;have⟨R,l,D⟩:=I;have z:=D.st;refine WJ (Xn3 hN z M D.ci) λS _ J=>Wn (λv=>Wd (bad _ (by simp_all))) λv=>?_;have⟨c1,c2,U⟩:=J (by simp_all);have V:=D.sc;refine WJ (XsL hN z c1 ab ab) λg _ L=>Wn (λv=>Wd (bad _ (by simp_all))) λv=>?_;have k:=L (by simp_all);refine WJ (XkA hN z ws hw S g k N 0 _ [] ab ab ab rfl) λA _ B=>?_;have W:CI R l (Wv.mk g.1.h g.1.o g.1.t g.1.q g.1.d (WT.mk g.1.r.j g.1.r.K g.1.r.F g.1.r.E A.1 g.1.r.y)):=by obtain⟨O,s,u⟩:=k.obj;exact⟨k.conf,k.wlen,k.plen,k.spc,k.old,k.tk,k.tnd,k.knd,k.qnd,⟨O,s,⟨u.old,u.queue,u.fit,u.apart,u.taken,u.free⟩⟩⟩
 refine WJ (XqN hN z W) λY _ ⟨f1,f2,f3,Z,f5⟩=>?_;refine WJ (XqO hN (h0:=R) z.hb D.pr f1 f2 Z) λf _ ⟨g1,g2⟩=>?_;have fin:∀x:Int,Sa rs ws ((Wi.mk f.h.c f.h.w f.h.p (wI (1-f.h.s)) x),S.2.1,A.2,f.r,0):=λx=>⟨g1,λ_=>⟨U,B⟩,λh=>absurd rfl h⟩
 refine Ir (Wn (λht=>?_) λ_=>Wd (fin _));have ht:0<(f.t.length:Int):=Wx ht;rw[g2]at ht⊢;rw[Xe ab ab];exact Ok.get ab ab λp _=>Wd (fin _)
end
def YD{α σ:Type}(q:σ->Nat->α->Bool)(nxp:σ->α->σ):σ->Nat->List α->Bool
 |_,_,[]=>true
 |s,k,x::l=>q s k x&&YD q nxp (nxp s x) (k+1) l
def Z4{α:Type}(q:α->Bool):∀(k:Nat) (l:List α),YD (λ(_:Unit) _ x=>q x) (λs _=>s) () k l=l.all q
 |_,[]=>rfl
 |k,x::l=>by rw[YD,Z4 q (k+1) l,Og]
def Vb{α σ:Type}{l:List α}{F:Nat->σ->Int->Option (Ex Bool Unit)}{q:σ->Nat->α->Bool}{nxp:σ->α->σ}{I:σ->Prop}(f:∀(n:Nat) (s:σ) (k:Nat) (p:α),I s->l[k]? = some p->F (n+1) s (k:Int)=bif q s k p then F n (nxp s p) ((k+1:Nat):Int)else some (.ret false))(g:∀(n:Nat) (s:σ),F (n+1) s (l.length:Int)=some (.nxt ()))(j:∀s k p,I s->l[k]? = some p->q s k p=true->I (nxp s p)):∀(n:Nat) (s:σ) (k:Nat),I s->k<=l.length->l.length-k<n->F n s (k:Int)=some (bif YD q nxp s k (l.drop k)then .nxt ()else .ret false)
 |0,s,k,_,_,u=>by omega
 |n+1,s,k,r,w,u=>by
  by_cases h:k<l.length
  .have e:=Wb h;rw[f n s k _ r e,Wl h,YD];cases v:q s k l[k]with
   |false=>rfl
   |true=>exact Vb f g j n _ (k+1) (j s k _ r e v) ab ab
  obtain rfl:k=l.length:=ab;rw[g,WY (Uh _)];rfl
def Jz{α:Type}{l:List α}{F:Nat->Int->Option (Ex Bool Unit)}{q:Nat->α->Bool}(f:∀(n k:Nat) (p:α),l[k]? = some p->F (n+1) (k:Int)=bif q k p then F n ((k+1:Nat):Int)else some (.ret false))(g:∀(n:Nat),F (n+1) (l.length:Int)=some (.nxt ())){n:Nat}(j:l.length<n):F n 0=some (bif YD (λ(_:Unit)=>q) (λs _=>s) () 0 l then .nxt ()else .ret false):=by have h:=Vb (F:=λn (_:Unit) i=>F n i) (q:=λ_=>q) (nxp:=λs _=>s) (I:=λ_=>True) (l:=l) (λn s k p _ e=>f n k p e) (λn _=>g n) (λ_ _ _ _ _ _=>trivial) n () 0 trivial ab ab;assumption
def Xi{k n:Nat}(h:k<n):decide ((k:Int)<(n:Int))=true:=We ab
def Xz(n:Nat):decide ((n:Int)<(n:Int))=false:=Wg ab
def Xy{α:Type}{l:List α}{k:Nat}{p:α}(h:l[k]? = some p):k<l.length:=(Ia.1 h).1
def Xg{k:Nat}(h:k<=140737488355328):wI ((k:Int)+1)=((k+1:Nat):Int):=by rw[Xe ab ab];omega
def Jp(e:W6):Bool:=!decide (e.G<1)&&(!decide (e.G>4294967295)&&(e.V||!(e.a != 0)))
def Yk(l:List W6):Bool:=l.all Jp&&decide (l.length<=64)
def Xu(l:List W6):List Int:=(l.filter (·.V)).map (·.a)
def YP{N:Nat}{t:WD}(g:t.e.length<=1000000)(hN:1000000<N):Qce N t=some (Yk t.e):=by
 have h:=Jz (l:=t.e) (F:=QcW N t) (q:=λ_=>Jp) (λn k p e=>?_) (λn=>?_) (n:=N) ab
 .rw[Qce,h,Xa,Z4,Yk];cases t.e.all Jp
  .rw[Wa,Xs];rfl
  rw[Wc,Xm,Ue];congr 1;exact decide_eq_decide.2 ab
 .have f:=Xy e;rw[QcW,Xi f,Wc,Xf,e,Xa,Xg ab];unfold Jp;cases decide (p.G<1)<;>cases decide (p.G>4294967295)<;>cases p.V<;>cases (p.a != 0)<;>rfl
 simp[QcW,Xz,Wa]
def XdO{N:Nat}{t:WD}(f:t.e.length<=1000000)(hN:1000000<N)(g:Yk t.e=true):∀(n k:Nat) (v:List Int),k<=t.e.length->t.e.length-k<n->v.length<=k ->
 QbQ N t n (k:Int) v=some (v++Xu (t.e.drop k))
 |0,k,v,_,j,_=>by omega
 |n+1,k,v,q,j,p=>by
  rw[QbQ];by_cases h:k<t.e.length
  .rw[Xi h,Wc,YP f hN,Xa,g,Wc,Xf,Wb h,Xa,Xa,Xg ab,Wl h,Xu];cases r:t.e[k].V
   .rw[Wa,XdO f hN g n (k+1) v ab ab ab,UC (by simp_all)];rfl
   rw[Wc,Xb ab,XdO f hN g n (k+1) _ ab ab (by simp_all),Uq ab];simp[Xu]
  obtain rfl:k=t.e.length:=ab;simp[Xu]
def XW{N:Nat}{t:WD}(f:t.e.length<=1000000)(hN:1000000<N):Qbu N t=some (bif Yk t.e then Xu t.e else[]):=by
 rw[Qbu];cases g:Yk t.e
 .obtain⟨m,rfl⟩:∃m,N=m+1:=⟨N-1,ab⟩
  rw[QbQ,YP f hN,g];by_cases h:0<t.e.length
  .rw[show decide ((0:Int)<(t.e.length:Int))=true from We ab,Wc,Xa,Wa,Xa];rfl
  rw[show decide ((0:Int)<(t.e.length:Int))=false from Wg ab,Wa,Xa];rfl
 have h:=XdO f hN g N 0 [] ab ab ac;rw[show((0:Nat):Int)=0 from rfl,WX,W8]at h;simp[h,Xa]
def Vc(l:List W6):(Xu l).length<=l.length:=by unfold Xu;grind
def Jq{l:List W6}(h:Yk l=true):l.length<=64:=by unfold Yk at h;simp_all
def Xn6{l:List W6}(h:Yk l=true){e:W6}(f:e∈l):1<=e.G/\e.G<=4294967295/\(e.V=false->e.a=0):=by unfold Yk at h;rw[WH,W0]at h;have:=h.1 e f;unfold Jp at this;grind
def Yo(l:List W6)(i g:Int):Int×Int:=
 if Yk l=false then(0,1)else if i<0\/(l.length:Int)<=i\/g<1 then(0,6)else
 match l[i.toNat]? with
 |none=>(0,6)
 |some e=>if g>e.G then(0,6)else if g<e.G then(0,8)else if e.V then(e.a,0)else(0,8)
def Vx{N:Nat}{t:WD}(h:t.e.length<=1000000)(hN:1000000<N)(i g:Int):QdP N t i g=some (Yo t.e i g):=by
 rw[QdP,YP h hN,Xa,Yo];cases k:Yk t.e
 .rfl
 simp only[Wh,Wa,UL,Bool.true_eq_false,if_false];by_cases h0:i<0
 .simp_all
 by_cases p:i>=(t.e.length:Int)
 .simp_all
 by_cases j:g<1
 .simp_all
 have f:i.toNat<t.e.length:=ab;rw[Wj j,Wj ab,X6 ab ab,Xa,Wb f];simp only[Xa];grind
def Za{α σ:Type}{q:σ->Nat->α->Bool}{nxp:σ->α->σ}:∀(l:List α) (s:σ) (k:Nat),YD q nxp s k l=true↔∀i p,l[i]? = some p->q ((l.take i).foldl nxp s) (k+i) p=true
 |[],s,k=>by simp[YD]
 |x::l,s,k=>by
  rw[YD,WH,Za l (nxp s x) (k+1)];constructor
  .rintro⟨e,f⟩ i p hp;cases i with
   |zero=>simp_all
   |succ i=>grind
  intro h;refine⟨h 0 x rfl,λi p hp=>?_⟩;have:=h (i+1) p (by exact hp);grind
def Xn7(l:List Int):Bool:=l.all λp=>!decide (p<0)&&!decide (p>4095)
def stQ(iss:List Int)(s:Int)(i:Nat)(p:UF):Bool:=!decide (p.J<=s)&&(!decide (p.J>(iss.length:Int))&&(!((iss.getD (p.J-1).toNat 0) != (i:Int))&&(p.V==(p.a != 0))))
def stB(iss:List Int)(l:List UF):Bool:=YD (stQ iss) (λ_ p=>p.J) 0 0 l
def neQ(n:Nat)(s:Int)(i:Nat)(p:UX):Bool:=(!((i:Int)==0)||(!(p.O != 0)&&p.B0))&&(!decide (p.O<s)&&(!decide (p.O>(n:Int))&&(!decide (p.C0<0)&&!decide (p.C0>64))))
def neB(n:Nat)(l:List UX):Bool:=YD (neQ n) (λ_ p=>p.O) 0 0 l
def YQ(l:List UF)(f t:Nat):Nat:=((l.drop f).take (t-f)).countP (·.V)
def toL(a:Wq)(i:Nat):Int:=match a.x[i+1]? with|some p=>p.O|none=>a.S.length
def XhV(a:Wq)(_:Unit)(i:Nat)(p:UX):Bool:=!decide (((YQ a.S p.O.toNat (toL a i).toNat:Nat):Int)>p.C0)
def Xcc(a:Wq):Bool:=YD (XhV a) (λs _=>s) () 0 a.x
def Yl(a:Wq):Bool:=!decide ((a.i.length:Int)>4096)&&(!decide ((a.x.length:Int)>64)&&((!((a.x.length:Int)==0)||!decide ((a.S.length:Int)>0))&&(Xn7 a.i&&(stB a.i a.S&&(neB a.S.length a.x&&Xcc a)))))
def LBp(a:Wq):Prop:=a.S.length<=1000000/\a.x.length<=1000000/\a.i.length<=1000000
def KK{n:Nat}{l:List UX}(h:neB n l=true){i:Nat}{p:UX}(hp:l[i]? = some p):0<=p.O/\p.O<=n/\0<=p.C0/\p.C0<=64/\(i=0->p.O=0/\p.B0=true)/\∀g,l[i+1]? = some g->p.O<=g.O:=by
 have j:=(Za l (0:Int) 0).1 h;have inv:∀(k:Nat) (p:UX),l[k]? = some p->0<=p.O:=by
  intro k;induction k with
  |zero=>intro p hp;have:=j 0 p hp;unfold neQ at this;simp_all
  |succ k r=>
   intro p hp;have s:k<l.length:=by have:=Xy hp;omega
   have e:=Wb s;have u:=r _ e;have f:=j (k+1) p hp;rw[Io,e]at f;simp only[List.foldl_append,Option.toList,IE,List.foldl_nil]at f;unfold neQ at f;grind
 have h0:=j i p hp;unfold neQ at h0;simp at h0;refine⟨inv i p hp,ab,ab,ab,λv=>?_,λg q=>?_⟩
 .simp_all
 have f:=j (i+1) g q;rw[Io,hp]at f;unfold neQ at f;simp_all
def XaD{iss:List Int}{l:List UF}(h:stB iss l=true){i:Nat}{p:UF}(hp:l[i]? = some p):(i:Int)+1<=p.J/\p.J<=iss.length/\iss.getD (p.J-1).toNat 0=i/\(p.V=true↔p.a≠0):=by
 have g:=(Za l (0:Int) 0).1 h;have inv:∀(k:Nat) (p:UF),l[k]? = some p->(k:Int)+1<=p.J:=by
  intro k;induction k with
  |zero=>intro p hp;have:=g 0 p hp;unfold stQ at this;simp at this;have:=WM this.1;omega
  |succ k j=>
   intro p hp;have q:k<l.length:=by have:=Xy hp;omega
   have e:=Wb q;have r:=j _ e;have f:=g (k+1) p hp;rw[Io,e]at f;simp only[List.foldl_append,Option.toList,IE,List.foldl_nil]at f;unfold stQ at f;simp at f;omega
 have h0:=g i p hp;unfold stQ at h0;simp_all
structure O7(a:Wq):Prop where
 iss:a.i.length<=4096
 sc:a.x.length<=64
 none:a.x.length=0->a.S.length=0
 issr:∀x∈a.i,0<=x/\x<=4095
 st:stB a.i a.S=true
 ne:neB a.S.length a.x=true
 cap:Xcc a=true
def XX{a:Wq}:Yl a=true↔O7 a:=by
 unfold Yl Xn7;simp only[WH,Ic,IB,Iq,W0,beq_eq_false_iff_ne];constructor
 .rintro⟨p,q,r,s,g,j,k⟩;exact⟨ab,ab,λe=>ab,λx f=>by simp_all,g,j,k⟩
 intro h;exact⟨by have:=h.iss;omega,by have:=h.sc;omega,by have:=h.none;omega,λx f=>by have:=h.issr x f;omega,h.st,h.ne,h.cap⟩
def O7.slots{a:Wq}(h:O7 a):a.S.length<=a.i.length:=by
 by_cases f:a.S.length=0
 .omega
 have e:=Wb (show a.S.length-1<a.S.length by omega);have:=XaD h.st e;omega
def Xgw{N:Nat}{a:Wq}(j:a.S.length<=1000000)(t:Nat)(ht:t<=a.S.length):∀(n f c:Nat),t-f<n->c<=f->f<=1000000->Qd1 N a (t:Int) n (c:Int) (f:Int)=some (((c+YQ a.S f t:Nat):Int))
 |0,f,c,p,_,_=>by omega
 |n+1,f,c,p,q,r=>by
  rw[Qd1];by_cases h:f<t
  .have g:f<a.S.length:=ab;rw[show decide ((f:Int)<(t:Int))=true from We ab,Wc,Xf,Wb g,Xa,Xg ab,Xg ab];have e:YQ a.S f t=(if a.S[f].V then 1 else 0)+YQ a.S (f+1) t:=by unfold YQ;rw[Wl g,show t-f=(t-(f+1))+1 by omega,List.take_succ_cons,U9];omega
   cases k:a.S[f].V
   .rw[Wa,Xgw j t ht n (f+1) c ab ab ab,e,k];simp
   rw[Wc,Xgw j t ht n (f+1) (c+1) ab ab ab,e,k];grind
  rw[show decide ((f:Int)<(t:Int))=false from Wg ab,Wa];unfold YQ;simp_all
def XkB{N:Nat}{a:Wq}(e:a.S.length<=1000000)(hN:1000000<N){f t:Int}(f0:0<=f)(f1:f<=1000000)(g:0<=t)(h:t<=a.S.length):Qgl N a f t=some ((YQ a.S f.toNat t.toNat:Nat):Int):=by obtain⟨f,rfl⟩:=UQ f0;obtain⟨t,rfl⟩:=UQ g;rw[Qgl];have:=Xgw (N:=N) e t ab N f 0 ab ab ab;rw[show((0:Nat):Int)=0 from rfl]at this;simp[this,Xa]
def XtZ{N:Nat}{a:Wq}{i:Nat}(e:i<=1000000):Qhp N a (i:Int)=some (toL a i):=by
 rw[Qhp,Xg ab,toL];by_cases h:i+1<a.x.length
 .rw[Xi h,Wc,Xf,Wb h,Xa]
 grind
def Xt0{a:Wq}(h:neB a.S.length a.x=true)(i:Nat):0<=toL a i/\toL a i<=a.S.length:=by
 unfold toL;cases e:a.x[i+1]? with
 |none=>simp
 |some p=>have:=KK h e;simp_all
def Zu{N:Nat}{a:Wq}(w:LBp a)(hN:1000000<N):Qcf N a=some (Yl a):=by
 have⟨h,y,hl3⟩:=w;have u:=Jz (l:=a.i) (F:=Qdw N a) (q:=λ_ p=>!decide (p<0)&&!decide (p>4095)) (λn k p e=>by
  have f:=Xy e
  rw[Qdw,Xi f,Wc,Xf,e,Xa,Xa,Xg ab]
  cases decide (p<0)<;>cases decide (p>4095)<;>rfl) (λn=>by rw[Qdw,Xz,Wa]) (n:=N) ab
 have z:=Vb (l:=a.S) (F:=λn s i=>Qaw N a n s i) (q:=stQ a.i) (nxp:=λ_ p=>p.J) (I:=λs=>0<=s) (λn s k p v e=>by
  have f:=Xy e
  show Qaw N a (n+1) s (k:Int)=_
  rw[Qaw,Xi f,Wc,Xf,e,Xa,Xg ab]
  unfold stQ
  cases g1:decide (p.J<=s)
  .cases g2:decide (p.J>(a.i.length:Int))
   .have g1:=WM g1
    have g2:=WM g2
    rw[Wa,Wa,Xe ab ab,X6 ab ab,Xa]
    have ge:a.i[(p.J-1).toNat]'ab=a.i.getD (p.J-1).toNat 0:=by
     rw[Wk,Wb ab];rfl
    rw[ge]
    cases (a.i.getD (p.J-1).toNat 0 != (k:Int))<;>cases (p.V==(p.a != 0))<;>rfl
   .rfl
  .rfl) (λn s=>by show Qaw N a (n+1) s _=_;rw[Qaw,Xz,Wa]) (λs k p v e j=>by
   unfold stQ at j
   simp only[WH,Ic,IB]at j
   have:=j.1
   omega) N 0 0 ab ab ab
 have A:=Vb (l:=a.x) (F:=λn s i=>Qat N a n s i) (q:=neQ a.S.length) (nxp:=λ_ p=>p.O) (I:=λ_=>True) (λn s k p v e=>by
  have f:=Xy e
  show Qat N a (n+1) s (k:Int)=_
  rw[Qat,Xi f,Wc,Xf,e,Xa,Xg ab]
  unfold neQ
  cases ((k:Int)==0)<;>cases (p.O != 0)<;>cases p.B0<;>cases decide (p.O<s)<;>cases decide (p.O>(a.S.length:Int))<;>cases decide (p.C0<0)<;>cases decide (p.C0>64)<;>rfl) (λn s=>by show Qat N a (n+1) s _=_;rw[Qat,Xz,Wa]) (λ_ _ _ _ _ _=>trivial) N 0 0 trivial ab ab
 rw[Z4]at u;rw[Qcf,Xt,u,Xa];have B:Qaw N a N 0 0=some (bif stB a.i a.S then .nxt ()else .ret false):=z;have e3:Qat N a N 0 0=some (bif neB a.S.length a.x then .nxt ()else .ret false):=A;unfold Yl Xn7;have main:(exK (bif (a.i.all λp=>!decide (p<0)&&!decide (p>4095))then Ex.nxt ()else Ex.ret false) (λr=>some r) λL=>
  bnd (Qaw N a N 0 0) λe=>exK e (λr=>some r) λM=>
  bnd (Qat N a N 0 0) λe=>exK e (λr=>some r) λD=>
  bnd (QcX N a N 0) λe=>exK e (λr=>some r) λE=>some true)=some ((a.i.all λp=>!decide (p<0)&&!decide (p>4095))&&(stB a.i a.S&&(neB a.S.length a.x&&Xcc a))):=by
  cases (a.i.all λp=>!decide (p<0)&&!decide (p>4095))
  .rw[Wa,Xs];rfl
  rw[Wc,Xm,Ue,B,Xa]
  cases stB a.i a.S
  .rw[Wa,Xs];rfl
  rw[Wc,Xm,Ue,e3,Xa]
  cases g:neB a.S.length a.x
  .rw[Wa,Xs];rfl
  rw[Wc,Xm,Ue]
  have G:=Jz (l:=a.x) (F:=QcX N a) (q:=XhV a ()) (λn k p e=>by
   have f:=Xy e
   have K:=KK g e
   have ht:=Xt0 g k
   rw[QcX,Xi f,Wc,Xf,e,Xa,XtZ ab,Xa,XkB h hN K.1 ab ht.1 ht.2,Xa,Xa,Xg ab]
   unfold XhV
   cases decide (((YQ a.S p.O.toNat (toL a k).toNat:Nat):Int)>p.C0)<;>rfl) (λn=>by rw[QcX,Xz,Wa]) (n:=N) ab
  rw[G,Xa]
  show exK (bif Xcc a then Ex.nxt ()else Ex.ret false) _ _=_
  cases Xcc a
  .rw[Wa,Xs]
  .rw[Wc,Xm]
 grind
def zL:Wq:=⟨[],[],[]⟩
def XD(l:List UF):List Int:=(l.filter (·.V)).map (·.a)
def XaE(l:List UF):(XD l).length<=l.length:=by unfold XD;grind
section
variable {N:Nat}{a:Wq}
def XdP(e:LBp a)(hN:1000000<N)(f:Yl a=true):∀(n k:Nat) (v:List Int),k<=a.S.length->a.S.length-k<n->v.length<=k ->
 QbR N a n (k:Int) v=some (v++XD (a.S.drop k))
 |0,k,v,_,g,_=>by omega
 |n+1,k,v,q,g,j=>by
  have p:=e.1;rw[QbR];by_cases h:k<a.S.length
  .rw[Xi h,Wc,Zu e hN,Xa,f,Wc,Xf,Wb h,Xa,Xa,Xg ab,Wl h,XD];cases r:a.S[k].V
   .rw[Wa,XdP e hN f n (k+1) v ab ab ab,UC (by simp_all)];rfl
   rw[Wc,Xb ab,XdP e hN f n (k+1) _ ab ab (by simp_all),Uq ab];simp[XD]
  obtain rfl:k=a.S.length:=ab;simp[XD]
def YR(e:LBp a)(hN:1000000<N):QcL N a=some (bif Yl a then XD a.S else[]):=by
 rw[QcL];cases f:Yl a
 .obtain⟨m,rfl⟩:∃m,N=m+1:=⟨N-1,ab⟩
  rw[QbR,Zu e hN,f];by_cases h:0<a.S.length
  .rw[show decide ((0:Int)<(a.S.length:Int))=true from We ab,Wc,Xa,Wa,Xa];rfl
  rw[show decide ((0:Int)<(a.S.length:Int))=false from Wg ab,Wa,Xa];rfl
 have h:=XdP e hN f N 0 [] ab (by have:=e.1;omega) ac;rw[show((0:Nat):Int)=0 from rfl,WX,W8]at h;simp[h,Xa]
def Kf(a:Wq):UX:=a.x.getD (a.x.length-1) ⟨0,0,false⟩
def XdQ(h:a.x.length≠0)(e:a.x.length<=1000000):Xd a.x (wI ((a.x.length:Int)-1))=some (Kf a):=by rw[Xe ab ab,show(a.x.length:Int)-1=((a.x.length-1:Nat):Int) by omega,Xf,Kf,Wk,Wb ab];rfl
def Z1(a:Wq)(id:Int):Wq×Int×Int×Int:=
 if Yl a=false then(zL,0,0,1)else if id=0 then(zL,0,0,1)else if a.x.length=0 then(zL,0,0,9)
 else if(Kf a).C0<=((YQ a.S (Kf a).O.toNat a.S.length:Nat):Int)then(zL,0,0,10)
 else if a.i.length=4096 then(zL,0,0,18)
 else(⟨a.S++[⟨(a.i.length:Int)+1,id,true⟩],a.x,a.i++[(a.S.length:Int)]⟩,(a.S.length:Int),(a.i.length:Int)+1,0)
def XhW(f:Yl a=true)(h:a.x.length≠0):0<=(Kf a).O/\(Kf a).O<=a.S.length:=by
 have g:=XX.1 f;have e:=Wb (show a.x.length-1<a.x.length by omega);have:=KK g.ne e;have j:Kf a=a.x[a.x.length-1]:=by unfold Kf;rw[Wk,e];rfl
 simp_all
def XaF(p:LBp a)(hN:1000000<N)(id:Int):Qeq N a id=some (Z1 a id):=by
 have⟨e,f,hl3⟩:=p;rw[Qeq,Zu ⟨e,f,hl3⟩ hN,Xa,Z1];cases q:Yl a
 .rfl
 rw[Wh,Wa,Wj ac];by_cases k:id=0
 .subst k;rfl
 rw[Wj k,show(id==0)=false by simp_all,Wa];by_cases g:a.x.length=0
 .rw[Wm g,g];rfl
 rw[Wj g,show((a.x.length:Int)==0)=false by simp_all,Wa,XdQ g f,Xa];have ht:=XhW q g;rw[XkB e hN ht.1 ab ab ab,Xa,Xa,Int.toNat_natCast];by_cases h:(Kf a).C0<=((YQ a.S (Kf a).O.toNat a.S.length:Nat):Int)
 .rw[Wm h,We (show((YQ a.S (Kf a).O.toNat a.S.length:Nat):Int)>=_ from h),Wc];rfl
 rw[Wj h,Wg (show¬((YQ a.S (Kf a).O.toNat a.S.length:Nat):Int)>=_ from h),Wa];by_cases j:a.i.length=4096
 .rw[Wm j,j];rfl
 rw[Wj j,show((a.i.length:Int)==4096)=false by grind,Wa,Xb ab,Xb ab,Xb ab,Xb ab,Xe ab ab]
def ZT:LBp zL:=⟨by simp[zL],by simp[zL],by simp[zL]⟩
def XkC(g:LBp a)(id:Int):LBp (Z1 a id).1:=by
 have⟨h,e,hl3⟩:=g;unfold Z1;cases j:Yl a
 .exact ZT
 have f:=XX.1 j;have k:=f.slots;have p:=f.iss;split
 .exact ZT
 split
 .exact ZT
 split
 .exact ZT
 split
 .exact ZT
 split
 .exact ZT
 refine⟨?_,e,?_⟩
 .simp;omega
 grind
def Yp(a:Wq)(i g:Int):Int×Int:=
 if Yl a=false then(0,1)else if g<1\/(a.i.length:Int)<g then(0,6)else
 if a.i.getD (g-1).toNat 0≠i then(0,6)else if(a.S.length:Int)<=i then(0,7)else
 match a.S[i.toNat]? with
 |none=>(0,7)
 |some p=>if p.J≠g then(0,7)else if p.V then(p.a,0)else(0,8)
def Xc3(r:LBp a)(hN:1000000<N)(i g:Int):QeZ N a i g=some (Yp a i g):=by
 have h:=r;have⟨u,v,hl3⟩:=r;rw[QeZ,Zu h hN,Xa,Yp];cases w:Yl a
 .rfl
 have x:=XX.1 w;rw[Wh,Wa,Wj ac];by_cases j:g<1
 .rw[We j,Wc,Wm (.inl j)]
 rw[Wg j,Wa];by_cases k:g>(a.i.length:Int)
 .rw[We k,Wc,Wm (.inr k)]
 have e:(g-1).toNat<a.i.length:=ab;rw[Wg k,Wa,Wj ab,Xe ab ab,X6 ab ab,Xa];have ge:a.i[(g-1).toNat]=a.i.getD (g-1).toNat 0:=by rw[Wk,Wb e];rfl
 have s:=x.issr _ (Ww e);rw[ge]at s⊢;by_cases y:a.i.getD (g-1).toNat 0=i
 .rw[y]at s⊢;rw[show(i != i)=false by simp,Wa,Wj ac];by_cases p:i>=(a.S.length:Int)
  .rw[We p,Wc,Wm p]
  have f:i.toNat<a.S.length:=ab;rw[Wg p,Wa,Wj ab,X6 ab ab,Xa,Wb f];simp only[Xa];by_cases q:a.S[i.toNat].J=g
  .rw[q,show(g != g)=false by simp,Wa,Wj ac];cases a.S[i.toNat].V<;>rfl
  rw[show(a.S[i.toNat].J != g)=true by simpa using q,Wc,Wm q]
 grind
def XaG{i g:Int}(h:(Yp a i g).2=0):Yl a=true/\0<=i/\∃p,a.S[i.toNat]? = some p/\p.J=g/\p.V=true/\(Yp a i g).1=p.a:=by
 unfold Yp at h⊢;cases j:Yl a
 .rw[j]at h;cases h
 have u:=XX.1 j;rw[j]at h;by_cases q:g<1\/(a.i.length:Int)<g
 .rw[Wm q]at h;cases h
 rw[Wj q]at h⊢;have f:(g-1).toNat<a.i.length:=ab;have ge:a.i[(g-1).toNat]=a.i.getD (g-1).toNat 0:=by rw[Wk,Wb f];rfl
 have w:=u.issr _ (Ww f);by_cases k:a.i.getD (g-1).toNat 0≠i
 .rw[Wm k]at h;cases h
 rw[Wj k]at h⊢;by_cases r:(a.S.length:Int)<=i
 .rw[Wm r]at h;cases h
 rw[Wj r]at h⊢;have x:0<=i:=by have:a.i.getD (g-1).toNat 0=i:=Classical.not_not.1 k;omega
 have e:=Wb (show i.toNat<a.S.length by omega);rw[e]at h⊢;simp only at h⊢;by_cases s:a.S[i.toNat].J≠g
 .rw[Wm s]at h;cases h
 rw[Wj s]at h⊢;cases v:a.S[i.toNat].V
 .rw[v]at h;cases h
 simp_all
def JM(a:Wq)(i g:Int):Wq×Int:=
 if(Yp a i g).2≠0 then(zL,(Yp a i g).2)else(⟨a.S.set i.toNat ⟨g,0,false⟩,a.x,a.i⟩,0)
def Xgx(e:LBp a)(hN:1000000<N)(i g:Int):QdQ N a i g=some (JM a i g):=by
 rw[QdQ,Xc3 e hN,Xa,JM];by_cases h:(Yp a i g).2=0
 .have⟨_,h0,p,hp,_⟩:=XaG h;have:=Xy hp;have f:=e.1;rw[h,show((0:Int) != 0)=false from rfl,Wa,Wj ac,Xb ab,X6 h0 ab,Xa]
 rw[show((Yp a i g).2 != 0)=true by simp_all,Wc,Wm h];rfl
def XkD(e:LBp a)(i g:Int):LBp (JM a i g).1:=by
 unfold JM;split
 .exact ZT
 exact⟨by rw[WL];exact e.1,e.2⟩
def KF(a:Wq)(c:Int):Wq×Int:=
 if Yl a=false\/c<0\/64<c then(zL,1)else if a.x.length=0 then(zL,9)else if a.x.length=64 then(zL,17)else(⟨a.S,a.x++[⟨(a.S.length:Int),c,false⟩],a.i⟩,0)
def XbD(j:LBp a)(hN:1000000<N)(c:Int):Qel N a c=some (KF a c):=by
 have k:=j.2.1;rw[Qel,Qgo,Zu j hN,Xa,KF];cases p:Yl a
 .rw[Ug,Wc,Xa,Wm (.inl rfl)];rfl
 rw[Wh,Wa];by_cases e:c<0
 .rw[We e,Wc,Xa,Wm (.inr (.inl e))];rfl
 by_cases f:c>64
 .rw[Wg e,Wa,We f,Wc,Xa,Wm (.inr (.inr f))];rfl
 rw[Wg e,Wa,Wg f,Wa,Xt,Ug,Wc,Wj (by simp_all)];by_cases g:a.x.length=0
 .rw[Wm g,g];rw[show(((0:Nat):Int)==0)=true from rfl,Wc,Xa];rfl
 rw[Wj g,show((a.x.length:Int)==0)=false by simp_all,Wa];by_cases h:a.x.length=64
 .rw[Wm h,h];rw[show(((64:Nat):Int)==64)=true from rfl,Wc,Xa];rfl
 rw[Wj h,show((a.x.length:Int)==64)=false by grind,Wa,Xb ab,Xb ab,Xa]
def XhX(e:LBp a)(c:Int):LBp (KF a c).1:=by
 unfold KF;cases f:Yl a
 .exact ZT
 have:=(XX.1 f).sc;split
 .exact ZT
 split
 .exact ZT
 split
 .exact ZT
 exact⟨e.1,by grind,e.2.2⟩
def Zs(a:Wq):Wq×Int:=
 if Yl a=false then(zL,1)else if a.x.length=0 then(zL,9)else if(Kf a).B0 then(zL,9)else(⟨a.S.take (Kf a).O.toNat,a.x.take (a.x.length-1),a.i⟩,0)
def Xc4(h:LBp a)(hN:1000000<N):Qe0 N a=some (Zs a):=by
 have⟨g,e,hl3⟩:=h;rw[Qe0,Zu ⟨g,e,hl3⟩ hN,Xa,Zs];cases j:Yl a
 .rfl
 by_cases f:a.x.length=0
 .rw[Wm f,f];rfl
 have ht:=XhW j f;rw[Wj f,show((a.x.length:Int)==0)=false by simpa using f,Wa,XdQ f e,Xa];cases k:(Kf a).B0
 .rw[Wa,QgO,XdQ f e,Xa,Xe ab ab,Xb ab,Xb ab,Xb ab,Xb ab,Xa];rw[show((a.x.length:Int)-1).toNat=a.x.length-1 by omega];rfl
 rfl
def Xgy(e:LBp a):LBp (Zs a).1:=by
 unfold Zs;split
 .exact ZT
 split
 .exact ZT
 split
 .exact ZT
 have⟨f,g,hl3⟩:=e;exact⟨by grind,by grind,hl3⟩
def XdR(rs:List Int)(B:a.S.length<=1000000):∀(n k:Nat) (c:Int) (v:List UF),k<=a.S.length->a.S.length-k<n->v.length=a.S.length->v.drop k=a.S.drop k->0<=c->c+(XD (a.S.drop k)).length=rs.length->rs.length<=1000000 ->
 Ok (Qbh N a rs n c (k:Int) v) λe=>match e with|.ret r=>r=(zL,1)|.nxt v=>v.length=a.S.length
 |0,k,c,v,_,D,_,_,_,_,_=>by omega
 |n+1,k,c,v,I,D,w,hd,x,y,g=>by
  refine Uc ab (Wn (λh=>?_) λh=>Wd w);have h:k<a.S.length:=by have:=Wx h;omega
  have j:(k:Int)<v.length:=ab;rw[Xg ab];have f:=Wl (show k<v.length by omega);have s:=Wl h;rw[hd,s]at f;have E:a.S[k]=v[k]:=(I4 f).1;have G:a.S.drop (k+1)=v.drop (k+1):=(I4 f).2;refine Ok.get ab j λp hp=>?_;have z:p=a.S[k]:=by rw[Xf,Wb ab,←E]at hp;exact(Wz hp).symm
  rw[s]at y;refine Wn (λu=>?_) λu=>?_
  .refine XdR rs B n (k+1) c v ab ab w G.symm x ?_ g;rw[←y];unfold XD;grind
  have u:a.S[k].V=true:=by rw[←z];simpa using u
  have A:c+1+(XD (a.S.drop (k+1))).length=rs.length:=by rw[←y];unfold XD;rw[Uq (by rw[u]),UA,Ul];omega
  refine Ok.get x ab λq _=>Wn (λ_=>Wd rfl) λ_=>Ok.get x ab λq _=>Ok.get ab j λJ _=>?_;rw[Xe (n:=c+1) ab ab];refine XdR rs B n (k+1) (c+1) _ ab ab (by rw[WL];exact w) ?_ ab A g;rw[UU ab];simp_all
def Xn8(j:LBp a)(hN:1000000<N){rs:List Int}(p:rs.length<=1000000):Ok (Qde N a rs) λr=>LBp r.1:=by
 have e:=j;have⟨f,g,hl3⟩:=j;rw[Qde,Zu e hN,Xa];refine Wn (λ_=>Wd ZT) λh=>?_;have h:Yl a=true:=by simpa using h
 rw[YR e hN,Xa,h,Wc];refine Wn (λ_=>Wd ZT) λk=>Uc ab ?_;have k:(rs.length:Int)=(((XD a.S).length:Nat):Int):=by simpa using k
 refine I6 (XdR rs f N 0 0 a.S ab ab rfl rfl ab (by rw[WX];omega) p) (λr q=>Wd (by rw[q];exact ZT)) λv q=>Wd ⟨?_,g,hl3⟩;simp_all
end
def TB(t:WD):Prop:=t.e.length<=1000000
def zT:WD:=⟨[]⟩
def XbE:TB zT:=by simp[TB,zT]
section
variable {N:Nat}{t:WD}
def XhY(l:List W6):Option Nat:=l.findIdx? λe=>!e.V&&decide (e.G<4294967295)
def ZC(t:WD)(id:Int):WD×Int×Int×Int:=
 if Yk t.e=false then(zT,0,0,1)else
 match XhY t.e with
 |some k=>(⟨t.e.set k ⟨(t.e.getD k ⟨0,0,false⟩).G+1,id,true⟩⟩,(k:Int),(t.e.getD k ⟨0,0,false⟩).G+1,0)
 |none=>if t.e.length=64 then(zT,0,0,18)else(⟨t.e++[⟨1,id,true⟩]⟩,(t.e.length:Int),1,0)
def XkE(g:TB t)(p:Yk t.e=true)(id:Int):∀(n k:Nat),k<=t.e.length->t.e.length-k<n->Qcb N t id n (k:Int)=some (match (t.e.drop k).findIdx? (λe=>!e.V&&decide (e.G<4294967295))with
 |some j=>.ret (⟨t.e.set (k+j) ⟨(t.e.getD (k+j) ⟨0,0,false⟩).G+1,id,true⟩⟩,((k+j:Nat):Int),(t.e.getD (k+j) ⟨0,0,false⟩).G+1,0)
 |none=>.nxt ())
 |0,k,_,r=>by omega
 |n+1,k,u,r=>by
  unfold TB at g;rw[Qcb,Xb ab];by_cases h:k<t.e.length
  .have e:=Wb h;have s:t.e.getD k ⟨0,0,false⟩=t.e[k]:=by rw[Wk,e];rfl
   have v:=Xn6 p (Ww h);rw[Xi h,Wc,Xf,e];simp only[Xa];rw[Xg ab,Wl h,List.findIdx?_cons];have next:=XkE g p id n (k+1) ab ab
   have q:Qcb N t id n ((k+1:Nat):Int)=some (match Option.map (λi=>i+1) ((t.e.drop (k+1)).findIdx? (λe=>!e.V&&decide (e.G<4294967295)))with
    |some j=>.ret (⟨t.e.set (k+j) ⟨(t.e.getD (k+j) ⟨0,0,false⟩).G+1,id,true⟩⟩,((k+j:Nat):Int),(t.e.getD (k+j) ⟨0,0,false⟩).G+1,0)
    |none=>.nxt ()):=by
    rw[next]
    cases (t.e.drop (k+1)).findIdx? (λe=>!e.V&&decide (e.G<4294967295))with
    |none=>rfl
    |some j=>simp only[U8];rw[show k+1+j=k+(j+1) by omega]
   cases w:t.e[k].V
   .cases x:decide (t.e[k].G<4294967295)
    .exact q
    rw[Ug,Wc,Wc,Bool.and_true,Wm rfl];have f:(k:Int).toNat=k:=ab;rw[Xe ab ab,f,Xf,U4,Wm rfl,Wm h,Xa];simp only[IW];rw[s]
   exact q
  grind
def JA(f:TB t)(hN:1000000<N)(id:Int):QcZ N t id=some (ZC t id):=by
 have g:=f;unfold TB at f;rw[QcZ,YP f hN,Xa,ZC];cases p:Yk t.e
 .rfl
 have k:=XkE (N:=N) g p id N 0 ab ab;rw[show((0:Nat):Int)=0 from rfl,WX]at k;rw[Wh,Wa,Xb ab,k,Xa,Wj ac,XhY];cases t.e.findIdx? (λe=>!e.V&&decide (e.G<4294967295))with
 |some j=>simp[Xs,UE]
 |none=>
  simp only[Xm];rw[Xb ab];by_cases h:t.e.length=64
  .rw[Wm h,h];rfl
  rw[Wj h,show((t.e.length:Int)==64)=false by grind,Wa,Xb ab,Xb ab]
def XkF(g:TB t)(id:Int):TB (ZC t id).1:=by
 unfold ZC;cases f:Yk t.e
 .exact XbE
 have:=Jq f;rw[Wj ac];cases XhY t.e with
 |some k=>show(t.e.set _ _).length<=_;grind
 |none=>
  simp only;split
  .exact XbE
  show(t.e++[_]).length<=_;grind
def Vd{i g:Int}(h:(Yo t.e i g).2=0):Yk t.e=true/\0<=i/\∃p,t.e[i.toNat]? = some p/\p.G=g/\p.V=true/\(Yo t.e i g).1=p.a:=by unfold Yo at h⊢;grind
def Kg(t:WD)(i g:Int):WD×Int:=
 if(Yo t.e i g).2≠0 then(zT,(Yo t.e i g).2)else(⟨t.e.set i.toNat ⟨g,0,false⟩⟩,0)
def XaH(f:TB t)(hN:1000000<N)(i g:Int):QcJ N t i g=some (Kg t i g):=by
 unfold TB at f;rw[QcJ,Vx f hN,Xa,Kg];by_cases h:(Yo t.e i g).2=0
 .have⟨_,h0,p,hp,_⟩:=Vd h;have:=Xy hp;rw[h,show((0:Int) != 0)=false from rfl,Wa,Wj ac,QgN,Xb ab,X6 h0 ab,Xa,Xa]
 rw[show((Yo t.e i g).2 != 0)=true by simp_all,Wc,Wm h];rfl
def XkG(f:TB t)(i g:Int):TB (Kg t i g).1:=by
 unfold Kg;split
 .exact XbE
 show(t.e.set _ _).length<=_;rw[WL];exact f
def XdS(rs:List Int)(z:t.e.length<=1000000):∀(n k:Nat) (c:Int) (v:List W6),k<=t.e.length->t.e.length-k<n->v.length=t.e.length->v.drop k=t.e.drop k->0<=c->c+(Xu (t.e.drop k)).length=rs.length->rs.length<=1000000 ->
 Ok (Qbi N rs n c (k:Int) v) λv=>v.length=t.e.length
 |0,k,c,v,_,B,_,_,_,_,_=>by omega
 |n+1,k,c,v,G,B,u,hd,A,w,g=>by
  refine Uc ab (Wn (λh=>?_) λh=>Wd u);have h:k<t.e.length:=by have:=Wx h;omega
  have j:(k:Int)<v.length:=ab;rw[Xg ab];have f:=Wl (show k<v.length by omega);have r:=Wl h;rw[hd,r]at f;have D:t.e[k]=v[k]:=(I4 f).1;have E:t.e.drop (k+1)=v.drop (k+1):=(I4 f).2;refine Ok.get ab j λp hp=>?_;have x:p=t.e[k]:=by rw[Xf,Wb ab,←D]at hp;exact(Wz hp).symm
  rw[r]at w;refine Wn (λs=>?_) λs=>?_
  .have s:t.e[k].V=true:=by rw[←x];exact s
   have y:c+1+(Xu (t.e.drop (k+1))).length=rs.length:=by rw[←w];unfold Xu;rw[Uq (by rw[s]),UA,Ul];omega
   refine Ok.get A ab λq _=>Ok.get ab j λI _=>?_;rw[Xe (n:=c+1) ab ab];refine XdS rs z n (k+1) (c+1) _ ab ab (by rw[WL];exact u) ?_ ab y g;rw[UU ab];simp_all
  refine XdS rs z n (k+1) c v ab ab u E.symm A ?_ g;rw[←w];unfold Xu;grind
def Xfs(f:TB t)(hN:1000000<N){rs:List Int}(j:rs.length<=1000000):Ok (Qb8 N t rs) λr=>r.1.e.length<=t.e.length:=by
 unfold TB at f;rw[Qb8,YP f hN,Xa];refine Wn (λ_=>Wd ac) λg=>?_;have g:Yk t.e=true:=by simpa using g
 have k:=Vc t.e;rw[XW f hN,Xa,g,Wc];refine Uc ab (Wn (λ_=>Wd ac) λh=>Uc ab ?_);have h:(rs.length:Int)=(((Xu t.e).length:Nat):Int):=by simpa using h
 refine WJ (XdS rs f N 0 0 t.e ab ab rfl rfl ab (by rw[WX];omega) j) λv _ q=>Wd ?_;simp_all
def XhZ(e:TB t)(hN:1000000<N){rs:List Int}(f:rs.length<=1000000):Ok (Qb8 N t rs) λr=>TB r.1:=(Xfs e hN f).mono λr h=>UK h e
def Xh0{k:Nat}(g:t.e.length<=1000+k)(id:Int):(ZC t id).1.e.length<=1000+k:=by
 unfold ZC;cases f:Yk t.e
 .simp[zT]
 have:=Jq f;grind[WL,zT,WK]
def Xh1{k:Nat}(f:t.e.length<=1000+k)(i g:Int):(Kg t i g).1.e.length<=1000+k:=by unfold Kg;grind[zT,WL]
end
section
variable {N:Nat}
def YJ(h:Ix):Ok (Qca N h) λ_=>True:=by refine WJ (Q:=λ_=>True) ?_ λb _ _=>Wn (λ_=>Wd trivial) λ_=>Wd trivial;exact Wn (λ_=>Wn (λ_=>Wn (λ_=>Wn (λ_=>Wn (λ_=>Wd trivial) λ_=>Wd trivial) λ_=>Wd trivial) λ_=>Wd trivial) λ_=>Wd trivial) λ_=>Wd trivial
def Xcd(a:Int):Ok (QcH N a) λ_=>True:=by exact Wn (λ_=>Wd trivial) λ_=>WJ (YJ _) λ_ _ _=>Wn (λ_=>Wd trivial) λ_=>Wn (λ_=>Wd trivial) λ_=>Wd trivial
def XrQ{l:List UB}(r:Int)(g:l.length<=1000000):∀(n:Nat) (k:Int),0<=k->k<=l.length->(l.length-k).toNat<n->Ok (Qe9 N l r n k) λe=>∀i,e=.ret i->0<=i/\i<l.length/\∃p∈l,p.a=r
 |0,k,_,_,j=>by omega
 |n+1,k,h0,q,j=>by
  refine Wn (λf=>?_) λ_=>Wd λi e=>by grind
  have f:k<l.length:=Wx f;rw[Xe (n:=k+1) ab ab];refine Ok.get h0 f λp hp=>Wn (λh=>Wd λi e=>?_) λ_=>XrQ r g n (k+1) ab ab ab;cases e;exact⟨h0,f,p,Ys hp,by simp_all⟩
def XdT{l:List UB}(r:Int)(e:l.length<=1000000)(hN:1000000<N):Ok (QgK N l r) λi=>i = -1\/(0<=i/\i<l.length/\∃p∈l,p.a=r):=by exact I6 (XrQ r e N 0 ab ab ab) (λi q=>Wd (.inr (q i rfl))) λ_ _=>Wd (.inl rfl)
def K0{h:Wi}(hp:Uu h){a:Int}(e:II h a):QfD N h a=some (pgi h.c a)/\0<=pgi h.c a/\pgi h.c a<h.p.length:=by have⟨_,f,g,_⟩:=XN hp.conf e.rng;have:=hp.pages;refine⟨?_,f,ab⟩;rw[QfD,KV,Xa,hp.conf,Wj ac,Wm e.rng];rfl
def Xh2{h:Wi}{pins:List UB}(hN:NB N)(hp:Uu h)(y:List Int×Int)(j:IG N h y.1)(z:pins.length<=64)(hb:HB h):∀(n:Nat) (k:Int) (v:List Int),0<=k->k<=pins.length->(pins.length-k).toNat<n->v.length=h.p.length->Ok (Qbe N h pins y n k v) λe=>match e with|.ret b=>b=false|.nxt v=>v.length=h.p.length/\∀i,k<=i->∀p,Xd pins i=some p->II h p.a
 |0,k,v,_,_,A,_=>by omega
 |n+1,k,v,h0,K,A,w=>by
  have r:=hN;unfold NB at r;have B:=j.len;refine Wn (λf=>?_) λf=>Wd ⟨w,λi L p hp=>?_⟩;rotate_left
  .have:=WM f;rw[Xl1 ab]at hp;cases hp
  have f:k<pins.length:=Wx f;rw[Xe (n:=k+1) ab ab];have D:0<=k+1:=ab;have E:k+1<=pins.length:=ab;have G:(pins.length-(k+1)).toNat<n:=ab;refine Ok.get h0 f λp s=>?_;have same:∀q,Xd pins k=some q->q=p:=λq g=>Wz (g.symm.trans s);rw[X0 p.a ab ab,Xa];refine Wn (λ_=>Wd rfl) λI=>?_;have J:p.a∈y.1:=X3 (by simpa using I);have u:=j.obj.at_ _ J;refine Ok.get h0 f λq g=>?_;refine WJ (XdT _ ab ab) λ_ _ _=>Wn (λ_=>Wd rfl) λ_=>Ok.get h0 f λ_ _=>Wn (λ_=>Wd rfl) λ_=>Ok.get h0 f λ_ _=>Wn (λ_=>Wd rfl) λ_=>Ok.get h0 f λq g=>?_;obtain rfl:=same q g;have⟨e,x,M⟩:=K0 (N:=N) hp u;rw[e,Xa];refine Ok.get x ab λ_ _=>Ok.get h0 f λ_ _=>Ok.get x ab λ_ _=>?_;refine(Xh2 hN hp y j z hb n (k+1) _ D E G (by rw[WL];exact w)).mono λe O=>?_;grind
def Xh3{h:Wi}(hb:HB h)(v:List Int)(g:v.length=h.p.length):∀(n:Nat) (k:Int),0<=k->k<=h.p.length->(h.p.length-k).toNat<n->Ok (QbB N h v n k) λe=>∀b,e=.ret b->b=false
 |0,k,_,_,j=>by omega
 |n+1,k,h0,q,j=>by
  have:=hb.2;refine Wn (λf=>?_) λ_=>Wd λb e=>by grind
  have f:k<h.p.length:=Wx f;rw[Xe (n:=k+1) ab ab];exact Ok.get h0 f λ_ _=>Ok.get h0 ab λ_ _=>Wn (λ_=>Wd λb e=>by simp_all) λ_=>Xh3 hb v g n (k+1) ab ab ab
structure O5(N:Nat)(h:Wi)(pins:List UB):Prop where
 good:OP N h
 len:pins.length<=64
 at_:∀p∈pins,II h p.a
def Ve(hN:NB N){h:Wi}(hb:HB h){pins:List UB}(w:pins.length<=1000000):Ok (Qcg N h pins) λb=>b=true->O5 N h pins:=by
 have j:=hN;unfold NB at j;have k:=hb.2;refine WJ (KE hN hb) λb _ g=>Wn (λ_=>Wd λe=>by grind) λr=>?_;have g:=g (by simp_all);refine Wn (λ_=>Wd λe=>by grind) λf=>?_;have f:=WM f;refine WJ (Kw hN hb) λy _ s=>Uc ab ?_;refine I6 (Xh2 hN g.prop y s.1 ab hb N 0 _ ab ab ab ac) (λb q=>Wd λe=>?_) λv q=>?_
 .simp_all
 refine I6 (Xh3 hb v q.1 N 0 ab ab ab) (λb q=>Wd λe=>?_) λ_ _=>Wd λ_=>⟨g,ab,λp hp=>?_⟩
 .simp_all
 have⟨i,u,e⟩:=Wt hp;exact q.2 (i:Int) ab p (by rw[Xf,Wb u,e])
def Xh4{h:Wi}(hb:HB h)(hp:Uu h){a:Int}(j:II h a)(d:Int):Ok (QbZ N h a d) HB:=by have k:=hb.2;have⟨e,f,g⟩:=K0 (N:=N) hp j;rw[QbZ,Xb ab,e,Xa];exact Ok.get f g λ_ _=>Ok.get f g λ_ _=>Wd ⟨hb.1,by simp_all⟩
def Xjw(hN:NB N){h:Wi}(hb:HB h){pins:List UB}(w:pins.length<=1000000)(a:Int):Ok (Qds N h pins a) λr=>HB r.1/\r.2.1.length<=1000000:=by
 have g:=hN;unfold NB at g;have zero:HB zH/\([]:List UB).length<=1000000:=⟨Kq,ac⟩
 refine WJ (Ve hN hb w) λb _ f=>Wn (λ_=>Wd zero) λj=>?_;have f:=f (by simpa using j);refine Wn (λ_=>Wd zero) λ_=>WJ (XdT _ w ab) λi _ z=>Wn (λ_=>Wd zero) λh0=>?_;have h0:=WM h0;obtain⟨k,q,p,s,u⟩:0<=i/\i<pins.length/\∃p∈pins,p.a=a:=by
  rcases z with h|h
  .omega
  exact h
 have e:=f.at_ p s;rw[u]at e;have x:=Xh4 (N:=N) hb f.good.prop e (-1);refine Uc ab (Ok.get k q λ_ _=>Ok.get k q λ_ _=>Ok.get k (by rw[WL];exact q) λ_ _=>?_);rw[Xe (n:=i+1) ab ab];refine Wn (λ_=>Uc ab (Uc ab (Uc ab (WJ x λy _ v=>Wd ⟨v,?_⟩)))) λ_=>WJ x λy _ v=>Wd ⟨v,?_⟩
 .simp;omega
 simp_all
def XdU{h:Wi}(hb:HB h)(a:Int):∀(n:Nat) (c k:Int),0<=k->k<=h.p.length->(h.p.length-k).toNat<n->Ok (Qbr N h a n c k) λ_=>True
 |0,c,k,_,_,f=>by omega
 |n+1,c,k,h0,j,f=>by
  have:=hb.2;refine Wn (λe=>?_) λ_=>Wd trivial;have e:k<h.p.length:=Wx e;rw[Xe (n:=k+1) ab ab];have next:=λg=>XdU hb a n g (k+1) ab ab ab
  exact Ok.get h0 e λ_ _=>Wn (λ_=>Ok.get h0 e λ_ _=>Wn (λ_=>next _) λ_=>next _) λ_=>next _
def Vy(hN:NB N){h:Wi}(hb:HB h)(a:Int):Ok (QcS N h a) λ_=>True:=by have f:=hN;unfold NB at f;have k:=hb.2;refine WJ (KE hN hb) λb _ s=>Wn (λ_=>Wd trivial) λg=>?_;refine WJ (XcF hN hb a) λb _ p=>Wn (λ_=>Wd trivial) λg=>?_;have⟨hp,j⟩:=p (by simp_all);have⟨e,q,r⟩:=K0 (N:=N) hp j;refine WJ (XdU hb a N 0 0 ab ab ab) λc _ _=>?_;rw[e,Xa];exact Ok.get q r λ_ _=>Wn (λ_=>Wn (λ_=>Wd trivial) λ_=>Wd trivial) λ_=>Wd trivial
def Xl4(hN:NB N){h:Wi}(hb:HB h){pins:List UB}(v:pins.length<=1000000)(a:Int):Ok (Qfz N h pins a) λr=>HB r.1/\r.2.1.length<=1000000:=by
 have g:=hN;unfold NB at g;have zero:HB zH/\([]:List UB).length<=1000000:=⟨Kq,ac⟩
 refine WJ (Ve hN hb v) λb _ e=>Wn (λ_=>Wd zero) λj=>?_;have e:=e (by simp_all);refine Wn (λ_=>Wd zero) λ_=>WJ (XcF hN hb a) λb _ A=>Wn (λ_=>Wd zero) λj=>?_;have⟨hp,k⟩:=A (by simp_all);have w:=Xh4 (N:=N) hb e.good.prop k 1;have B:=e.len;refine WJ (XdT _ v ab) λi _ x=>?_
 have rest:Ok (α:=Wi×List UB×Int×Int) (grd (pins.length*16<=140737488355328) <|
  jn (λ(p:List UB)=>
   bnd (QbZ N h a 1) λq=>
   some (q,p,(wU (a+1)),0)) λz=>
  bif (decide (i>=0))then(bnd (Xd pins i) λD=>
   bnd (Xd pins i) λs=>
   z (pins.set i.toNat (UB.mk s.a (wI (D.M+1)))))
  else grd ((pins.length+1)*16<=140737488355328) <|
  z (pins++[(UB.mk a 1)])) λr=>HB r.1/\r.2.1.length<=1000000:=by
  refine Uc ab (Ir (Wn (λh0=>?_) λ_=>Uc ab (WJ w λy _ u=>Wd ⟨u,?_⟩)))
  .have h0:0<=i:=Wx h0
   have f:i<pins.length:=by rcases x with h|h;omega;exact h.2.1
   exact Ok.get h0 f λ_ _=>Ok.get h0 f λ_ _=>WJ w λy _ u=>Wd ⟨u,by simp_all⟩
  .grind
 refine Ir (Wn (λh0=>?_) λ_=>Wn (λ_=>Wn (λ_=>Wd zero) λ_=>WJ (Vy hN hb a) λ_ _ _=>Wn (λ_=>Wd zero) λ_=>rest) λ_=>WJ (Vy hN hb a) λ_ _ _=>Wn (λ_=>Wd zero) λ_=>rest);have h0:0<=i:=Wx h0;have f:i<pins.length:=by rcases x with h|h;omega;exact h.2.1
 exact Ok.get h0 f λ_ _=>Wn (λ_=>Wd zero) λ_=>Wn (λ_=>Wn (λ_=>Wd zero) λ_=>WJ (Vy hN hb a) λ_ _ _=>Wn (λ_=>Wd zero) λ_=>rest) λ_=>WJ (Vy hN hb a) λ_ _ _=>Wn (λ_=>Wd zero) λ_=>rest
end
section
variable {N:Nat}
def Xgz(hN:NB N)(c:WN)(d:Ws):Ok (Qcl N c d) λb=>b=true->Xx d=true/\d.k≠0/\Xn c (Xj d)≠-1:=by
 have f:=hN;unfold NB at f;rw[Qcl,Zp,Xa];refine Wn (λg=>Wn (λh=>?_) λ_=>Wd λe=>by grind) λ_=>Wd λe=>by grind
 rw[XI,Xa,Zg ab,Xa];exact Wd λe=>⟨g,by simp_all,by simp_all⟩
def Xh5(hN:NB N){h:Wi}(hb:HB h)(hp:Uu h)(n:Int):Ok (Qer N h n) λr=>HB r.1:=by
 have x:=hN;unfold NB at x;have z:=hb.2;have setP:∀(ps:List Wo) (i:Nat) (p:Wo) (s b:Int),ps.length<=100000->HB ⟨h.c,h.w,ps.set i p,s,b⟩:=λps i p s b M=>⟨hb.1,by simp_all⟩
 refine Uc ab ?_;rw[Xb8,Xa];refine WJ (J8 ab ab) λu _ _=>?_;have fresh:Ok (α:=Wi×Int×Bool) (bnd (Qba N h.p 1) λe=>
  bif (decide (e<0))then some ((Wi.mk (WN.mk 0 0) [] [] 0 0),0,false)
  else bif (decide (u>=Ke h.c))then some ((Wi.mk (WN.mk 0 0) [] [] 0 0),0,false)
  else bnd (QbJ N h.p e h.s) λv=>
  bnd (Xd v.1 e) λA=>
  bnd (Xd v.1 e) λB=>
  bnd (Xd v.1 e) λf=>
  some ((Wi.mk h.c h.w (v.1.set e.toNat (Wo.mk f.k f.s (wI (B.u+n)) f.P)) h.s e),(wU (wI ((wI (4096+(wI (e*h.c.W))))+A.u))),true)) λr=>HB r.1:=by
  refine WJ (Zj 1 ab ab) λj _ G=>Wn (λ_=>Wd Kq) λJ=>Wn (λ_=>Wd Kq) λ_=>?_
  have K:RunOK h.p j 1:=by
   rcases G with rfl|G
   .grind
   .omega
  have L:=hp.space
  refine WJ (XdI j h.s ab ab) λy _ I=>?_
  obtain⟨D,O,R,S⟩:=I.1 (I.2.2 K ab ab)
  have g:j<y.1.length:=ab
  exact Ok.get D g λ_ _=>Ok.get D g λ_ _=>Ok.get D g λ_ _=>Wd (setP _ _ _ _ _ ab)
 refine Ir (Wn (λ_=>fresh) λh0=>?_);have h0:=WM h0;have E:=hp.bump;have q:h.b<h.p.length:=by rcases E with h|h;omega;exact h.2.1
 have h0:0<=h.b:=ab;exact Ok.get h0 q λ_ _=>Wn (λ_=>fresh) λ_=>Ok.get h0 q λ_ _=>Wn (λ_=>fresh) λ_=>Wn (λ_=>fresh) λ_=>Ok.get h0 q λ_ _=>Ok.get h0 q λ_ _=>Ok.get h0 q λ_ _=>Wd (setP _ _ _ _ _ z)
def Xh6(hN:NB N){h:Wi}(hb:HB h)(hp:Uu h)(w k:Int):Ok (Qes N h w k) λr=>HB r.1:=by
 have e:=hN;unfold NB at e;have f:=hb.2;refine WJ (Zj k ab ab) λj _ v=>Wn (λ_=>Wd Kq) λg=>WJ (J8 ab ab) λu _ _=>?_;rw[Xb8,Xa];refine Wn (λ_=>Wd Kq) λ_=>WJ (XnV h.c j h.s w ab ab) λy _ p=>Wd ⟨hb.1,?_⟩;show y.1.length<=_;by_cases q:y.2=0
 .have:=(p.1 q).2.2.2.1;omega
 simp_all
def XgA(hN:NB N){h:Wi}(hb:HB h)(d:Ws):Ok (Qbm N h d) λr=>HB r.1:=by
 have f:=hN;unfold NB at f;refine WJ (YI (N:=N) ab hb.1 hb.2) λb _ hp=>Wn (λ_=>Wd Kq) λj=>?_;have hp:=hp (by simp_all);refine WJ (Xgz hN _ _) λb _ _=>Wn (λ_=>Wd Kq) λ_=>?_;rw[XI,Xa,Zg ab,Xa];refine WJ (Xh5 hN hb hp _) λk _ p=>Ir (Wn (λ_=>WJ (Xh6 hN hb hp _ _) λq _ s=>?_) λ_=>?_)
 .exact Wn (λ_=>Wd Kq) λ_=>WJ (Xkv hN (h:=q.1) s _ d) λg _ e=>Wd e
 exact Wn (λ_=>Wd Kq) λ_=>WJ (Xkv hN (h:=k.1) p _ d) λg _ e=>Wd e
end
structure EB(x:Uj):Prop where
 heap:HB x.h
 loc:LBp x.l
 glo:TB x.g
 wea:TB x.v
 pins:x.P.length<=1000000
 roots:x.R.length<=100000
def zE:Uj:=⟨zH,zL,zT,zT,[],[]⟩
def XdV:EB zE:=⟨Kq,ZT,XbE,XbE,by simp[zE],by simp[zE]⟩
section
variable {N:Nat}{x:Uj}
def YK{a:Wq}(h:LBp a):(bif Yl a then XD a.S else[]).length<=4096:=by
 cases f:Yl a
 .simp
 have e:=XX.1 f;have:=e.slots;have:=e.iss;have:=XaE a.S;grind
def XZ(l:List W6):(bif Yk l then Xu l else[]).length<=64:=by
 cases e:Yk l
 .simp
 have:=Jq e;have:=Vc l;grind
structure EV(N:Nat)(x:Uj):Prop where
 mat:O5 N x.h x.P
 loc:Yl x.l=true
 glo:Yk x.g.e=true
 wea:Yk x.v.e=true
def Kx(hN:NB N)(f:EB x):Ok (QbI N x) λb=>b=true->EV N x:=by have h:=hN;unfold NB at h;have p:=f.roots;refine WJ (Ve hN f.heap f.pins) λb _ j=>Wn (λ_=>Wd λe=>by grind) λk=>?_;have j:=j (by simp_all);rw[Zu f.loc ab,Xa];refine Wn (λ_=>Wd λe=>by grind) λq=>?_;rw[YP f.glo ab,Xa];refine Wn (λ_=>Wd λe=>by grind) λr=>?_;rw[YP f.wea ab,Xa];refine Wn (λ_=>Wd λe=>by grind) λs=>?_;rw[XW f.glo ab,Xa];have u:=YK f.loc;have w:=XZ x.g.e;have y:=XZ x.v.e;rw[X0 _ ab ab,Xa];refine Wn (λ_=>Wd λe=>by grind) λ_=>Uc ab ?_;rw[YR f.loc ab,Xa];refine Uc ab (Uc ab ?_);rw[XW f.wea ab,Xa];refine Uc ab (WJ (Xca hN f.heap (by grind)) λb _ _=>Wd λ_=>⟨j,by simp_all,by simp_all,by simp_all⟩)
def XdW(hp:x.P.length<=1000000):∀(n:Nat) (k:Int) (v:List Int),0<=k->k<=x.P.length->(x.P.length-k).toNat<n->v.length<=1000000+k->Ok (QbH N x n k v) λr=>(r.length:Int)=v.length+(x.P.length-k)
 |0,k,v,_,_,f,_=>by omega
 |n+1,k,v,h0,g,f,h=>by refine Wn (λe=>?_) λe=>Wd (by have:=WM e;omega);have e:k<x.P.length:=Wx e;rw[Xe (n:=k+1) ab ab];refine Ok.get h0 e λp _=>Uc ab ?_;refine(XdW hp n (k+1) _ ab ab ab ai).mono λr j=>?_;grind
def Xjx(hN:NB N)(f:EB x):Ok (Qcy N x) λr=>r.length=x.R.length+(bif Yl x.l then XD x.l.S else[]).length+(bif Yk x.g.e then Xu x.g.e else[]).length+x.P.length:=by have h:=hN;unfold NB at h;have j:=f.roots;have hp:=f.pins;have k:=YK f.loc;have p:=XZ x.g.e;refine Uc ab ?_;rw[YR f.loc ab,Xa];refine Uc ab ?_;rw[XW f.glo ab,Xa];refine Uc ab (WJ (XdW hp N 0 _ ab ab ab ai) λr _ j=>Wd ?_);grind
def XkH(h:Wi×List Int×List Int×WT×Int)(e f:List Int)(j:Wq×Int)(q s:WD×Int)(hp:x.P.length<=1000000)(u:x.R.length<=100000)(w:e.length<=4096)(y:f.length<=64)(z:h.2.1.length=x.R.length+e.length+f.length+x.P.length):∀(n:Nat) (k:Int) (v:List UB),0<=k->k<=x.P.length->(x.P.length-k).toNat<n->(v.length:Int)=k->Ok (QaX N x h e f j q s n k v) λr=>r.length=x.P.length
 |0,k,v,_,_,A,_=>by omega
 |n+1,k,v,h0,B,A,D=>by refine Wn (λg=>?_) λg=>Wd (by grind);have g:k<x.P.length:=Wx g;rw[Xe (n:=k+1) ab ab,Xe (n:=(x.R.length:Int)+(e.length:Int)) ab ab,Xe (n:=(x.R.length:Int)+(e.length:Int)+(f.length:Int)) ab ab,Xe (n:=(x.R.length:Int)+(e.length:Int)+(f.length:Int)+k) ab ab];refine Ok.get ab ab λ_ _=>Ok.get h0 g λp _=>Uc ab ?_;exact XkH h e f j q s hp u w y z n (k+1) _ ab ab ab (by simp_all)
def V5(hN:NB N)(f:EB x):Ok (QaY N x) λr=>EB r.1:=by
 have j:=hN;unfold NB at j;have y:=f.roots;have hp:=f.pins;refine WJ (Kx hN f) λb _ h=>Wn (λ_=>Wd XdV) λk=>?_;have h:=h (by simpa using k);have z:=h.mat.len;have p:=YK f.loc;have q:=XZ x.g.e;have A:=XZ x.v.e;refine WJ (Xjx hN f) λV _ u=>?_;rw[h.loc,h.glo]at u;rw[h.loc]at p;rw[h.glo]at q;rw[XW f.wea ab,Xa];simp at u p q A⊢;refine WJ (QjH hN f.heap ab ab) λB _ w=>Wn (λ_=>Wd XdV) λD=>?_;have⟨g1,g2⟩:=w.len (by simpa using D);rw[YR f.loc ab,Xa,XW f.glo ab,Xa,h.loc,h.glo];simp;have E:=Xe (n:=(x.R.length:Int)+(((XD x.l.S).length:Nat):Int)) ab ab;have G:=Xe (n:=(x.R.length:Int)+(((XD x.l.S).length:Nat):Int)+(((Xu x.g.e).length:Nat):Int)) ab ab;refine Uc ab (Uc ab (Uc ab (Uc ab ?_)));refine WJ (Xn8 f.loc ab (by rw[Wu,WC];omega)) λI _ J=>Uc (by rw[E,G];omega) ?_;refine WJ (XhZ f.glo ab (by rw[Wu,WC];omega)) λK _ L=>?_;refine WJ (XhZ f.wea ab ab) λM _ O=>?_;refine WJ (XkH B (XD x.l.S) (Xu x.g.e) I K M hp y p q ab N 0 [] ab ab ab rfl) λs _ U=>Wd ⟨w.hb,J,L,O,?_,?_⟩
 .show s.length<=_;omega
 grind
def Xft(hN:NB N)(e:EB x)(d:Ws):Ok (Qcj N x d) λr=>EB r.1:=by
 refine WJ (Kx hN e) λb _ k=>Wn (λ_=>Wd XdV) λg=>?_;refine WJ (XgA hN e.heap d) λp _ h=>Ir (Wn (λ_=>WJ (V5 hN e) λq _ f=>Wn (λ_=>Wd XdV) λ_=>WJ (XgA hN f.heap d) λs _ j=>?_) λ_=>?_)
 .exact Wn (λ_=>Wd XdV) λ_=>Wd ⟨j,f.loc,f.glo,f.wea,f.pins,f.roots⟩
 exact Wn (λ_=>Wd XdV) λ_=>Wd ⟨h,e.loc,e.glo,e.wea,e.pins,e.roots⟩
def ZD(hN:NB N)(e:EB x)(v:Int):Ok (QaZ N x v) λr=>True:=by
 have f:=hN;unfold NB at f;refine WJ (Kx hN e) λb _ h=>Wn (λ_=>Wd trivial) λg=>Wn (λ_=>Wd trivial) λ_=>?_;refine WJ (Xcd v) λy _ _=>Wn (λ_=>Wd trivial) λ_=>Wn (λ_=>?_) λ_=>Wn (λ_=>?_) λ_=>?_
 .rw[Xc3 e.loc ab,Xa];exact Wd trivial
 .rw[Vx e.glo ab,Xa];exact Wd trivial
 rw[Vx e.wea ab,Xa];exact Wd trivial
end
def Ov{β κ:Type}{P:β->Prop}{k:κ->Option β}{f:(κ->Option β)->Option β}(h:∀x,Ok (k x) P)(g:∀j:κ->Option β,(∀x,Ok (j x) P)->Ok (f j) P):Ok (Sx.jn k f) P:=by simp_all[Xt]
def Uw{β:Type}{P:β->Prop}{b:Bool}{x y:Option β}(e:Ok x P)(f:Ok y P):Ok (bif b then x else y) P:=by grind
def Ur{α β:Type}{P:β->Prop}{o:Option α}{Q:α->Prop}{f:α->Option β}(h:Ok o Q)(k:∀y,Q y->Ok (f y) P):Ok (Sx.bnd o f) P:=WJ h λy _ e=>k y e
def Ok.t{α:Type}{o:Option α}{P:α->Prop}(h:Ok o P):Ok o λ_=>True:=h.mono λ_ _=>trivial
section
variable {N:Nat}{x:Uj}
abbrev EP(r:Uj×Int×Int):Prop:=EB r.1
def Xl5(e:Int):Ok (Qab N e) EP:=by exact Wd XdV
def XC(e:Int):Ok (bnd (Qab N e) λy=>some (y.1,y.2.1,y.2.2)) EP:=Ur (Xl5 e) λy f=>Wd f
def Xn9(a b c:Int):Ok (QcE N a b c) λ_=>True:=by exact Uw (Uw (Wd trivial) (Wd trivial)) (Wd trivial)
def XaI(hN:NB N)(e:EB x)(a:Int):Ok (QcG N x a) EP:=by have f:=hN;unfold NB at f;refine Uw (Wd e) ?_;rw[XaF e.loc ab,Xa];exact Uw (XC _) (Ur (YJ _) λy _=>Wd ⟨e.heap,XkC e.loc a,e.glo,e.wea,e.pins,e.roots⟩)
def Xjy(hN:NB N)(f:EB x)(a b c:Int):Ok (QdO N x a b c) EP:=by have e:=hN;unfold NB at e;refine Uw (XC _) (Ur (Xn9 _ _ _) λy _=>Ir (Uw (XC _) (Ur (Xgz hN _ _) λz _=>Uw (XC _) ?_)));rw[XaF f.loc ab,Xa];exact Uw (XC _) (Ur (Xft hN f _) λj g=>Uw (XC _) (Ur (XaI hN g _) λk h=>Wd h))
def XaJ(hN:NB N)(e:EB x)(a:Int):Ok (QbY N x a) λ_=>True:=by exact Ur (ZD hN e a) λy _=>Uw (Uw (Wd trivial) (Wd trivial)) (Wd trivial)
def Xfu(hN:NB N)(e:EB x)(a b:Int)(c:Bool):Ok (Qc6 N x a b c) λ_=>True:=by refine Ur (XaJ hN e a) λy _=>Uw (Wd trivial) (Ur (XdJ hN e.heap _) λz _=>Uw (Wd trivial) ?_);rw[KY,Xa];exact Uw (Wd trivial) (Wd trivial)
def Xl6(hN:NB N)(e:EB x)(a b c d:Int):Ok (Qc8 N x a b c d) EP:=by
 have k:∀i j v:Int,Ok (α:=Uj×Int×Int) (bnd (Qcm N x.h i j v) λf=>some ((Uj.mk f.1 x.l x.g x.v x.P x.R),0,0)) EP:=λi j v=>
  Ur (XhO hN e.heap i j v) λy p=>Wd ⟨p,e.loc,e.glo,e.wea,e.pins,e.roots⟩
 refine Ir (Uw (Ur (Xfu hN e _ _ _) λy _=>?_) (Ur (Xfu hN e _ _ _) λy _=>?_))<;>
 exact Uw (XC _) (Ur (XhN hN e.heap _ _) λz _=>Uw (Wd e) (Uw (Ur (XaI hN e _) λr q=>Wd q) (Ir (Uw (Ur (ZD hN e _) λs _=>Uw (XC _) (k _ _ _)) (k _ _ _)))))
def Xl7(hN:NB N)(e:EB x)(a b c:Int):Ok (QcI N x a b c) EP:=by refine Ov (λh=>Uw (Ur (XaJ hN e _) λy _=>Uw (XC _) (Ur (XdJ hN e.heap _) λz _=>Uw (Wd e) (Wd e))) (Uw (Ur (ZD hN e _) λy _=>Uw (XC _) (Ur (ZD hN e _) λz _=>Uw (XC _) (Uw (Wd e) (Wd e)))) (Ur (ZD hN e _) λy _=>Uw (XC _) (Ur (XaI hN e _) λz g=>Wd g)))) λj f=>Uw (f _) (f _)
def Xh7(hN:NB N)(f:EB x)(a b:Int):Ok (Qdr N x a b) EP:=by
 have j:=hN;unfold NB at j;refine Ur (XaJ hN f _) λy _=>Uw (XC _) (Ir (Uw ?_ ?_))
 .show Ok (bnd (QcZ N ⟨x.v.e⟩ y.1) _) EP;rw[JA (t:=⟨x.v.e⟩) f.wea ab,Xa];have h:=XkF (t:=⟨x.v.e⟩) f.wea y.1;exact Uw (XC _) (Ir (Uw (Ur (YJ _) λz _=>Wd ⟨f.heap,f.loc,f.glo,h,f.pins,f.roots⟩) (Ur (YJ _) λz _=>Wd ⟨f.heap,f.loc,h,f.wea,f.pins,f.roots⟩)))
 show Ok (bnd (QcZ N ⟨x.g.e⟩ y.1) _) EP;rw[JA (t:=⟨x.g.e⟩) f.glo ab,Xa];have h:=XkF (t:=⟨x.g.e⟩) f.glo y.1;exact Uw (XC _) (Ir (Uw (Ur (YJ _) λz _=>Wd ⟨f.heap,f.loc,f.glo,h,f.pins,f.roots⟩) (Ur (YJ _) λz _=>Wd ⟨f.heap,f.loc,h,f.wea,f.pins,f.roots⟩)))
def Xjz(hN:NB N)(e:EB x)(a b:Int):Ok (QdR N x a b) EP:=by
 have f:=hN;unfold NB at f;refine Uw (XC _) (Ur (ZD hN e _) λy _=>Uw (XC _) (Ur (Xcd _) λz _=>Ov (λ_=>Uw ?_ (Uw ?_ ?_)) λg h=>Ov (λ_=>XC _) λj k=>?_))
 .rw[Xgx e.loc ab,Xa];exact Wd ⟨e.heap,XkD e.loc _ _,e.glo,e.wea,e.pins,e.roots⟩
 .rw[XaH e.glo ab,Xa];exact Wd ⟨e.heap,e.loc,XkG e.glo _ _,e.wea,e.pins,e.roots⟩
 .rw[XaH e.wea ab,Xa];exact Wd ⟨e.heap,e.loc,e.glo,XkG e.wea _ _,e.pins,e.roots⟩
 grind
def XjA(hN:NB N)(e:EB x)(a b:Int):Ok (QdS N x a b) EP:=by
 have f:=hN;unfold NB at f;refine Uw (Uw (XC _) ?_) (Ur (ZD hN e _) λy _=>Uw (XC _) ?_)
 .rw[XbD e.loc ab,Xa];exact Uw (XC _) (Wd ⟨e.heap,XhX e.loc _,e.glo,e.wea,e.pins,e.roots⟩)
 rw[Xc4 e.loc ab,Xa];exact Uw (XC _) (Ur (XaI hN (x:=⟨x.h,(Zs x.l).1,x.g,x.v,x.P,x.R⟩) ⟨e.heap,Xgy e.loc,e.glo,e.wea,e.pins,e.roots⟩ _) λz j=>Wd j)
def Xoa(hN:NB N)(e:EB x)(a b:Int):Ok (Qe1 N x a b) EP:=by refine Ur (XaJ hN e _) λy _=>Uw (XC _) (Uw (Ur (Xjw hN e.heap e.pins _) λz f=>Uw (XC _) (Wd ⟨f.1,e.loc,e.glo,e.wea,f.2,e.roots⟩)) (Ur (Xl4 hN e.heap e.pins _) λz f=>Uw (XC _) (Wd ⟨f.1,e.loc,e.glo,e.wea,f.2,e.roots⟩)))
def Xob(hN:NB N)(f:EB x)(op a b c:Int):Ok (Qah N x op a b c) EP:=by
 have thr:∀{o:Option (Uj×Int×Int)},Ok o EP->Ok (bnd o λy=>some (y.1,y.2.1,y.2.2)) EP:=λh=>Ur h λy k=>Wd k;refine Ur (Kx hN f) λp _=>Uw (XC _) ?_;refine Ov (λe=>Uw (thr (Xjy hN f _ _ _)) ?_) λq g=>?_
 .refine Ov (λe=>Uw (thr (Xl6 hN f _ _ _ _)) ?_) λj h=>?_
  .refine Ov (λe=>Uw (thr (Xl7 hN f _ _ _)) ?_) λj h=>?_
   .refine Ov (λe=>Uw (thr (Xh7 hN f _ _)) ?_) λj h=>?_
    .refine Ov (λe=>Uw (thr (Xjz hN f _ _)) ?_) λj h=>?_
     .refine Ov (λe=>Uw (thr (XjA hN f _ _)) ?_) λj h=>?_
      .refine Ov (λe=>Uw (thr (Xoa hN f _ _)) (XC _)) λj h=>Uw (h _) (h _)
      exact Uw (h _) (h _)
     exact Uw (h _) (Ov (λe=>h _) λj h=>Uw (h _) (h _))
    grind
   exact Uw (h _) (Ov (λe=>h _) λj h=>Uw (h _) (Ov (λe=>h _) λj h=>Uw (h _) (h _)))
  exact Uw (h _) (Ov (λe=>h _) λj h=>Uw (h _) (Ov (λe=>h _) λj h=>Uw (h _) (h _)))
 exact Uw (g _) (Ov (λe=>g _) λj h=>Uw (h _) (h _))
end
structure WB(k:Nat)(w:WP):Prop where
 kk:k<=900
 things:w.T.length<=k
 fields:∀x∈w.T,x.D.length<=1000
 loc:LBp w.l
 gloK:w.g.e.length<=1000+k
 weaK:w.v.e.length<=1000+k
 marksK:w.m.length<=100+k
 rootsK:w.R.length<=100+k
def WB.glo{k:Nat}{w:WP}(h:WB k w):TB w.g:=by have:=h.kk;have:=h.gloK;unfold TB;omega
def WB.wea{k:Nat}{w:WP}(h:WB k w):TB w.v:=by have:=h.kk;have:=h.weaK;unfold TB;omega
def WB.marks{k:Nat}{w:WP}(h:WB k w):w.m.length<=1000:=by have:=h.kk;have:=h.marksK;omega
def WB.roots{k:Nat}{w:WP}(h:WB k w):w.R.length<=1000:=by have:=h.kk;have:=h.rootsK;omega
def V6(d:Ws):Nat->List Int->List Int
 |_,[]=>[]
 |k,f::e=>if Kk d k then f::V6 d (k+1) e else V6 d (k+1) e
def Xfv(x:UZ):List Int:=V6 x.H 0 x.D
def Xce(d:Ws):∀(k:Nat) (l:List Int),(V6 d k l).length<=l.length
 |k,[]=>by simp[V6]
 |k,f::e=>by have:=Xce d (k+1) e;unfold V6;grind
def ZW(n:Nat)(l:List Int):Bool:=l.all λp=>!decide (p>(n:Int))
def ZN(l:List IF)(id:Int):Int:=match l.findIdx? (λm=>m.I==id)with|some k=>(k:Int)|none=>-1
def XdX(n:Nat)(x:UZ):Bool:=Xx x.H&&(!(x.H.k==0)&&(!((x.D.length:Int) != x.H.n)&&ZW n (Xfv x)))
def XkI(n:Nat)(l:List IF)(_:Unit)(i:Nat)(m:IF):Bool:=!decide (m.I<1)&&(!decide (m.I>(n:Int))&&(!(ZN l m.I != (i:Int))&&(!decide (m.M<1)&&!decide (m.M>1000))))
def XgB(n:Nat)(l:List IF):Bool:=YD (XkI n l) (λs _=>s) () 0 l
def YG(w:WP):Bool:=XR w.c&&(Yl w.l&&(Yk w.g.e&&(Yk w.v.e&&(!decide ((w.m.length:Int)>64)&&(w.T.all (XdX w.T.length)&&(((Xu w.g.e).all λp=>!(p==0))&&(XgB w.T.length w.m&&(ZW w.T.length w.R&&(ZW w.T.length (XD w.l.S)&&(ZW w.T.length (Xu w.g.e)&&ZW w.T.length (Xu w.v.e)))))))))))
section
variable {N:Nat}{w:WP}
def Vf(ht:w.T.length<=1000){l:List Int}(g:l.length<=1000000)(hN:1000000<N):Qdg N w l=some (ZW w.T.length l):=by
 have h:=Jz (l:=l) (F:=Qdf N w l) (q:=λ_ p=>!decide (p>(w.T.length:Int))) (λn k p e=>by
  have f:=Xy e
  rw[Qdf,Xi f,Wc,Xf,e,Xa,Xg ab,Xw ab ab]
  cases decide (p>(w.T.length:Int))<;>rfl) (λn=>by rw[Qdf,Xz,Wa]) (n:=N) ab
 rw[Z4]at h;rw[Qdg,h,Xa,ZW];cases l.all λp=>!decide (p>(w.T.length:Int))
 .rw[Wa,Xs]
 simp[Wc,Xm]
def XdY{x:UZ}(e:x.D.length<=1000000):∀(n k:Nat) (v:List Int),k<=x.D.length->x.D.length-k<n->v.length<=k->Qd3 N x n (k:Int) v=some (v++V6 x.H k (x.D.drop k))
 |0,k,v,_,f,_=>by omega
 |n+1,k,v,j,f,g=>by
  rw[Qd3];by_cases h:k<x.D.length
  .rw[Xi h,Wc,KY,Xa,Xg ab,Wl h,V6];cases hp:Kk x.H (k:Int)
   .rw[Wa,Wj ac,XdY e n (k+1) v ab ab ab]
   rw[Wc,Wm rfl,Xf,Wb h,Xa,Xb ab,XdY e n (k+1) _ ab ab (by simp_all)];simp
  obtain rfl:k=x.D.length:=ab;simp[V6]
def Xh8{x:UZ}(e:x.D.length<=1000000)(hN:1000000<N):Qgn N x=some (Xfv x):=by have h:=XdY (N:=N) (x:=x) e N 0 [] ab ab ac;rw[show((0:Nat):Int)=0 from rfl,WX,W8]at h;rw[Qgn,h,Xa];rfl
def XkJ(id:Int)(e:w.m.length<=1000000):∀(n k:Nat),k<=w.m.length->w.m.length-k<n->QeM N w id n (k:Int)=some (match (w.m.drop k).findIdx? (λm=>m.I==id)with|some j=>.ret ((k+j:Nat):Int)|none=>.nxt ())
 |0,k,_,f=>by omega
 |n+1,k,g,f=>by
  rw[QeM];by_cases h:k<w.m.length
  .rw[Xi h,Wc,Xf,Wb h,Xa,Xg ab,Wl h,List.findIdx?_cons];cases p:(w.m[k].I==id)
   .rw[Wa,XkJ id e n (k+1) ab ab,Wj ac];cases (w.m.drop (k+1)).findIdx? (λm=>m.I==id)with
    |none=>rfl
    |some j=>simp only[U8];rw[show k+1+j=k+(j+1) by omega]
   simp
  grind
def XgC(e:w.m.length<=1000000)(hN:1000000<N)(id:Int):QfF N w id=some (ZN w.m id):=by
 have h:=XkJ (N:=N) id e N 0 ab ab;rw[show((0:Nat):Int)=0 from rfl,WX]at h;rw[QfF,h,Xa,ZN];cases w.m.findIdx? (λm=>m.I==id)with
 |none=>simp[Xm]
 |some j=>simp[Xs,UE]
def Xh9{a:Wq}(h:Yl a=true):(XD a.S).length<=4096:=by have e:=XX.1 h;have:=e.slots;have:=e.iss;have:=XaE a.S;omega
def XbF{l:List W6}(h:Yk l=true):(Xu l).length<=64:=by have:=Jq h;have:=Vc l;omega
def Xc5{k:Nat}(hw:WB k w)(hN:1000000<N):Qep N w=some (YG w):=by
 have f:=hw.kk;have ht:=hw.things;have E:=hw.marks;have G:=hw.roots;rw[Qep,Zi,Xa,YG];cases XR w.c
 .rfl
 rw[Wh,Wa,Zu hw.loc hN,Xa,Ue];cases h:Yl w.l
 .rfl
 rw[Wh,Wa,YP hw.glo hN,Xa,Ue];cases j:Yk w.g.e
 .rfl
 rw[Wh,Wa,YP hw.wea hN,Xa,Ue];cases r:Yk w.v.e
 .rfl
 rw[Wh,Wa,Ue];cases decide ((w.m.length:Int)>64);rotate_left
 .rfl
 rw[Wa,Ug,Ue];have s:=Jz (l:=w.T) (F:=Qdz N w) (q:=λ_=>XdX w.T.length) (λn k p e=>by
  have f:=Xy e
  have y:=hw.fields p (W3 e)
  have z:=Xce p.H 0 p.D
  rw[Qdz,Xi f,Wc,Xf,e,Xa,Zp,Xa,Xh8 ab hN,Xa,Vf ab (by unfold Xfv;omega) hN,Xa,Xg ab]
  unfold XdX
  grind) (λn=>by rw[Qdz,Xz,Wa]) (n:=N) ab
 rw[Z4]at s;rw[s,Xa];cases w.T.all (XdX w.T.length)
 .simp[Wa,Xs]
 rw[Wc,Xm,XW hw.glo hN,Xa,j,Wc,Ue];have A:=XbF j;have u:=Jz (l:=Xu w.g.e) (F:=QdA N w (Xu w.g.e)) (q:=λ_ p=>!(p==0)) (λn k p e=>by
  have f:=Xy e
  rw[QdA,Xb ab,Xi f,Wc,Xf,e,Xa,Xg ab]
  simp) (λn=>by rw[QdA,Xb ab,Xz,Wa]) (n:=N) ab
 rw[Z4]at u;rw[u,Xa];cases (Xu w.g.e).all λp=>!(p==0)
 .simp[Wa,Xs]
 rw[Wc,Xm,Ue];have B:=Jz (l:=w.m) (F:=QdB N w (Xu w.g.e)) (q:=XkI w.T.length w.m ()) (λn k p e=>by
  have f:=Xy e
  rw[QdB,Xi f,Wc,Xf,e,Xa,XgC ab hN,Xa,Xg ab,Xw ab ab]
  unfold XkI
  grind) (λn=>by rw[QdB,Xz,Wa]) (n:=N) ab
 rw[B,Xa];show exK (bif XgB w.T.length w.m then Ex.nxt ()else Ex.ret false) _ _=_;cases XgB w.T.length w.m
 .simp[Wa,Xs]
 rw[Wc,Xm,Vf ab ab hN,Xa,Ue];cases ZW w.T.length w.R
 .rfl
 have I:=Xh9 h;rw[Wc,YR hw.loc hN,Xa,h,Wc,Vf ab ab hN,Xa,Ue];cases ZW w.T.length (XD w.l.S)
 .rfl
 rw[Wc,Vf ab ab hN,Xa,Ue];cases ZW w.T.length (Xu w.g.e)
 .rfl
 have s3:=XbF r;rw[Wc,XW hw.wea hN,Xa,r,Wc,Vf ab ab hN,Xa,Ue]
end
end Go.Sx
