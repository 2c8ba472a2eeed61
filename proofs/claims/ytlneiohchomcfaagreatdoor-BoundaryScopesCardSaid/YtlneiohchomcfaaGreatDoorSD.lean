import Derived.KernelRfl
import Derived.Test.YtlneiohchomcfaaGreatDoorSC
set_option linter.all false
namespace Go.Sx
def Ok{α:Type}(o:Option α)(P:α->Prop):Prop:=∃r,o=some r/\P r
section
variable {α β γ:Type}{P:β->Prop}
def Xa(x:α)(f:α->Option β):bnd (some x) f=f x:=by unfold bnd;rfl
def KH(f:α->Option β):bnd none f=none:=by unfold bnd;rfl
def Xb{p:Prop}[Decidable p](h:p)(x:Option α):grd p x=x:=by unfold grd;simp_all
theorem Xs{κ:Type}(k:κ)(f:κ->γ):jn k f=f k:=by unfold jn;rfl
theorem XA(a:α)(f:α->γ)(k:β->γ):exK (.ret a) f k=f a:=by unfold exK;rfl
theorem Xo(b:β)(f:α->γ)(k:β->γ):exK (.nxt b) f k=k b:=by unfold exK;rfl
def Xf(l:List α)(k:Nat):Xe l (k:Int)=l[k]?:=by unfold Xe;simp
def Yd{l:List α}{i:Int}(e:0<=i)(f:i<l.length):Xe l i=some (l[i.toNat]'aa):=by unfold Xe;simp_all
def XaN{l:List α}{i:Int}{p:α}:Xe l i=some p↔0<=i/\l[i.toNat]? = some p:=by unfold Xe;simp
def YI{l:List α}{i:Int}{p:α}(h:Xe l i=some p):p∈l:=W7 (XaN.1 h).2
def Xk0{l:List α}{i:Int}(h:¬(0<=i/\i<l.length)):Xe l i=none:=by unfold Xe;simp_all
def We{x:β}(h:P x):Ok (some x) P:=⟨x,rfl,h⟩
def WI{o:Option α}{f:α->Option β}{Q:α->Prop}(h:Ok o Q)(k:∀y,o=.some y->Q y->Ok (f y) P):Ok (Sx.bnd o f) P:=by obtain⟨y,rfl,e⟩:=h;simp_all[Xa]
def Uc{p:Prop}[Decidable p]{x:Option β}(h:p)(k:Ok x P):Ok (Sx.grd p x) P:=by simp_all[Xb,h]
def Im{κ:Type}{k:κ}{f:κ->Option β}(h:Ok (f k) P):Ok (Sx.jn k f) P:=by simp_all[Xs]
def Wq{b:Bool}{x y:Option β}(e:b=true->Ok x P)(f:b=false->Ok y P):Ok (bif b then x else y) P:=by grind
def Ok.get{l:List α}{i:Int}{f:α->Option β}(e:0<=i)(g:i<l.length)(k:∀p,Xe l i=.some p->Ok (f p) P):Ok (Sx.bnd (Xe l i) f) P:=by simp_all[Yd,e,g,Xa]
def Ok.mono{o:Option β}{Q:β->Prop}(h:Ok o Q)(k:∀x,Q x->P x):Ok o P:=by obtain⟨y,rfl,e⟩:=h;exact⟨y,rfl,k y e⟩
def Ok.get_eq{o:Option β}{x:β}(h:Ok o P)(e:o=.some x):P x:=by have⟨y,f,g⟩:=h;simp_all
def Ok.isSome{o:Option β}(h:Ok o P):o≠none:=by obtain⟨y,rfl,_⟩:=h;simp
def IS{α':Type}{o:Option (Ex α' α)}{f:α'->Option β}{k:α->Option β}{Q:Ex α' α->Prop}(h:Ok o Q)(g:∀a,Q (.ret a)->Ok (f a) P)(j:∀b,Q (.nxt b)->Ok (k b) P):Ok (Sx.bnd o λe=>exK e f k) P:=by
 obtain⟨y,rfl,p⟩:=h;rw[Xa];cases y with
 |ret a=>simp_all[XA]
 |nxt b=>simp_all[Xo]
end
def Xc{n:Int}(h:-9223372036854775808<=n)(j:n<=9223372036854775807):wI n=n:=by
 have e:wI n=if n % 18446744073709551616>=9223372036854775808 then n % 18446744073709551616-18446744073709551616 else n % 18446744073709551616:=by have f:IntKind.bits .i64=64:=rfl;have g:IntKind.signed .i64=true:=rfl;simp[wI,IntKind.wrap,f,g]
 omega
theorem Xcm(n:Int):wU n=n % 18446744073709551616:=by rfl
def Xp{n:Int}(e:0<=n)(f:n<=18446744073709551615):wU n=n:=by grind[Xcm]
def VW(n:Int):0<=wU n/\wU n<=18446744073709551615:=by grind[Xcm]
theorem XmM(n:Int):wW n=n % 4294967296:=by rfl
def XqJ{n:Int}(e:0<=n)(f:n<=4294967295):wW n=n:=by grind[XmM]
def XmN{n:Int}(g:0<=n)(j:n<=63):ZO .u64 1 n=2 ^ n.toNat:=by
 have e:IntKind.bits .u64=64:=rfl;have h:min n.toNat 64=n.toNat:=aa;have hp:(2:Int) ^ n.toNat<=2 ^ 63:=by have:2 ^ n.toNat<=2 ^ 63:=IM aa aa;exact_mod_cast this
 have f:(0:Int)<=2 ^ n.toNat:=Int.pow_nonneg ae;show IntKind.wrap .u64 (1*2 ^ min n.toNat (IntKind.bits .u64))=_;rw[e,h,Oe];exact Xp f aa
def YP(a:Int)(k:Nat)(e:k<=64)(f:0<=a):YO .u64 a k=a / 2 ^ k:=by have g:IntKind.bits .u64=64:=rfl;show a.fdiv (2 ^ min (k:Int).toNat (IntKind.bits .u64))=_;grind
def YF(a:Int)(k:Nat)(f:k<=63)(g:0<=a)(h:a<=18446744073709551615):Zc .u64 a (2 ^ k-1)=a % 2 ^ k:=by
 obtain⟨n,rfl⟩:=UA g;have hb:IntKind.u64.bits=64:=rfl;show IntKind.u64.wrap ((BitVec.ofInt IntKind.u64.bits n &&& BitVec.ofInt IntKind.u64.bits (2 ^ k-1)).toNat:Int)=_;rw[hb];have e:(2:Int) ^ k-1=((2 ^ k-1:Nat):Int):=by
  have h:=Nat.one_le_two_pow (n:=k);have j:(2:Int) ^ k=((2 ^ k:Nat):Int):=by simp
  rw[j];omega
 have o:BitVec.ofInt 64 (n:Int)=BitVec.ofNat 64 n:=by simp
 have p:BitVec.ofInt 64 ((2 ^ k-1:Nat):Int)=BitVec.ofNat 64 (2 ^ k-1):=by simp
 rw[e,o,p,BitVec.toNat_and,U9,U9];have q:n % 2 ^ 64=n:=IC aa;have hp:2 ^ k<=2 ^ 63:=IM aa f;have r:(2 ^ k-1) % 2 ^ 64=2 ^ k-1:=IC aa;rw[q,r,Nat.and_two_pow_sub_one_eq_mod];show wU _=_;rw[Xp aa aa];simp
def PT{α:Type}(o:Option α)(P:α->Prop):Prop:=∀r,o=some r->P r
def tU(n:Int):Prop:=0<=n/\n<=18446744073709551615
def tW(n:Int):Prop:=0<=n/\n<=4294967295
def tL{α:Type}(T:α->Prop)(l:List α):Prop:=∀x∈l,T x
def tE{α β:Type}(A:α->Prop)(B:β->Prop):Ex α β->Prop
 |.ret a=>A a
 |.nxt b=>B b
section
variable {α β γ:Type}{P:β->Prop}{T:α->Prop}
def WH{x:β}(h:P x):PT (some x) P:=λr e=>WA e▸h
def Oc:PT none P:=λr e=>by grind
def OJ{o:Option α}{f:α->Option β}{Q:α->Prop}(h:PT o Q)(k:∀y,Q y->PT (f y) P):PT (Sx.bnd o f) P:=by
 cases o with
 |none=>rw[KH];exact Oc
 |some y=>rw[Xa];exact k y (h y rfl)
def UL{o:Option α}{f:α->Option β}(k:∀y,PT (f y) P):PT (Sx.bnd o f) P:=by
 cases o with
 |none=>rw[KH];exact Oc
 |some y=>simp_all[Xa]
def Od{p:Prop}[Decidable p]{x:Option β}(k:PT x P):PT (Sx.grd p x) P:=by
 unfold Sx.grd;split
 .omega
 exact Oc
def UZ{κ:Type}{k:κ}{f:κ->Option β}{Q:κ->Prop}(h:Q k)(g:∀j,Q j->PT (f j) P):PT (Sx.jn k f) P:=by simp_all[Xs]
def WC{b:Bool}{x y:Option β}(e:PT x P)(f:PT y P):PT (bif b then x else y) P:=by grind
def PT.get{l:List α}{i:Int}{f:α->Option β}(h:tL T l)(k:∀p,T p->PT (f p) P):PT (Sx.bnd (Xe l i) f) P:=
 OJ (Q:=T) (λr e=>h r (YI e)) k
def O5{α':Type}{o:Option (Ex α' α)}{f:α'->Option β}{k:α->Option β}{A:α'->Prop}(h:PT o (tE A T))(j:∀a,A a->PT (f a) P)(p:∀b,T b->PT (k b) P):PT (Sx.bnd o λe=>exK e f k) P:=by
 refine OJ h λy g=>?_;cases y with
 |ret a=>rw[XA];exact j a g
 |nxt b=>rw[Xo];exact p b g
def Sf{o:Option β}{r:β}(h:PT o P)(e:o=.some r):P r:=h r e
end
@[simp] def Xur{α β:Type}(A:α->Prop)(B:β->Prop)(a:α):tE A B (.ret a)=A a:=rfl
@[simp] def Xus{α β:Type}(A:α->Prop)(B:β->Prop)(b:β):tE A B (.nxt b)=B b:=rfl
@[simp] def Xut(n:Nat):tU (no_index (OfNat.ofNat n):Int)=((OfNat.ofNat n:Nat)<=18446744073709551615):=by have:(no_index (OfNat.ofNat n):Int)=(n:Int):=rfl;simp only[eq_iff_iff];show(0:Int)<=n/\(n:Int)<=18446744073709551615↔n<=18446744073709551615;omega
@[simp] def Xuu(n:Nat):tW (no_index (OfNat.ofNat n):Int)=((OfNat.ofNat n:Nat)<=4294967295):=by have:(no_index (OfNat.ofNat n):Int)=(n:Int):=rfl;simp only[eq_iff_iff];show(0:Int)<=n/\(n:Int)<=4294967295↔n<=4294967295;omega
@[simp] def Xvd(n:Int):tU (wU n):=VW n
@[simp] def XsT(n:Int):tW (wW n):=by unfold tW;rw[XmM];omega
def Xbl(n:Int):tU (IntKind.wrap .u64 n):=VW n
def XmO(n:Int):tW (IntKind.wrap .u32 n):=XsT n
@[simp] def Xt7(a b:Int):tU (Zc .u64 a b):=Xbl _
@[simp] def Xuv(a b:Int):tU (bOr .u64 a b):=Xbl _
@[simp] def Xt8(a b:Int):tU (Xq8 .u64 a b):=Xbl _
@[simp] def Xt9(a b:Int):tU (ZO .u64 a b):=Xbl _
@[simp] def Xua(a b:Int):tW (Zc .u32 a b):=XmO _
def XqK{a b:Int}(h:0<=a)(k:IntKind):0<=YO k a b/\YO k a b<=a:=by show 0<=a.fdiv _/\a.fdiv _<=a;have hp:(0:Int)<2 ^ min b.toNat (IntKind.bits k):=Int.pow_pos ae;rw[Int.fdiv_eq_ediv_of_nonneg _ aa];exact⟨Int.ediv_nonneg h aa,Int.ediv_le_self _ h⟩
@[simp] def Xub{a b:Int}(h:tU a):tU (YO .u64 a b):=by have:=XqK (b:=b) h.1 .u64;unfold tU at *;omega
@[simp] def Xuc{a b:Int}(h:tW a):tW (YO .u32 a b):=by have:=XqK (b:=b) h.1 .u32;unfold tW at *;omega
@[simp] def Xud{a b:Int}(h:tU a):tU (a.tmod b):=by
 unfold tU at *;rw[IE h.1];by_cases hb:b=0
 .subst hb;rw[Int.emod_zero];exact h
 have h1:=Int.emod_nonneg a hb;have h2:a % b<=a:=by
  obtain⟨n,rfl⟩:=UA h.1;rcases Int.natAbs_eq b with e|e
  .rw[e,←Int.natCast_emod];have:=Nat.mod_le n b.natAbs;omega
  rw[e,Int.emod_neg,←Int.natCast_emod];have:=Nat.mod_le n b.natAbs;omega
 omega
section
variable {α:Type}{T:α->Prop}
@[simp] def Xuw:tL T ([]:List α):=λx h=>by grind
@[simp] def Xue{x:α}{l:List α}:tL T (x::l)↔T x/\tL T l:=by unfold tL;simp
@[simp] def Xso{a b:List α}:tL T (a++b)↔tL T a/\tL T b:=by unfold tL;simp;exact⟨λh=>⟨λx hx=>h x (.inl hx),λx hx=>h x (.inr hx)⟩,λh x hx=>hx.elim (h.1 x) (h.2 x)⟩
@[simp] def Xdk{l:List α}{i:Nat}{x:α}(h:tL T l)(hx:T x):tL T (l.set i x):=λy hy=>by
 rcases W0 hy with h1|h1
 .exact h y h1
 simp_all
@[simp] def Xuf{l:List α}{i:Nat}(h:tL T l):tL T (l.take i):=λy hy=>h y (WP hy)
@[simp] def Xug{l:List α}{i:Nat}(h:tL T l):tL T (l.drop i):=λy hy=>h y (WQ hy)
@[simp] def Xux{n:Nat}{x:α}(h:T x):tL T (List.replicate n x):=λy hy=>by simp_all
end
@[simp] def Xuy{p:Prop}[Decidable p]{a b:Int}(ha:tU a)(hb:tU b):tU (if p then a else b):=by split;exact ha;exact hb
set_option maxHeartbeats 1000000
class TY{α:Type}(o:Option α)(H:outParam Prop)(P:outParam (α->Prop)):Prop where
 h:H->PT o P
class TE(α:Type)(T:outParam (α->Prop)):Prop where
 e:True
section
variable {α β:Type}{P:β->Prop}{T:α->Prop}{o:Option α}{H:Prop}{Q:α->Prop}
def Uu{f:α->Option β}[c:TY o H Q](h:H)(k:∀y,Q y->PT (f y) P):PT (Sx.bnd o f) P:=OJ (c.h h) k
def O8{α':Type}{o:Option (Ex α' α)}{f:α'->Option β}{k:α->Option β}{A:α'->Prop}[c:TY o H (tE A T)](h:H)(g:∀a,A a->PT (f a) P)(j:∀b,T b->PT (k b) P):PT (Sx.bnd o λe=>exK e f k) P:=O5 (c.h h) g j
def O9{l:List α}{i:Int}{f:α->Option β}[TE α T](h:tL T l)(k:∀p,T p->PT (f p) P):PT (Sx.bnd (Xe l i) f) P:=PT.get h k
end
def X6(s:Wk):Prop:=(tL tU) s.w
def KZ(s:UB):Prop:=tU s.a
def X1(s:Wp):Prop:=(tL KZ) s.S
def Yv(s:W5):Prop:=tU s.a
def YG(s:Wu):Prop:=(tL Yv) s.e
def KT(s:UE):Prop:=tU s.a
def YJ(s:W3):Prop:=X6 s.h/\X1 s.l/\YG s.g/\YG s.v/\(tL KT) s.P/\(tL tU) s.R
def Zg(s:Wv):Prop:=tW s.Map
def Z8(s:Ii):Prop:=Zg s.H/\(tL tU) s.D
def VY(s:Ix):Prop:=tU s.I/\tU s.B0
def X3(s:WM):Prop:=(tL Z8) s.T/\X1 s.l/\YG s.g/\YG s.v/\(tL VY) s.m/\(tL tU) s.R
def K0(s:Io):Prop:=YJ s.N/\X3 s.z/\(tL tU) s.w
def VZ(s:Ot):Prop:=tU s.A/\tU s.B/\tU s.C
def XfB(s:Oy):Prop:=tU s.B0
def XgX(s:IG):Prop:=X1 s.l
def Xjw(s:UJ):Prop:=tU s.Value
def Yw(s:Ww):Prop:=X6 s.h/\(tL tU) s.o/\(tL tU) s.q
def XeL(s:Ur):Prop:=tU s.Addr
def Xjx(s:UT):Prop:=tU s.addr/\Zg s.hd
@[simp] def Xpy{l:List UB}{i:Nat}{x:UB}(h:tL KZ l)(hx:tU x.a):tL KZ (l.set i x):=Xdk h hx
@[simp] def Xov{l:List W5}{i:Nat}{x:W5}(h:tL Yv l)(hx:tU x.a):tL Yv (l.set i x):=Xdk h hx
@[simp] def XqL{l:List UE}{i:Nat}{x:UE}(h:tL KT l)(hx:tU x.a):tL KT (l.set i x):=Xdk h hx
@[simp] def Xpz{l:List Ix}{i:Nat}{x:Ix}(h:tL VY l)(hx:tU x.I/\tU x.B0):tL VY (l.set i x):=Xdk h hx
@[simp] def Xow{l:List Ii}{i:Nat}{x:Ii}(h:tL Z8 l)(hx:tW x.H.Map/\(tL tU) x.D):tL Z8 (l.set i x):=Xdk h hx
instance teTHeap:TE Wk X6:=⟨trivial⟩
instance teTSlot:TE UB KZ:=⟨trivial⟩
instance teTLocals:TE Wp X1:=⟨trivial⟩
instance teTEntry:TE W5 Yv:=⟨trivial⟩
instance teTTable:TE Wu YG:=⟨trivial⟩
instance teTPin:TE UE KT:=⟨trivial⟩
instance teTEnv:TE W3 YJ:=⟨trivial⟩
instance teTHeader:TE Wv Zg:=⟨trivial⟩
instance teTThing:TE Ii Z8:=⟨trivial⟩
instance teTMark:TE Ix VY:=⟨trivial⟩
instance teTWorld:TE WM X3:=⟨trivial⟩
instance teTPair:TE Io K0:=⟨trivial⟩
instance teTDeed:TE Ot VZ:=⟨trivial⟩
instance teTFact:TE Oy XfB:=⟨trivial⟩
instance teTframes:TE IG XgX:=⟨trivial⟩
instance teTField:TE UJ Xjw:=⟨trivial⟩
instance teTWork:TE Ww Yw:=⟨trivial⟩
instance teTFinding:TE Ur XeL:=⟨trivial⟩
instance teTfound:TE UT Xjx:=⟨trivial⟩
attribute [local simp] X6 KZ X1 Yv YG KT YJ Zg Z8 VY X3 K0 VZ XfB XgX Xjw Yw XeL Xjx
def WW{p:Prop}(h:p:=by
 repeat' first
  |exact Oc
  |refine WH ?_
  |refine Od ?_
  |refine WC ?_ ?_
  |refine O8 ?_ (λ_ _=>?_) λ_ _=>?_
  |refine Uu ?_ λ_ _=>?_
  |refine TY.h ?_
  |refine O9 ?_ λ_ _=>?_
  |(refine PT.get (T:=tU) ?_ λ_ _=>?_;.first|assumption|simp_all (maxDischargeDepth:=9))
  |refine UL λ_=>?_
 all_goals ((try clear e);simp_all (maxDischargeDepth:=9))):p:=h
instance Qom{N g q}:TY (Qb4 N g q) (K0 g) (λr=>tU r.1):=⟨λh=>by
 rw[Qb4]
 refine(UL λw=>(WC (UL λy=>(PT.get (T:=tU) ?_ λz A=>(WH ?_))) (WC (UL λB=>(PT.get (T:=tU) ?_ λD E=>(UL λG=>(WH ?_)))) (UZ (Q:=λk=>∀(j:Bool),PT (k j) _) (λj=>(WC (UL λI=>(PT.get (T:=tU) ?_ λs J=>(WH ?_))) (UL λu=>(PT.get (T:=tU) ?_ λv K=>(WH ?_))))) λL e=>(WC (e _) (UZ (Q:=λk=>∀(p:Bool),PT (k p) _) (λp=>(e _)) λM f=>(WC (f _) (f _))))))))
 all_goals ((try clear O);simp_all (maxDischargeDepth:=9))⟩
instance Qon{N q u}:TY (Qc2 N q u) (K0 q) (λr=>VZ r.1):=⟨λh=>by
 rw[Qc2]
 refine(UL λE=>(UL λG=>(WC (UL λI=>(Od (UL λJ=>(WH ?_)))) (UZ (Q:=λk=>∀(s:Bool),PT (k s) _) (λs=>(WC (UL λK=>(UL λL=>(WC (UL λM=>(WH ?_)) (WH ?_)))) (WC (UL λO=>(WH ?_)) (Uu ?_ λv R=>(UL λw=>(UL λy=>(UZ (Q:=λk=>∀(g:List Int) (j e:Int),tU e->PT (k g j e) _) (λg j e S=>(WC (Uu ?_ λz U=>(WH ?_)) (WH ?_))) λV f=>(WC (Uu ?_ λA W=>(f _ _ _ ?_)) (UL λB=>(WC (Uu ?_ λD Y=>(f _ _ _ ?_)) (f _ _ _ ?_))))))))))) λZ p=>(WC (p _) (p _))))))
 all_goals ((try clear ih);simp_all (maxDischargeDepth:=9))⟩
instance Qpy{N e}:TY (Qgj N e) (True) (λr=>X6 r.1):=⟨λh=>by
 rw[Qgj]
 exact WW⟩
instance Qpz{N e}:TY (Qe4 N e) (True) (λr=>YJ r.1):=⟨λh=>by
 rw[Qe4]
 exact WW⟩
instance QpA{N e}:TY (Qgk N e) (True) (λr=>X3 r.1):=⟨λh=>by
 rw[Qgk]
 exact WW⟩
instance Qoh{N e}:TY (Qbq N e) (True) (λr=>K0 r.1):=⟨λh=>by
 rw[Qbq]
 exact WW⟩
instance Qpc{N e f}:TY (Qbr N e f) ((tL tU) e/\tU f) (λr=>tU r.1):=⟨λh=>by
 rw[Qbr]
 exact WW⟩
instance QoD{N e}:TY (QcH N e) (Zg e) (λr=>tU r.1):=⟨λh=>by
 rw[QcH]
 exact WW⟩
instance QoE{N e}:TY (QcI N e) (tU e) (λr=>Zg r.1):=⟨λh=>by
 rw[QcI]
 exact WW⟩
instance QpS{N f g}:TY (Qal N f g) (X6 f/\tU g) (λr=>Zg r.1):=⟨λh=>by
 rw[Qal]
 refine(UL λj=>(WC (WH ?_) (UL λp=>(WC (WH ?_) (UL λq=>(Uu ?_ λs u=>(Uu ?_ λv w=>(UZ (Q:=λk=>∀(_:Unit),PT (k ()) _) (λ_=>(UL λy=>(WC (WC (WH ?_) (WC (WC (WH ?_) (WC (WH ?_) (WH ?_))) (WH ?_))) (WC (WC (WH ?_) (WC (WH ?_) (WH ?_))) (WH ?_))))) λz e=>(WC (WC (WH ?_) (WC (WH ?_) (WC (WH ?_) (e ())))) (WC (WH ?_) (WC (WH ?_) (e ()))))))))))))
 all_goals ((try clear A);simp_all (maxDischargeDepth:=9))⟩
instance Qoq{N e f g}:TY (QbE N e f g) (True) (λr=>tU r.1):=⟨λh=>by
 rw[QbE]
 exact WW⟩
instance QiN{N e g j}:∀n k f,TY (Qah N e g j n k f) (X6 e/\(tL tU) f) (tE (λr=>(tL tU) r.1) (tL tU))
 |0,_,_=>⟨λh=>by rw[Qah];exact Oc⟩
 |n+1,k,f=>⟨λh=>by
  have p:=@QiN N e g j n
  rw[Qah]
  exact WW⟩
instance Qpd{N e f}:TY (Qag N e f) (X6 e) (λr=>(tL tU) r.1):=⟨λh=>by
 rw[Qag]
 exact WW⟩
instance QpB{N e f}:TY (Qca N e f) (X6 e/\tU f) (λr=>Zg r.1):=⟨λh=>by
 rw[Qca]
 exact WW⟩
instance Qpe{N e f g}:TY (Qdg N e f g) ((tL tU) e/\tU f) (λr=>(tL tU) r.1):=⟨λh=>by
 rw[Qdg]
 exact WW⟩
instance Qh4{N e}:∀n g f,TY (QaO N e n g f) (X6 e/\(tL tU) f) (tE (λr=>(tL tU) r.1) (tL tU))
 |0,_,_=>⟨λh=>by rw[QaO];exact Oc⟩
 |n+1,g,f=>⟨λh=>by
  have j:=@Qh4 N e n
  rw[QaO]
  exact WW⟩
instance QoF{N e}:TY (QbH N e) (X6 e) (λr=>(tL tU) r.1):=⟨λh=>by
 rw[QbH]
 exact WW⟩
instance QhL{N e f}:∀n j g,TY (Qbc N e f n j g) (X6 e/\(λr=>(tL tU) r.1) f/\(tL tU) g) (tL tU)
 |0,_,_=>⟨λh=>by rw[Qbc];exact Oc⟩
 |n+1,j,g=>⟨λh=>by
  have k:=@QhL N e f n
  rw[Qbc]
  exact WW⟩
instance Qor{N e}:TY (Qap N e) (X6 e) (λr=>(tL tU) r.1):=⟨λh=>by
 rw[Qap]
 exact WW⟩
instance QiO{N e}:∀n g f,TY (QbX N e n g f) (YG e/\(tL tU) f) (tL tU)
 |0,_,_=>⟨λh=>by rw[QbX];exact Oc⟩
 |n+1,g,f=>⟨λh=>by
  have j:=@QiO N e n
  rw[QbX]
  exact WW⟩
instance Qpf{N e}:TY (QbC N e) (YG e) (tL tU):=⟨λh=>by
 rw[QbC]
 exact WW⟩
instance QiP{N e}:∀n g f,TY (QbY N e n g f) (X1 e/\(tL tU) f) (tL tU)
 |0,_,_=>⟨λh=>by rw[QbY];exact Oc⟩
 |n+1,g,f=>⟨λh=>by
  have j:=@QiP N e n
  rw[QbY]
  exact WW⟩
instance Qpg{N e}:TY (QcX N e) (X1 e) (tL tU):=⟨λh=>by
 rw[QcX]
 exact WW⟩
instance Qh5{N e}:∀n g f,TY (QbO N e n g f) (YJ e/\(tL tU) f) (tL tU)
 |0,_,_=>⟨λh=>by rw[QbO];exact Oc⟩
 |n+1,g,f=>⟨λh=>by
  have j:=@Qh5 N e n
  rw[QbO]
  exact WW⟩
instance QoG{N e}:TY (Qd1 N e) (YJ e) (tL tU):=⟨λh=>by
 rw[Qd1]
 exact WW⟩
instance QoT{N e}:TY (Qda N e) (X6 e) (λr=>Yw r.1):=⟨λh=>by
 rw[Qda]
 exact WW⟩
instance QoH{N e}:TY (QcJ N e) (tU e) (λr=>tU r.1):=⟨λh=>by
 rw[QcJ]
 exact WW⟩
instance Qph{N e f}:TY (QcY N e f) (Yw e/\tU f) Yw:=⟨λh=>by
 rw[QcY]
 exact WW⟩
instance QoU{N f g}:TY (QcK N f g) (Yw f) (λr=>Yw r.1/\tU r.2.1):=⟨λh=>by
 rw[QcK]
 refine(Od (UZ (Q:=λk=>∀(_:Unit),PT (k ()) _) (λ_=>(UL λw=>(WC (WH ?_) (UL λy=>(Od (Od (UL λj=>(UL λp=>(UL λq=>(WH ?_)))))))))) λz e=>(WC (UL λA=>(UL λB=>(WC (UL λD=>(UL λs=>(UL λu=>(UL λv=>(WH ?_))))) (e ())))) (e ()))))
 all_goals ((try clear E);simp_all (maxDischargeDepth:=9))⟩
instance Qip{N e g}:∀n j f,TY (Qcu N e g n j f) ((tL tU) e/\(tL tU) f) (tL tU)
 |0,_,_=>⟨λh=>by rw[Qcu];exact Oc⟩
 |n+1,j,f=>⟨λh=>by
  have k:=@Qip N e g n
  rw[Qcu]
  exact WW⟩
instance QoV{N e f g}:TY (Qcq N e f g) ((tL tU) e/\tU f/\(tL tU) g) (λr=>(tL tU) r.1):=⟨λh=>by
 rw[Qcq]
 exact WW⟩
instance Qpi{N e f g j}:TY (QfJ N e f g j) ((tL tU) e/\tU f/\tU g) (λr=>(tL tU) r.1):=⟨λh=>by
 rw[QfJ]
 exact WW⟩
instance Qos{N e}:TY (QcZ N e) (tU e) (λr=>tU r.1):=⟨λh=>by
 rw[QcZ]
 exact WW⟩
instance QoW{N e f g}:TY (QcL N e f g) ((tL tU) e/\tU f/\tU g) (λr=>(tL tU) r.1):=⟨λh=>by
 rw[QcL]
 exact WW⟩
instance Qot{N e f}:TY (QaL N e f) (Yw e/\tU f) (λr=>Yw r.1/\tU r.2.1):=⟨λh=>by
 rw[QaL]
 exact WW⟩
instance Qiq{N j}:∀n p q s k u v6 v7 v8 v9 v10 v11 e v13 f v15 g v17 v18,TY (Qa8 N j n p q s k u v6 v7 v8 v9 v10 v11 e v13 f v15 g v17 v18) ((tL tU) j/\(tL tU) k/\(tL tU) v8/\(tL tU) v10/\(tL tU) v18) (tE (λr=>Yw r.1/\(tL tU) r.2.1) (λr=>(tL tU) r.2.2.1/\(tL tU) r.2.2.2.2.2.2.1/\(tL tU) r.2.2.2.2.2.2.2.2.1/\(tL tU) r.2.2.2.2.2.2.2.2.2.2.2.2.2.2.2.2))
 |0,_,_,_,_,_,_,_,_,_,_,_,_,_,_,_,_,_,_=>⟨λh=>by rw[Qa8];exact Oc⟩
 |n+1,p,q,s,k,u,v6,v7,v8,v9,v10,v11,e,v13,f,v15,g,v17,v18=>⟨λh=>by
  have v:=@Qiq N j n
  rw[Qa8]
  exact WW⟩
instance QoX{N e f}:TY (Qdb N e f) (Yw e/\(tL tU) f) (λr=>Yw r.1/\(tL tU) r.2.1):=⟨λh=>by
 rw[Qdb]
 exact WW⟩
instance QpC{N e f}:TY (Qdw N e f) (Yw e/\tU f) Zg:=⟨λh=>by
 rw[Qdw]
 exact WW⟩
instance QiQ{N j k}:∀n p q v6 v7 v8 v9 v10 v11 e v13 f v15 g v17 v18 v19 v20,TY (Qbm N j k n p q v6 v7 v8 v9 v10 v11 e v13 f v15 g v17 v18 v19 v20) (tU j/\(tL tU) v7/\(tL tU) v11/\(tL tU) v13) (tE (λr=>Yw r.1) (λr=>(tL tU) r.2.2.1/\(tL tU) r.2.2.2.2.2.2.1/\(tL tU) r.2.2.2.2.2.2.2.2.1))
 |0,_,_,_,_,_,_,_,_,_,_,_,_,_,_,_,_,_=>⟨λh=>by rw[Qbm];exact Oc⟩
 |n+1,p,q,v6,v7,v8,v9,v10,v11,e,v13,f,v15,g,v17,v18,v19,v20=>⟨λh=>by
  have s:=@QiQ N j k n
  rw[Qbm]
  exact WW⟩
instance Qpj{N e}:TY (Qet N e) (Yw e) (λr=>Yw r.1):=⟨λh=>by
 rw[Qet]
 exact WW⟩
instance QjK{N}:∀n k p j q s v6 v7 v8 v9 v10 v11 e v13 f v15 g,TY (QbZ N n k p j q s v6 v7 v8 v9 v10 v11 e v13 f v15 g) ((tL tU) j/\(tL tU) v7/\(tL tU) v9) (λr=>Yw r.1)
 |0,_,_,_,_,_,_,_,_,_,_,_,_,_,_,_,_=>⟨λh=>by rw[QbZ];exact Oc⟩
 |n+1,k,p,j,q,s,v6,v7,v8,v9,v10,v11,e,v13,f,v15,g=>⟨λh=>by
  have u:=@QjK N n
  rw[QbZ]
  exact WW⟩
instance QpD{N e}:TY (Qez N e) (Yw e) (λr=>Yw r.1):=⟨λh=>by
 rw[Qez]
 exact WW⟩
instance QoY{N e f}:TY (QcM N e f) (Yw e/\tU f) tU:=⟨λh=>by
 rw[QcM]
 exact WW⟩
instance QiR{N e f g j k}:∀n v7 v8,TY (Qbn N e f g j k n v7 v8) (Yw e/\(tL tU) v8) (tL tU)
 |0,_,_=>⟨λh=>by rw[Qbn];exact Oc⟩
 |n+1,v7,v8=>⟨λh=>by
  have p:=@QiR N e f g j k n
  rw[Qbn]
  exact WW⟩
instance QiS{N e}:∀n g j f k,TY (QaR N e n g j f k) (Yw e/\(tL tU) f) (λr=>(tL tU) r.2.1)
 |0,_,_,_,_=>⟨λh=>by rw[QaR];exact Oc⟩
 |n+1,g,j,f,k=>⟨λh=>by
  have p:=@QiS N e n
  rw[QaR]
  exact WW⟩
instance Qpk{N e}:TY (Qeu N e) (Yw e) Yw:=⟨λh=>by
 rw[Qeu]
 exact WW⟩
instance QiT{N e}:∀n g f j,TY (QaI N e n g f j) (Yw e/\(tL tU) f) (λr=>(tL tU) r.1)
 |0,_,_,_=>⟨λh=>by rw[QaI];exact Oc⟩
 |n+1,g,f,j=>⟨λh=>by
  have k:=@QiT N e n
  rw[QaI]
  exact WW⟩
instance Qpl{N e}:TY (Qev N e) (Yw e) Yw:=⟨λh=>by
 rw[Qev]
 exact WW⟩
instance QhM{N q s u}:∀n v7 v8 v9,TY (QaQ N q s u n v7 v8 v9) ((tL tU) q/\(λr=>Yw r.1/\(tL tU) r.2.1) s/\(λr=>Yw r.1) u/\(tL tU) v9) (λr=>(tL tU) r.2)
 |0,_,_,_=>⟨λh=>by rw[QaQ];exact Oc⟩
 |n+1,v7,v8,v9=>⟨λh=>by
  have v:=@QhM N q s u n
  rw[QaQ]
  refine(WC (PT.get (T:=tU) ?_ λw A=>(UZ (Q:=λk=>∀(e f:Int),tU e->PT (k e f) _) (λe f B=>(Od (TY.h ?_))) λD g=>(WC (PT.get (T:=tU) ?_ λy E=>(Uu ?_ λz G=>(UZ (Q:=λk=>∀(j:Int),PT (k j) _) (λj=>(g _ _ ?_)) λI p=>(WC (p _) (p _))))) (g _ _ ?_)))) (WH ?_))
  all_goals ((try clear v);simp_all (maxDischargeDepth:=9))⟩
instance Qou{N j p q}:TY (Qcr N j p q) (X6 j/\(tL tU) p/\(tL tU) q) (λr=>X6 r.1/\(tL tU) r.2.1/\(tL tU) r.2.2.1):=⟨λh=>by
 rw[Qcr]
 refine(UL λy=>(WC (WH ?_) (UZ (Q:=λk=>∀(_:Unit),PT (k ()) _) (λ_=>(WH ?_)) λz e=>(UL λA=>(WC (e ()) (UL λB=>(WC (e ()) (Uu ?_ λD E=>(Uu ?_ λG I=>(WC (WH ?_) (Uu ?_ λJ K=>(WC (WH ?_) (Uu ?_ λs L=>(Uu ?_ λu M=>(Uu ?_ λv O=>(UZ (Q:=λk=>∀(f:Int),PT (k f) _) (λf=>(WH ?_)) λR g=>(WC (UL λw=>(g _)) (g _))))))))))))))))))
 all_goals ((try clear S);simp_all (maxDischargeDepth:=9))⟩
instance QiU{N e f}:∀n j k g,TY (Qbo N e f n j k g) (X1 e/\(tL tU) f/\(tL KZ) g) (tE (λr=>X1 r.1) (tL KZ))
 |0,_,_,_=>⟨λh=>by rw[Qbo];exact Oc⟩
 |n+1,j,k,g=>⟨λh=>by
  have p:=@QiU N e f n
  rw[Qbo]
  exact WW⟩
instance Qpm{N e f}:TY (Qdi N e f) (X1 e/\(tL tU) f) (λr=>X1 r.1):=⟨λh=>by
 rw[Qdi]
 exact WW⟩
instance QiV{N e}:∀n g j f,TY (Qbp N e n g j f) ((tL tU) e/\(tL Yv) f) (tL Yv)
 |0,_,_,_=>⟨λh=>by rw[Qbp];exact Oc⟩
 |n+1,g,j,f=>⟨λh=>by
  have k:=@QiV N e n
  rw[Qbp]
  exact WW⟩
instance Qpn{N e f}:TY (Qcg N e f) (YG e/\(tL tU) f) (λr=>YG r.1):=⟨λh=>by
 rw[Qcg]
 exact WW⟩
instance QhN{N e f g j k p q}:∀n v10 v11,TY (QaZ N e f g j k p q n v10 v11) (YJ e/\(λr=>X6 r.1/\(tL tU) r.2.1/\(tL tU) r.2.2.1) f/\(tL tU) g/\(tL tU) j/\(λr=>X1 r.1) k/\(λr=>YG r.1) p/\(λr=>YG r.1) q/\(tL KT) v11) (tL KT)
 |0,_,_=>⟨λh=>by rw[QaZ];exact Oc⟩
 |n+1,v10,v11=>⟨λh=>by
  have s:=@QhN N e f g j k p q n
  rw[QaZ]
  exact WW⟩
instance Qov{N e}:TY (QbG N e) (YJ e) (λr=>YJ r.1):=⟨λh=>by
 rw[QbG]
 exact WW⟩
instance QhO{N e g}:∀n j f,TY (Qbu N e g n j f) (X3 e/\(tL tU) f) (tL tU)
 |0,_,_=>⟨λh=>by rw[Qbu];exact Oc⟩
 |n+1,j,f=>⟨λh=>by
  have k:=@QhO N e g n
  rw[Qbu]
  exact WW⟩
instance Qow{N e}:TY (Qdx N e) (X3 e) (λr=>X3 r.1):=⟨λh=>by
 rw[Qdx]
 exact WW⟩
instance QoI{N e}:TY (Qaa N e) (True) (λr=>YJ r.1/\tU r.2.1):=⟨λh=>by
 rw[Qaa]
 exact WW⟩
instance QoZ{N g e f}:TY (Qcs N g e f) (tU e/\tU f) (λr=>Zg r.1):=⟨λh=>by
 rw[Qcs]
 exact WW⟩
instance QpE{N e f}:TY (Qd2 N e f) (X1 e/\tU f) (λr=>X1 r.1):=⟨λh=>by
 rw[Qd2]
 exact WW⟩
instance Qo0{N f g}:TY (QeB N f g) (X6 f) (λr=>X6 r.1/\tU r.2.1):=⟨λh=>by
 rw[QeB]
 refine(Od (UL λw=>(UL λy=>(UZ (Q:=λk=>∀(_:Unit),PT (k ()) _) (λ_=>(UL λz=>(WC (WH ?_) (WC (WH ?_) (UL λA=>(UL λj=>(UL λp=>(UL λq=>(WH ?_))))))))) λB e=>(WC (e ()) (UL λD=>(WC (e ()) (UL λE=>(WC (e ()) (WC (e ()) (UL λs=>(UL λu=>(UL λv=>(WH ?_))))))))))))))
 all_goals ((try clear G);simp_all (maxDischargeDepth:=9))⟩
instance Qo1{N e f g}:TY (QeC N e f g) (X6 e) (λr=>X6 r.1/\tU r.2.1):=⟨λh=>by
 rw[QeC]
 exact WW⟩
instance Qpo{N e f g}:TY (Qbf N e f g) (X6 e/\tU f/\Zg g) (λr=>X6 r.1):=⟨λh=>by
 rw[Qbf]
 exact WW⟩
instance QpF{N u v}:TY (Qcc N u v) (X6 u/\Zg v) (λr=>X6 r.1/\tU r.2.1):=⟨λh=>by
 rw[Qcc]
 refine(UL λA=>(WC (WH ?_) (UL λB=>(WC (WH ?_) (UL λD=>(UL λE=>(Uu ?_ λG I=>(UZ (Q:=λk=>∀(s:Int) (w:Bool) (y f:Int) (e:List Int) (g:List Ws) (j p:Int),tU s->(tL tU) e->PT (k s w y f e g j p) _) (λs w y f e g j p J K=>(WC (WH ?_) (Uu ?_ λz L=>(WH ?_)))) λM q=>(WC (Uu ?_ λO R=>(q _ _ _ _ _ _ _ _ ?_ ?_)) (q _ _ _ _ _ _ _ _ ?_ ?_))))))))))
 all_goals ((try clear S);simp_all (maxDischargeDepth:=9))⟩
instance Qo2{N K L}:TY (Qdc N K L) (YJ K/\Zg L) (λr=>YJ r.1/\tU r.2.1):=⟨λh=>by
 rw[Qdc]
 refine(UL λV=>(WC (WH ?_) (Uu ?_ λW Y=>(UZ (Q:=λk=>∀(I M O R:Int) (J:List Int) (s:List Ws) (u v:Int) (e:List UB) (w:List UM) (y:List Int) (f g:List W5) (j:List UE) (p:List Int) (z A:Int) (q:List Int) (B:List Ws) (D E:Int),tU I->(tL tU) J->(tL KZ) e->(tL Yv) f->(tL Yv) g->(tL KT) j->(tL tU) p->(tL tU) q->PT (k I M O R J s u v e w y f g j p z A q B D E) _) (λI M O R J s u v e w y f g j p z A q B D E Z h3 h4 h5 h6 h7 h8 h9=>(WC (WH ?_) (WH ?_))) λj1 G=>(WC (Uu ?_ λy3 S=>(WC (WH ?_) (Uu ?_ λy4 U=>(G _ _ _ _ _ _ _ _ _ _ _ _ _ _ _ _ _ _ _ _ _ ?_ ?_ ?_ ?_ ?_ ?_ ?_ ?_)))) (G _ _ _ _ _ _ _ _ _ _ _ _ _ _ _ _ _ _ _ _ _ ?_ ?_ ?_ ?_ ?_ ?_ ?_ ?_))))))
 all_goals ((try clear ih);simp_all (maxDischargeDepth:=9))⟩
instance QoJ{N e}:TY (Qa3 N e) (True) (λr=>tU r.1):=⟨λh=>by
 rw[Qa3]
 exact WW⟩
instance Qo3{N e f}:TY (Qbh N e f) (YJ e/\tU f) (λr=>YJ r.1/\tU r.2.1):=⟨λh=>by
 rw[Qbh]
 exact WW⟩
instance QoK{N f p g j}:TY (Qci N f p g j) (YJ f/\tU g/\tU j) (λr=>YJ r.1/\tU r.2.1):=⟨λh=>by
 rw[Qci]
 refine(WC (Uu ?_ λq s=>(WH ?_)) (Uu ?_ λu v=>(UZ (Q:=λk=>∀(_:Unit),PT (k ()) _) (λ_=>(Uu ?_ λw y=>(WH ?_))) λz e=>(WC (e ()) (UL λA=>(WC (e ()) (Uu ?_ λB D=>(WC (Uu ?_ λE G=>(WH ?_)) (Uu ?_ λI J=>(WC (Uu ?_ λK L=>(WH ?_)) (Uu ?_ λM O=>(WH ?_))))))))))))
 all_goals ((try clear R);simp_all (maxDischargeDepth:=9))⟩
instance QpG{N e f g}:TY (QeD N e f g) (X1 e) (λr=>tU r.1):=⟨λh=>by
 rw[QeD]
 exact WW⟩
instance QpH{N e f g}:TY (Qd3 N e f g) (YG e) (λr=>tU r.1):=⟨λh=>by
 rw[Qd3]
 exact WW⟩
instance Qox{N e f}:TY (Qar N e f) (YJ e/\tU f) (λr=>tU r.1):=⟨λh=>by
 rw[Qar]
 exact WW⟩
instance Qo4{N e f}:TY (Qbv N e f) (YJ e/\tU f) (λr=>tU r.1):=⟨λh=>by
 rw[Qbv]
 exact WW⟩
instance Qo5{N e f g j}:TY (Qbw N e f g j) (YJ e/\tU f/\tU g) (λr=>tU r.1):=⟨λh=>by
 rw[Qbw]
 exact WW⟩
instance Qo6{N e f g}:TY (Qb6 N e f g) (X6 e/\tU f) (λr=>tU r.1):=⟨λh=>by
 rw[Qb6]
 exact WW⟩
instance Qoo{N e f j g}:TY (QbN N e f j g) (X6 e/\tU f/\tU g) (λr=>X6 r.1):=⟨λh=>by
 rw[QbN]
 exact WW⟩
instance Qo7{N p y q s u}:TY (Qbx N p y q s u) (YJ p/\tU q/\tU s/\tU u) (λr=>YJ r.1/\tU r.2.1):=⟨λh=>by
 rw[Qbx]
 refine(UZ (Q:=λk=>∀(j v w:Int),tU j->PT (k j v w) _) (λj v w D=>(WC (Uu ?_ λE G=>(WH ?_)) (Uu ?_ λI J=>(WC (WH ?_) (WC (Uu ?_ λK L=>(WH ?_)) (UZ (Q:=λk=>∀(e:Int),tU e->PT (k e) _) (λe M=>(Uu ?_ λz O=>(WH ?_))) λR f=>(WC (Uu ?_ λS U=>(WC (Uu ?_ λA V=>(WH ?_)) (f _ ?_))) (f _ ?_)))))))) λW g=>(WC (Uu ?_ λY Z=>(g _ _ _ ?_)) (Uu ?_ λy2 B=>(g _ _ _ ?_))))
 all_goals ((try clear ih);simp_all (maxDischargeDepth:=9))⟩
instance Qo8{N f q g j}:TY (QcP N f q g j) (YJ f/\tU g/\tU j) (λr=>YJ r.1/\tU r.2.1):=⟨λh=>by
 rw[QcP]
 refine(UZ (Q:=λk=>∀(p:Bool),PT (k p) _) (λp=>(WC (Uu ?_ λw y=>(WC (Uu ?_ λz A=>(WH ?_)) (Uu ?_ λB D=>(WC (WH ?_) (WH ?_))))) (WC (Uu ?_ λE G=>(WC (Uu ?_ λI J=>(WH ?_)) (Uu ?_ λK L=>(WC (Uu ?_ λM O=>(WH ?_)) (WC (WH ?_) (WH ?_)))))) (Uu ?_ λR S=>(WC (Uu ?_ λs U=>(WH ?_)) (Uu ?_ λu v=>(WH ?_))))))) λV e=>(WC (e _) (e _)))
 all_goals ((try clear W);simp_all (maxDischargeDepth:=9))⟩
instance QjL{N e f}:∀n g,TY (Qcj N e f n g) (YG e/\tU f) (tE (λr=>YG r.1) (λ_=>True))
 |0,_=>⟨λh=>by rw[Qcj];exact Oc⟩
 |n+1,g=>⟨λh=>by
  have j:=@QjL N e f n
  rw[Qcj]
  exact WW⟩
instance QpI{N e f}:TY (Qc7 N e f) (YG e/\tU f) (λr=>YG r.1):=⟨λh=>by
 rw[Qc7]
 exact WW⟩
instance Qoy{N q v s}:TY (Qdy N q v s) (YJ q/\tU s) (λr=>YJ r.1/\tU r.2.1):=⟨λh=>by
 rw[Qdy]
 refine(Uu ?_ λw y=>(WC (Uu ?_ λz A=>(WH ?_)) (UZ (Q:=λk=>∀(u:Int) (g:List W5),(tL Yv) g->PT (k u g) _) (λu g B=>(Uu ?_ λD E=>(WC (Uu ?_ λG I=>(WH ?_)) (UZ (Q:=λk=>∀(j p:List W5),(tL Yv) j->(tL Yv) p->PT (k j p) _) (λj p J K=>(Uu ?_ λL M=>(WH ?_))) λO e=>(WC (e _ _ ?_ ?_) (e _ _ ?_ ?_)))))) λR f=>(WC (f _ _ ?_) (f _ _ ?_)))))
 all_goals ((try clear S);simp_all (maxDischargeDepth:=9))⟩
instance QoL{N e f g}:TY (Qd4 N e f g) (X1 e) (λr=>X1 r.1):=⟨λh=>by
 rw[Qd4]
 exact WW⟩
instance QpJ{N e g f}:TY (QgR N e g f) (YG e/\Yv f) YG:=⟨λh=>by
 rw[QgR]
 exact WW⟩
instance QoM{N e f g}:TY (QcQ N e f g) (YG e) (λr=>YG r.1):=⟨λh=>by
 rw[QcQ]
 exact WW⟩
instance QoN{N g p j}:TY (Qd5 N g p j) (YJ g/\tU j) (λr=>YJ r.1/\tU r.2.1):=⟨λh=>by
 rw[Qd5]
 refine(WC (Uu ?_ λq s=>(WH ?_)) (Uu ?_ λu v=>(WC (Uu ?_ λw y=>(WH ?_)) (UL λz=>(UZ (Q:=λk=>∀(_:Unit),PT (k ()) _) (λ_=>(WC (Uu ?_ λA B=>(WH ?_)) (WC (Uu ?_ λD E=>(WH ?_)) (Uu ?_ λG I=>(WH ?_))))) λJ e=>(UZ (Q:=λk=>∀(_:Unit),PT (k ()) _) (λ_=>(Uu ?_ λK L=>(WH ?_))) λM f=>(WC (WC (f ()) (WC (WC (f ()) (WC (WC (f ()) (e ())) (e ()))) (WC (WC (f ()) (e ())) (e ())))) (WC (WC (f ()) (WC (WC (f ()) (e ())) (e ()))) (WC (WC (f ()) (e ())) (e ()))))))))))
 all_goals ((try clear O);simp_all (maxDischargeDepth:=9))⟩
instance Qpp{N f g j}:TY (Qgw N f g j) (X1 f) (λr=>X1 r.1):=⟨λh=>by
 rw[Qgw]
 refine(UL λp=>(WC (WH ?_) (WC (WH ?_) (WC (WH ?_) (UZ (Q:=λk=>∀(_:Unit),PT (k ()) _) (λ_=>(WC (WH ?_) (Od (Od (WH ?_))))) λq e=>(WC (WC (WH ?_) (e ())) (e ())))))))
 all_goals ((try clear s);simp_all (maxDischargeDepth:=9))⟩
instance Qpq{N e f}:TY (Qew N e f) (X1 e) (λr=>X1 r.1):=⟨λh=>by
 rw[Qew]
 exact WW⟩
instance QpK{N e f}:TY (QgS N e f) (X1 e) X1:=⟨λh=>by
 rw[QgS]
 exact WW⟩
instance QpL{N e}:TY (Qe8 N e) (X1 e) (λr=>X1 r.1):=⟨λh=>by
 rw[Qe8]
 exact WW⟩
instance QoO{N e g f}:TY (Qb0 N e g f) (YJ e/\tU f) (λr=>YJ r.1/\tU r.2.1):=⟨λh=>by
 rw[Qb0]
 exact WW⟩
instance Qo9{N e f g}:TY (Qb7 N e f g) (X6 e/\tU f) X6:=⟨λh=>by
 rw[Qb7]
 exact WW⟩
instance Qoz{N e f g}:TY (Qdz N e f g) (X6 e/\(tL KT) f/\tU g) (λr=>X6 r.1/\(tL KT) r.2.1):=⟨λh=>by
 rw[Qdz]
 exact WW⟩
instance QpM{N j p q}:TY (QfE N j p q) (X6 j/\(tL KT) p/\tU q) (λr=>X6 r.1/\(tL KT) r.2.1/\tU r.2.2.1):=⟨λh=>by
 rw[QfE]
 refine(UL λv=>(WC (WH ?_) (WC (WH ?_) (UL λw=>(WC (WH ?_) (UL λy=>(UZ (Q:=λk=>∀(_:Unit),PT (k ()) _) (λ_=>(Od (UZ (Q:=λk=>∀(f:List UE),(tL KT) f->PT (k f) _) (λf z=>(Uu ?_ λs A=>(WH ?_))) λB g=>(WC (PT.get (T:=KT) ?_ λD E=>(PT.get (T:=KT) ?_ λu G=>(g _ ?_))) (Od (g _ ?_)))))) λI e=>(WC (PT.get (T:=KT) ?_ λJ K=>(WC (WH ?_) (WC (WC (WH ?_) (UL λL=>(WC (WH ?_) (e ())))) (UL λM=>(WC (WH ?_) (e ())))))) (WC (WC (WH ?_) (UL λO=>(WC (WH ?_) (e ())))) (UL λR=>(WC (WH ?_) (e ()))))))))))))
 all_goals ((try clear S);simp_all (maxDischargeDepth:=9))⟩
instance Qpr{N e g f}:TY (Qe9 N e g f) (YJ e/\tU f) (λr=>YJ r.1/\tU r.2.1):=⟨λh=>by
 rw[Qe9]
 exact WW⟩
instance Qps{N M a1 O R S}:TY (Qac N M a1 O R S) (YJ M/\tU O/\tU R/\tU S) (λr=>YJ r.1/\tU r.2.1):=⟨λh=>by
 rw[Qac]
 refine(UL λy1=>(WC (Uu ?_ λy2 h1=>(WH ?_)) (UZ (Q:=λk=>∀(U:Bool),PT (k U) _) (λU=>(WC (Uu ?_ λy5 h2=>(WH ?_)) (UZ (Q:=λk=>∀(V:Bool),PT (k V) _) (λV=>(WC (Uu ?_ λy9 h3=>(WH ?_)) (UZ (Q:=λk=>∀(p:Bool),PT (k p) _) (λp=>(WC (Uu ?_ λy13 h4=>(WH ?_)) (UZ (Q:=λk=>∀(q:Bool),PT (k q) _) (λq=>(WC (Uu ?_ λy15 h5=>(WH ?_)) (UZ (Q:=λk=>∀(s:Bool),PT (k s) _) (λs=>(WC (Uu ?_ λy18 h6=>(WH ?_)) (UZ (Q:=λk=>∀(u:Bool),PT (k u) _) (λu=>(WC (Uu ?_ λy20 h7=>(WH ?_)) (UZ (Q:=λk=>∀(v:Bool),PT (k v) _) (λv=>(WC (Uu ?_ λy22 h8=>(WH ?_)) (Uu ?_ λy23 h9=>(WH ?_)))) λj13 e=>(WC (e _) (e _))))) λj12 f=>(WC (f _) (f _))))) λj11 g=>(WC (g _) (UZ (Q:=λk=>∀(w:Bool),PT (k w) _) (λw=>(g _)) λj10 j=>(WC (j _) (j _))))))) λj9 y=>(WC (y _) (y _))))) λj8 z=>(WC (z _) (UZ (Q:=λk=>∀(A:Bool),PT (k A) _) (λA=>(z _)) λj7 B=>(WC (B _) (UZ (Q:=λk=>∀(D:Bool),PT (k D) _) (λD=>(B _)) λj6 E=>(WC (E _) (E _))))))))) λj5 G=>(WC (G _) (UZ (Q:=λk=>∀(W:Bool),PT (k W) _) (λW=>(G _)) λj4 I=>(WC (I _) (UZ (Q:=λk=>∀(Y:Bool),PT (k Y) _) (λY=>(I _)) λj3 J=>(WC (J _) (J _))))))))) λj2 K=>(WC (K _) (UZ (Q:=λk=>∀(Z:Bool),PT (k Z) _) (λZ=>(K _)) λj1 L=>(WC (L _) (L _)))))))
 all_goals ((try clear ih);simp_all (maxDischargeDepth:=9))⟩
instance QoA{N g j s p u}:TY (QeX N g j s p u) (YJ g/\YJ j/\tU p) XfB:=⟨λh=>by
 rw[QeX]
 refine(UZ (Q:=λk=>∀(q:Bool),PT (k q) _) (λq=>(UZ (Q:=λk=>∀(r:Bool),PT (k r) _) (λr=>(WC (WC (WH ?_) (WH ?_)) (WH ?_))) λv f=>(WC (f _) (f _)))) λw e=>(WC (e _) (WC (e _) (e _))))
 all_goals ((try clear y);simp_all (maxDischargeDepth:=9))⟩
instance QoB{N e f}:TY (QaM N e f) (X3 e/\tU f) (λr=>tU r.1):=⟨λh=>by
 rw[QaM]
 exact WW⟩
instance Qpa{N e f}:TY (Qde N e f) (X3 e/\tU f) (λr=>X3 r.1/\tU r.2):=⟨λh=>by
 rw[Qde]
 exact WW⟩
instance QpN{N e f j g}:TY (QfF N e f j g) (X3 e/\tU f/\tU g) X3:=⟨λh=>by
 rw[QfF]
 exact WW⟩
instance QoC{N j v p}:TY (QeY N j v p) (X3 j/\tU p) (λr=>X3 r.1/\tU r.2):=⟨λh=>by
 rw[QeY]
 refine(UZ (Q:=λk=>∀(f g:List W5) (q s u:Int),(tL Yv) f->(tL Yv) g->PT (k f g q s u) _) (λf g q s u w y=>(Uu ?_ λz A=>(WH ?_))) λB e=>(WC (Uu ?_ λD E=>(e _ _ _ _ _ ?_ ?_)) (Uu ?_ λG I=>(e _ _ _ _ _ ?_ ?_))))
 all_goals ((try clear J);simp_all (maxDischargeDepth:=9))⟩
instance QoP{N e f}:TY (Qfx N e f) (X3 e/\tU f) X3:=⟨λh=>by
 rw[Qfx]
 exact WW⟩
instance Qpt{N e j f g}:TY (QfL N e j f g) (X3 e/\tU f/\tU g) (λr=>X3 r.1/\tU r.2):=⟨λh=>by
 rw[QfL]
 exact WW⟩
instance Qpu{N K Y L M O R}:TY (QfM N K Y L M O R) (X3 K/\tU L/\tU M/\tU O/\XfB R) (λr=>X3 r.1/\tU r.2.1):=⟨λh=>by
 rw[QfM]
 refine(UL λy1=>(WC (WH ?_) (UZ (Q:=λk=>∀(I:Int),tU I->PT (k I) _) (λI h1=>(UZ (Q:=λk=>∀(S:Bool),PT (k S) _) (λS=>(WC (UZ (Q:=λk=>∀(U V:Int) (J:List Ii) (e:List UB) (s:List UM) (u:List Int) (f g:List W5) (j:List Ix) (p:List Int),(tL Z8) J->(tL KZ) e->(tL Yv) f->(tL Yv) g->(tL VY) j->(tL tU) p->PT (k U V J e s u f g j p) _) (λU V J e s u f g j p h2 h3 h4 h5 h6 h7=>(Uu ?_ λZ h8=>(Od (Od (Od (Od (Uu ?_ λy18 h9=>(WH ?_)))))))) λj4 v=>(WC (Uu ?_ λy6 h10=>(v _ _ _ _ _ _ _ _ _ _ ?_ ?_ ?_ ?_ ?_ ?_)) (v _ _ _ _ _ _ _ _ _ _ ?_ ?_ ?_ ?_ ?_ ?_))) (WC (PT.get (T:=Z8) ?_ λp19 h11=>(WH ?_)) (WC (PT.get (T:=Z8) ?_ λp20 h12=>(WH ?_)) (WC (PT.get (T:=Z8) ?_ λp21 h13=>(PT.get (T:=tU) ?_ λp22 h14=>(WH ?_))) (WC (Uu ?_ λy23 h15=>(WH ?_)) (WC (PT.get (T:=Z8) ?_ λp24 h16=>(PT.get (T:=tU) ?_ λp25 h17=>(Uu ?_ λy26 h18=>(WH ?_)))) (WC (Uu ?_ λy27 h19=>(Uu ?_ λy28 h20=>(WH ?_))) (WC (Uu ?_ λy29 h21=>(WC (WH ?_) (WH ?_))) (WC (Uu ?_ λy30 h22=>(WH ?_)) (UZ (Q:=λk=>∀(w:Bool),PT (k w) _) (λw=>(WC (Uu ?_ λy32 h23=>(WH ?_)) (UZ (Q:=λk=>∀(y:Bool),PT (k y) _) (λy=>(WC (Uu ?_ λy35 h24=>(WH ?_)) (WC (Uu ?_ λy36 h25=>(WH ?_)) (WC (Uu ?_ λy37 h26=>(Uu ?_ λy38 h27=>(WH ?_))) (Uu ?_ λy39 h28=>(WH ?_)))))) λj7 z=>(WC (z _) (UZ (Q:=λk=>∀(A:Bool),PT (k A) _) (λA=>(z _)) λj6 B=>(WC (B _) (B _))))))) λj5 D=>(WC (D _) (D _))))))))))))) λj3 E=>(WC (E _) (UZ (Q:=λk=>∀(W:Bool),PT (k W) _) (λW=>(E _)) λj2 G=>(WC (G _) (G _)))))) λj1 q=>(WC (WC (Uu ?_ λy2 h29=>(q _ ?_)) (q _ ?_)) (q _ ?_)))))
 all_goals ((try clear ih);simp_all (maxDischargeDepth:=9))⟩
instance QoQ{N a0 a1}:TY (Qb1 N a0 a1) (K0 a0/\VZ a1) (λr=>K0 r.1/\tU r.2.1):=⟨λh=>by
 rw[Qb1]
 refine(WC (Uu ?_ λy1 h1=>(UZ (Q:=λk=>∀(x3 x4:Int) (Y:List Int) (x6:List Ws) (x7 x8:Int) (Z:List UB) (G:List UM) (I:List Int) (e f:List W5) (g:List UE) (j:List Int) (J K:Int) (p:List Ii) (q:List UB) (L:List UM) (M:List Int) (s u:List W5) (v:List Ix) (w:List Int),(tL tU) Y->(tL KZ) Z->(tL Yv) e->(tL Yv) f->(tL KT) g->(tL tU) j->(tL Z8) p->(tL KZ) q->(tL Yv) s->(tL Yv) u->(tL VY) v->(tL tU) w->PT (k x3 x4 Y x6 x7 x8 Z G I e f g j J K p q L M s u v w) _) (λx3 x4 Y x6 x7 x8 Z G I e f g j J K p q L M s u v w h2 h3 h4 h5 h6 h7 h8 h9 h10 h11 h12 h13=>(WH ?_)) λj1 O=>(WC (Uu ?_ λy2 h14=>(O _ _ _ _ _ _ _ _ _ _ _ _ _ _ _ _ _ _ _ _ _ _ _ ?_ ?_ ?_ ?_ ?_ ?_ ?_ ?_ ?_ ?_ ?_ ?_)) (O _ _ _ _ _ _ _ _ _ _ _ _ _ _ _ _ _ _ _ _ _ _ _ ?_ ?_ ?_ ?_ ?_ ?_ ?_ ?_ ?_ ?_ ?_ ?_)))) (Uu ?_ λy26 h15=>(Uu ?_ λy27 h16=>(Uu ?_ λy28 h17=>(UZ (Q:=λk=>∀(R S:Int) (y:List Ii) (z:List UB) (U:List UM) (V:List Int) (A B:List W5) (D:List Ix) (E:List Int),(tL Z8) y->(tL KZ) z->(tL Yv) A->(tL Yv) B->(tL VY) D->(tL tU) E->PT (k R S y z U V A B D E) _) (λR S y z U V A B D E h18 h19 h20 h21 h22 h23=>(WC (WC (Od (Od (WH ?_))) (WH ?_)) (WH ?_))) λj2 W=>(WC (W _ _ _ _ _ _ _ _ _ _ ?_ ?_ ?_ ?_ ?_ ?_) (W _ _ _ _ _ _ _ _ _ _ ?_ ?_ ?_ ?_ ?_ ?_)))))))
 all_goals ((try clear ih);simp_all (maxDischargeDepth:=9))⟩
def Qir{N f g}(e:K0 f):PT (Qc2 N f g) (λr=>VZ r.1):=TY.h e
def QiW{N g j}(e:X3 g)(f:tU j):PT (QaM N g j) (λr=>tU r.1):=TY.h ⟨e,f⟩
def Qh6{N e}:PT (Qbq N e) (λr=>K0 r.1):=TY.h trivial
def QjM{N g j}(e:K0 g)(f:VZ j):PT (Qb1 N g j) (λr=>K0 r.1/\tU r.2.1):=TY.h ⟨e,f⟩
def BIG:Nat:=1099511627776
def XcE{ws:List Int}(e:ws.length<=BIG)(N:Nat)(a k:Int)(h:-1<=k/\k<=1000000000000000000):QdT N ws a k =
 some (if 4096<=a/\a<=4096+ws.length then(a-4096,decide (a+k<=4096+ws.length))else(0,false)):=by
 unfold BIG at e;simp only[QdT,UI];rw[Xp (n:=(ws.length:Int)) aa aa,Xp (n:=4096+(ws.length:Int)) aa aa];by_cases f:a<4096
 .grind
 rw[Wi f];by_cases g:a>4096+ws.length
 .grind
 rw[Wi g,Wm aa,Xp (n:=a-4096) aa aa,Xc (n:=a-4096) aa aa,Xc aa aa];grind
def inW(ws:List Int)(a:Int):Prop:=4096<=a/\a<4096+ws.length
instance(ws:List Int)(a:Int):Decidable (inW ws a):=by unfold inW;infer_instance
def ix(a:Int):Nat:=(a-4096).toNat
def Ye{ws:List Int}(g:ws.length<=BIG)(N:Nat)(a:Int):Qbr N ws a=some (if inW ws a then(ws.getD (ix a) 0,0)else(0,2)):=by
 simp only[Qbr,Qf6,XcE g N a 1 aa,Xa];by_cases h:4096<=a/\a<=4096+ws.length
 .simp only[Wm h];by_cases e:inW ws a
  .have f:a+1<=4096+ws.length:=by unfold inW at e;omega
   simp only[Wm e,f,decide_true,Wh,Wa,Xa];have j:(a-4096).toNat<ws.length:=by unfold inW at e;omega
   rw[show((0:Int) != 0)=false from rfl,Wa,Yd aa aa,Xa];simp[ix,List.getD,j]
  have f:¬a+1<=4096+ws.length:=by unfold inW at e;omega
  simp[Wi,e,f,decide_false,W6,Wb,Xa]
 have e:¬inW ws a:=by unfold inW;omega
 simp[Wi,h,e,W6,Wb,Xa]
def ovr(ws l:List Int)(i:Nat):List Int:=ws.take i++l++ws.drop (i+l.length)
def ZF{ws l:List Int}{i:Nat}(h:i+l.length<=ws.length):(ovr ws l i).length=ws.length:=by grind[ovr]
def XfC{ws l:List Int}{i:Nat}(h:i+l.length<=ws.length)(j:Nat):(ovr ws l i)[j]? = if i<=j/\j<i+l.length then l[j-i]? else ws[j]?:=by
 unfold ovr;have e:(ws.take i).length=i:=by simp only[Wl];omega
 grind
def V0{ws l:List Int}{i:Nat}(h:i+l.length<=ws.length)(j:Nat):(ovr ws l i).getD j 0=if i<=j/\j<i+l.length then l.getD (j-i) 0 else ws.getD j 0:=by simp only[Wj,XfC h];grind
def XgY{l:List Int}(y:Int×Bool)(i N:Nat)(ws:List Int)(p:y.1=i)(h:i+l.length<=ws.length)(s:ws.length<=BIG):∀(n k:Nat) (v:List Int),k<=l.length->l.length-k<n->v=ovr ws (l.take k) i ->
 Qcu N l y n (k:Int) v=some (ovr ws l i)
 |0,k,v,_,u,_=>by omega
 |n+1,k,v,D,u,q=>by
  unfold BIG at s;rw[Qcu];have g:(l.take k).length=k:=by simp;omega
  have w:v.length=ws.length:=by rw[q];exact ZF aa
  by_cases z:k<l.length
  .have A:decide ((k:Int)<(l.length:Int))=true:=by simp;omega
   have B:wI (y.1+(k:Int))=((i+k:Nat):Int):=by rw[p,Xc aa aa];simp
   have e3:wI ((k:Int)+1)=((k+1:Nat):Int):=by rw[Xc aa aa];simp
   rw[A,Wb,Yd aa aa,Xa,B,Yd aa aa,Xa,e3];refine XgY y i N ws p h (by unfold BIG;omega) n (k+1) _ aa aa ?_;rw[q];simp only[Iq];apply List.ext_getElem?;intro j;have e:(l.take (k+1)).length=k+1:=by simp only[Wl];omega
   rw[If,ZF aa,XfC aa,XfC aa,g,e];by_cases r:i+k=j
   .subst r;rw[Wm rfl,Wm aa,Wm aa,Us,Wm aa,IU,Wc z]
   rw[Wi r];by_cases f:i<=j/\j<i+k
   .rw[Wm f,Wm aa,Us,Us,Wm aa,Wm aa]
   rw[Wi f,Wi aa]
  grind
def YA(ws:List Int)(a:Int)(k:Nat):Prop:=4096<=a/\a+k<=4096+ws.length
instance(ws:List Int)(a:Int)(k:Nat):Decidable (YA ws a k):=by unfold YA;infer_instance
def ZG{ws l:List Int}(e:ws.length<=BIG)(j:l.length<=BIG){N:Nat}(hN:l.length<N)(a:Int):Qcq N ws a l=some (if YA ws a l.length then(ovr ws l (ix a),0)else([],2)):=by
 simp only[Qcq];rw[XcE e N a _ (by unfold BIG at j;omega),Xa];by_cases h:YA ws a l.length
 .have f:4096<=a/\a<=4096+ws.length:=by unfold YA at h;omega
  have g:a+(l.length:Int)<=4096+ws.length:=by unfold YA at h;omega
  simp only[Wm h,Wm f,g,decide_true,Wh,Wa];rw[Xb (by unfold BIG at e;omega)];have:=XgY (l:=l) (a-4096,true) (ix a) N ws (by unfold ix;omega) (by unfold ix;omega) e N 0 ws aa aa (by simp[ovr]);rw[show((0:Nat):Int)=0 from rfl]at this;rw[this,Xa]
 by_cases f:4096<=a/\a<=4096+ws.length
 .have g:¬a+(l.length:Int)<=4096+ws.length:=by unfold YA at h;omega
  simp only[Wi h,Wm f,g,decide_false,W6,Wb]
 grind
def Z3{ws:List Int}(g:ws.length<=BIG){N:Nat}(hN:1<N)(a v:Int):QcL N ws a v=some (if inW ws a then(ws.set (ix a) v,0)else([],2)):=by
 simp only[QcL];rw[ZG (l:=[v]) g (by unfold BIG;simp) aa,Xa];by_cases h:inW ws a
 .have f:YA ws a [v].length:=by unfold inW at h;unfold YA;simp only[Uz,II];omega
  simp only[Wm h,Wm f];unfold ovr;have e:ix a<ws.length:=by unfold inW at h;unfold ix;omega
  simp[Ie,e]
 have f:¬YA ws a [v].length:=by unfold inW at h;unfold YA;simp only[Uz,II];omega
 simp_all
def XcF{ws:List Int}(g:ws.length<=BIG)(N:Nat)(a:Int)(k:Nat)(q:k<=1000000000):Qdg N ws a (k:Int)=some (if YA ws a k then((ws.drop (ix a)).take k,0)else([],2)):=by
 simp only[Qdg];have j:decide ((k:Int)<0)=false:=Wg aa;rw[j,Wa,XcE g N a _ aa,Xa];unfold BIG at g;by_cases h:YA ws a k
 .have e:4096<=a/\a<=4096+ws.length:=by unfold YA at h;omega
  have f:a+(k:Int)<=4096+ws.length:=by unfold YA at h;omega
  simp only[Wm h,Wm e,f,decide_true,Wh,Wa];rw[Xc (n:=a-4096+(k:Int)) aa aa,Xb aa,Xb aa];have p:(a-4096+(k:Int)).toNat-(a-4096).toNat=k:=aa;rw[p];rfl
 by_cases e:4096<=a/\a<=4096+ws.length
 .have f:¬a+(k:Int)<=4096+ws.length:=by unfold YA at h;omega
  simp only[Wi h,Wm e,f,decide_false,W6,Wb]
 grind
def XfD{ws:List Int}(j:ws.length<=BIG){N:Nat}(f a:Int)(k:Nat)(p:k<=1000000000)(hN:k<N):QfJ N ws f a (k:Int) =
 some (if YA ws a k/\YA ws f k then(ovr ws ((ws.drop (ix a)).take k) (ix f),0)else([],2)):=by
 simp only[QfJ];rw[XcF j N a k p,Xa];by_cases h:YA ws a k
 .have e:((ws.drop (ix a)).take k).length=k:=by unfold YA at h;simp[ix];omega
  simp only[Wm h];rw[show((0:Int) != 0)=false from rfl,Wa,ZG j (by unfold BIG;omega) (by rw[e];exact hN),Xa,e];by_cases g:YA ws f k
  .rw[Wm g,Wm ⟨h,g⟩]
  rw[Wi g,Wi (λq=>g q.2)]
 simp_all
def XN(d:Wv):Bool:=decide (0<=d.k/\d.k<=3/\0<=d.n/\d.n<=255)&&(if d.k=1 then decide (d.n<=32)&&decide (d.Map % 18446744073709551616<2 ^ d.n.toNat)else decide (d.Map=0))
def Zz(N:Nat)(d:Wv):Qc9 N d=some (XN d):=by
 simp only[Qc9,UI,XN];by_cases f:d.k<0
 .rw[Wm f,Wg aa,UH]
 rw[Wi f];by_cases g:d.k>3
 .rw[Wm g,Wg aa,UH]
 rw[Wi g];by_cases h:d.n<0
 .rw[Wm h,Wg aa,UH]
 rw[Wi h];by_cases j:d.n>255
 .rw[Wm j,Wg aa,UH]
 rw[Wi j,Wd (p:=0<=d.k/\d.k<=3/\0<=d.n/\d.n<=255) aa,W9];by_cases q:d.k=1
 .rw[Wm q,q,show((1:Int) != 1)=false from rfl,Wa];by_cases e:d.n<=32
  .rw[Wm e,Xp (n:=d.n) aa aa,Xb aa,XmN aa aa,Xcm,Wd e,W9]
  rw[Wi e,Wg e,UH]
 grind
def XO{d:Wv}(h:XN d=true):0<=d.k/\d.k<=3/\0<=d.n/\d.n<=255:=by unfold XN at h;simp_all
def Xw(d:Wv):Int:=if XN d then d.n+1 else 0
def XW(N:Nat)(d:Wv):QcU N d=some (Xw d):=by
 simp only[QcU,Zz,Xa,Xw];cases h:XN d with
 |false=>rfl
 |true=>have:=XO h;simp[Xc (n:=d.n+1) aa aa]
def XmP(d:Wv):0<=Xw d/\Xw d<=256:=by
 unfold Xw;split
 .rename_i h;have:=XO h;omega
 omega
def ZH(d:Wv):Int:=wU (wU (wU (1+wU (4*wU d.k))+wU (16*wU d.n))+ZO .u64 (wU d.Map) 16)
def KO(N:Nat)(d:Wv):QcH N d=some (if XN d then(ZH d,0)else(0,1)):=by simp only[QcH,Zz,Xa];cases h:XN d<;>rfl
def XbR(w:Int):Wv:=⟨wI (Zc .u64 (YO .u64 w 2) 3),wI (Zc .u64 (YO .u64 w 4) 4095),wW (YO .u64 w 16)⟩
def okH(w:Int):Bool:=XN (XbR w)&&(ZH (XbR w)==w)
def Zq(w:Int):Wv:=if okH w then XbR w else⟨0,0,0⟩
def ZR(N:Nat)(w:Int):QcI N w=some (Zq w,okH w):=by simp only[QcI];rw[KO N (Wv.mk _ _ _),Xa];unfold Zq okH XbR;grind
def Kc(w:Int):XN (Zq w)=true:=by
 unfold Zq;split
 .rename_i h;unfold okH at h;simp_all
 rfl
def XeM(w:Int):Xw (Zq w)=(Zq w).n+1/\1<=Xw (Zq w)/\Xw (Zq w)<=256:=by have h:=Kc w;have:=XO h;unfold Xw;grind
def KI(d:Wv)(i:Int):Bool:=XN d&&(decide (0<=i/\i<d.n)&&(decide (d.k=2)||(decide (d.k=1)&&(Zc .u32 (YO .u32 d.Map (wU i)) 1==1))))
def KP(N:Nat)(d:Wv)(i:Int):Qcm N d i=some (KI d i):=by
 simp only[Qcm,Zz,Xa,KI,UI];cases h:XN d with
 |false=>rfl
 |true=>
  simp only[Wh,Wa,W9];by_cases e:i<0
  .rw[Wm e,Wg aa,UH]
  rw[Wi e];by_cases f:i>=d.n
  .rw[Wm f,Wg aa,UH]
  rw[Wi f,Wd (p:=0<=i/\i<d.n) aa,W9,Xb (VW i).1];grind
def YC(d:Wv):Nat->Int->List Int
 |0,_=>[]
 |k+1,i=>(if KI d i then[i]else[])++YC d k (i+1)
def X5(d:Wv):List Int:=if XN d then YC d d.n.toNat 0 else[]
def K8{d:Wv}:∀{k:Nat} {i x:Int},x∈YC d k i->i<=x/\x<i+k/\KI d x=true
 |0,i,x,h=>by simp_all[YC]
 |k+1,i,x,h=>by
  simp only[YC,Wt]at h;rcases h with h|h
  .grind
  have:=K8 h;grind
def Vs{d:Wv}:∀{k:Nat} {i:Int},(YC d k i).length<=k
 |0,i=>by simp[YC]
 |k+1,i=>by have:=Vs (d:=d) (k:=k) (i:=i+1);grind[YC,WJ]
def V1(N:Nat)(d:Wv)(f:XN d=true):∀(n:Nat) (i:Int) (v:List Int),0<=i->i<=d.n->(d.n-i).toNat<n->v.length<=1000-(d.n-i).toNat->v.length+(d.n-i).toNat<=1000 ->
 Qcb N d n i v=some (v++YC d (d.n-i).toNat i)
 |0,i,v,_,_,h,_,_=>by omega
 |n+1,i,v,j,p,q,r,s=>by
  have hb:=XO f;rw[Qcb];by_cases h:i<d.n
  .obtain⟨k,g⟩:∃k,(d.n-i).toNat=k+1:=⟨(d.n-i).toNat-1,aa⟩
   have e:(d.n-(i+1)).toNat=k:=aa;rw[Wd h,Wb,Zz,Xa,f,Wb,KP,Xa,g,Xc (n:=i+1) aa aa];simp only[YC];cases hp:KI d i with
   |true=>rw[Wb,Xb aa,V1 N d f n (i+1) _ aa aa aa (by grind) (by grind),e];simp
   |false=>rw[Wa,V1 N d f n (i+1) _ aa aa aa aa aa,e];simp
  rw[Wg h,Wa,show(d.n-i).toNat=0 by omega];simp[YC]
def Xdl{N:Nat}(hN:300<N)(d:Wv):Qfw N d=some (X5 d):=by
 simp only[Qfw,X5];cases e:XN d with
 |true=>have hb:=XO e;rw[V1 N d e N 0 [] aa aa aa ab (by grind),Xa];simp
 |false=>
  obtain⟨n,rfl⟩:∃n,N=n+1:=⟨N-1,aa⟩
  simp[Qcb,Zz,Xa,e,Wa]
def Xbm(w:Int):Bool:=decide (w.tmod 4=2)&&decide (YO .u64 w 2<4294967296)
def KJ(N:Nat)(w:Int):QcJ N w=some (if Xbm w then(YO .u64 w 2,true)else(0,false)):=by simp only[QcJ,Xbm,UI];grind
def Vt(N:Nat)(a:Int):QcZ N a=some (if a>=4294967296 then(0,1)else(wU (wU (4*a)+2),0)):=by simp only[QcZ,UI];grind
def X9(c:WN):Bool:=decide (16<=c.W/\c.W<=64/\c.W % 4=0/\8<=c.p/\c.p<=64)
theorem Xj{c:WN}:X9 c=true↔16<=c.W/\c.W<=64/\c.W % 4=0/\8<=c.p/\c.p<=64:=by simp[X9]
def Zu(N:Nat)(c:WN):QaV N c=some (X9 c):=by simp only[QaV,UI,X9];grind
def K9(c:WN):Int:=if X9 c then c.p / 4 else 0
def XbS(N:Nat)(c:WN):Qf7 N c=some (K9 c):=by
 simp only[Qf7,Zu,Xa,K9];cases h:X9 c with
 |false=>rfl
 |true=>have:=Xj.1 h;simp;rw[UQ aa,Xc aa aa]
def smC(c:WN):Int:=if X9 c then c.W / 4 else 0
def XgZ(N:Nat)(c:WN):QdD N c=some (smC c):=by
 simp only[QdD,Zu,Xa,smC];cases h:X9 c with
 |false=>rfl
 |true=>have:=Xj.1 h;simp;rw[UQ aa,Xc aa aa]
def XF(c:WN)(w:Int):Int:=
 if X9 c=true/\1<=w then(if w<=c.W / 4 then 0 else if c.W>=w then 1 else if 2*c.W>=w then 2 else if 3*c.W>=w then 3 else if 4*c.W>=w then 4 else -1)else -1
def XcG(N:Nat)(c:WN)(w:Int)(e:X9 c=true)(k:Int)(f:1<=k/\k<=4)(n:Nat):QcT N c w (n+1) k=if k*c.W>=w then some (.ret k)else QcT N c w n (k+1):=by
 have h:=Xj.1 e;have g:0<=k*c.W/\k*c.W<=256:=by
  constructor
  .exact Int.mul_nonneg aa aa
  have:=Int.mul_le_mul (a:=k) (b:=c.W) (c:=4) (d:=64) aa aa aa aa;omega
 rw[QcT,Wd aa,Wb,UI,Xc (n:=k*c.W) aa aa,Xc (n:=k+1) aa aa]
def ZS{N:Nat}(hN:10<=N)(c:WN)(w:Int):Qe5 N c w=some (XF c w):=by
 simp only[Qe5,Zu,XgZ,Xa,XF,smC];cases e:X9 c with
 |false=>simp
 |true=>
  simp only[Wh,Wa,if_true,UI];by_cases g:w<1
  .rw[Wm g,Wi (show¬(True/\1<=w)fromλh=>aa)]
  rw[Wi g,Wm (show True/\1<=w from⟨trivial,aa⟩)];by_cases f:w<=c.W / 4
  .rw[Wm f,Wm f]
  rw[Wi f,Wi f];obtain⟨n,rfl⟩:∃n,N=n+5:=⟨N-5,aa⟩
  rw[XcG _ c w e 1 aa,XcG _ c w e (1+1) aa,XcG _ c w e (1+1+1) aa,XcG _ c w e (1+1+1+1) aa];rw[show QcT (n+5) c w (n+1) (1+1+1+1+1)=some (.nxt ()) by rw[QcT,Wg aa,Wa]];simp;by_cases j:c.W>=w
  .simp only[Wm j,Xa,XA]
  simp only[Wi j];by_cases k:2*c.W>=w
  .simp only[Wm k,Xa,XA]
  simp only[Wi k];by_cases p:3*c.W>=w
  .simp only[Wm p,Xa,XA]
  simp only[Wi p];by_cases q:4*c.W>=w
  .simp only[Wm q,Xa,XA]
  simp[Wi,q,Xa,Xo]
def Ja(c:WN)(w:Int):-1<=XF c w/\XF c w<=4:=by unfold XF;omega
def XP{c:WN}(e:X9 c=true){i:Int}(f:0<=i)(g:i<c.p):0<=i*c.W/\i*c.W+c.W<=c.p*c.W/\c.p*c.W<=4096:=by
 have h:=Xj.1 e;refine⟨Int.mul_nonneg f aa,?_,?_⟩
 .have:=Ut (a:=i+1) (b:=c.p) (c:=c.W) aa aa;grind
 have:=Int.mul_le_mul (a:=c.p) (b:=c.W) (c:=64) (d:=64) aa aa aa aa;omega
def Xd(c:WN)(p o:Int):Int:=4096+p*c.W+o
def ZT(N:Nat)(c:WN)(p o:Int):QbE N c p o=some (if X9 c=false then(0,1)else if 0<=p/\p<c.p/\0<=o/\o<c.W then(Xd c p o,0)else(0,2)):=by
 simp only[QbE,Zu,Xa,UI];cases e:X9 c with
 |false=>simp
 |true=>
  rw[Wi (show¬(true=false) by simp)];by_cases f:p<0
  .grind
  rw[Wi f];by_cases g:p>=c.p
  .grind
  rw[Wi g];by_cases h:o<0
  .grind
  rw[Wi h];by_cases j:o>=c.W
  .simp_all
  rw[Wi j,Wm aa];have k:=XP e (i:=p) aa aa;rw[Xc (n:=p*c.W) aa aa,Xc (n:=4096+p*c.W) aa aa,Xc (n:=4096+p*c.W+o) aa aa,Xp aa aa];rfl
def K5(N:Nat)(c:WN)(a:Int):Qch N c a=some (if X9 c=false then(0,0,1)else if 4096<=a/\a<4096+c.p*c.W then((a-4096) / c.W,(a-4096) % c.W,0)else(0,0,2)):=by
 simp only[Qch,Zu,Xa,UI];cases e:X9 c with
 |false=>simp
 |true=>
  have h:=Xj.1 e;have k:=XP e (i:=0) aa aa;simp only[Wh,Wa];rw[Wi (show¬(true=false) by simp)];rw[Xc (n:=c.p*c.W) aa aa,Xc (n:=4096+c.p*c.W) aa aa,Xp (n:=4096+c.p*c.W) aa aa];by_cases f:a<4096
  .grind
  rw[Wi f];by_cases g:a>=4096+c.p*c.W
  .simp_all
  rw[Wi g,Wm aa,Xb aa,Xb aa];rw[Xp (n:=a-4096) aa aa,Xc (n:=a-4096) aa aa,UQ aa,IE aa];have hd:0<=(a-4096) / c.W:=Int.ediv_nonneg aa aa;have j:(a-4096) / c.W<=a-4096:=Int.ediv_le_self _ aa;rw[Xc aa aa]
def XfE{c:WN}(e:X9 c=true){a:Int}(f:4096<=a)(g:a<4096+c.p*c.W):
 0<=(a-4096) / c.W/\(a-4096) / c.W<c.p/\0<=(a-4096) % c.W/\(a-4096) % c.W<c.W/\a=Xd c ((a-4096) / c.W) ((a-4096) % c.W):=by have h:=Xj.1 e;refine⟨Int.ediv_nonneg aa aa,Int.ediv_lt_of_lt_mul aa aa,Int.emod_nonneg _ aa,Int.emod_lt_of_pos _ aa,?_⟩;have:=Int.mul_ediv_add_emod (a-4096) c.W;unfold Xd;grind
def XpA{c:WN}(h:X9 c=true){p o:Int}(f:0<=o)(g:o<c.W):(Xd c p o-4096) / c.W=p/\(Xd c p o-4096) % c.W=o:=by
 have e:Xd c p o-4096=o+c.W*p:=by unfold Xd;rw[Int.mul_comm p];omega
 rw[e,Int.add_mul_ediv_left _ _ aa,Int.add_mul_emod_self_left,Int.ediv_eq_zero_of_lt f g,Int.emod_eq_of_lt f g];omega
def Zm:Ws:=⟨0,0,0,0⟩
def pg(ps:List Ws)(i:Int):Ws:=ps.getD i.toNat Zm
def YK{ps:List Ws}{i:Int}{p:Ws}(h:Xe ps i=some p):pg ps i=p:=by have:=(XaN.1 h).2;simp[pg,this]
def Xr{ps:List Ws}{i:Int}(e:0<=i)(f:i<ps.length):Xe ps i=some (pg ps i):=by rw[Yd e f];have:i.toNat<ps.length:=aa;simp[pg,List.getD,this]
def Xg0(N:Nat)(ps:List Ws)(sp:Int)(w:ps.length<=BIG):∀(n:Nat) (c i:Int),0<=i->0<=c->c<=BIG*2->i<=BIG*2->(ps.length:Int)+c-i<=BIG*2->(ps.length-i).toNat<n ->
 Ok (QdE N ps sp n c i) λr=>c<=r/\∀m,0<=m->m<r-c->i+m<ps.length/\(pg ps (i+m)).k=3
 |0,c,i,_,_,_,_,_,h=>by omega
 |n+1,c,i,g,y,q,z,A,B=>by
  unfold BIG at *;refine Wq (λh=>?_) λh=>We ⟨Ux _,λm e f=>aa⟩;have e:i<ps.length:=by simpa using h
  refine Ok.get g e λp hp=>Wq (λj=>?_) λj=>We ⟨Ux _,λm e f=>aa⟩;refine Ok.get g e λD s=>Wq (λu=>?_) λj=>We ⟨Ux _,λm e f=>aa⟩;rw[Xc (n:=c+1) aa aa,Xc (n:=i+1) aa aa];refine(Xg0 N ps sp ag n (c+1) (i+1) aa aa (by unfold BIG;omega) (by unfold BIG;omega) (by unfold BIG;omega) aa).mono λr v=>⟨aa,λm f E=>?_⟩
  by_cases G:m=0
  .simp_all[Int.add_zero,YK,hp]
  have:=v.2 (m-1) aa aa;grind
def XmQ{N:Nat}{ps:List Ws}(sp i:Int)(f:ps.length<N)(e:ps.length<=100000000)(g:0<=i)(j:i<=100000000):Ok (Qfh N ps i sp) λr=>0<=r/\∀m,1<=m->m<=r->i+m<ps.length/\(pg ps (i+m)).k=3:=by rw[Qfh,Xc (n:=i+1) aa aa];refine WI (Xg0 N ps sp (by unfold BIG;omega) N 0 (i+1) aa aa aa (by unfold BIG;omega) (by unfold BIG;omega) aa) λr _ h=>We ⟨h.1,λm p q=>?_⟩;have:=h.2 (m-1) aa aa;grind
def XfF(N:Nat)(n:Int):QgZ N n=some (decide (0<=n/\n<=2147483647)):=by simp only[QgZ,UI];grind
structure O4(h:Wk)(i:Int):Prop where
 kind:0<=(pg h.p i).k/\(pg h.p i).k<=3
 space:0<=(pg h.p i).s/\(pg h.p i).s<=1
 pins:0<=(pg h.p i).P/\(pg h.p i).P<=2147483647
 free:(pg h.p i).k=0->pg h.p i=Zm
 small:(pg h.p i).k=1->0<=(pg h.p i).u/\(pg h.p i).u<=h.c.W
 large:(pg h.p i).k=2->1<=XF h.c (pg h.p i).u/\∀m,1<=m->m<XF h.c (pg h.p i).u->i+m<h.p.length/\(pg h.p (i+m)).k=3
structure Uy(h:Wk):Prop where
 conf:X9 h.c=true
 words:(h.w.length:Int)=h.c.p*h.c.W
 pages:(h.p.length:Int)=h.c.p
 space:0<=h.s/\h.s<=1
 bump:h.b = -1\/(0<=h.b/\h.b<h.p.length/\(pg h.p h.b).k=1)
 pgs:∀i:Int,0<=i->i<h.p.length->O4 h i
 first:(pg h.p 0).k≠3
def PL(h:Wk)(i:Int):Ex Bool Unit->Prop
 |.ret a=>a=false
 |.nxt _=>(∀j,i<=j->j<h.p.length->O4 h j)/\(i=0->(0:Int)<h.p.length->(pg h.p 0).k≠3)
def XeN{N:Nat}{h:Wk}(D:X9 h.c=true)(hN:100000<N)(L:(h.p.length:Int)=h.c.p):∀(n:Nat) (due i:Int),0<=i->0<=due->due<=4->(h.p.length-i).toNat<n->(i=0->due=0) ->
 Ok (QaG N h n due i) (PL h i)
 |0,due,i,_,_,_,M,_=>by omega
 |n+1,due,i,E,hd,g,M,O=>by
  have hv:=Xj.1 D;refine Wq (λG=>?_) λG=>We ⟨λj R k=>?_,λS q=>?_⟩;rotate_left
  .grind
  .grind
  have y:i<h.p.length:=by simpa using G
  refine Ok.get E y λp hp=>?_;have z:=YK hp;refine Wq (λ_=>We rfl) λg1=>?_;refine Wq (λ_=>We rfl) λg2=>?_;refine Wq (λ_=>We rfl) λg3=>?_;rw[XfF,Xa];refine Wq (λ_=>We rfl) λg4=>?_;simp at g1 g2 g3 g4;have next:∀(f:Int),0<=f->f<=4->O4 h i->Ok (QaG N h n (if 0<wI (f-1)then wI (f-1)else 0) (wI (i+1))) (PL h i):=by
   intro f U V A;rw[Xc (n:=i+1) aa aa,Xc (n:=f-1) aa aa];refine(XeN D hN L n _ (i+1) aa aa aa aa aa).mono λe I=>?_;cases e with
   |ret a=>exact I
   |nxt b=>
   have⟨k1,k2⟩:=I;refine⟨λj R k=>?_,λS q hk=>?_⟩
   .by_cases B:j=i
    .subst B;exact A
    exact k1 j aa k
   simp_all
  refine Im ?_;refine Wq (λW=>Wq (λ_=>We rfl) λr=>?_) λW=>Im (Wq (λr=>Wq (λ_=>We rfl) λJ=>Wq (λ_=>We rfl) λw=>?_) λr=>Im (Wq (λJ=>?_) λJ=>Wq (λw=>Wq (λ_=>We rfl) λK=>Wq (λ_=>We rfl) λq5=>?_) λw=>We rfl))
  .refine next due hd g ?_
   simp at r;have v:pg h.p i=Zm:=by rw[z];cases p;simp only at r;obtain⟨rfl,rfl,rfl,rfl⟩:=r;rfl
   refine⟨by rw[v];decide,by rw[v];decide,by rw[v];decide,λ_=>v,λe=>?_,λe=>?_⟩
   .rw[v]at e;cases e
   simp_all
  .refine next due hd g ?_
   exact⟨by simp_all,by simp_all,by simp_all,λe=>by simp_all,λ_=>by simp_all,λe=>by simp_all⟩
  .rw[ZS aa,Xa];refine Wq (λ_=>We rfl) λw=>?_;refine WI (XmQ (N:=N) (ps:=h.p) p.s i aa aa E aa) λt _ ht=>?_;refine Wq (λ_=>We rfl) λK=>?_;have hr:=Ja h.c p.u;have Y:1<=XF h.c p.u:=by have:=WV w;omega
   have Z:XF h.c p.u-1<=t:=by have:=WV K;rw[Xc aa aa]at this;omega
   refine next _ aa aa ?_
   exact⟨by simp_all,by simp_all,by simp_all,λe=>by simp_all,λe=>by simp_all,λ_=>by grind⟩
  refine next due hd g ?_
  exact⟨by simp_all,by simp_all,by simp_all,λe=>by simp_all,λe=>by simp_all,λe=>by simp_all⟩
def YZ{N:Nat}(hN:100000<N){h:Wk}(hw:h.w.length<=100000)(hp:h.p.length<=100000):Ok (Qab N h) λb=>b=true->Uy h:=by
 rw[Qab,Zu,Xa];refine Wq (λ_=>We λe=>by cases e) λg1=>?_;have f:X9 h.c=true:=by simpa using g1
 have B:=Xj.1 f;have D:=XP f (i:=0) aa aa;refine Wq (λ_=>We λe=>by cases e) λg2=>?_;refine Wq (λ_=>We λe=>by cases e) λg3=>?_;refine Wq (λ_=>We λe=>by cases e) λg4=>?_;refine Wq (λ_=>We λe=>by cases e) λg5=>?_;have v:(h.w.length:Int)=h.c.p*h.c.W:=by
  have:(h.w.length:Int)=wI (h.c.p*h.c.W):=by simpa using g2
  rwa[Xc aa aa]at this
 have e3:(h.p.length:Int)=h.c.p:=by simpa using g3
 have e4:0<=h.s/\h.s<=1:=⟨by simpa using g4,by simpa using g5⟩
 have main:(h.b = -1\/(0<=h.b/\h.b<h.p.length/\(pg h.p h.b).k=1))->Ok (bnd (QaG N h N 0 0) λe=>exK e (λr=>some r) λy=>some true) λb=>b=true->Uy h:=by
  intro hb;refine IS (XeN (N:=N) (h:=h) f hN e3 N 0 0 aa aa aa aa aa) (λa g=>?_) λb g=>We λ_=>?_
  .have z:a=false:=g;subst z;exact We λe=>by cases e
  have⟨k1,k2⟩:=g;exact⟨f,v,e3,e4,hb,k1,k2 rfl aa⟩
 refine Im (Wq (λj=>Wq (λ_=>We λe=>by cases e) λb2=>Wq (λ_=>We λe=>by cases e) λA=>?_) λj=>main (.inl (by simpa using j)));have q:0<=h.b:=by simpa using b2
 have u:h.b<h.p.length:=by simpa using A
 refine Ok.get q u λp hp=>Wq (λ_=>We λe=>by cases e) λE=>main (.inr ⟨q,u,?_⟩);rw[YK hp];grind
def dlt{a b:Int}(h:decide (a<b)=true):a<b:=Wy h
def Y6{ps:List Ws}{i j:Int}(p:Ws)(f:0<=i)(e:i<ps.length)(g:0<=j):pg (ps.set i.toNat p) j=if j=i then p else pg ps j:=by unfold pg;grind
def Xdm(N:Nat)(ps:List Ws)(e:ps.length<=100000000):∀(n:Nat) (c i:Int),0<=i->0<=c->c<=i->i<=ps.length->(ps.length-i).toNat<n->Ok (QbM N ps n c i) λr=>0<=r/\r<=ps.length
 |0,c,i,_,_,_,_,h=>by omega
 |n+1,c,i,f,g,j,q,s=>by
  refine Wq (λh=>?_) λh=>We ⟨g,aa⟩;have k:i<ps.length:=dlt h;refine Ok.get f k λp hp=>?_;rw[Xc (n:=c+1) aa aa,Xc (n:=i+1) aa aa];refine Wq (λ_=>?_) λ_=>?_
  .exact Xdm N ps e n (c+1) (i+1) aa aa aa aa aa
  exact Xdm N ps e n c (i+1) aa aa aa aa aa
def V2{N:Nat}{ps:List Ws}(e:ps.length<=100000000)(hN:ps.length<N):Ok (QcN N ps) λr=>0<=r/\r<=ps.length:=
 WI (Xdm N ps e N 0 0 aa aa aa aa aa) λr _ h=>We h
def RunOK(ps:List Ws)(i k:Int):Prop:=0<=i/\1<=k/\i+k<=ps.length/\∀m,0<=m->m<k->(pg ps (i+m)).k=0
def XcH(N:Nat)(ps:List Ws)(u:ps.length<=100000000):∀(n:Nat) (i:Int) (rs:List Ow),0<=i->i<=ps.length->(ps.length-i).toNat<n->rs.length<=i->(∀r∈rs,RunOK ps r.O r.Len) ->
 Ok (QbF N ps n i rs) λout=>out.length<=ps.length/\∀r∈out,RunOK ps r.O r.Len
 |0,i,rs,_,_,h,_,_=>by omega
 |n+1,i,rs,z,I,J,A,g=>by
  refine Wq (λh=>?_) λh=>We ⟨aa,g⟩;have k:i<ps.length:=dlt h;refine Ok.get z k λp hp=>?_;have D:=YK hp;rw[Xc (n:=i+1) aa aa];refine Wq (λ_=>XcH N ps u n (i+1) rs aa aa aa aa g) λK=>?_;have new:Ok (grd ((rs.length+1)*16<=140737488355328) (QbF N ps n (i+1) (rs++[Ow.mk i 1]))) λout=>out.length<=ps.length/\∀r∈out,RunOK ps r.O r.Len:=by
   refine Uc aa (XcH N ps u n (i+1) _ aa aa aa (by simp_all) λr f=>?_);rcases Wt.1 f with f|f
   .simp_all
   have:r=Ow.mk i 1:=by simpa using f
   subst this;refine⟨z,by show(1:Int)<=1;omega,by show i+1<=_;omega,λm k E=>?_⟩;grind
  refine Uc aa (Im (Wq (λj=>?_) λ_=>new));have j:0<(rs.length:Int):=Wy j;rw[Xc (n:=(rs.length:Int)-1) aa aa];refine Ok.get aa aa λq s=>Ok.get aa aa λq' v=>?_;obtain rfl:q=q':=WA (s.symm.trans v);have e:=g q (YI s);have hb:=e.2.2.1;rw[Xc (n:=q.O+q.Len) (by have:=e.1;have:=e.2.1;omega) aa];refine Wq (λB=>?_) λ_=>new;have B:q.O+q.Len=i:=by simpa using B
  refine Ok.get aa aa λq2 w=>Ok.get aa aa λq3 y=>?_;obtain rfl:q=q2:=WA (s.symm.trans w);obtain rfl:q=q3:=WA (s.symm.trans y);have:=e.1;have:=e.2.1;rw[Xc (n:=q.Len+1) aa aa];refine XcH N ps u n (i+1) _ aa aa aa (by grind) λr f=>?_;rcases W0 f with f|f
  .simp_all
  subst f;refine⟨e.1,by show 1<=q.Len+1;omega,by show q.O+(q.Len+1)<=_;omega,λm k E=>?_⟩;by_cases G:m<q.Len
  .exact e.2.2.2 m k G
  grind
def Xjy{N:Nat}{ps:List Ws}(e:ps.length<=100000000)(hN:ps.length<N):Ok (Qgu N ps) λout=>out.length<=ps.length/\∀r∈out,RunOK ps r.O r.Len:=
 WI (XcH N ps e N 0 [] aa aa aa ab ab) λr _ h=>We h
def RunOK.less{ps:List Ws}{i k j:Int}(h:RunOK ps i k)(e:1<=j)(f:j<=k):RunOK ps i j:=⟨h.1,e,by have:=h.2.2.1;omega,λm a b=>h.2.2.2 m a aa⟩
def Xg1(N:Nat)(ps:List Ws)(k:Int)(rs:List Ow)(v:rs.length<=100000000)(g:∀r∈rs,RunOK ps r.O r.Len):∀(n:Nat) (i:Int),0<=i->i<=rs.length->(rs.length-i).toNat<n ->
 Ok (QbL N k rs n i) λe=>∀a,e=.ret a->RunOK ps a k
 |0,i,_,_,h=>by omega
 |n+1,i,s,w,y=>by
  refine Wq (λh=>?_) λh=>We λa e=>by grind
  have u:i<rs.length:=dlt h;rw[Xc (n:=i+1) aa aa];have next:=Xg1 N ps k rs v g n (i+1) aa aa aa
  refine Wq (λj=>?_) λ_=>next
  refine Ok.get s u λp hp=>Wq (λf=>?_) λ_=>next
  refine Ok.get s u λp' q=>We λa e=>?_;obtain rfl:p=p':=WA (hp.symm.trans q);cases e;have j:1<=k:=Wy j;have f:k<=p.Len:=Wy f;exact(g p (YI hp)).less j f
def Zh{N:Nat}{ps:List Ws}(k:Int)(e:ps.length<=100000000)(hN:ps.length<N):Ok (Qbt N ps k) λi=>i = -1\/RunOK ps i k:=by refine WI (Xjy e hN) λrs _ h=>?_;refine IS (Xg1 N ps k rs aa h.2 N 0 aa aa aa) (λa q=>We (.inr (q a rfl))) λ_ _=>We (.inl rfl)
def Taken(ps out:List Ws)(i k:Int)(first rest:Ws):Prop:=out.length=ps.length/\∀j,0<=j->pg out j=if j=i then first else if i<=j/\j<i+k then rest else pg ps j
def Xjz(N:Nat)(ps:List Ws)(i k:Int)(f r:Ws)(B:ps.length<=100000000)(D:0<=i)(E:i+k<=ps.length):∀(n:Nat) (m:Int) (v:List Ws),0<=m->(m<=k\/m=0)->(k-m).toNat<n->v.length=ps.length->(∀j,0<=j->pg v j=if i<=j/\j<i+m then r else pg ps j) ->
 Ok (Qee N i k f r n m v) λe=>(∀o,e=.nxt o->o.length=ps.length/\∀j,0<=j->pg o j=if i<=j/\j<i+k then r else pg ps j)/\(∀o,e=.ret o->o.2=20/\o.1=[])/\((∀j,m<=j->j<k->(pg ps (i+j)).k=0)->∀o,e≠.ret o)
 |0,m,v,_,_,h,_,_=>by omega
 |n+1,m,v,J,K,L,z,q=>by
  refine Wq (λh=>?_) λh=>We ⟨λo e=>?_,λo e=>(by cases e),λ_ o e=>(by cases e)⟩;rotate_left
  .cases e;have:¬m<k:=WV h;refine⟨z,λj u=>?_⟩;rw[q j u];by_cases A:i<=j/\j<i+m
   .rw[Wm A,Wm aa]
   rw[Wi A,Wi aa]
  have G:m<k:=dlt h;rw[Xc (n:=i+m) aa aa,Xc (n:=m+1) aa aa];refine Ok.get aa aa λp hp=>?_;have w:p=pg ps (i+m):=by rw[←YK hp,q _ aa,Wi aa]
  refine Wq (λs=>We ⟨λo e=>(by cases e),λo e=>(by cases e;exact⟨rfl,rfl⟩),λg=>?_⟩) λs=>?_
  .have:=g m aa G;rw[←w]at this;simp[this]at s
  refine Ok.get aa aa λM I=>?_;refine(Xjz N ps i k f r B D E n (m+1) _ aa aa aa (by rw[WL];exact z) λj u=>?_).mono λe y=>⟨y.1,y.2.1,λg=>y.2.2 λj a b=>g j aa b⟩
  rw[Y6 r aa aa u,q j u];grind
def XjA{N:Nat}{ps:List Ws}(i k:Int)(f r:Ws)(D:ps.length<=1000000)(hN:1000000<N)(z:1<=k)(A:k<=1000000):Ok (Qdh N ps i k f r) λo=>(o.2=0->0<=i/\i+k<=ps.length/\Taken ps o.1 i k f r)/\(o.2≠0->o.1=[])/\(RunOK ps i k->o.2=0):=by
 refine Wq (λh=>We ⟨λe=>aa,λ_=>rfl,λg=>?_⟩) λv=>?_
 .have:=Wy h;have:=g.1;omega
 have v:¬i<0:=WV v;refine Wq (λh=>We ⟨λe=>aa,λ_=>rfl,λg=>?_⟩) λw=>?_
 .have:=Wy h;have:=g.2.2.1;omega
 have w:¬i>=(ps.length:Int):=WV w;rw[Xc (n:=(ps.length:Int)-i) aa aa];refine Wq (λh=>We ⟨λe=>aa,λ_=>rfl,λg=>?_⟩) λy=>?_
 .have:=Wy h;have:=g.2.2.1;omega
 have y:¬k>(ps.length:Int)-i:=WV y;refine Uc aa (IS (Xjz N ps i k f r aa aa aa N 0 ps aa aa aa rfl λj s=>(by grind)) (λa q=>?_) λo q=>?_)
 .have⟨B,u⟩:=q.2.1 a rfl;refine We ⟨λe=>aa,λ_=>u,λg=>?_⟩;exact absurd rfl (q.2.2 (λj a b=>g.2.2.2 j a b) a)
 have⟨B,u⟩:=q.1 o rfl;refine Ok.get aa aa λp hp=>We ⟨λ_=>⟨aa,aa,⟨by simp_all,λj s=>?_⟩⟩,λe=>absurd rfl e,λ_=>rfl⟩;rw[Y6 f aa aa s,u j s]
def Xdn{N:Nat}{ps:List Ws}(i sp:Int)(k:ps.length<=1000000)(hN:1000000<N):Ok (QbP N ps i sp) λo=>(o.2=0->0<=i/\i+1<=ps.length/\Taken ps o.1 i 1 ⟨1,sp,0,0⟩ ⟨0,0,0,0⟩)/\(o.2≠0->o.1=[])/\(RunOK ps i 1->0<=sp->sp<=1->o.2=0):=by
 refine Wq (λh=>We ⟨λe=>aa,λ_=>rfl,λ_ g j=>?_⟩) λg=>?_
 .grind
 refine Wq (λh=>We ⟨λe=>aa,λ_=>rfl,λ_ g j=>?_⟩) λj=>?_
 .grind
 refine WI (XjA i 1 ⟨1,sp,0,0⟩ ⟨0,0,0,0⟩ k hN aa aa) λy _ f=>We ⟨f.1,f.2.1,λp _ _=>f.2.2 p⟩
def XmR{N:Nat}{ps:List Ws}(c:WN)(i sp w:Int)(g:ps.length<=1000000)(hN:1000000<N):Ok (QdU N c ps i sp w) λo=>(o.2=0->0<=i/\i+XF c w<=ps.length/\1<=XF c w/\Taken ps o.1 i (XF c w) ⟨2,sp,w,0⟩ ⟨3,sp,0,0⟩)/\(o.2≠0->o.1=[]):=by rw[QdU,ZS aa,Xa];refine Wq (λh=>We ⟨λe=>(by cases e),λ_=>rfl⟩) λf=>?_;have f:¬XF c w<1:=WV f;refine Wq (λh=>We ⟨λe=>(by cases e),λ_=>rfl⟩) λk=>?_;refine Wq (λh=>We ⟨λe=>(by cases e),λ_=>rfl⟩) λp=>?_;have q:=Ja c w;refine WI (XjA i (XF c w) ⟨2,sp,w,0⟩ ⟨3,sp,0,0⟩ g hN aa aa) λy _ j=>We ⟨λe=>?_,j.2.1⟩;simp_all
def HB(h:Wk):Prop:=h.w.length<=100000/\h.p.length<=100000
def NB(N:Nat):Prop:=10000000<N
def zH:Wk:=⟨⟨0,0⟩,[],[],0,0⟩
def KC:HB zH:=⟨ae,ae⟩
def wd(ws:List Int)(a:Int):Int:=ws.getD (ix a) 0
def hdA(ws:List Int)(a:Int):Wv:=Zq (wd ws a)
def szA(ws:List Int)(a:Int):Int:=(hdA ws a).n+1
def XL(ws:List Int)(a:Int):Xw (hdA ws a)=szA ws a/\1<=szA ws a/\szA ws a<=256:=by have:=XeM (wd ws a);unfold szA hdA;omega
def pgi(c:WN)(a:Int):Int:=(a-4096) / c.W
def pgo(c:WN)(a:Int):Int:=(a-4096) % c.W
structure Iz(h:Wk)(a:Int):Prop where
 rng:4096<=a/\a<4096+h.c.p*h.c.W
 kind:(pg h.p (pgi h.c a)).k=1\/(pg h.p (pgi h.c a)).k=2
 ok:okH (wd h.w a)=true
 used:pgo h.c a<(pg h.p (pgi h.c a)).u
 small:(pg h.p (pgi h.c a)).k=1->pgo h.c a+szA h.w a<=(pg h.p (pgi h.c a)).u
 large:(pg h.p (pgi h.c a)).k=2->pgo h.c a=0/\szA h.w a=(pg h.p (pgi h.c a)).u
def Xcn{N:Nat}(hN:NB N){h:Wk}(hb:HB h)(a:Int):Ok (Qal N h a) λr=>r.2=0->Uy h/\Qab N h=some true/\Iz h a/\r.1=hdA h.w a:=by
 unfold NB at hN;refine WI (YZ (N:=N) aa hb.1 hb.2) λb eb hp=>?_;refine Wq (λ_=>We λe=>by cases e) λv=>?_;have y:b=true:=by simpa using v
 subst y;have hp:=hp rfl;rw[K5,Xa,hp.conf,Wi ab];have R:=Xj.1 hp.conf;by_cases q:4096<=a/\a<4096+h.c.p*h.c.W;rotate_left
 .rw[Wi q];exact Wq (λ_=>We λe=>by cases e) λe=>by cases e
 rw[Wm q,show(a-4096) / h.c.W=pgi h.c a from rfl,show(a-4096) % h.c.W=pgo h.c a from rfl];have j:=XfE hp.conf q.1 q.2;have S:=hp.pages;have K:0<=pgi h.c a:=j.1;have L:pgi h.c a<h.p.length:=by have:pgi h.c a<h.c.p:=j.2.1;omega
 refine Ok.get K L λp z=>?_;have f:=YK z;have A:inW h.w a:=by unfold inW;have:=hp.words;omega
 rw[Ye (by unfold BIG;have:=hb.1;omega),Xa,Wm A];show Ok (bnd (QcI N (wd h.w a)) _) _;rw[ZR,Xa];have B:=XL h.w a;have M:pgo h.c a<h.c.W:=j.2.2.2.1;have E:0<=pgo h.c a:=j.2.2.1;have rest:okH (wd h.w a)=true->(p.k=1\/p.k=2)->pgo h.c a<p.u->Ok (α:=Wv×Int) (bnd (QcU N (Zq (wd h.w a))) λD=>
  bif (p.k==1)then(bif (decide ((wI (pgo h.c a+D))>p.u))then some ((Wv.mk 0 0 0),19)
   else bif (p.k==2)then(bif (pgo h.c a != 0)then some ((Wv.mk 0 0 0),19)
    else bif (D != p.u)then some ((Wv.mk 0 0 0),19)
    else some (Zq (wd h.w a),0))
   else some (Zq (wd h.w a),0))
  else bif (p.k==2)then(bif (pgo h.c a != 0)then some ((Wv.mk 0 0 0),19)
   else bif (D != p.u)then some ((Wv.mk 0 0 0),19)
   else some (Zq (wd h.w a),0))
  else some (Zq (wd h.w a),0)) λr=>r.2=0->Uy h/\Qab N h=some true/\Iz h a/\r.1=hdA h.w a:=by
  intro G I J
  rw[XW,Xa]
  have O:Xw (Zq (wd h.w a))=szA h.w a:=B.1
  rw[O,Xc aa aa]
  refine Wq (λk1=>?_) λk1=>?_
  .have k1:p.k=1:=by simpa using k1
   refine Wq (λ_=>We λe=>by cases e) λk2=>?_
   have k2:¬pgo h.c a+szA h.w a>p.u:=WV k2
   refine Wq (λg=>by rw[k1]at g;cases g) λ_=>We λ_=>⟨hp,eb,⟨q,by rw[f];exact I,G,by rw[f];exact J,λ_=>by rw[f];omega,λe=>by rw[f,k1]at e;cases e⟩,rfl⟩
  .have k1:¬p.k=1:=by simpa using k1
   have k2:p.k=2:=aa
   refine Wq (λ_=>?_) λg=>by rw[k2]at g;cases g
   refine Wq (λ_=>We λe=>by cases e) λg=>?_
   refine Wq (λ_=>We λe=>by cases e) λs=>We λ_=>⟨hp,eb,⟨q,by rw[f];exact I,G,by rw[f];exact J,λe=>by rw[f]at e;omega,λ_=>⟨by simpa using g,by rw[f];simpa using s⟩⟩,rfl⟩
 refine Im (Wq (λk1=>Wq (λ_=>We λe=>by cases e) λk2=>Wq (λ_=>We λe=>by cases e) λg=>Wq (λ_=>We λe=>by cases e) λs=>?_) λk1=>Wq (λ_=>We λe=>by cases e) λg=>Wq (λ_=>We λe=>by cases e) λs=>?_)
 .exact rest (by simpa using s) (.inr (by simpa using k2)) (by have U:¬(pgo h.c a>=p.u):=WV g;omega)
 grind
def Xdo{N:Nat}(hN:NB N){h:Wk}(hb:HB h)(a:Int):Ok (Qca N h a) λr=>r.2=0->Uy h/\Qab N h=some true/\Iz h a/\r.1=hdA h.w a/\r.1.k≠0:=by
 have f:=hN;unfold NB at hN;refine WI (YZ (N:=N) aa hb.1 hb.2) λb eb hp=>?_;refine Wq (λ_=>We λe=>by cases e) λg=>?_;refine Wq (λ_=>We λe=>by cases e) λ_=>?_;refine WI (Xcn f hb a) λy v j=>?_;refine Wq (λk1=>Wq (λ_=>We λe=>by cases e) λk2=>We λe=>?_) λk1=>We λe=>?_
 .have⟨p,q,s,u⟩:=j e;exact⟨p,q,s,u,by simpa using k2⟩
 simp_all
def Xg2{N:Nat}(hN:NB N){h:Wk}(hb:HB h)(a i:Int):Ok (Qb6 N h a i) λr=>r.2=0->Uy h/\Iz h a/\0<=i/\i<(hdA h.w a).n:=by
 refine WI (Xdo hN hb a) λy p f=>?_;refine Wq (λk=>We λe=>absurd e (by simpa using k)) λk1=>?_;refine Wq (λ_=>We λe=>by cases e) λk2=>?_;refine Wq (λ_=>We λe=>by cases e) λq=>?_;have⟨g,s,j,u,v⟩:=f (by simpa using k1);rw[Ye (by unfold BIG;have:=hb.1;omega),Xa];refine We λ_=>⟨g,j,?_,?_⟩
 .have:=WV k2;omega
 simp_all
def Xg3{N:Nat}(hN:NB N){h:Wk}(hb:HB h)(a i v:Int):Ok (QbN N h a i v) λr=>HB r.1:=by
 refine WI (Xg2 hN hb a i) λy f g=>?_;refine Wq (λ_=>We KC) λk1=>?_;have e:=hN;unfold NB at e;rw[Z3 (by unfold BIG;have:=hb.1;omega) aa,Xa];refine We ?_;split
 .exact⟨by rw[WL];exact hb.1,hb.2⟩
 exact⟨ab,hb.2⟩
def Xk1{N:Nat}(hN:NB N){h:Wk}(hb:HB h)(a:Int):Ok (Qfv N h a) λr=>r.1.length<=256:=by
 refine WI (Xdo hN hb a) λy q f=>?_;refine Wq (λ_=>We ab) λk1=>?_;have⟨s,u,v,g,z⟩:=f (by simpa using k1);have j:=XL h.w a;have e:y.1.n=szA h.w a-1:=by rw[g];unfold szA;omega
 have⟨k,p⟩:=UA (a:=y.1.n) aa;rw[p,XcF (by unfold BIG;have:=hb.1;omega) N _ k aa,Xa];refine We ?_;grind
def XjB{N:Nat}(hN:NB N){h:Wk}(hb:HB h)(a:Int)(hd:Wv):Ok (Qbf N h a hd) λr=>HB r.1:=by
 have f:=hN;unfold NB at f;rw[Qbf,KO,Xa];refine WI (YZ (N:=N) aa hb.1 hb.2) λb eb hp=>?_;refine Wq (λ_=>We KC) λ_=>?_;refine Wq (λ_=>We KC) λk1=>?_;have g:XN hd=true:=by
  cases g:XN hd with
  |true=>rfl
  |false=>simp_all
 have k:=XO g;refine Uc aa (Uc aa ?_);rw[Wm g,ZG (by unfold BIG;have:=hb.1;omega) (by unfold BIG;grind) (by grind),Xa];split
 .rename_i j;refine Wq (λe=>by grind) λ_=>We ⟨?_,hb.2⟩;have p:=hb.1;rw[ZF]
  .omega
  unfold YA at j;unfold ix;omega
 exact Wq (λ_=>We KC) λe=>by grind
def XmS(N:Nat)(l:List Int)(v:Int)(g:l.length<=1000000000):∀(n k:Nat),k<=l.length->l.length-k<n->Qfu N l v n (k:Int)=some (if(l.drop k).contains v then .ret true else .nxt ())
 |0,k,_,h=>by omega
 |n+1,k,p,q=>by
  rw[Qfu];by_cases h:k<l.length
  .have j:decide ((k:Int)<(l.length:Int))=true:=Wd aa;rw[j,Wb,Xf,Wc h,Xa,Xc aa aa];rw[show((k:Int)+1)=((k+1:Nat):Int) by omega,XmS N l v g n (k+1) aa aa];rw[Wo h,List.contains_cons];by_cases f:l[k]=v
   .subst f;simp
   rw[show(l[k]==v)=false by simpa using f,Wa,show(v==l[k])=false by simpa usingλe=>f e.symm,In]
  grind
def Yx{N:Nat}{l:List Int}(v:Int)(e:l.length<=1000000000)(hN:l.length<N):Qc3 N l v=some (l.contains v):=by have h:=XmS N l v e N 0 aa aa;rw[show((0:Nat):Int)=0 from rfl,W4]at h;rw[Qc3,h,Xa];grind[Xo,XA]
structure OG(N:Nat)(h:Wk)(l:List Int):Prop where
 at_:∀a∈l,Iz h a
 ev:∀a∈l,Qal N h a=some (hdA h.w a,0)
 pw:l.Pairwise λa b=>a+szA h.w a<=b
def XiD(h:Wk)(i:Int)(l:List Int):Prop:=∀a∈l,Xd h.c i 0<=a/\pgi h.c a=i
def XeO{c:WN}{i o p:Int}(h:o<=p):Xd c i o<=Xd c i p:=by unfold Xd;omega
def YD{c:WN}(e:X9 c=true){p o:Int}(f:0<=o)(g:o<c.W):pgi c (Xd c p o)=p/\pgo c (Xd c p o)=o:=XpA e f g
def Yq{c:WN}(e:X9 c=true){a:Int}(h:4096<=a/\a<4096+c.p*c.W):a=Xd c (pgi c a) (pgo c a)/\0<=pgi c a/\pgi c a<c.p/\0<=pgo c a/\pgo c a<c.W:=by have:=XfE e h.1 h.2;exact⟨this.2.2.2.2,this.1,this.2.1,this.2.2.1,this.2.2.2.1⟩
def Xuz(N:Nat)(h:Wk)(i o:Int)(l:List Int):Prop:=OG N h l/\XiD h i l/\(∀a∈l,a+szA h.w a<=Xd h.c i o)/\(l.length:Int)<=o
def OG.snoc{N:Nat}{h:Wk}{l:List Int}{a:Int}(f:OG N h l)(k:Iz h a)(g:Qal N h a=some (hdA h.w a,0))(j:∀b∈l,b+szA h.w b<=a):OG N h (l++[a]):=by
 refine⟨λx e=>?_,λx e=>?_,?_⟩
 .rcases Wt.1 e with e|e
  .exact f.at_ x e
  simp_all
 .rcases Wt.1 e with e|e
  .exact f.ev x e
  simp_all
 rw[List.pairwise_append];refine⟨f.pw,ab,λb hb c p=>?_⟩;simp_all
def PageL(N:Nat)(h:Wk)(i:Int)(l:List Int):Prop:=OG N h l/\XiD h i l/\(l.length:Int)<=64
def XsU(N:Nat)(h:Wk)(i:Int):Ex (List Int×Int) (List Int)->Prop
 |.ret r=>r=([],19)
 |.nxt l=>PageL N h i l
def QkN{N:Nat}(hN:NB N){h:Wk}(hb:HB h)(hp:Uy h){i:Int}(K:0<=i)(L:i<h.p.length)(g:(pg h.p i).k=1\/(pg h.p i).k=2):∀(n:Nat) (o:Int) (l:List Int),0<=o->(65-o).toNat<n->Xuz N h i o l->((pg h.p i).k=1->o<=(pg h.p i).u)->((pg h.p i).k=2->o=0) ->
 Ok (Qah N h i (pg h.p i) n o l) (XsU N h i)
 |0,o,l,_,M,j,k1,k2=>by omega
 |n+1,o,l,v,M,j,k1,k2=>by
  have hv:=Xj.1 hp.conf;have O:=(hp.pgs i K L).small;have R:=hp.pages;have r:(l.length:Int)<=64:=by
   have:=j.2.2.2;rcases g with g|g
   .omega
   omega
  refine Wq (λz=>?_) λ_=>We ⟨j.1,j.2.1,r⟩;have z:o<(pg h.p i).u:=Wy z;have A:o<h.c.W:=by
   rcases g with g|g
   .omega
   omega
  rw[ZT,hp.conf,Xa,Wi ab,Wm aa];dsimp only;refine WI (Xcn hN hb (Xd h.c i o)) λy S U=>?_;refine Wq (λ_=>We rfl) λV=>?_;have⟨_,_,B,D⟩:=U (by simp_all);have s:=YD hp.conf (p:=i) v A;have G:=XL h.w (Xd h.c i o);have I:Qal N h (Xd h.c i o)=some (hdA h.w (Xd h.c i o),0):=by rw[S];congr 1;exact Prod.ext D (by simp_all)
  have q:OG N h (l++[Xd h.c i o]):=j.1.snoc B I j.2.2.1;have E:XiD h i (l++[Xd h.c i o]):=by
   intro x f;rcases Wt.1 f with f|f
   .exact j.2.1 x f
   have:x=Xd h.c i o:=by simpa using f
   subst this;exact⟨XeO v,s.1⟩
  have J:((l++[Xd h.c i o]).length:Int)=l.length+1:=by simp
  have Y:=j.2.2.2;refine Uc aa (Wq (λkk=>We ⟨q,E,aa⟩) λkk=>?_);have kk:(pg h.p i).k=1:=by
   rcases g with g|g
   .omega
   simp_all
  rw[D,XW,Xa];rw[G.1];have Z:=B.small (by simp_all);rw[s.1,s.2]at Z;rw[Xc aa aa];refine QkN hN hb hp K L g n _ _ aa aa ⟨q,E,λx f=>?_,aa⟩ (λ_=>aa) (λe=>aa);rcases Wt.1 f with f|f
  .have:=j.2.2.1 x f;have:=XeO (c:=h.c) (i:=i) (o:=o) (p:=o+szA h.w (Xd h.c i o)) aa;omega
  have:x=Xd h.c i o:=by simpa using f
  subst this;unfold Xd;omega
def PageL.nil(N:Nat)(h:Wk)(i:Int):PageL N h i []:=⟨⟨ab,ab,ab⟩,λa e=>by simp_all,ab⟩
def QkO{N:Nat}(hN:NB N){h:Wk}(hb:HB h)(i:Int):Ok (Qag N h i) λr=>(r.2≠0->r.1=[])/\r.1.length<=64/\(Uy h->PageL N h i r.1):=by
 have j:=hN;unfold NB at j;refine WI (YZ (N:=N) aa hb.1 hb.2) λb eb hp=>?_;refine Wq (λ_=>We ⟨λ_=>rfl,ab,λ_=>PageL.nil N h i⟩) λw=>?_;have hp:=hp (by simp_all);refine Wq (λ_=>We ⟨λ_=>rfl,ab,λ_=>PageL.nil N h i⟩) λf=>?_;refine Wq (λ_=>We ⟨λ_=>rfl,ab,λ_=>PageL.nil N h i⟩) λg=>?_;have f:0<=i:=by have:=WV f;omega
 have g:i<h.p.length:=by have:=WV g;omega
 refine Ok.get f g λp s=>?_;have u:=YK s;subst u;refine Wq (λ_=>We ⟨λ_=>rfl,ab,λ_=>PageL.nil N h i⟩) λk0=>?_;refine Wq (λ_=>We ⟨λ_=>rfl,ab,λ_=>PageL.nil N h i⟩) λv=>?_;have y:=(hp.pgs i f g).kind;have k0:¬(pg h.p i).k=0:=by simpa using k0
 have v:¬(pg h.p i).k=3:=by simpa using v
 refine IS (QkN hN hb hp f g aa N 0 [] aa aa ⟨⟨ab,ab,ab⟩,λa z=>by simp_all,ab,ab⟩ (λk=>((hp.pgs i f g).small k).1) (λ_=>rfl)) (λa q=>?_) λl q=>?_
 .have:a=([],19):=q;subst this;exact We ⟨λ_=>rfl,ab,λ_=>PageL.nil N h i⟩
 exact We ⟨λe=>absurd rfl e,by have:=q.2.2;grind,λ_=>q⟩
def XfG{c:WN}(e:X9 c=true){w:Int}(h:1<=XF c w):w<=XF c w*c.W:=by unfold XF at h⊢;grind
def XcI{h:Wk}(hp:Uy h){a:Int}(g:Iz h a):∃k,1<=k/\pgi h.c a+k<=h.c.p/\a+szA h.w a<=Xd h.c (pgi h.c a+k) 0/\∀m,1<=m->m<k->(pg h.p (pgi h.c a+m)).k=3:=by
 have⟨e,q,A,B,D⟩:=Yq hp.conf g.rng;have y:=hp.pages;rcases g.kind with f|f
 .have E:=g.small f;have:=(hp.pgs _ q aa).small f;refine⟨1,aa,aa,?_,λm j r=>aa⟩;have G:Xd h.c (pgi h.c a+1) 0=4096+pgi h.c a*h.c.W+h.c.W:=by unfold Xd;rw[IB];omega
  have e3:a=4096+pgi h.c a*h.c.W+pgo h.c a:=e;omega
 have⟨I,J⟩:=g.large f;have⟨s,v⟩:=(hp.pgs _ q aa).large f;have z:=XfG hp.conf s;refine⟨_,s,?_,?_,λm j r=>(v m j r).2⟩
 .by_cases j:XF h.c (pg h.p (pgi h.c a)).u=1
  .omega
  have:=(v (XF h.c (pg h.p (pgi h.c a)).u-1) aa aa).1;omega
 have e3:a=4096+pgi h.c a*h.c.W+pgo h.c a:=e;unfold Xd;grind
def Ks{h:Wk}(hp:Uy h){a:Int}(e:Iz h a):a+szA h.w a<=4096+h.w.length:=by have⟨k,j,f,g,_⟩:=XcI hp e;have q:=Xj.1 hp.conf;have:=hp.words;have r:(pgi h.c a+k)*h.c.W<=h.c.p*h.c.W:=Ut f aa;unfold Xd at g;omega
def Xk2{h:Wk}(hp:Uy h){a b:Int}(g:Iz h a)(hb:Iz h b)(j:pgi h.c a<pgi h.c b):a+szA h.w a<=b:=by
 have⟨k,u,v,p,q⟩:=XcI hp g;have⟨e,y,z,A,B⟩:=Yq hp.conf hb.rng;have f:pgi h.c a+k<=pgi h.c b:=by
  rcases(by omega:pgi h.c b<pgi h.c a+k\/pgi h.c a+k<=pgi h.c b)with r|r
  .have:=q (pgi h.c b-pgi h.c a) aa aa;rw[show pgi h.c a+(pgi h.c b-pgi h.c a)=pgi h.c b by omega]at this;rcases hb.kind with s|s<;>omega
  omega
 have D:(pgi h.c a+k)*h.c.W<=pgi h.c b*h.c.W:=Ut f aa;unfold Xd at p e;omega
def QfT{N:Nat}(hN:NB N){h:Wk}(hb:HB h)(hp:Uy h)(i:Int)(f:0<=i)(g:i<h.p.length):Ok (Qag N h i) λr=>PageL N h i r.1/\r.1.length<=64:=(QkO hN hb i).mono λr e=>⟨e.2.2 hp,e.2.1⟩
structure Iy(N:Nat)(h:Wk)(l:List Int):Prop where
 obj:OG N h l
 page:∀a∈l,∃r,Qag N h (pgi h.c a)=some r/\a∈r.1
 len:l.length<=4096
def Iy.nil(N:Nat)(h:Wk):Iy N h []:=⟨⟨ab,ab,ab⟩,ab,ab⟩
def XeP{N:Nat}(hN:NB N){h:Wk}(hb:HB h)(hp:Uy h):∀(n:Nat) (i:Int) (l:List Int),0<=i->i<=h.p.length->(h.p.length-i).toNat<n->OG N h l->(∀a∈l,∃r,Qag N h (pgi h.c a)=some r/\a∈r.1)->(∀a∈l,pgi h.c a<i)->(l.length:Int)<=64*i ->
 Ok (QaO N h n i l) λe=>match e with|.ret r=>r.1=[]/\r.2≠0|.nxt l=>Iy N h l
 |0,i,l,_,_,A,_,_,_,_=>by omega
 |n+1,i,l,B,G,A,g,j,u,w=>by
  have I:=Xj.1 hp.conf;have D:=hp.pages;refine Wq (λv=>?_) λ_=>We ⟨g,j,aa⟩;have v:i<h.p.length:=Wy v;refine WI (QfT hN hb hp i B v) λy E k=>?_;refine Wq (λz=>We ⟨rfl,by simpa using z⟩) λz=>?_;refine Uc aa ?_;rw[Xc aa aa];have q:∀a∈y.1,pgi h.c a=i:=λa f=>(k.1.2.1 a f).2;refine XeP hN hb hp n (i+1) _ aa aa aa ⟨λa f=>?_,λa f=>?_,?_⟩ (λa f=>?_) (λa f=>?_) (by rw[WJ];omega)
  .rcases Wt.1 f with f|f
   .exact g.at_ a f
   exact k.1.1.at_ a f
  .rcases Wt.1 f with f|f
   .exact g.ev a f
   exact k.1.1.ev a f
  .rw[List.pairwise_append];refine⟨g.pw,k.1.1.pw,λa f b s=>?_⟩;exact Xk2 hp (g.at_ a f) (k.1.1.at_ b s) (by rw[q b s];exact u a f)
  .rcases Wt.1 f with f|f
   .exact j a f
   exact⟨y,by rw[q a f];exact E,f⟩
  grind
def J8{N:Nat}(hN:NB N){h:Wk}(hb:HB h):Ok (QbH N h) λr=>Iy N h r.1/\(r.2=0->Uy h)/\(r.2≠0->r.1=[]):=by have f:=hN;unfold NB at f;refine WI (YZ (N:=N) aa hb.1 hb.2) λb eb hp=>?_;refine Wq (λ_=>We ⟨Iy.nil N h,λe=>aa,λ_=>rfl⟩) λg=>?_;have hp:=hp (by simp_all);have j:=hb.2;refine IS (XeP hN hb hp N 0 [] aa aa aa ⟨ab,ab,ab⟩ ab ab ab) (λa q=>?_) λl q=>We ⟨q,λ_=>hp,λe=>absurd rfl e⟩;refine We ⟨?_,λe=>absurd e q.2,λ_=>q.1⟩;rw[q.1];exact Iy.nil N h
def Iy.sub{N:Nat}{h:Wk}{l l':List Int}(e:Iy N h l)(f:l'.Sublist l):Iy N h l':=
 ⟨⟨λa g=>e.obj.at_ a (f.subset g),λa g=>e.obj.ev a (f.subset g),e.obj.pw.sublist f⟩,λa g=>e.page a (f.subset g),UO f.length_le e.len⟩
def XaX{N:Nat}(hN:NB N){h:Wk}(hb:HB h)(y:List Int×Int)(r:y.1.length<=4096):∀(n k:Nat) (l:List Int),k<=y.1.length->y.1.length-k<n->l.Sublist (y.1.take k)->Ok (Qbc N h y n (k:Int) l) λo=>o.Sublist y.1
 |0,k,l,_,u,_=>by omega
 |n+1,k,l,A,u,j=>by
  have s:l.length<=4096:=UO j.length_le (by rw[Wl];omega);refine Wq (λg=>?_) λ_=>We (j.trans (List.take_sublist _ _));have g:(k:Int)<y.1.length:=Wy g;have e:k<y.1.length:=aa;refine Ok.get aa g λp hp=>?_;refine WI (Xcn hN hb p) λz B D=>?_;have v:wI ((k:Int)+1)=((k+1:Nat):Int):=by rw[Xc aa aa];omega
  rw[v];refine Wq (λ_=>?_) λ_=>XaX hN hb y r n (k+1) l aa aa (j.trans (List.take_sublist_take_left aa));refine Ok.get aa g λw f=>Uc aa (XaX hN hb y r n (k+1) _ aa aa ?_);have q:w=y.1[k]:=by rw[Xf,Wc e]at f;exact(WA f).symm
  simp_all[List.take_succ_eq_append_getElem,e,q]
def KK{N:Nat}(hN:NB N){h:Wk}(hb:HB h):Ok (Qap N h) λr=>Iy N h r.1/\(r.2=0->Uy h)/\(r.1≠[]->Uy h):=by refine WI (J8 hN hb) λy p e=>?_;have f:=hN;unfold NB at f;have g:=e.1.len;have:=XaX hN hb y g N 0 [] aa aa ab;refine WI this λo q j=>We ⟨e.1.sub j,e.2.1,λk=>?_⟩;grind
def Xco{N:Nat}(hN:NB N){h:Wk}(hb:HB h)(a:Int):Ok (QdK N h a) λb=>b=true->Uy h/\Iz h a:=by
 have f:=hN;unfold NB at f;refine WI (KK hN hb) λy k g=>?_;have p:=g.1.len;rw[Yx a aa aa,Xa];refine We λe=>?_;have j:a∈y.1:=by simpa using e
 exact⟨g.2.2 (IY j),g.1.obj.at_ a j⟩
def XpB{N:Nat}{h:Wk}(hb:HB h)(i o:Int):Ok (QfH N h i o) λ_=>True:=by rw[QfH,Qg1,ZT,Xa,Ye (by unfold BIG;have:=hb.1;omega),Xa,Xa];exact We trivial
def Xdp(h:Wk)(i:Int)(l:List Int):Prop:=(pg h.p i).k=1->∀a∈l,szA h.w a<=smC h.c
def Xg4{N:Nat}(hN:NB N){h:Wk}(hb:HB h){i:Int}(y:0<=i)(z:i<h.p.length)(l:List Int)(E:l.length<=4096)(j:∀a∈l,Qal N h a=some (hdA h.w a,0)/\a≠0):∀(n k:Nat),k<=l.length->l.length-k<n ->
 Ok (QaW N h i l n (k:Int)) λe=>match e with|.ret r=>r≠0|.nxt _=>(pg h.p i).k=1->∀a∈l.drop k,szA h.w a<=smC h.c
 |0,k,_,G=>by omega
 |n+1,k,R,G=>by
  refine Wq (λs=>?_) λs=>We ?_;rotate_left
  .grind
  have s:(k:Int)<l.length:=Wy s;have v:k<l.length:=aa;refine Ok.get aa s λp hp=>?_;have I:p=l[k]:=by rw[Xf,Wc v]at hp;exact(WA hp).symm
  have A:p∈l:=YI hp;rw[(j p A).1,Xa];rw[XW,Xa,XgZ,Xa,(XL h.w p).1];have J:wI ((k:Int)+1)=((k+1:Nat):Int):=by rw[Xc aa aa];omega
  rw[J];have ret:∀g,Xe l (k:Int)=some g->g≠0:=λg f=>(j g (YI f)).2;have next:((pg h.p i).k=1->szA h.w p<=smC h.c)->Ok (QaW N h i l n ((k+1:Nat):Int)) λe=>match e with|.ret r=>r≠0|.nxt _=>(pg h.p i).k=1->∀a∈l.drop k,szA h.w a<=smC h.c:=by
   intro u
   refine(Xg4 hN hb y z l E j n (k+1) aa aa).mono λe S=>?_
   cases e with
   |ret r=>omega
   |nxt _=>
    intro K a L
    rw[Wo v]at L
    grind
  refine Ok.get y z λq M=>?_;have B:=YK M;refine Wq (λk1=>?_) λk1=>?_
  .refine Wq (λ_=>Ok.get aa s λg f=>We (ret g f)) λk2=>?_;have u:szA h.w p<=smC h.c:=by simpa using k2
   refine Ok.get y z λO D=>Wq (λ_=>Wq (λ_=>Ok.get aa s λg f=>We (ret g f)) λ_=>next λ_=>u) λ_=>next λ_=>u
  have u:(pg h.p i).k=1->szA h.w p<=smC h.c:=by intro e;rw[B]at e;rw[e]at k1;cases k1
  refine Ok.get y z λO D=>Wq (λ_=>Wq (λ_=>Ok.get aa s λg f=>We (ret g f)) λ_=>next u) λ_=>next u
def XmT{N:Nat}(hN:NB N){h:Wk}(hb:HB h){i:Int}(j:0<=i)(k:i<h.p.length){l:List Int}(s:l.length<=64)(f:∀a∈l,Qal N h a=some (hdA h.w a,0)/\a≠0):
 Ok (Qey N h i l) λr=>r=0->Xdp h i l:=by have g:=hN;unfold NB at g;have:=Xg4 hN hb j k l aa f N 0 aa aa;refine IS this (λa q=>We λe=>absurd e q) λ_ q=>We λ_=>?_;assumption
def XfH{N:Nat}{h:Wk}(i:Int)(l:List Int)(k:Int)(e:0<=k)(f:k<l.length)(x:Int)(g:x<=256):∀(n:Nat) (w:Int) (u:List Bool),0<=w->(x-w).toNat<n->u.length<=1000->Ok (QbW N h i l k x n w u) λr=>r.length=u.length
 |0,w,u,_,v,_=>by omega
 |n+1,w,u,A,v,j=>by
  refine Wq (λs=>?_) λ_=>We rfl;have s:w<x:=Wy s;refine Ok.get e f λp hp=>?_;rw[Xc (n:=w+1) aa aa];have next:=XfH (N:=N) (h:=h) i l k e f x g n (w+1) u aa aa j
  refine Wq (λy=>?_) λ_=>next
  refine Uc aa (Wq (λz=>?_) λ_=>next);refine Ok.get (Wy y) (Wy z) λq B=>?_;refine(XfH i l k e f x g n (w+1) _ aa aa (by rw[WL];exact j)).mono λr D=>?_;simp_all
def XjC{N:Nat}(hN:NB N){h:Wk}(hb:HB h)(i:Int)(l:List Int)(q:l.length<=100000):∀(n:Nat) (k:Int) (u:List Bool),0<=k->k<=l.length->(l.length-k).toNat<n->u.length<=1000->Ok (Qdv N h i l n k u) λr=>r.length=u.length
 |0,k,u,_,_,s,_=>by omega
 |n+1,k,u,j,z,s,v=>by
  refine Wq (λe=>?_) λ_=>We rfl;have e:k<l.length:=Wy e;have f:=hN;unfold NB at f;refine Ok.get j e λp hp=>WI (Xcn hN hb p) λy A B=>?_;rw[XW,Xa];have D:=XmP y.1;have next:∀x:Int,x<=256->Ok (bnd (QbW N h i l k x N 0 u) λg=>Qdv N h i l n (wI (k+1)) g) λr=>r.length=u.length:=by intro x w;refine WI (XfH i l k j e x w N 0 u aa aa v) λr E G=>?_;rw[Xc (n:=k+1) aa aa];exact(XjC hN hb i l q n (k+1) r aa aa aa aa).mono λo I=>by omega
  exact Im (Wq (λ_=>next 1 aa) λ_=>next _ aa)
def XfI(N:Nat){h:Wk}(e:(pg h.p 0).k≠3):∀(n:Nat) (i:Int),0<=i->i<h.p.length->h.p.length<=100000->i.toNat<n->Ok (QcV N h n i) λr=>0<=r/\r<h.p.length
 |0,i,_,_,_,j=>by omega
 |n+1,i,f,g,q,j=>by
  refine Ok.get f g λp hp=>Wq (λs=>?_) λ_=>We ⟨f,g⟩;have:i≠0:=by rintro rfl;exact e (by simp_all[YK,hp])
  rw[Xc aa aa];exact XfI N e n (i-1) aa aa q aa
def XjD{N:Nat}{h:Wk}(hb:HB h)(i:Int)(u:List Bool)(f:u.length<=1000):∀(n:Nat) (k:Int),0<=k->k<=u.length->(u.length-k).toNat<n->Ok (QcW N h i u n k) λ_=>True
 |0,k,_,_,g=>by omega
 |n+1,k,j,q,g=>by
  refine Wq (λe=>?_) λ_=>We trivial;have e:k<u.length:=Wy e;rw[Xc (n:=k+1) aa aa];have next:=XjD (N:=N) hb i u f n (k+1) aa aa aa
  refine Ok.get j e λp hp=>Wq (λ_=>WI (XpB hb i k) λy _ _=>Wq (λ_=>?_) λ_=>next) λ_=>next
  rw[QfV,Xa];exact We trivial
def XpC{N:Nat}(hN:NB N){h:Wk}(hb:HB h)(hp:Uy h){i:Int}(k:0<=i)(q:i<h.p.length):Ok (Qer N h i) λ_=>True:=by
 have f:=hN;unfold NB at f;have g:=hb.2;have s:=Xj.1 hp.conf;refine WI (WI (XfI N hp.first N i k q g aa) λr _ e=>We e) λr _ e=>?_;refine WI (QfT hN hb hp r e.1 e.2) λy _ v=>?_;refine WI (Q:=λr=>r.length<=1000) (Uc aa (WI (XjC hN hb i y.1 aa N 0 _ aa aa aa (by grind)) λu _ j=>We ?_)) λu _ j=>?_
 .grind
 exact IS (XjD hb i u j N 0 aa aa aa) (λ_ _=>We trivial) λ_ _=>We trivial
def XmU{N:Nat}(hN:NB N){h:Wk}(hb:HB h)(hp:Uy h){i:Int}(g:0<=i)(j:i<h.p.length):Ok (Qes N h i) λf=>f.Fault=0->∀r,Qag N h i=some r->Xdp h i r.1/\r.2=0:=by
 have main:Ok (bnd (Qag N h i) λq=>
  bif (q.2 != 0)then some (Ur.mk 3 i 0)
  else bnd (Qey N h i q.1) λs=>
  bif (s != 0)then some (Ur.mk 5 i s)
  else bnd (Qer N h i) λu=>
  bif (u != 0)then some (Ur.mk 4 i u)
  else some (Ur.mk 0 0 0)) λf=>f.Fault=0->∀r,Qag N h i=some r->Xdp h i r.1/\r.2=0:=by
  refine WI (QfT hN hb hp i g j) λy z k=>?_
  refine Wq (λ_=>We λe=>by grind) λA=>?_
  refine WI (XmT hN hb g j k.2 λa v=>⟨k.1.1.ev a v,by have:=(k.1.1.at_ a v).rng;omega⟩) λc _ B=>?_
  refine Wq (λ_=>We λe=>by grind) λD=>?_
  refine WI (XpC hN hb hp g j) λd _ _=>?_
  refine Wq (λ_=>We λe=>by grind) λ_=>We λ_ r w=>?_
  rw[z]at w
  exact WA w▸⟨B (by simp_all),by simp_all⟩
 refine Im (Ok.get g j λp hp=>Wq (λ_=>Ok.get g j λp hp=>Wq (λ_=>We λe=>by grind) λ_=>main) λ_=>main)
def Xcp{N:Nat}{h:Wk}(r g:List Int×Int)(z:r.1.length<=4096)(A:g.1.length<=256)(hN:1000000<N)(v:Int)(j:0<=v)(u:v<r.1.length)(w:Wv×Int):∀(n:Nat) (k:Int),0<=k->k<=g.1.length->(g.1.length-k).toNat<n->Ok (QaC N h r g v w n k) λe=>∀f,e=.ret f->f.Fault=6
 |0,k,_,_,B=>by omega
 |n+1,k,y,D,B=>by
  refine Wq (λs=>?_) λ_=>We λf e=>by grind
  have s:k<g.1.length:=Wy s;rw[Xc (n:=k+1) aa aa];have next:=Xcp (N:=N) (h:=h) r g z A hN v j u w n (k+1) aa aa aa
  rw[KP,Xa];refine Wq (λ_=>Ok.get y s λp hp=>Wq (λ_=>Ok.get y s λp hp=>?_) λ_=>next) λ_=>next
  rw[Yx p aa aa,Xa];refine Wq (λ_=>Ok.get j u λq E=>?_) λ_=>next
  rw[K5,Xa];exact We λf e=>by grind
def Xcq{N:Nat}(hN:NB N){h:Wk}(hb:HB h)(g:List Int×Int)(u:g.1.length<=4096):∀(n:Nat) (k:Int),0<=k->k<=g.1.length->(g.1.length-k).toNat<n->Ok (QbB N h g n k) λe=>∀f,e=.ret f->f.Fault=6
 |0,k,_,_,v=>by omega
 |n+1,k,r,A,v=>by
  have s:=hN;unfold NB at s;refine Wq (λj=>?_) λ_=>We λf e=>by cases e
  have j:k<g.1.length:=Wy j;rw[Xc (n:=k+1) aa aa];refine Ok.get r j λp hp=>WI (Xdo hN hb p) λw _ _=>Ok.get r j λp hp=>WI (Xk1 hN hb p) λy _ z=>?_;refine IS (Xcp g y u z aa k r j w N 0 aa aa aa) (λa q=>We λf e=>?_) λ_ _=>Xcq hN hb g u n (k+1) aa aa aa;simp_all
def Xg5{N:Nat}(hN:NB N){h:Wk}(hb:HB h):Ok (QdF N h) λ_=>True:=by have e:=hN;unfold NB at e;refine WI (KK hN hb) λy _ f=>?_;have:=f.1.len;exact IS (Xcq hN hb y f.1.len N 0 aa aa aa) (λ_ _=>We trivial) λ_ _=>We trivial
def Xg6{N:Nat}(hN:NB N){h:Wk}(hb:HB h)(hp:Uy h):∀(n:Nat) (i:Int),0<=i->i<=h.p.length->(h.p.length-i).toNat<n->Ok (Qbk N h n i) λe=>match e with|.ret f=>f.Fault≠0|.nxt _=>∀j,i<=j->j<h.p.length->∀r,Qag N h j=some r->Xdp h j r.1/\r.2=0
 |0,i,_,_,q=>by omega
 |n+1,i,s,z,q=>by
  have u:=hb.2;refine Wq (λg=>?_) λg=>We λj v k=>?_;rotate_left
  .grind
  have g:i<h.p.length:=Wy g;refine WI (XmU hN hb hp s g) λf _ A=>Wq (λw=>We (by simp_all)) λw=>?_;rw[Xc aa aa];refine(Xg6 hN hb hp n (i+1) aa aa aa).mono λe y=>?_;cases e with
  |ret f=>omega
  |nxt _=>
   intro j v k;by_cases B:j=i
   .grind
   exact y j aa k
def Xg7{N:Nat}{h:Wk}(g:h.p.length<=100000):∀(n:Nat) (c i:Int),0<=i->i<=h.p.length->(h.p.length-i).toNat<n->Ok (Qa7 N h n c i) λ_=>True
 |0,c,i,_,_,j=>by omega
 |n+1,c,i,f,q,j=>by
  refine Wq (λe=>?_) λ_=>We trivial;have e:i<h.p.length:=Wy e;rw[Xc (n:=i+1) aa aa];have next:=λk=>Xg7 (N:=N) g n k (i+1) aa aa aa
  exact Ok.get f e λp hp=>Wq (λ_=>Ok.get f e λp hp=>Wq (λ_=>next _) λ_=>next _) λ_=>next _
structure OD(N:Nat)(h:Wk):Prop where
 prop:Uy h
 small:∀j:Int,0<=j->j<h.p.length->∀r,Qag N h j=some r->Xdp h j r.1/\r.2=0
def KQ{N:Nat}(hN:NB N){h:Wk}(hb:HB h):Ok (Qbe N h) λb=>b=true->OD N h:=by
 have g:=hN;unfold NB at g;have j:=hb.2;refine WI (Q:=λf=>f.Fault=0->OD N h) (WI (YZ (N:=N) aa hb.1 hb.2) λb eb hp=>Wq (λ_=>We λe=>by cases e) λk=>?_) λf _ r=>We λe=>?_
 .have hp:=hp (by simpa using k);refine IS (Xg6 hN hb hp N 0 aa aa aa) (λa q=>We λe=>absurd e q) λ_ q=>?_;have p:OD N h:=⟨hp,q⟩
  refine WI (Xg5 hN hb) λf _ _=>Wq (λ_=>We λ_=>p) λ_=>?_;exact WI (Xg7 j N 0 0 aa aa aa) λc _ _=>Wq (λ_=>We λ_=>p) λ_=>We λ_=>p
 simp_all
def OD.sz{N:Nat}{h:Wk}(e:OD N h){l:List Int}(g:Iy N h l){a:Int}(j:a∈l)(q:(pg h.p (pgi h.c a)).k=1):szA h.w a<=h.c.W / 4:=by have⟨r,s,u⟩:=g.page a j;have f:=g.obj.at_ a j;have⟨_,v,y,_⟩:=Yq e.prop.conf f.rng;have:=(e.small _ v (by have:=e.prop.pages;omega) r s).1 q a u;unfold smC at this;omega
def XeQ{N:Nat}(l:List Int)(g:l.length<=100000000)(y:List Int×Int)(h:y.1.length<=4096)(hN:1000000<N):∀(n:Nat) (k:Int),0<=k->k<=l.length->(l.length-k).toNat<n->Ok (QaH N l y n k) λ_=>True
 |0,k,_,_,j=>by omega
 |n+1,k,f,q,j=>by
  refine Wq (λe=>?_) λ_=>We trivial;have e:k<l.length:=Wy e;rw[Xc (n:=k+1) aa aa];have next:=XeQ (N:=N) l g y h hN n (k+1) aa aa aa
  refine Ok.get f e λp hp=>Wq (λ_=>Ok.get f e λp hp=>?_) λ_=>next
  rw[Yx p aa aa,Xa];exact Wq (λ_=>We trivial) λ_=>next
def XbT{N:Nat}(hN:NB N){h:Wk}(hb:HB h){l:List Int}(q:l.length<=1000000):Ok (QbJ N h l) λb=>b=true->OD N h:=by have f:=hN;unfold NB at f;refine WI (KQ hN hb) λb _ g=>Wq (λ_=>We λe=>by grind) λk=>?_;have j:=g (by simp_all);refine WI (KK hN hb) λy _ p=>?_;exact IS (XeQ l aa y p.1.len aa N 0 aa aa aa) (λ_ _=>We λ_=>j) λ_ _=>We λ_=>j
def XmV(d:Wv):ZH d % 4=1:=by have e:ZO .u64 (wU d.Map) 16=wU (wU d.Map*65536):=rfl;unfold ZH;grind[Xcm]
def XpD(ws:List Int)(a:Int)(h:wd ws a % 4=2):szA ws a=1:=by
 have:okH (wd ws a)=false:=by
  unfold okH;have f:=XmV (XbR (wd ws a));have:(ZH (XbR (wd ws a))==wd ws a)=false:=by rw[UW];intro e;rw[e]at f;omega
  rw[this,Bool.and_false]
 unfold szA hdA Zq;simp_all
structure Ox(h0:Wk)(l:List Int)(w:Ww)(O:Int->Prop)(s:Int->Int):Prop where
 old:∀a∈l,O a/\s a=szA h0.w a
 queue:∀a∈w.q,O a
 fit:∀a,O a->4096<=a/\1<=s a/\a+s a<=4096+w.h.w.length/\szA w.h.w a<=s a
 apart:∀a b,O a->O b->a≠b->a+s a<=b\/b+s b<=a
 taken:∀a,O a->∀j∈w.t,a+s a<=Xd h0.c j (pg w.h.p j).u\/Xd h0.c (j+1) 0<=a
 free:∀a,O a->∀j:Int,0<=j->j<w.h.p.length->(pg w.h.p j).k=0->a+s a<=Xd h0.c j 0\/Xd h0.c (j+1) 0<=a
structure CI(h0:Wk)(l:List Int)(w:Ww):Prop where
 conf:w.h.c=h0.c
 wlen:w.h.w.length=h0.w.length
 plen:w.h.p.length=h0.p.length
 spc:w.h.s=h0.s
 old:w.o.Sublist l
 tk:∀j∈w.t,0<=j/\j<w.h.p.length/\(pg w.h.p j).k=1/\0<=(pg w.h.p j).u/\(pg w.h.p j).u<=h0.c.W
 tnd:w.t.Nodup
 knd:∀a∈l,(pg w.h.p (pgi h0.c a)).k=(pg h0.p (pgi h0.c a)).k
 qnd:w.q.Nodup
 obj:∃O s,Ox h0 l w O s
def Xbn:∀(n:Nat) (a:Int) (l:List Int),l.Nodup->(∀x∈l,a<=x/\x<a+n)->l.length<=n
 |0,a,l,_,h=>by
  cases l with
  |nil=>simp
  |cons x l=>have:=h x ab;omega
 |n+1,a,l,e,h=>by
  by_cases k:a+(n:Int)∈l
  .have g:=Xbn n a (l.erase (a+(n:Int))) (e.erase _) λx f=>by have j:=(List.Nodup.mem_erase_iff e).1 f;have p:=h x j.2;omega
   simp_all
  have g:=Xbn n a l e λx f=>by grind
  omega
section
variable {N:Nat}{h0:Wk}{l:List Int}
def CI.ql{w:Ww}(hb:HB h0)(e:CI h0 l w):w.q.length<=100000:=by
 have⟨O,s,f⟩:=e.obj;have:=Xbn w.h.w.length 4096 w.q e.qnd λx g=>by have:=f.fit x (f.queue x g);omega
 have:=hb.1;have:=e.wlen;omega
def CI.tl{w:Ww}(hb:HB h0)(e:CI h0 l w):w.t.length<=100000:=by
 have:=Xbn w.h.p.length 0 w.t e.tnd λx f=>by have:=e.tk x f;omega
 have:=hb.2;have:=e.plen;omega
def XeR{w:Ww}(f:w.t.length<=100000)(i:Int):∀(n:Nat) (k:Int),0<=k->k<=w.t.length->(w.t.length-k).toNat<n->Ok (Qc6 N w i n k) λ_=>True
 |0,k,_,_,g=>by omega
 |n+1,k,h0,h,g=>by refine Wq (λe=>?_) λ_=>We trivial;have e:k<w.t.length:=Wy e;rw[Xc (n:=k+1) aa aa];exact Ok.get h0 e λp hp=>Wq (λ_=>We trivial) λ_=>XeR f i n (k+1) aa aa aa
def Xcr(hN:NB N){w:Ww}(j:w.t.length<=100000)(i:Int):Ok (Qb5 N w i) λb=>b=true->0<=i/\i<w.h.p.length:=by
 unfold NB at hN;refine Wq (λ_=>We λe=>by grind) λf=>Wq (λ_=>We λe=>by grind) λg=>?_;have f:0<=i:=by have:=WV f;omega
 have g:i<w.h.p.length:=by have:=WV g;omega
 refine Ok.get f g λp hp=>Wq (λ_=>Wq (λ_=>WI (Q:=λ_=>True) ?_ λy _ _=>We λ_=>⟨f,g⟩) λ_=>We λe=>aa) λ_=>We λe=>by omega
 exact IS (XeR j i N 0 aa aa aa) (λ_ _=>We trivial) λ_ _=>We trivial
structure OC(h0:Wk)(w:Ww)(n:Int)(w':Ww)(at_ j u:Int):Prop where
 rng:0<=j/\j<w.h.p.length
 fit:0<=u/\u+n<=h0.c.W
 addr:at_=Xd h0.c j u
 conf:w'.h.c=w.h.c
 words:w'.h.w=w.h.w
 space:w'.h.s=w.h.s
 old:w'.o=w.o
 queue:w'.q=w.q
 scanned:w'.d=w.d
 plen:w'.h.p.length=w.h.p.length
 other:∀i,0<=i->i≠j->pg w'.h.p i=pg w.h.p i
 this:(pg w'.h.p j).k=1/\(pg w'.h.p j).u=u+n
 sp:(j∈w.t/\(pg w'.h.p j).s=(pg w.h.p j).s/\(pg w'.h.p j).P=(pg w.h.p j).P)\/((pg w'.h.p j).s=1-w.h.s/\(pg w'.h.p j).P=0)
 way:(j∈w.t/\w'.t=w.t/\u=(pg w.h.p j).u)\/((pg w.h.p j).k=0/\w'.t=w.t++[j]/\u=0)
def Xdq(hN:NB N)(hb:HB h0)(hp:Uy h0){w:Ww}(I:CI h0 l w){n:Int}(hn:1<=n)(hn2:n<=h0.c.W):Ok (QcK N w n) λr=>r.2.2=true->∃j u,OC h0 w n r.1 r.2.1 j u:=by
 have U:=hN;unfold NB at U;have hpl:=I.plen;have hv:=Xj.1 hp.conf;have htl:=I.tl hb;have hpp:=hp.pages;have new:Ok (bnd (Qbt N w.h.p 1) λE=>
  bif (decide (E<0))then some ((Ww.mk (Wk.mk (WN.mk 0 0) [] [] 0 0) [] [] [] 0 (WR.mk 0 0 0 0 0 0)),0,false)
  else bnd (QbP N w.h.p E (wI (1-w.h.s))) λR=>
  grd (w.t.length*8<=140737488355328) <|
  grd ((w.t.length+1)*8<=140737488355328) <|
  bnd (Xe R.1 E) λV=>
  bnd (Xe R.1 E) λY=>
  bnd (Xe R.1 E) λJ=>
  some ((Ww.mk (Wk.mk w.h.c w.h.w (R.1.set E.toNat (Ws.mk J.k J.s (wI (Y.u+n)) J.P)) w.h.s w.h.b) w.o (w.t++[E]) w.q w.d w.r),(wU (wI ((wI (4096+(wI (E*w.h.c.W))))+V.u))),true)) λr=>r.2.2=true->∃j u,OC h0 w n r.1 r.2.1 j u:=by
  refine WI (Zh 1 aa aa) λj _ O=>Wq (λ_=>We λe=>by grind) λhj0=>?_
  have hr:RunOK w.h.p j 1:=by
   rcases O with rfl|O
   .grind
   .omega
  have hsp:=hp.space
  have hws:=I.spc
  rw[Xc (n:=1-w.h.s) aa aa]
  refine WI (Xdn j (1-w.h.s) aa aa) λy _ hy=>?_
  have Z:=hy.2.2 hr aa aa
  obtain⟨v,q1,q2,q3⟩:=hy.1 Z
  have hk:=hr.2.2.2 0 aa aa
  rw[Int.add_zero]at hk
  have f:j<y.1.length:=aa
  refine Uc aa (Uc aa (Ok.get v f λp1 K=>Ok.get v f λp2 z=>Ok.get v f λp3 L=>We λ_=>?_))
  have g1:=YK K
  have g2:=YK z
  have g3:=YK L
  rw[q3 j v,Wm rfl]at g1 g2 g3
  subst g1;subst g2;subst g3
  have hm:=XP hp.conf (i:=j) v aa
  refine⟨j,0,⟨⟨v,aa⟩,⟨aa,aa⟩,?_,rfl,rfl,rfl,rfl,rfl,rfl,?_,λi S B=>?_,?_,.inr ?_,.inr ⟨hk,rfl,rfl⟩⟩⟩
  .show wU (wI (wI (4096+wI (j*w.h.c.W))+0))=_
   rw[I.conf,Xc (n:=j*h0.c.W) aa aa,Xc (n:=4096+j*h0.c.W) aa aa,Xc aa aa,Xp aa aa]
   rfl
  .simp_all
  .show pg (y.1.set _ _) i=_
   rw[Y6 _ v f S,Wi B,q3 i S,Wi B,Wi aa]
  .show(pg (y.1.set _ _) j).k=1/\(pg (y.1.set _ _) j).u=_
   rw[Y6 _ v f v,Wm rfl]
   refine⟨rfl,?_⟩
   show wI (0+n)=0+n
   rw[Xc aa aa]
  .show(pg (y.1.set _ _) j).s=_/\(pg (y.1.set _ _) j).P=_
   rw[Y6 _ v f v,Wm rfl]
   simp
 refine Uc aa (Im (Wq (λht=>?_) λ_=>new));have ht:0<(w.t.length:Int):=Wy ht;rw[Xc (n:=(w.t.length:Int)-1) aa aa];refine Ok.get aa aa λj O=>?_;have M:=YI O;have⟨A,G,t2,t3,t4⟩:=I.tk j M;refine Ok.get A G λp z=>?_;have g:=YK z;subst g;rw[Xc (n:=(pg w.h.p j).u+n) aa aa];refine Wq (λD=>?_) λ_=>new;have D:(pg w.h.p j).u+n<=w.h.c.W:=Wy D;rw[I.conf]at D;refine Ok.get aa aa λj' hj'=>?_;obtain rfl:j=j':=WA (O.symm.trans hj');refine Ok.get A G λp1 K=>Ok.get A G λp2 z=>Ok.get A G λp3 L=>We λ_=>?_;have g1:=YK K;have g2:=YK z;have g3:=YK L;subst g1;subst g2;subst g3;have hm:=XP hp.conf (i:=j) A aa;refine⟨j,(pg w.h.p j).u,⟨⟨A,G⟩,⟨t3,D⟩,?_,rfl,rfl,rfl,rfl,rfl,rfl,?_,λi S B=>?_,?_,.inl ⟨M,?_⟩,.inl ⟨M,rfl,rfl⟩⟩⟩
 .show wU (wI (wI (4096+wI (j*w.h.c.W))+_))=_;rw[I.conf,Xc (n:=j*h0.c.W) aa aa,Xc (n:=4096+j*h0.c.W) aa aa,Xc aa aa,Xp aa aa];rfl
 .simp
 .simp[Y6,A,G,S,Wi,B]
 .rw[Y6 _ A G A,Wm rfl];refine⟨t2,?_⟩;rw[Xc aa aa]
 rw[Y6 _ A G A,Wm rfl];simp
end
def XrN{a b:Int}(e:4096<=a)(hb:4096<=b)(h:ix a=ix b):a=b:=by unfold ix at h;omega
def XbU{ws:List Int}{x a v:Int}(f:inW ws x)(g:4096<=a):wd (ws.set (ix x) v) a=if a=x then v else wd ws a:=by
 unfold wd;have j:ix x<ws.length:=by unfold inW at f;unfold ix;omega
 rw[Wj,Wj,If];by_cases h:a=x
 .simp_all
 rw[Wi h,Wi];intro e;exact h (XrN g f.1 e.symm)
def XpE{ws:List Int}{f a x:Int}{k:Nat}(g:YA ws a k)(j:YA ws f k)(p:4096<=x):wd (ovr ws ((ws.drop (ix a)).take k) (ix f)) x=if f<=x/\x<f+k then wd ws (a+(x-f))else wd ws x:=by
 have e:((ws.drop (ix a)).take k).length=k:=by unfold YA at g;simp[ix];omega
 unfold wd;rw[V0 (by rw[e];unfold YA at j;unfold ix;omega),e];unfold YA at g j;by_cases h:f<=x/\x<f+k
 .rw[Wm h,Wm (by unfold ix;omega),Wj,Us,Wm (by unfold ix;omega),UK,←Wj];congr 1;unfold ix;omega
 rw[Wi h,Wi (by unfold ix;omega)]
def Xbo{ws:List Int}{f a:Int}{k:Nat}(g:YA ws a k)(h:YA ws f k):(ovr ws ((ws.drop (ix a)).take k) (ix f)).length=ws.length:=by
 have e:((ws.drop (ix a)).take k).length=k:=by unfold YA at g;simp[ix];omega
 exact ZF (by rw[e];unfold YA at h;unfold ix;omega)
def Vu{c:WN}(f:X9 c=true){i j o p:Int}(h:i<j)(g:o<=c.W)(k:0<=p):Xd c i o<=Xd c j p:=by
 have q:=Xj.1 f;have:(i+1)*c.W<=j*c.W:=Ut aa aa;have e:(i+1)*c.W=i*c.W+c.W:=by rw[IB,Oe]
 unfold Xd;omega
section
variable {N:Nat}{h0:Wk}{l:List Int}
structure OH(h0:Wk)(l:List Int)(w w':Ww)(O:Int->Prop)(s:Int->Int):Prop where
 ci:CI h0 l w'
 ob:∃O' s',Ox h0 l w' O' s'/\∀a,O a->O' a/\s' a=s a
 sc:w'.d=w.d
 ql:w.q.length<=w'.q.length
def SameK(ps e:List Ws):Prop:=e.length=ps.length/\∀i,0<=i->(pg e i).k=(pg ps i).k/\(pg e i).u=(pg ps i).u
def SameK.refl(ps:List Ws):SameK ps ps:=⟨rfl,λ_ _=>⟨rfl,rfl⟩⟩
def SameK.set{ps f:List Ws}(h:SameK ps f){i:Int}(h0:0<=i)(p:i<f.length)(sp pins:Int):SameK ps (f.set i.toNat ⟨(pg f i).k,sp,(pg f i).u,pins⟩):=by
 refine⟨by rw[WL];exact h.1,λj g=>?_⟩;rw[Y6 _ h0 p g];split
 .rename_i e;subst e;exact h.2 j g
 exact h.2 j g
def XfJ(w:Ww)(a:Int){ps:List Ws}(h:ps.length<=100000):∀(n:Nat) (i:Int) (e:List Ws),0<=i->i<=ps.length->(ps.length-i).toNat<n->SameK ps e->Ok (QaP N w a n i e) λr=>SameK ps r
 |0,i,e,_,_,j,_=>by omega
 |n+1,i,e,h0,q,j,g=>by have s:=g.1;refine Uc aa (Wq (λf=>?_) λ_=>We g);have f:i<e.length:=Wy f;rw[Xc (n:=i+1) aa aa];refine Ok.get h0 f λp hp=>Wq (λ_=>Ok.get h0 f λp hp=>?_) λ_=>We g;have k:=YK hp;subst k;exact XfJ w a h n (i+1) _ aa aa aa (g.set h0 f _ _)
def CI.pages{w:Ww}(e:CI h0 l w){r:List Ws}(h:SameK w.h.p r):CI h0 l {w with h:={w.h with p:=r}}:=by
 have⟨O,s,f⟩:=e.obj;refine⟨e.conf,e.wlen,h.1.trans e.plen,e.spc,e.old,λj k=>?_,e.tnd,λa g=>?_,e.qnd,?_⟩
 .have:=e.tk j k;have q:=h.2 j this.1;rw[q.1,q.2,h.1];omega
 .have z:=e.knd a g;by_cases hp:0<=pgi h0.c a
  .rw[(h.2 _ hp).1];omega
  have u:∀ps:List Ws,pg ps (pgi h0.c a)=pg ps 0:=λps=>by unfold pg;grind
  rw[u,(h.2 0 aa).1,←u,z]
 refine⟨O,s,f.old,f.queue,f.fit,f.apart,λa g j k=>?_,λa g j v q y=>?_⟩
 .rw[(h.2 j (e.tk j k).1).2];exact f.taken a g j k
 rw[(h.2 j v).1]at y;exact f.free a g j v (by rw[←h.1];omega) y
def Ox.pages{w:Ww}{O:Int->Prop}{s:Int->Int}(u:CI h0 l w)(e:Ox h0 l w O s){g:List Ws}(h:SameK w.h.p g):Ox h0 l {w with h:={w.h with p:=g}} O s:=by
 refine⟨e.old,e.queue,e.fit,e.apart,λa f j k=>?_,λa f j q v r=>?_⟩
 .rw[(h.2 j (u.tk j k).1).2];exact e.taken a f j k
 rw[(h.2 j q).1]at r;exact e.free a f j q (by rw[←h.1];omega) r
def CI.push{w:Ww}{O:Int->Prop}{s:Int->Int}(e:CI h0 l w)(g:Ox h0 l w O s){a:Int}(p:O a)(u:a∉w.q)(k:WR):OH h0 l w {w with q:=w.q++[a],r:=k} O s:=by
 have j:Ox h0 l {w with q:=w.q++[a],r:=k} O s:=by
  refine⟨g.old,λx f=>?_,g.fit,g.apart,g.taken,g.free⟩;rcases Wt.1 f with f|f
  .exact g.queue x f
  rw[Ui.1 f];exact p
 refine⟨⟨e.conf,e.wlen,e.plen,e.spc,e.old,e.tk,e.tnd,e.knd,?_,⟨O,s,j⟩⟩,⟨O,s,j,λa h=>⟨h,rfl⟩⟩,rfl,?_⟩
 .rw[U4];refine⟨e.qnd,ab,λx f y v=>?_⟩;rw[Ui.1 v];rintro rfl;exact u f
 simp
end
section
variable {N:Nat}{h0:Wk}{l:List Int}
def XfK(hp:Uy h0){w w':Ww}{O:Int->Prop}{s:Int->Int}(z:CI h0 l w)(k:Ox h0 l w O s){a n at_ j u:Int}(q:a∈l)(hn:n=szA w.h.w a)(J:1<=n)(p:OC h0 w n w' at_ j u)(v:Int):
 YA w.h.w a n.toNat/\YA w.h.w at_ n.toNat/\(∀x,O x->x+s x<=at_\/Xd h0.c (j+1) 0<=x)/\¬O at_/\(∀x,O x->x+s x<=at_\/at_+n<=x)/\(∀x,4096<=x->wd ((ovr w.h.w ((w.h.w.drop (ix a)).take n.toNat) (ix at_)).set (ix a) v) x=if x=a then v else if at_<=x/\x<at_+n then wd w.h.w (a+(x-at_))else wd w.h.w x):=by
 have⟨r,K⟩:=k.old a q;have⟨L,M,R,S⟩:=k.fit a r;have U:=z.wlen;have V:=hp.words;have Y:=z.plen;have A:=hp.pages;have⟨B,Z⟩:=p.rng;have hm:=XP hp.conf (i:=j) B aa;have⟨u0,u1⟩:=p.fit;have g:at_=Xd h0.c j u:=p.addr;have D:at_=4096+j*h0.c.W+u:=g;have y:at_+n<=Xd h0.c (j+1) 0:=by
  have e:(j+1)*h0.c.W=j*h0.c.W+h0.c.W:=by rw[IB,Oe]
  unfold Xd;omega
 have E:YA w.h.w a n.toNat:=by unfold YA;omega
 have G:YA w.h.w at_ n.toNat:=by unfold YA;omega
 have away:∀x,O x->x+s x<=at_\/Xd h0.c (j+1) 0<=x:=by
  intro x f;rcases p.way with⟨g1,g2,g3⟩|⟨g1,g2,g3⟩
  .have:=k.taken x f j g1;rw[←g3,←g]at this;exact this
  have:=k.free x f j B Z g1;rw[g3]at g;rw[g];exact this
 have fresh:¬O at_:=by intro f;have:=away at_ f;have:=(k.fit at_ f).2.1;omega
 have aw2:∀x,O x->x+s x<=at_\/at_+n<=x:=λx f=>by have:=away x f;omega
 have I:(ovr w.h.w ((w.h.w.drop (ix a)).take n.toNat) (ix at_)).length=w.h.w.length:=Xbo E G;have hwd:∀x,4096<=x->wd ((ovr w.h.w ((w.h.w.drop (ix a)).take n.toNat) (ix at_)).set (ix a) v) x=if x=a then v else if at_<=x/\x<at_+n then wd w.h.w (a+(x-at_))else wd w.h.w x:=by intro x f;rw[XbU (by unfold inW;omega) f,XpE E G f];have:(n.toNat:Int)=n:=aa;rw[this]
 simp_all
def XmW(hp:Uy h0)(Y:∀a∈l,(pg h0.p (pgi h0.c a)).k=1\/(pg h0.p (pgi h0.c a)).k=2)(hpr:∀a∈l,0<=pgi h0.c a){w w':Ww}{O:Int->Prop}{s:Int->Int}(A:CI h0 l w)(J:Ox h0 l w O s){a n at_ j u:Int}(Z:a∈l)(hn:n=szA w.h.w a)(hn1:1<=n)(g:OC h0 w n w' at_ j u)(v:Int)(hv:v % 4=2)(rp:WR):
 YA w.h.w a n.toNat/\YA w.h.w at_ n.toNat/\4096<=at_/\at_<=200000/\OH h0 l w {w' with h:={w'.h with w:=(ovr w.h.w ((w.h.w.drop (ix a)).take n.toNat) (ix at_)).set (ix a) v},q:=w'.q++[at_],r:=rp} O s:=by
 have⟨hOa,hsa⟩:=J.old a Z;have hwl:=A.wlen;have hw0:=hp.words;have hpl:=A.plen;have hpl0:=hp.pages;have⟨r1,r2⟩:=g.rng;have hm:=XP hp.conf (i:=j) r1 aa;have⟨u0,u1⟩:=g.fit;have hat:at_=Xd h0.c j u:=g.addr;have hat1:at_=4096+j*h0.c.W+u:=hat;have hend:at_+n=Xd h0.c j (u+n):=by rw[hat];unfold Xd;omega
 have⟨i1,i2,away,fresh,L,M⟩:=XfK hp A J Z hn hn1 g v;have hne:a≠at_:=λe=>fresh (e▸hOa);have hlen:(ovr w.h.w ((w.h.w.drop (ix a)).take n.toNat) (ix at_)).length=w.h.w.length:=Xbo i1 i2;have E:((ovr w.h.w ((w.h.w.drop (ix a)).take n.toNat) (ix at_)).set (ix a) v).length=w.h.w.length:=by rw[WL,hlen]
 have hsz:∀x,O x->szA ((ovr w.h.w ((w.h.w.drop (ix a)).take n.toNat) (ix at_)).set (ix a) v) x<=s x:=by
  intro x f;have hf:=J.fit x f;by_cases hxa:x=a
  .have:szA ((ovr w.h.w ((w.h.w.drop (ix a)).take n.toNat) (ix at_)).set (ix a) v) x=1:=by apply XpD;rw[M x hf.1,Wm hxa];exact hv
   omega
  have:szA ((ovr w.h.w ((w.h.w.drop (ix a)).take n.toNat) (ix at_)).set (ix a) v) x=szA w.h.w x:=by unfold szA hdA;rw[M x hf.1,Wi hxa,Wi];have:=L x f;omega
  omega
 have R:szA ((ovr w.h.w ((w.h.w.drop (ix a)).take n.toNat) (ix at_)).set (ix a) v) at_=n:=by refine Eq.trans ?_ hn.symm;unfold szA hdA;rw[M at_ aa,Wi (λe=>hne e.symm),Wm aa];rw[show a+(at_-at_)=a by omega]
 have G:=g.this;have hk0:∀i,0<=i->(pg w'.h.p i).k=0->i≠j/\(pg w.h.p i).k=0:=by
  intro i B hk;have z:i≠j:=by rintro rfl;rw[G.1]at hk;cases hk
  rw[g.other i B z]at hk;exact⟨z,hk⟩
 have htk:∀i∈w'.t,i=j\/(i∈w.t/\i≠j):=by
  intro i B;by_cases z:i=j
  .exact .inl z
  right;refine⟨?_,z⟩;rcases g.way with⟨_,g2,_⟩|⟨_,g2,_⟩
  .rwa[g2]at B
  rw[g2]at B;rcases Wt.1 B with B|B
  .exact B
  exact absurd (Ui.1 B) z
 have hqe:w'.q=w.q:=g.queue;refine⟨i1,i2,aa,aa,?_⟩;have hO:Ox h0 l {w' with h:={w'.h with w:=(ovr w.h.w ((w.h.w.drop (ix a)).take n.toNat) (ix at_)).set (ix a) v},q:=w'.q++[at_],r:=rp} (λx=>O x\/x=at_) (λx=>if x=at_ then n else s x):=by
  have ne:∀x,O x->x≠at_:=λx f e=>fresh (e▸f);refine⟨λx f=>?_,λx f=>?_,λx f=>?_,λx y f I hxy=>?_,λx f i B=>?_,λx f i g1 g2 g3=>?_⟩
  .have⟨q1,q2⟩:=J.old x f;exact⟨.inl q1,by rw[Wi (ne x q1)];exact q2⟩
  .rcases Wt.1 f with f|f
   .rw[hqe]at f;exact .inl (J.queue x f)
   exact .inr (Ui.1 f)
  .rw[E];rcases f with f|rfl
   .rw[Wi (ne x f)];have⟨f1,f2,f3,f4⟩:=J.fit x f;exact⟨f1,f2,f3,hsz x f⟩
   rw[Wm rfl,R];omega
  .rcases f with f|rfl
   .rcases I with I|rfl
    .rw[Wi (ne x f),Wi (ne y I)];exact J.apart x y f I hxy
    have:=L x f;omega
   rcases I with I|rfl
   .have:=L y I;omega
   exact absurd rfl hxy
  .rcases htk i B with rfl|⟨K,S⟩
   .rw[G.2];rcases f with f|rfl
    .have:=away x f;omega
    omega
   have⟨t1,t2,t3,t4,t5⟩:=A.tk i K;rw[g.other i t1 S];rcases f with f|rfl
   .rw[Wi (ne x f)];exact J.taken x f i K
   by_cases U:i<j
   .have:=Vu hp.conf (o:=h0.c.W) (p:=u) U aa u0;have e:Xd h0.c (i+1) 0=Xd h0.c i h0.c.W:=by unfold Xd;rw[IB,Oe];omega
    omega
   have:=Vu hp.conf (i:=j) (j:=i) (o:=u+n) (p:=(pg w.h.p i).u) aa aa t4;omega
  have⟨k1,k2⟩:=hk0 i g1 g3;rcases f with f|rfl
  .rw[Wi (ne x f)];exact J.free x f i g1 (by rw[←g.plen];exact g2) k2
  by_cases U:i<j
  .have:=Vu hp.conf (o:=h0.c.W) (p:=u) U aa u0;have e:Xd h0.c (i+1) 0=Xd h0.c i h0.c.W:=by unfold Xd;rw[IB,Oe];omega
   omega
  have:=Vu hp.conf (i:=j) (j:=i) (o:=u+n) (p:=0) aa aa aa;omega
 refine⟨⟨?_,?_,?_,?_,?_,λi B=>?_,?_,λx f=>?_,?_,⟨_,_,hO⟩⟩,⟨_,_,hO,λx f=>⟨.inl f,?_⟩⟩,g.scanned,?_⟩
 .exact g.conf.trans A.conf
 .exact E.trans A.wlen
 .exact g.plen.trans A.plen
 .exact g.space.trans A.spc
 .exact(by rw[g.old];exact A.old)
 .rw[g.plen];rcases htk i B with rfl|⟨K,S⟩
  .rw[G.1,G.2];omega
  have:=A.tk i K;rw[g.other i this.1 S];exact this
 .rcases g.way with⟨_,g2,_⟩|⟨g1,g2,_⟩
  .rw[g2];exact A.tnd
  rw[g2,U4];refine⟨A.tnd,ab,λx f y I=>?_⟩;rw[Ui.1 I];rintro rfl;rw[(A.tk x f).2.2.1]at g1;cases g1
 .have D:=A.knd x f;have V:=Y x f;by_cases z:pgi h0.c x=j
  .rw[z]at D V⊢;rw[G.1];rcases g.way with⟨g1,_,_⟩|⟨g1,_,_⟩
   .rw[(A.tk j g1).2.2.1]at D;exact D
   rw[g1]at D;rw[←D]at V;rcases V with h|h<;>cases h
  rw[g.other _ (hpr x f) z];exact D
 .rw[hqe,U4];refine⟨A.qnd,ab,λx f y I=>?_⟩;rw[Ui.1 I];rintro rfl;exact fresh (J.queue x f)
 .exact Wi (λe=>fresh (by rw[←e];exact f))
 simp_all
structure Start(N:Nat)(h0:Wk)(l:List Int):Prop where
 hb:HB h0
 good:l≠[]->OD N h0
 prop:l≠[]->Uy h0
 st:Iy N h0 l
def Xg8(a:Int)(h0:0<=a)(e:a<4294967296):wU (wU (4*a)+2) % 4=2:=by rw[Xp (n:=4*a) aa aa,Xp aa aa];omega
def YU{l:List Int}{a:Int}(h:l.contains a=false):a∉l:=by simp_all
def Yh{l:List Int}{a:Int}(h:l.contains a=true):a∈l:=by simp_all
def CI.wl{w:Ww}(hb:HB h0)(e:CI h0 l w):w.h.w.length<=BIG:=by have:=hb.1;have:=e.wlen;unfold BIG;omega
def XaY(hN:NB N)(A:Start N h0 l){w:Ww}{O:Int->Prop}{s:Int->Int}(g:CI h0 l w)(z:Ox h0 l w O s)(a:Int):Ok (QaL N w a) λr=>r.2.2=0->OH h0 l w r.1 O s:=by
 have V:=hN;unfold NB at V;have hb:=A.hb;have hql:=g.ql hb;have J:=g.wl hb;have hww:=g.wlen;have hpl:=g.plen;have same:OH h0 l w w O s:=⟨g,⟨O,s,z,λ_ h=>⟨h,rfl⟩⟩,rfl,Uo _⟩
 refine Wq (λ_=>We λ_=>same) λ_=>?_;rw[Yx a aa aa,Xa];refine Wq (λ_=>We λ_=>same) λU=>?_;have U:=YU U;have hol:=g.old.length_le;have hsl:=A.st.len;rw[Yx a aa aa,Xa];refine Wq (λ_=>We λe=>by grind) λf=>?_;have f:a∈l:=g.old.subset (Yh (by simp_all));have K:l≠[]:=IY f;have hp:=A.prop K;have hg:=A.good K;have W:=A.st.obj.at_ a f;have hwd0:=hp.words;have hpg0:=hp.pages;have hvc:=Xj.1 hp.conf;have B:=W.rng;have⟨_,Y,q1,_⟩:=Yq hp.conf B;have L:inW w.h.w a:=by unfold inW;omega
 rw[Ye J,Xa,Wm L,KJ,Xa];have Z:Qch N w.h.c a=some (pgi h0.c a,pgo h0.c a,0):=by rw[K5,g.conf,hp.conf,Wi ab,Wm B];rfl
 rw[Z,Xa];refine Wq (λ_=>We λ_=>same) λ_=>?_;refine Wq (λ_=>We λe=>by grind) λ_=>?_;refine Wq (λ_=>We λe=>by grind) λ_=>?_;refine WI (Xcr hN (g.tl hb) _) λb _ _=>Wq (λ_=>?_) λ_=>?_
 .rw[QcY,Xb aa,Xb aa,Xa];exact We λ_=>g.push z (z.old a f).1 U _
 refine Ok.get Y aa λp E=>Wq (λ_=>?_) λhk2=>?_
 .refine Uc aa (Ok.get Y aa λp E=>?_);have G:=YK E;subst G;rw[Xc (n:=pgi h0.c a+1) aa aa];refine WI (XfJ w a (ps:=w.h.p) aa N (pgi h0.c a+1) _ aa aa aa ((SameK.refl _).set Y aa _ _)) λqs _ M=>?_;rw[QcY,Xb (by grind),Xb (by grind),Xa];refine We λ_=>?_;have q:=λrp=>(g.pages M).push (z.pages g M) (z.old a f).1 U rp;exact⟨(q _).ci,(q _).ob,(q w.r).sc,(q w.r).ql⟩
 have G:=YK E;have D:∀x∈l,(pg h0.p (pgi h0.c x)).k=1\/(pg h0.p (pgi h0.c x)).k=2:=λx hx=>(A.st.obj.at_ x hx).kind;have hpr:∀x∈l,0<=pgi h0.c x:=λx hx=>(Yq hp.conf (A.st.obj.at_ x hx).rng).2.1;have hk1:(pg h0.p (pgi h0.c a)).k=1:=by
  rcases D a f with h|h
  .omega
  rw[←g.knd a f,G]at h;grind
 have hsz:=hg.sz A.st f hk1;have hso:=(z.old a f).2;have hfit:=z.fit a (z.old a f).1;have I:=XL w.h.w a;rw[ZR,Xa,XW,Xa];have e1:Xw (Zq (w.h.w.getD (ix a) 0))=szA w.h.w a:=I.1;rw[e1];refine WI (Xdq hN hb hp g (n:=szA w.h.w a) I.2.1 aa) λy _ hy=>Wq (λ_=>We λe=>by grind) λhy2=>?_;have⟨j,u,pq⟩:=hy (by grind);have q:=λv hv rp=>XmW (n:=szA w.h.w a) hp D hpr g z f rfl I.2.1 pq v hv rp;have⟨i1,i2,a1,a2,_⟩:=q 2 rfl y.1.r;rw[pq.words];have en:szA w.h.w a=(((szA w.h.w a).toNat:Nat):Int):=aa;have R:=XfD (N:=N) J y.2.1 a (szA w.h.w a).toNat aa aa;rw[←en,Wm ⟨i1,i2⟩]at R;rw[R,Xa,Vt,Xa,Wi aa];have ol:=Xbo i1 i2;rw[Z3 (by grind) aa,Xa];have S:inW (ovr w.h.w ((w.h.w.drop (ix a)).take (szA w.h.w a).toNat) (ix y.2.1)) a:=by unfold inW;rw[ol];exact L
 rw[Wm S];have hqe:=pq.queue;refine Uc (by grind) (Uc (by grind) (We λ_=>?_));exact(q _ (Xg8 y.2.1 aa aa) _).2.2.2.2
end
section
variable {N:Nat}{h0:Wk}{l:List Int}
def Xdr(h:Wk)(y:List Int×Int)(j:h.p.length<=100000):∀(n:Nat) (i:Int) (e:List Ws),0<=i->i<=h.p.length->(h.p.length-i).toNat<n->SameK h.p e->Ok (QbK N h y n i e) λr=>SameK h.p r
 |0,i,e,_,_,k,_=>by omega
 |n+1,i,e,h0,s,k,g=>by
  have u:=g.1;refine Uc aa (Wq (λf=>?_) λ_=>We g);have f:i<e.length:=Wy f;rw[Xc (n:=i+1) aa aa];have next:=Xdr h y j n (i+1) e aa aa aa g
  refine Ok.get h0 f λp hp=>Wq (λ_=>Wq (λ_=>Ok.get h0 f λp hp=>?_) λ_=>next) λ_=>next
  have q:=YK hp;subst q;exact Xdr h y j n (i+1) _ aa aa aa (g.set h0 f _ _)
def XiE{h:Wk}(hp:Uy h){a:Int}(f:Iz h a){j:Int}(v:0<=j)(y:(pg h.p j).k=0):a+szA h.w a<=Xd h.c j 0\/Xd h.c (j+1) 0<=a:=by
 have⟨k,k1,k2,z,r⟩:=XcI hp f;have⟨A,B,D,s,E⟩:=Yq hp.conf f.rng;have u:=f.kind;by_cases g:j<pgi h.c a
 .have:=Vu hp.conf (o:=h.c.W) (p:=pgo h.c a) g aa s;have e:Xd h.c (j+1) 0=Xd h.c j h.c.W:=by unfold Xd;rw[IB,Oe];omega
  omega
 by_cases G:j=pgi h.c a
 .grind
 by_cases q:j<pgi h.c a+k
 .have:=r (j-pgi h.c a) aa aa;grind
 have:(pgi h.c a+k)*h.c.W<=j*h.c.W:=Ut aa aa;have I:Xd h.c (pgi h.c a+k) 0=4096+(pgi h.c a+k)*h.c.W+0:=rfl;have J:Xd h.c j 0=4096+j*h.c.W+0:=rfl;omega
def Xds{h:Wk}(hb:HB h)(hp:Uy h){l:List Int}(g:Iy N h l){w:Ww}(z:w.h.c=h.c)(A:w.h.w=h.w)(e3:w.h.s=h.s)(k:SameK h.p w.h.p)(e4:w.o.Sublist l)(E:w.t=[])(G:w.q=[]):CI h l w:=by
 have B:Ox h l w (λa=>a∈l) (szA h.w):=by
  refine⟨λa e=>⟨e,rfl⟩,λa e=>(by simp_all),λa e=>?_,λa b e r D=>?_,λa e j v=>(by simp_all),λa e j f I y=>?_⟩
  .rw[A];have f:=g.obj.at_ a e;exact⟨f.rng.1,(XL h.w a).2.1,Ks hp f,Ux _⟩
  .have u:=g.obj.pw;rw[Un]at u;have⟨i,J,K⟩:=WE e;have⟨j,v,L⟩:=WE r;grind
  rw[(k.2 j f).1]at y;exact XiE hp (g.obj.at_ a e) f y
 refine⟨z,by grind,k.1,e3,e4,λj v=>(by simp_all),by simp_all,λa e=>?_,by simp_all,⟨_,_,B⟩⟩;exact(k.2 _ (Yq hp.conf (g.obj.at_ a e).rng).2.1).1
def zW:Ww:=⟨zH,[],[],[],0,⟨0,0,0,0,0,0⟩⟩
def XmX(N:Nat):Start N zH []:=⟨KC,λh=>absurd rfl h,λh=>absurd rfl h,Iy.nil N zH⟩
def XsV:CI zH [] zW:=by refine⟨rfl,rfl,rfl,rfl,.refl _,λj f=>(by cases f),List.nodup_nil,λa e=>(by rfl),List.nodup_nil,⟨λ_=>False,λ_=>0,?_⟩⟩;exact⟨λa e=>(by grind),λa e=>(by cases e),λa e=>e.elim,λa b e=>e.elim,λa e=>e.elim,λa e=>e.elim⟩
structure O6(N:Nat)(h:Wk)(l:List Int)(w:Ww):Prop where
 st:Start N h l
 ci:CI h l w
 sc:w.d=0
 pr:Uy h\/h.p=[]
def XmY(hN:NB N){h:Wk}(hb:HB h):Ok (Qda N h) λr=>∃e l,O6 N e l r.1:=by
 have f:=hN;unfold NB at f;have g:=hb.2;have zero:∃e l,O6 N e l zW:=⟨zH,[],XmX N,XsV,rfl,.inr rfl⟩
 refine WI (YZ (N:=N) aa hb.1 hb.2) λb eb hp=>Wq (λ_=>We zero) λs=>?_;have hp:=hp (by simp_all);refine WI (KQ hN hb) λb _ j=>Wq (λ_=>We zero) λg=>?_;have j:=j (by simp_all);refine WI (KK hN hb) λy _ q=>Uc aa ?_;refine WI (Xdr h y aa N 0 h.p aa aa aa (SameK.refl _)) λu _ k=>We ?_;exact⟨h,y.1,⟨hb,λ_=>j,λ_=>hp,q.1⟩,Xds hb hp q.1 rfl rfl rfl k (.refl _) rfl rfl,rfl,.inl hp⟩
def Xg9(hN:NB N)(A:Start N h0 l)(rs:List Int)(B:rs.length<=1000000):∀(n:Nat) (i:Int) (w:Ww) (out:List Int),0<=i->i<=rs.length->(rs.length-i).toNat<n->CI h0 l w->(out.length:Int)=i ->
 Ok (Qa8 N rs n i w.h.c.W w.h.c.p w.h.w w.h.p w.h.s w.h.b w.o w.t w.q w.d w.r.j w.r.K w.r.F w.r.E w.r.f w.r.y out) λe=>match e with
  |.ret r=>r.2.2≠0
  |.nxt t=>∃(w':Ww) (g:List Int),CI h0 l w'/\w'.d=w.d/\g.length=rs.length/\t=(w'.h.c.W,w'.h.c.p,w'.h.w,w'.h.p,w'.h.s,w'.h.b,w'.o,w'.t,w'.q,w'.d,w'.r.j,w'.r.K,w'.r.F,w'.r.E,w'.r.f,w'.r.y,g)
 |0,i,w,out,_,_,D,_,_=>by omega
 |n+1,i,w,out,G,R,D,u,S=>by
  refine Wq (λk=>?_) λk=>We ⟨w,out,u,rfl,by grind,rfl⟩;have k:i<rs.length:=Wy k;rw[Xc (n:=i+1) aa aa];have⟨O,s,v⟩:=u.obj;refine Ok.get G k λp hp=>WI (XaY hN A u v p) λy _ I=>Wq (λz=>We (by simp_all)) λz=>?_;have q:=I (by simp_all);refine Uc aa ((Xg9 hN A rs B n (i+1) y.1 (out++[y.2.1]) aa aa aa q.ci (by simp_all)).mono λe z=>?_);cases e with
  |ret r=>omega
  |nxt t=>have⟨w',o',c1,J,L,M⟩:=z;exact⟨w',o',c1,J.trans q.sc,L,M⟩
def XmZ(hN:NB N)(g:Start N h0 l){rs:List Int}(h:rs.length<=1000000){w:Ww}(j:CI h0 l w):Ok (Qdb N w rs) λr=>r.2.2=0->CI h0 l r.1/\r.1.d=w.d/\r.2.1.length=rs.length:=by have f:=hN;unfold NB at f;refine IS (Xg9 hN g rs h N 0 w [] aa aa aa j rfl) (λa q=>We λe=>absurd e q) λb q=>We λ_=>?_;obtain⟨w',o',c1,k,p,rfl⟩:=q;exact⟨c1,k,p⟩
end
def ZA{d:Wv}{x:Int}(h:x∈X5 d):0<=x/\x<d.n:=by
 unfold X5 at h;by_cases e:XN d=true
 .rw[Wm e]at h;have:=K8 h;omega
 simp_all
def Xaq(d:Wv):(X5 d).length<=255:=by
 unfold X5;by_cases e:XN d=true
 .rw[Wm e];have:=Vs (d:=d) (k:=d.n.toNat) (i:=0);have:=XO e;omega
 simp_all
section
variable {N:Nat}{h0:Wk}{l:List Int}
def XfL{w:Ww}{O:Int->Prop}{s:Int->Int}(e:CI h0 l w)(f:Ox h0 l w O s){p x:Int}(hp:O p)(y:p<x)(z:x<p+s p)(v:Int):
 inW w.h.w x/\CI h0 l {w with h:={w.h with w:=w.h.w.set (ix x) v}}/\Ox h0 l {w with h:={w.h with w:=w.h.w.set (ix x) v}} O s:=by
 have A:=f.fit p hp;have g:inW w.h.w x:=by unfold inW;omega
 have j:Ox h0 l {w with h:={w.h with w:=w.h.w.set (ix x) v}} O s:=by
  refine⟨f.old,f.queue,λa k=>?_,f.apart,f.taken,f.free⟩;show 4096<=a/\1<=s a/\a+s a<=4096+(w.h.w.set (ix x) v).length/\szA (w.h.w.set (ix x) v) a<=s a;obtain⟨f1,f2,q,r⟩:=f.fit a k;rw[WL];refine⟨f1,f2,q,?_⟩;have:a≠x:=by
   rintro rfl;by_cases u:a=p
   .omega
   have:=f.apart a p k hp u;omega
  unfold szA hdA at *;rw[XbU g f1,Wi this];exact r
 refine⟨g,⟨e.conf,?_,e.plen,e.spc,e.old,e.tk,e.tnd,e.knd,e.qnd,⟨O,s,j⟩⟩,j⟩;rw[WL];exact e.wlen
def XjE(hN:NB N)(g:Start N h0 l){p:Int}{ks:List Int}(A:ks.length<=255):∀(n:Nat) (i:Int) (w:Ww) (O:Int->Prop) (s:Int->Int),0<=i->i<=ks.length->(ks.length-i).toNat<n->CI h0 l w->Ox h0 l w O s->O p->(∀k∈ks,0<=k/\k<255/\k+1<s p) ->
 Ok (Qbm N p ks n i w.h.c.W w.h.c.p w.h.w w.h.p w.h.s w.h.b w.o w.t w.q w.d w.r.j w.r.K w.r.F w.r.E w.r.f w.r.y) λe=>match e with
  |.ret r=>r.2.2≠0
  |.nxt t=>∃(w':Ww),CI h0 l w'/\w'.d=w.d/\w.q.length<=w'.q.length/\t=(w'.h.c.W,w'.h.c.p,w'.h.w,w'.h.p,w'.h.s,w'.h.b,w'.o,w'.t,w'.q,w'.d,w'.r.j,w'.r.K,w'.r.F,w'.r.E,w'.r.f,w'.r.y)
 |0,i,w,O,s,_,_,M,_,_,_,_=>by omega
 |n+1,i,w,O,s,R,hi,M,v,L,hp,S=>by
  have B:=hN;unfold NB at B;have U:=g.hb.1;refine Wq (λz=>?_) λz=>We ⟨w,v,rfl,Uo _,rfl⟩;have z:i<ks.length:=Wy z;rw[Xc (n:=i+1) aa aa];refine Ok.get R z λk D=>?_;have G:=YI D;have⟨k0,k1,k2⟩:=S k G;have hf:=L.fit p hp;have V:=v.wlen;rw[Xp (n:=p+1) aa aa,Xp (n:=k) aa aa,Xp (n:=p+1+k) aa aa];rw[Ye (v.wl g.hb),Xa];refine WI (XaY hN g v L _) λy _ Y=>Wq (λI=>We (by simp_all)) λI=>?_;have q:=Y (by simp_all);have⟨O',Z,J,hx⟩:=q.ob;have⟨u,hs'⟩:=hx p hp;have st:=XfL q.ci J u (x:=p+1+k) aa aa y.2.1;rw[Z3 (q.ci.wl g.hb) aa,Xa,Wm st.1];refine(XjE hN g A n (i+1) _ O' Z aa aa aa st.2.1 st.2.2 u (λk' hk'=>by simp_all)).mono λe I=>?_;cases e with
  |ret r=>omega
  |nxt t=>have⟨w',c1,c2,c3,c4⟩:=I;exact⟨w',c1,c2.trans q.sc,UO q.ql c3,c4⟩
def XpF(hN:NB N)(G:Start N h0 l){w:Ww}(g:CI h0 l w)(j:0<=w.d)(v:w.d<=w.q.length):Ok (Qet N w) λr=>r.2.2=0->CI h0 l r.1/\0<=r.1.d/\r.1.d<=r.1.q.length/\(r.2.1=true->r.1.d=w.d+1):=by
 have y:=hN;unfold NB at y;have hb:=G.hb;have I:=g.ql hb;refine Wq (λ_=>We λ_=>⟨g,j,v,λe=>by grind⟩) λf=>?_;have f:w.d<w.q.length:=by have:=WV f;omega
 refine Ok.get j f λp hp=>?_;have z:=YI hp;have⟨O,s,A⟩:=g.obj;have u:=A.queue p z;have L:=A.fit p u;have B:inW w.h.w p:=by unfold inW;omega
 rw[Qdw,Ye (g.wl hb),Xa,Wm B,ZR,Xa,Xa,Xdl aa,Xa];have D:=Xaq (hdA w.h.w p);have E:=XO (Kc (wd w.h.w p));refine IS (XjE hN G (p:=p) (ks:=X5 (hdA w.h.w p)) D N 0 w O s aa aa aa g A u λk J=>?_) (λa q=>We λe=>absurd e q) λt q=>We λ_=>?_
 .have M:=ZA J;have R:szA w.h.w p=(hdA w.h.w p).n+1:=rfl;have S:(hdA w.h.w p).n<=255:=E.2.2.2;omega
 obtain⟨w',c1,K,U,rfl⟩:=q;have e:wI (w'.d+1)=w.d+1:=by rw[K,Xc aa aa]
 refine⟨⟨c1.conf,c1.wlen,c1.plen,c1.spc,c1.old,c1.tk,c1.tnd,c1.knd,c1.qnd,?_⟩,?_,?_,λ_=>e⟩
 .have⟨O,s,h⟩:=c1.obj;exact⟨O,s,⟨h.old,h.queue,h.fit,h.apart,h.taken,h.free⟩⟩
 .show 0<=wI (w'.d+1);omega
 grind
def Xm0(hN:NB N)(g:Start N h0 l):∀(n:Nat) (w:Ww),CI h0 l w->0<=w.d->w.d<=w.q.length->(100001-w.d).toNat<n ->
 Ok (QbZ N n w.h.c.W w.h.c.p w.h.w w.h.p w.h.s w.h.b w.o w.t w.q w.d w.r.j w.r.K w.r.F w.r.E w.r.f w.r.y) λr=>r.2=0->CI h0 l r.1
 |0,w,_,_,_,v=>by omega
 |n+1,w,z,A,g1,v=>by refine WI (XpF hN g z A g1) λy _ B=>Wq (λD=>We λe=>absurd e (by simp_all)) λD=>?_;have⟨k,G,I,u⟩:=B (by simp_all);refine Wq (λ_=>We λ_=>k) λhb=>?_;have u:y.1.d=w.d+1:=u (by simp_all);have:=k.ql g.hb;exact Xm0 hN g n y.1 k G I aa
def XrO(hN:NB N)(f:Start N h0 l){w:Ww}(g:CI h0 l w)(h:0<=w.d)(g1:w.d<=w.q.length):Ok (Qez N w) λr=>r.2=0->CI h0 l r.1:=by have e:=hN;unfold NB at e;exact WI (Xm0 hN f N w g h g1 aa) λy _ j=>We j
def Xm1(hN:NB N)(f:Start N h0 l){w:Ww}(g:w.q.length<=100000)(hw:w.h.w.length<=BIG)(a:Int):Ok (QcM N w a) λ_=>True:=by have e:=hN;unfold NB at e;rw[QcM,Yx a aa aa,Xa];refine Wq (λ_=>We trivial) λ_=>?_;rw[Ye hw,Xa,KJ,Xa];exact We trivial
def XfM(hN:NB N){w:Ww}(hb:HB h0)(A:CI h0 l w){s:Int->Int}(u:w.o.length<=4096)(q:w.o.Pairwise λa b=>a+s a<=b)(f:∀a∈w.o,4096<=a/\1<=s a/\a+s a<=4096+h0.w.length):∀(n k:Nat) (v:List Int) (c:Int),k<=w.o.length->w.o.length-k<n->v.length=h0.w.length->(∀a∈w.o.drop k,szA v a<=s a) ->
 Ok (QaI N w n (k:Int) v c) λr=>r.1.length=h0.w.length
 |0,k,v,c,_,S,_,_=>by omega
 |n+1,k,v,c,hk,S,B,O=>by
  have D:=hN;unfold NB at D;have U:=hb.1;have V:=A.ql hb;have E:=A.tl hb;refine Wq (λy=>?_) λ_=>We B;have y:k<w.o.length:=by have:=Wy y;omega
  have g:(k:Int)<w.o.length:=aa;have hdr:=Wo y;rw[Xc (n:=(k:Int)+1) aa aa,show((k:Int)+1)=((k+1:Nat):Int) by omega];have R:∀p,Xe w.o (k:Int)=some p->p=w.o[k]:=by intro p hp;rw[Xf,Wc y]at hp;exact(WA hp).symm
  have next:Ok (QaI N w n ((k+1:Nat):Int) v c) λr=>r.1.length=h0.w.length:=
   XfM hN hb A u q f n (k+1) v c aa aa B λa G=>O a (by rw[hdr];exact WZ _ G)
  refine Ok.get aa g λp hp=>?_;rw[K5,Xa];refine WI (Xcr hN (w:={w with h:={w.h with w:=v},r:=⟨_,_,_,_,_,_⟩}) E _) λb _ _=>Wq (λ_=>next) λ_=>?_;refine Ok.get aa g λp hp=>?_;rw[Yx p aa aa,Xa];refine Wq (λ_=>next) λ_=>Ok.get aa g λp hp=>?_;have j:=R p hp;have I:p∈w.o:=by rw[j];exact WG y
  have⟨f1,f2,f3⟩:=f p I;have W:=O p (by rw[hdr,←j];exact List.mem_cons_self);have J:inW v p:=by unfold inW;omega
  have Y:=XL v p;rw[Qdw,Ye (by show v.length<=BIG;unfold BIG;omega),Xa,Wm J,ZR,Xa,Xa,KO,Xa];refine Ok.get aa g λp' K=>?_;obtain rfl:p=p':=j.trans (R p' K).symm;have e1:szA v p=(hdA v p).n+1:=rfl;have L:(Zq (v.getD (ix p) 0)).n=(hdA v p).n:=rfl;refine Uc (by rw[L];omega) (Uc (by rw[L];omega) ?_);have e:∀x:Int,([x]++List.replicate (Zq (v.getD (ix p) 0)).n.toNat (0:Int)).length=(szA v p).toNat:=by intro x;rw[WJ,WY,L];simp only[Uz,II];omega
  rw[ZG (by unfold BIG;omega) (by rw[e];unfold BIG;omega) (by rw[e];omega),Xa,e,Wm (by unfold YA;omega)];have M:∀x:Int,(ovr v ([x]++List.replicate (Zq (v.getD (ix p) 0)).n.toNat (0:Int)) (ix p)).length=v.length:=by intro x;apply ZF;rw[e];unfold ix;omega
  refine XfM hN hb A u q f n (k+1) _ _ aa aa ((M _).trans B) λa G=>?_;have Z:p+s p<=a:=by have z:=q.drop (i:=k);rw[hdr,U0]at z;rw[j];exact z.1 a G
  have:∀x:Int,szA (ovr v ([x]++List.replicate (Zq (v.getD (ix p) 0)).n.toNat (0:Int)) (ix p)) a=szA v a:=by intro x;unfold szA hdA wd;rw[V0 (by rw[e];unfold ix;omega),e,Wi];unfold ix;have:p+szA v p<=a:=aa;omega
  grind
def XpG(hN:NB N)(j:Start N h0 l){w:Ww}(e:CI h0 l w):Ok (Qev N w) λr=>r.h.c=h0.c/\r.h.w.length=h0.w.length/\r.h.p=w.h.p/\r.h.p.length=h0.p.length/\r.t.length<=100000:=by
 have k:=hN;unfold NB at k;have hb:=j.hb;have⟨O,s,f⟩:=e.obj;have q:w.o.Pairwise λa b=>a+s a<=b:=by refine List.Pairwise.imp_of_mem ?_ (j.st.obj.pw.sublist e.old);intro a b g _ h;rw[(f.old a (e.old.subset g)).2];exact h
 have u:=UO e.old.length_le j.st.len;have v:=e.wlen;have:=XfM hN (w:=w) hb e (s:=s) u q (λa g=>by have:=f.fit a (f.old a (e.old.subset g)).1;omega) N 0 w.h.w w.r.F aa aa v λa g=>(f.fit a (f.old a (e.old.subset (WQ g))).1).2.2.2;have y:w.t.length<=100000:=e.tl hb;refine WI this λr _ z=>We ⟨e.conf,z,rfl,e.plen,y⟩
def XjF{w:Ww}(e:List Ws)(f:Ws)(i c:Int)(hp:Uy h0)(g:w.h.c=h0.c)(j:0<=i)(g1:i<h0.c.p):∀(n:Nat) (k:Int) (v:List Int),0<=k->(65-k).toNat<n->v.length=h0.w.length->Ok (Qbn N w e f i c n k v) λr=>r.length=h0.w.length
 |0,k,v,_,s,_=>by omega
 |n+1,k,v,k0,s,u=>by have y:=Xj.1 hp.conf;have z:=XP hp.conf j g1;have hw:=hp.words;rw[Qbn,g];refine Wq (λq=>?_) λ_=>We u;have q:k<h0.c.W:=Wy q;rw[Xc (n:=k+1) aa aa,Xc (n:=i*h0.c.W) aa aa,Xc (n:=i*h0.c.W+k) aa aa];refine Ok.get aa aa λp _=>XjF e f i c hp g j g1 n (k+1) _ aa aa (by simp_all)
def XfN(hN:NB N){w:Ww}(hb:HB h0)(hp:Uy h0\/h0.p=[])(g:w.h.c=h0.c):∀(n:Nat) (i c:Int) (v:List Int) (ps:List Ws),0<=i->i<=h0.p.length->(h0.p.length-i).toNat<n->v.length=h0.w.length->ps.length=h0.p.length->Ok (QaR N w n i c v ps) λr=>r.2.1.length=h0.w.length/\r.2.2.length=h0.p.length
 |0,i,c,v,ps,_,_,s,_,_=>by omega
 |n+1,i,c,v,ps,j,A,s,k,e=>by
  have q:=hN;unfold NB at q;have u:=hb.2;refine Uc aa (Wq (λf=>?_) λ_=>We ⟨k,e⟩);have f:i<ps.length:=Wy f;rw[Xc (n:=i+1) aa aa];have next:=XfN hN (w:=w) hb hp g n (i+1) c v ps aa aa aa k e
  refine Ok.get j f λp _=>Wq (λ_=>next) λ_=>Wq (λ_=>next) λ_=>Ok.get j f λB _=>?_;rcases hp with hp|hp
  .have y:=hp.pages;refine WI (XjF ps p i c hp g j aa N 0 v aa aa k) λr _ z=>?_;exact XfN hN hb (.inl hp) g n (i+1) _ r _ aa aa aa z (by rw[WL];exact e)
  grind
def XpH(hN:NB N){w:Ww}(hb:HB h0)(hp:Uy h0\/h0.p=[])(g:w.h.c=h0.c)(hw:w.h.w.length=h0.w.length)(e:w.h.p.length=h0.p.length):Ok (Qeu N w) λr=>HB r.h/\r.t=w.t:=by
 have f:=hN;unfold NB at f;have j:=hb.1;have k:=hb.2;refine Uc aa (Uc aa (WI (XfN hN hb hp g N 0 _ _ _ aa aa aa hw e) λr _ q=>We ⟨⟨?_,?_⟩,rfl⟩))
 .show r.2.1.length<=_;omega
 simp_all
def XjG(hN:NB N)(f:Start N h0 l)(ws:List Int)(q:ws.length<=1000000)(j:Ww×List Int×Int)(g:Ww×Int)(h:CI h0 l g.1):∀(n:Nat) (i c:Int) (out:List Int),0<=i->i<=ws.length->(ws.length-i).toNat<n->(out.length:Int)=i->Ok (QaQ N ws j g n i c out) λr=>r.2.length=ws.length
 |0,i,c,out,_,_,s,_=>by omega
 |n+1,i,c,out,k,v,s,z=>by
  refine Wq (λe=>?_) λe=>We (by grind);have e:i<ws.length:=Wy e;rw[Xc (n:=i+1) aa aa];have next:=λu x=>XjG hN f ws q j g h n (i+1) u (out++[x]) aa aa aa (by simp_all)
  refine Ok.get k e λp _=>Im (Wq (λ_=>Ok.get k e λp _=>?_) λ_=>Uc aa (next _ _));refine WI (Xm1 hN f (w:=⟨_,_,_,_,_,_⟩) (h.ql f.hb) (h.wl f.hb) p) λy _ _=>Im (Wq (λ_=>Uc aa (next _ _)) λ_=>Uc aa (next _ _))
structure OY(rs ws:List Int)(r:Wk×List Int×List Int×WR×Int):Prop where
 hb:HB r.1
 len:r.2.2.2.2=0->r.2.1.length=rs.length/\r.2.2.1.length=ws.length
 no:r.2.2.2.2≠0->r.2.1=[]/\r.2.2.1=[]
def QjN(hN:NB N){h:Wk}(hb:HB h){rs ws:List Int}(M:rs.length<=1000000)(hw:ws.length<=1000000):Ok (Qcr N h rs ws) (OY rs ws):=by
 have G:=hN;unfold NB at G;have bad:∀e:Int,e≠0->OY rs ws (zH,[],[],⟨0,0,0,0,0,0⟩,e):=λe v=>⟨KC,λh=>absurd h v,λ_=>⟨rfl,rfl⟩⟩
 refine WI (YZ (N:=N) aa hb.1 hb.2) λb _ _=>Wq (λ_=>We (bad 1 ae)) λ_=>Im ?_;refine WI (XbT hN hb M) λb _ _=>Wq (λ_=>We (bad 19 ae)) λ_=>?_;refine WI (XbT hN hb hw) λb _ _=>Wq (λ_=>We (bad 19 ae)) λ_=>?_;refine WI (XmY hN hb) λy4 _ I=>?_;have⟨R,l,D⟩:=I;have z:=D.st;refine WI (XmZ hN z M D.ci) λS _ J=>Wq (λv=>We (bad _ (by simp_all))) λv=>?_;have⟨c1,c2,U⟩:=J (by simp_all);have V:=D.sc;refine WI (XrO hN z c1 aa aa) λg _ L=>Wq (λv=>We (bad _ (by simp_all))) λv=>?_;have k:=L (by simp_all);refine WI (XjG hN z ws hw S g k N 0 _ [] aa aa aa rfl) λA _ B=>?_;have W:CI R l (Ww.mk g.1.h g.1.o g.1.t g.1.q g.1.d (WR.mk g.1.r.j g.1.r.K g.1.r.F g.1.r.E A.1 g.1.r.y)):=by obtain⟨O,s,u⟩:=k.obj;exact⟨k.conf,k.wlen,k.plen,k.spc,k.old,k.tk,k.tnd,k.knd,k.qnd,⟨O,s,⟨u.old,u.queue,u.fit,u.apart,u.taken,u.free⟩⟩⟩
 refine WI (XpG hN z W) λY _ ⟨f1,f2,f3,Z,f5⟩=>?_;refine WI (XpH hN (h0:=R) z.hb D.pr f1 f2 Z) λf _ ⟨g1,g2⟩=>?_;have fin:∀x:Int,OY rs ws ((Wk.mk f.h.c f.h.w f.h.p (wI (1-f.h.s)) x),S.2.1,A.2,f.r,0):=λx=>⟨g1,λ_=>⟨U,B⟩,λh=>absurd rfl h⟩
 refine Im (Wq (λht=>?_) λ_=>We (fin _));have ht:0<(f.t.length:Int):=Wy ht;rw[g2]at ht⊢;rw[Xc aa aa];exact Ok.get aa aa λp _=>We (fin _)
end
def YW{α σ:Type}(q:σ->Nat->α->Bool)(nxp:σ->α->σ):σ->Nat->List α->Bool
 |_,_,[]=>true
 |s,k,x::l=>q s k x&&YW q nxp (nxp s x) (k+1) l
def Kf{α:Type}(q:α->Bool):∀(k:Nat) (l:List α),YW (λ(_:Unit) _ x=>q x) (λs _=>s) () k l=l.all q
 |_,[]=>rfl
 |k,x::l=>by rw[YW,Kf q (k+1) l,I7]
def J9{α σ:Type}{l:List α}{F:Nat->σ->Int->Option (Ex Bool Unit)}{q:σ->Nat->α->Bool}{nxp:σ->α->σ}{I:σ->Prop}(f:∀(n:Nat) (s:σ) (k:Nat) (p:α),I s->l[k]? = some p->F (n+1) s (k:Int)=bif q s k p then F n (nxp s p) ((k+1:Nat):Int)else some (.ret false))(g:∀(n:Nat) (s:σ),F (n+1) s (l.length:Int)=some (.nxt ()))(j:∀s k p,I s->l[k]? = some p->q s k p=true->I (nxp s p)):∀(n:Nat) (s:σ) (k:Nat),I s->k<=l.length->l.length-k<n->F n s (k:Int)=some (bif YW q nxp s k (l.drop k)then .nxt ()else .ret false)
 |0,s,k,_,_,u=>by omega
 |n+1,s,k,r,w,u=>by
  by_cases h:k<l.length
  .have e:=Wc h;rw[f n s k _ r e,Wo h,YW];cases v:q s k l[k]with
   |false=>rfl
   |true=>exact J9 f g j n _ (k+1) (j s k _ r e v) aa aa
  obtain rfl:k=l.length:=aa;rw[g,Ub (Uo _)];rfl
def JH{α:Type}{l:List α}{F:Nat->Int->Option (Ex Bool Unit)}{q:Nat->α->Bool}(f:∀(n k:Nat) (p:α),l[k]? = some p->F (n+1) (k:Int)=bif q k p then F n ((k+1:Nat):Int)else some (.ret false))(g:∀(n:Nat),F (n+1) (l.length:Int)=some (.nxt ())){n:Nat}(j:l.length<n):F n 0=some (bif YW (λ(_:Unit)=>q) (λs _=>s) () 0 l then .nxt ()else .ret false):=by have h:=J9 (F:=λn (_:Unit) i=>F n i) (q:=λ_=>q) (nxp:=λs _=>s) (I:=λ_=>True) (l:=l) (λn s k p _ e=>f n k p e) (λn _=>g n) (λ_ _ _ _ _ _=>trivial) n () 0 trivial aa aa;assumption
def Xn{k n:Nat}(h:k<n):decide ((k:Int)<(n:Int))=true:=Wd aa
def XI(n:Nat):decide ((n:Int)<(n:Int))=false:=Wg aa
def XG{α:Type}{l:List α}{k:Nat}{p:α}(h:l[k]? = some p):k<l.length:=(UU.1 h).1
def Xg{k:Nat}(h:k<=140737488355328):wI ((k:Int)+1)=((k+1:Nat):Int):=by rw[Xc aa aa];omega
def JA(e:W5):Bool:=!decide (e.G<1)&&(!decide (e.G>4294967295)&&(e.V||!(e.a != 0)))
def Yr(l:List W5):Bool:=l.all JA&&decide (l.length<=64)
def Xz(l:List W5):List Int:=(l.filter (·.V)).map (·.a)
def Y2{N:Nat}{t:Wu}(g:t.e.length<=1000000)(hN:1000000<N):Qcp N t=some (Yr t.e):=by
 have h:=JH (l:=t.e) (F:=Qc5 N t) (q:=λ_=>JA) (λn k p e=>?_) (λn=>?_) (n:=N) aa
 .rw[Qcp,h,Xa,Kf,Yr];cases t.e.all JA
  .rw[Wa,XA];rfl
  rw[Wb,Xo,W9];congr 1;exact decide_eq_decide.2 aa
 .have f:=XG e;rw[Qc5,Xn f,Wb,Xf,e,Xa,Xg aa];unfold JA;cases decide (p.G<1)<;>cases decide (p.G>4294967295)<;>cases p.V<;>cases (p.a != 0)<;>rfl
 simp[Qc5,XI,Wa]
def Xdt{N:Nat}{t:Wu}(f:t.e.length<=1000000)(hN:1000000<N)(g:Yr t.e=true):∀(n k:Nat) (v:List Int),k<=t.e.length->t.e.length-k<n->v.length<=k ->
 QbX N t n (k:Int) v=some (v++Xz (t.e.drop k))
 |0,k,v,_,j,_=>by omega
 |n+1,k,v,q,j,p=>by
  rw[QbX];by_cases h:k<t.e.length
  .rw[Xn h,Wb,Y2 f hN,Xa,g,Wb,Xf,Wc h,Xa,Xa,Xg aa,Wo h,Xz];cases r:t.e[k].V
   .rw[Wa,Xdt f hN g n (k+1) v aa aa aa,UC (by simp_all)];rfl
   rw[Wb,Xb aa,Xdt f hN g n (k+1) _ aa aa (by simp_all),Uq aa];simp[Xz]
  obtain rfl:k=t.e.length:=aa;simp[Xz]
def X7{N:Nat}{t:Wu}(f:t.e.length<=1000000)(hN:1000000<N):QbC N t=some (bif Yr t.e then Xz t.e else[]):=by
 rw[QbC];cases g:Yr t.e
 .obtain⟨m,rfl⟩:∃m,N=m+1:=⟨N-1,aa⟩
  rw[QbX,Y2 f hN,g];by_cases h:0<t.e.length
  .rw[show decide ((0:Int)<(t.e.length:Int))=true from Wd aa,Wb,Xa,Wa,Xa];rfl
  rw[show decide ((0:Int)<(t.e.length:Int))=false from Wg aa,Wa,Xa];rfl
 have h:=Xdt f hN g N 0 [] aa aa ab;rw[show((0:Nat):Int)=0 from rfl,W4,Ue]at h;simp[h,Xa]
def Va(l:List W5):(Xz l).length<=l.length:=by unfold Xz;grind
def JB{l:List W5}(h:Yr l=true):l.length<=64:=by unfold Yr at h;simp_all
def Xm2{l:List W5}(h:Yr l=true){e:W5}(f:e∈l):1<=e.G/\e.G<=4294967295/\(e.V=false->e.a=0):=by unfold Yr at h;rw[WK,WX]at h;have:=h.1 e f;unfold JA at this;grind
def YN(l:List W5)(i g:Int):Int×Int:=
 if Yr l=false then(0,1)else if i<0\/(l.length:Int)<=i\/g<1 then(0,6)else
 match l[i.toNat]? with
 |none=>(0,6)
 |some e=>if g>e.G then(0,6)else if g<e.G then(0,8)else if e.V then(e.a,0)else(0,8)
def Kt{N:Nat}{t:Wu}(h:t.e.length<=1000000)(hN:1000000<N)(i g:Int):Qd3 N t i g=some (YN t.e i g):=by
 rw[Qd3,Y2 h hN,Xa,YN];cases k:Yr t.e
 .rfl
 simp only[Wh,Wa,UI,Bool.true_eq_false,if_false];by_cases h0:i<0
 .simp_all
 by_cases p:i>=(t.e.length:Int)
 .simp_all
 by_cases j:g<1
 .simp_all
 have f:i.toNat<t.e.length:=aa;rw[Wi j,Wi aa,Yd aa aa,Xa,Wc f];simp only[Xa];grind
def Zn{α σ:Type}{q:σ->Nat->α->Bool}{nxp:σ->α->σ}:∀(l:List α) (s:σ) (k:Nat),YW q nxp s k l=true↔∀i p,l[i]? = some p->q ((l.take i).foldl nxp s) (k+i) p=true
 |[],s,k=>by simp[YW]
 |x::l,s,k=>by
  rw[YW,WK,Zn l (nxp s x) (k+1)];constructor
  .rintro⟨e,f⟩ i p hp;cases i with
   |zero=>simp_all
   |succ i=>grind
  intro h;refine⟨h 0 x rfl,λi p hp=>?_⟩;have:=h (i+1) p (by exact hp);grind
def Xm3(l:List Int):Bool:=l.all λp=>!decide (p<0)&&!decide (p>4095)
def stQ(iss:List Int)(s:Int)(i:Nat)(p:UB):Bool:=!decide (p.J<=s)&&(!decide (p.J>(iss.length:Int))&&(!((iss.getD (p.J-1).toNat 0) != (i:Int))&&(p.V==(p.a != 0))))
def stB(iss:List Int)(l:List UB):Bool:=YW (stQ iss) (λ_ p=>p.J) 0 0 l
def neQ(n:Nat)(s:Int)(i:Nat)(p:UM):Bool:=(!((i:Int)==0)||(!(p.O != 0)&&p.B0))&&(!decide (p.O<s)&&(!decide (p.O>(n:Int))&&(!decide (p.C0<0)&&!decide (p.C0>64))))
def neB(n:Nat)(l:List UM):Bool:=YW (neQ n) (λ_ p=>p.O) 0 0 l
def YL(l:List UB)(f t:Nat):Nat:=((l.drop f).take (t-f)).countP (·.V)
def toL(a:Wp)(i:Nat):Int:=match a.x[i+1]? with|some p=>p.O|none=>a.S.length
def Xha(a:Wp)(_:Unit)(i:Nat)(p:UM):Bool:=!decide (((YL a.S p.O.toNat (toL a i).toNat:Nat):Int)>p.C0)
def XbV(a:Wp):Bool:=YW (Xha a) (λs _=>s) () 0 a.x
def Yb(a:Wp):Bool:=!decide ((a.i.length:Int)>4096)&&(!decide ((a.x.length:Int)>64)&&((!((a.x.length:Int)==0)||!decide ((a.S.length:Int)>0))&&(Xm3 a.i&&(stB a.i a.S&&(neB a.S.length a.x&&XbV a)))))
def LBp(a:Wp):Prop:=a.S.length<=1000000/\a.x.length<=1000000/\a.i.length<=1000000
def KU{n:Nat}{l:List UM}(h:neB n l=true){i:Nat}{p:UM}(hp:l[i]? = some p):0<=p.O/\p.O<=n/\0<=p.C0/\p.C0<=64/\(i=0->p.O=0/\p.B0=true)/\∀g,l[i+1]? = some g->p.O<=g.O:=by
 have j:=(Zn l (0:Int) 0).1 h;have inv:∀(k:Nat) (p:UM),l[k]? = some p->0<=p.O:=by
  intro k;induction k with
  |zero=>intro p hp;have:=j 0 p hp;unfold neQ at this;simp_all
  |succ k r=>
   intro p hp;have s:k<l.length:=by have:=XG hp;omega
   have e:=Wc s;have u:=r _ e;have f:=j (k+1) p hp;rw[Ig,e]at f;simp only[List.foldl_append,Option.toList,Iu,List.foldl_nil]at f;unfold neQ at f;grind
 have h0:=j i p hp;unfold neQ at h0;simp at h0;refine⟨inv i p hp,aa,aa,aa,λv=>?_,λg q=>?_⟩
 .simp_all
 have f:=j (i+1) g q;rw[Ig,hp]at f;unfold neQ at f;simp_all
def Xar{iss:List Int}{l:List UB}(h:stB iss l=true){i:Nat}{p:UB}(hp:l[i]? = some p):(i:Int)+1<=p.J/\p.J<=iss.length/\iss.getD (p.J-1).toNat 0=i/\(p.V=true↔p.a≠0):=by
 have g:=(Zn l (0:Int) 0).1 h;have inv:∀(k:Nat) (p:UB),l[k]? = some p->(k:Int)+1<=p.J:=by
  intro k;induction k with
  |zero=>intro p hp;have:=g 0 p hp;unfold stQ at this;simp at this;have:=WV this.1;omega
  |succ k j=>
   intro p hp;have q:k<l.length:=by have:=XG hp;omega
   have e:=Wc q;have r:=j _ e;have f:=g (k+1) p hp;rw[Ig,e]at f;simp only[List.foldl_append,Option.toList,Iu,List.foldl_nil]at f;unfold stQ at f;simp at f;omega
 have h0:=g i p hp;unfold stQ at h0;simp_all
structure OR(a:Wp):Prop where
 iss:a.i.length<=4096
 sc:a.x.length<=64
 none:a.x.length=0->a.S.length=0
 issr:∀x∈a.i,0<=x/\x<=4095
 st:stB a.i a.S=true
 ne:neB a.S.length a.x=true
 cap:XbV a=true
def XT{a:Wp}:Yb a=true↔OR a:=by
 unfold Yb Xm3;simp only[WK,IL,decide_eq_false_iff_not,Is,WX,UW];constructor
 .rintro⟨p,q,r,s,g,j,k⟩;exact⟨aa,aa,λe=>aa,λx f=>by simp_all,g,j,k⟩
 intro h;exact⟨by have:=h.iss;omega,by have:=h.sc;omega,by have:=h.none;omega,λx f=>by have:=h.issr x f;omega,h.st,h.ne,h.cap⟩
def OR.slots{a:Wp}(h:OR a):a.S.length<=a.i.length:=by
 by_cases f:a.S.length=0
 .omega
 have e:=Wc (show a.S.length-1<a.S.length by omega);have:=Xar h.st e;omega
def XfO{N:Nat}{a:Wp}(j:a.S.length<=1000000)(t:Nat)(ht:t<=a.S.length):∀(n f c:Nat),t-f<n->c<=f->f<=1000000->Qed N a (t:Int) n (c:Int) (f:Int)=some (((c+YL a.S f t:Nat):Int))
 |0,f,c,p,_,_=>by omega
 |n+1,f,c,p,q,r=>by
  rw[Qed];by_cases h:f<t
  .have g:f<a.S.length:=aa;rw[show decide ((f:Int)<(t:Int))=true from Wd aa,Wb,Xf,Wc g,Xa,Xg aa,Xg aa];have e:YL a.S f t=(if a.S[f].V then 1 else 0)+YL a.S (f+1) t:=by unfold YL;rw[Wo g,show t-f=(t-(f+1))+1 by omega,List.take_succ_cons,Ic];omega
   cases k:a.S[f].V
   .rw[Wa,XfO j t ht n (f+1) c aa aa aa,e,k];simp
   rw[Wb,XfO j t ht n (f+1) (c+1) aa aa aa,e,k];grind
  rw[show decide ((f:Int)<(t:Int))=false from Wg aa,Wa];unfold YL;simp_all
def XjH{N:Nat}{a:Wp}(e:a.S.length<=1000000)(hN:1000000<N){f t:Int}(f0:0<=f)(f1:f<=1000000)(g:0<=t)(h:t<=a.S.length):Qgt N a f t=some ((YL a.S f.toNat t.toNat:Nat):Int):=by obtain⟨f,rfl⟩:=UA f0;obtain⟨t,rfl⟩:=UA g;rw[Qgt];have:=XfO (N:=N) e t aa N f 0 aa aa aa;rw[show((0:Nat):Int)=0 from rfl]at this;simp[this,Xa]
def XsW{N:Nat}{a:Wp}{i:Nat}(e:i<=1000000):Qhx N a (i:Int)=some (toL a i):=by
 rw[Qhx,Xg aa,toL];by_cases h:i+1<a.x.length
 .rw[Xn h,Wb,Xf,Wc h,Xa]
 grind
def XsX{a:Wp}(h:neB a.S.length a.x=true)(i:Nat):0<=toL a i/\toL a i<=a.S.length:=by
 unfold toL;cases e:a.x[i+1]? with
 |none=>simp
 |some p=>have:=KU h e;simp_all
def Zr{N:Nat}{a:Wp}(w:LBp a)(hN:1000000<N):Qco N a=some (Yb a):=by
 have⟨h,y,hl3⟩:=w;have u:=JH (l:=a.i) (F:=QdG N a) (q:=λ_ p=>!decide (p<0)&&!decide (p>4095)) (λn k p e=>by
  have f:=XG e
  rw[QdG,Xn f,Wb,Xf,e,Xa,Xa,Xg aa]
  cases decide (p<0)<;>cases decide (p>4095)<;>rfl) (λn=>by rw[QdG,XI,Wa]) (n:=N) aa
 have z:=J9 (l:=a.S) (F:=λn s i=>QaD N a n s i) (q:=stQ a.i) (nxp:=λ_ p=>p.J) (I:=λs=>0<=s) (λn s k p v e=>by
  have f:=XG e
  show QaD N a (n+1) s (k:Int)=_
  rw[QaD,Xn f,Wb,Xf,e,Xa,Xg aa]
  unfold stQ
  cases g1:decide (p.J<=s)
  .cases g2:decide (p.J>(a.i.length:Int))
   .have g1:=WV g1
    have g2:=WV g2
    rw[Wa,Wa,Xc aa aa,Yd aa aa,Xa]
    have ge:a.i[(p.J-1).toNat]'aa=a.i.getD (p.J-1).toNat 0:=by
     rw[Wj,Wc aa];rfl
    rw[ge]
    cases (a.i.getD (p.J-1).toNat 0 != (k:Int))<;>cases (p.V==(p.a != 0))<;>rfl
   .rfl
  .rfl) (λn s=>by show QaD N a (n+1) s _=_;rw[QaD,XI,Wa]) (λs k p v e j=>by
   unfold stQ at j
   simp only[WK,IL,decide_eq_false_iff_not]at j
   have:=j.1
   omega) N 0 0 aa aa aa
 have A:=J9 (l:=a.x) (F:=λn s i=>Qax N a n s i) (q:=neQ a.S.length) (nxp:=λ_ p=>p.O) (I:=λ_=>True) (λn s k p v e=>by
  have f:=XG e
  show Qax N a (n+1) s (k:Int)=_
  rw[Qax,Xn f,Wb,Xf,e,Xa,Xg aa]
  unfold neQ
  cases ((k:Int)==0)<;>cases (p.O != 0)<;>cases p.B0<;>cases decide (p.O<s)<;>cases decide (p.O>(a.S.length:Int))<;>cases decide (p.C0<0)<;>cases decide (p.C0>64)<;>rfl) (λn s=>by show Qax N a (n+1) s _=_;rw[Qax,XI,Wa]) (λ_ _ _ _ _ _=>trivial) N 0 0 trivial aa aa
 rw[Kf]at u;rw[Qco,Xs,u,Xa];have B:QaD N a N 0 0=some (bif stB a.i a.S then .nxt ()else .ret false):=z;have e3:Qax N a N 0 0=some (bif neB a.S.length a.x then .nxt ()else .ret false):=A;unfold Yb Xm3;have main:(exK (bif (a.i.all λp=>!decide (p<0)&&!decide (p>4095))then Ex.nxt ()else Ex.ret false) (λr=>some r) λL=>
  bnd (QaD N a N 0 0) λe=>exK e (λr=>some r) λM=>
  bnd (Qax N a N 0 0) λe=>exK e (λr=>some r) λD=>
  bnd (Qc4 N a N 0) λe=>exK e (λr=>some r) λE=>some true)=some ((a.i.all λp=>!decide (p<0)&&!decide (p>4095))&&(stB a.i a.S&&(neB a.S.length a.x&&XbV a))):=by
  cases (a.i.all λp=>!decide (p<0)&&!decide (p>4095))
  .rw[Wa,XA];rfl
  rw[Wb,Xo,W9,B,Xa]
  cases stB a.i a.S
  .rw[Wa,XA];rfl
  rw[Wb,Xo,W9,e3,Xa]
  cases g:neB a.S.length a.x
  .rw[Wa,XA];rfl
  rw[Wb,Xo,W9]
  have G:=JH (l:=a.x) (F:=Qc4 N a) (q:=Xha a ()) (λn k p e=>by
   have f:=XG e
   have K:=KU g e
   have ht:=XsX g k
   rw[Qc4,Xn f,Wb,Xf,e,Xa,XsW aa,Xa,XjH h hN K.1 aa ht.1 ht.2,Xa,Xa,Xg aa]
   unfold Xha
   cases decide (((YL a.S p.O.toNat (toL a k).toNat:Nat):Int)>p.C0)<;>rfl) (λn=>by rw[Qc4,XI,Wa]) (n:=N) aa
  rw[G,Xa]
  show exK (bif XbV a then Ex.nxt ()else Ex.ret false) _ _=_
  cases XbV a
  .rw[Wa,XA]
  .rw[Wb,Xo]
 grind
def zL:Wp:=⟨[],[],[]⟩
def XM(l:List UB):List Int:=(l.filter (·.V)).map (·.a)
def Xas(l:List UB):(XM l).length<=l.length:=by unfold XM;grind
section
variable {N:Nat}{a:Wp}
def Xdu(e:LBp a)(hN:1000000<N)(f:Yb a=true):∀(n k:Nat) (v:List Int),k<=a.S.length->a.S.length-k<n->v.length<=k ->
 QbY N a n (k:Int) v=some (v++XM (a.S.drop k))
 |0,k,v,_,g,_=>by omega
 |n+1,k,v,q,g,j=>by
  have p:=e.1;rw[QbY];by_cases h:k<a.S.length
  .rw[Xn h,Wb,Zr e hN,Xa,f,Wb,Xf,Wc h,Xa,Xa,Xg aa,Wo h,XM];cases r:a.S[k].V
   .rw[Wa,Xdu e hN f n (k+1) v aa aa aa,UC (by simp_all)];rfl
   rw[Wb,Xb aa,Xdu e hN f n (k+1) _ aa aa (by simp_all),Uq aa];simp[XM]
  obtain rfl:k=a.S.length:=aa;simp[XM]
def Y3(e:LBp a)(hN:1000000<N):QcX N a=some (bif Yb a then XM a.S else[]):=by
 rw[QcX];cases f:Yb a
 .obtain⟨m,rfl⟩:∃m,N=m+1:=⟨N-1,aa⟩
  rw[QbY,Zr e hN,f];by_cases h:0<a.S.length
  .rw[show decide ((0:Int)<(a.S.length:Int))=true from Wd aa,Wb,Xa,Wa,Xa];rfl
  rw[show decide ((0:Int)<(a.S.length:Int))=false from Wg aa,Wa,Xa];rfl
 have h:=Xdu e hN f N 0 [] aa (by have:=e.1;omega) ab;rw[show((0:Nat):Int)=0 from rfl,W4,Ue]at h;simp[h,Xa]
def Zk(a:Wp):UM:=a.x.getD (a.x.length-1) ⟨0,0,false⟩
def Xbp(h:a.x.length≠0)(e:a.x.length<=1000000):Xe a.x (wI ((a.x.length:Int)-1))=some (Zk a):=by rw[Xc aa aa,show(a.x.length:Int)-1=((a.x.length-1:Nat):Int) by omega,Xf,Zk,Wj,Wc aa];rfl
def XU(a:Wp)(id:Int):Wp×Int×Int×Int:=
 if Yb a=false then(zL,0,0,1)else if id=0 then(zL,0,0,1)else if a.x.length=0 then(zL,0,0,9)
 else if(Zk a).C0<=((YL a.S (Zk a).O.toNat a.S.length:Nat):Int)then(zL,0,0,10)
 else if a.i.length=4096 then(zL,0,0,18)
 else(⟨a.S++[⟨(a.i.length:Int)+1,id,true⟩],a.x,a.i++[(a.S.length:Int)]⟩,(a.S.length:Int),(a.i.length:Int)+1,0)
def Xdv(f:Yb a=true)(h:a.x.length≠0):0<=(Zk a).O/\(Zk a).O<=a.S.length:=by
 have g:=XT.1 f;have e:=Wc (show a.x.length-1<a.x.length by omega);have:=KU g.ne e;have j:Zk a=a.x[a.x.length-1]:=by unfold Zk;rw[Wj,e];rfl
 simp_all
def Ku(p:LBp a)(hN:1000000<N)(id:Int):Qd2 N a id=some (XU a id):=by
 have⟨e,f,hl3⟩:=p;rw[Qd2,Zr ⟨e,f,hl3⟩ hN,Xa,XU];cases q:Yb a
 .rfl
 rw[Wh,Wa,Wi ab];by_cases k:id=0
 .subst k;rfl
 rw[Wi k,show(id==0)=false by simp_all,Wa];by_cases g:a.x.length=0
 .rw[Wm g,g];rfl
 rw[Wi g,show((a.x.length:Int)==0)=false by simp_all,Wa,Xbp g f,Xa];have ht:=Xdv q g;rw[XjH e hN ht.1 aa aa aa,Xa,Xa,Iq];by_cases h:(Zk a).C0<=((YL a.S (Zk a).O.toNat a.S.length:Nat):Int)
 .rw[Wm h,Wd (show((YL a.S (Zk a).O.toNat a.S.length:Nat):Int)>=_ from h),Wb];rfl
 rw[Wi h,Wg (show¬((YL a.S (Zk a).O.toNat a.S.length:Nat):Int)>=_ from h),Wa];by_cases j:a.i.length=4096
 .rw[Wm j,j];rfl
 rw[Wi j,show((a.i.length:Int)==4096)=false by grind,Wa,Xb aa,Xb aa,Xb aa,Xb aa,Xc aa aa]
def Z4:LBp zL:=⟨by simp[zL],by simp[zL],by simp[zL]⟩
def XjI(g:LBp a)(id:Int):LBp (XU a id).1:=by
 have⟨h,e,hl3⟩:=g;unfold XU;cases j:Yb a
 .exact Z4
 have f:=XT.1 j;have k:=f.slots;have p:=f.iss;split
 .exact Z4
 split
 .exact Z4
 split
 .exact Z4
 split
 .exact Z4
 split
 .exact Z4
 refine⟨?_,e,?_⟩
 .simp;omega
 grind
def YQ(a:Wp)(i g:Int):Int×Int:=
 if Yb a=false then(0,1)else if g<1\/(a.i.length:Int)<g then(0,6)else
 if a.i.getD (g-1).toNat 0≠i then(0,6)else if(a.S.length:Int)<=i then(0,7)else
 match a.S[i.toNat]? with
 |none=>(0,7)
 |some p=>if p.J≠g then(0,7)else if p.V then(p.a,0)else(0,8)
def Vv(r:LBp a)(hN:1000000<N)(i g:Int):QeD N a i g=some (YQ a i g):=by
 have h:=r;have⟨u,v,hl3⟩:=r;rw[QeD,Zr h hN,Xa,YQ];cases w:Yb a
 .rfl
 have y:=XT.1 w;rw[Wh,Wa,Wi ab];by_cases j:g<1
 .rw[Wd j,Wb,Wm (.inl j)]
 rw[Wg j,Wa];by_cases k:g>(a.i.length:Int)
 .rw[Wd k,Wb,Wm (.inr k)]
 have e:(g-1).toNat<a.i.length:=aa;rw[Wg k,Wa,Wi aa,Xc aa aa,Yd aa aa,Xa];have ge:a.i[(g-1).toNat]=a.i.getD (g-1).toNat 0:=by rw[Wj,Wc e];rfl
 have s:=y.issr _ (WG e);rw[ge]at s⊢;by_cases z:a.i.getD (g-1).toNat 0=i
 .rw[z]at s⊢;rw[show(i != i)=false by simp,Wa,Wi ab];by_cases p:i>=(a.S.length:Int)
  .rw[Wd p,Wb,Wm p]
  have f:i.toNat<a.S.length:=aa;rw[Wg p,Wa,Wi aa,Yd aa aa,Xa,Wc f];simp only[Xa];by_cases q:a.S[i.toNat].J=g
  .rw[q,show(g != g)=false by simp,Wa,Wi ab];cases a.S[i.toNat].V<;>rfl
  rw[show(a.S[i.toNat].J != g)=true by simpa using q,Wb,Wm q]
 grind
def Vb{i g:Int}(h:(YQ a i g).2=0):Yb a=true/\0<=i/\∃p,a.S[i.toNat]? = some p/\p.J=g/\p.V=true/\(YQ a i g).1=p.a:=by
 unfold YQ at h⊢;cases j:Yb a
 .rw[j]at h;cases h
 have u:=XT.1 j;rw[j]at h;by_cases q:g<1\/(a.i.length:Int)<g
 .rw[Wm q]at h;cases h
 rw[Wi q]at h⊢;have f:(g-1).toNat<a.i.length:=aa;have ge:a.i[(g-1).toNat]=a.i.getD (g-1).toNat 0:=by rw[Wj,Wc f];rfl
 have w:=u.issr _ (WG f);by_cases k:a.i.getD (g-1).toNat 0≠i
 .rw[Wm k]at h;cases h
 rw[Wi k]at h⊢;by_cases r:(a.S.length:Int)<=i
 .rw[Wm r]at h;cases h
 rw[Wi r]at h⊢;have y:0<=i:=by have:a.i.getD (g-1).toNat 0=i:=Classical.not_not.1 k;omega
 have e:=Wc (show i.toNat<a.S.length by omega);rw[e]at h⊢;simp only at h⊢;by_cases s:a.S[i.toNat].J≠g
 .rw[Wm s]at h;cases h
 rw[Wi s]at h⊢;cases v:a.S[i.toNat].V
 .rw[v]at h;cases h
 simp_all
def JO(a:Wp)(i g:Int):Wp×Int:=
 if(YQ a i g).2≠0 then(zL,(YQ a i g).2)else(⟨a.S.set i.toNat ⟨g,0,false⟩,a.x,a.i⟩,0)
def XfP(e:LBp a)(hN:1000000<N)(i g:Int):Qd4 N a i g=some (JO a i g):=by
 rw[Qd4,Vv e hN,Xa,JO];by_cases h:(YQ a i g).2=0
 .have⟨_,h0,p,hp,_⟩:=Vb h;have:=XG hp;have f:=e.1;rw[h,show((0:Int) != 0)=false from rfl,Wa,Wi ab,Xb aa,Yd h0 aa,Xa]
 rw[show((YQ a i g).2 != 0)=true by simp_all,Wb,Wm h];rfl
def XjJ(e:LBp a)(i g:Int):LBp (JO a i g).1:=by
 unfold JO;split
 .exact Z4
 exact⟨by rw[WL];exact e.1,e.2⟩
def Zs(a:Wp)(c:Int):Wp×Int:=
 if Yb a=false\/c<0\/64<c then(zL,1)else if a.x.length=0 then(zL,9)else if a.x.length=64 then(zL,17)else(⟨a.S,a.x++[⟨(a.S.length:Int),c,false⟩],a.i⟩,0)
def Vc(j:LBp a)(hN:1000000<N)(c:Int):Qew N a c=some (Zs a c):=by
 have k:=j.2.1;rw[Qew,Qgw,Zr j hN,Xa,Zs];cases p:Yb a
 .rw[W6,Wb,Xa,Wm (.inl rfl)];rfl
 rw[Wh,Wa];by_cases e:c<0
 .rw[Wd e,Wb,Xa,Wm (.inr (.inl e))];rfl
 by_cases f:c>64
 .rw[Wg e,Wa,Wd f,Wb,Xa,Wm (.inr (.inr f))];rfl
 rw[Wg e,Wa,Wg f,Wa,Xs,W6,Wb,Wi (by simp_all)];by_cases g:a.x.length=0
 .rw[Wm g,g];rw[show(((0:Nat):Int)==0)=true from rfl,Wb,Xa];rfl
 rw[Wi g,show((a.x.length:Int)==0)=false by simp_all,Wa];by_cases h:a.x.length=64
 .rw[Wm h,h];rw[show(((64:Nat):Int)==64)=true from rfl,Wb,Xa];rfl
 rw[Wi h,show((a.x.length:Int)==64)=false by grind,Wa,Xb aa,Xb aa,Xa]
def Xhb(e:LBp a)(c:Int):LBp (Zs a c).1:=by
 unfold Zs;cases f:Yb a
 .exact Z4
 have:=(XT.1 f).sc;split
 .exact Z4
 split
 .exact Z4
 split
 .exact Z4
 exact⟨e.1,by grind,e.2.2⟩
def YV(a:Wp):Wp×Int:=
 if Yb a=false then(zL,1)else if a.x.length=0 then(zL,9)else if(Zk a).B0 then(zL,9)else(⟨a.S.take (Zk a).O.toNat,a.x.take (a.x.length-1),a.i⟩,0)
def Xat(h:LBp a)(hN:1000000<N):Qe8 N a=some (YV a):=by
 have⟨g,e,hl3⟩:=h;rw[Qe8,Zr ⟨g,e,hl3⟩ hN,Xa,YV];cases j:Yb a
 .rfl
 by_cases f:a.x.length=0
 .rw[Wm f,f];rfl
 have ht:=Xdv j f;rw[Wi f,show((a.x.length:Int)==0)=false by simpa using f,Wa,Xbp f e,Xa];cases k:(Zk a).B0
 .rw[Wa,QgS,Xbp f e,Xa,Xc aa aa,Xb aa,Xb aa,Xb aa,Xb aa,Xa];rw[show((a.x.length:Int)-1).toNat=a.x.length-1 by omega];rfl
 rfl
def XcJ(e:LBp a):LBp (YV a).1:=by
 unfold YV;split
 .exact Z4
 split
 .exact Z4
 split
 .exact Z4
 have⟨f,g,hl3⟩:=e;exact⟨by grind,by grind,hl3⟩
def Xdw(rs:List Int)(D:a.S.length<=1000000):∀(n k:Nat) (c:Int) (v:List UB),k<=a.S.length->a.S.length-k<n->v.length=a.S.length->v.drop k=a.S.drop k->0<=c->c+(XM (a.S.drop k)).length=rs.length->rs.length<=1000000 ->
 Ok (Qbo N a rs n c (k:Int) v) λe=>match e with|.ret r=>r=(zL,1)|.nxt v=>v.length=a.S.length
 |0,k,c,v,_,E,_,_,_,_,_=>by omega
 |n+1,k,c,v,J,E,w,hd,y,z,g=>by
  refine Uc aa (Wq (λh=>?_) λh=>We w);have h:k<a.S.length:=by have:=Wy h;omega
  have j:(k:Int)<v.length:=aa;rw[Xg aa];have f:=Wo (show k<v.length by omega);have s:=Wo h;rw[hd,s]at f;have G:a.S[k]=v[k]:=(IP f).1;have I:a.S.drop (k+1)=v.drop (k+1):=(IP f).2;refine Ok.get aa j λp hp=>?_;have A:p=a.S[k]:=by rw[Xf,Wc aa,←G]at hp;exact(WA hp).symm
  rw[s]at z;refine Wq (λu=>?_) λu=>?_
  .refine Xdw rs D n (k+1) c v aa aa w I.symm y ?_ g;rw[←z];unfold XM;grind
  have u:a.S[k].V=true:=by rw[←A];simpa using u
  have B:c+1+(XM (a.S.drop (k+1))).length=rs.length:=by rw[←z];unfold XM;rw[Uq (by rw[u]),US,Uz];omega
  refine Ok.get y aa λq _=>Wq (λ_=>We rfl) λ_=>Ok.get y aa λq _=>Ok.get aa j λK _=>?_;rw[Xc (n:=c+1) aa aa];refine Xdw rs D n (k+1) (c+1) _ aa aa (by rw[WL];exact w) ?_ aa B g;rw[UP aa];simp_all
def Xm4(j:LBp a)(hN:1000000<N){rs:List Int}(p:rs.length<=1000000):Ok (Qdi N a rs) λr=>LBp r.1:=by
 have e:=j;have⟨f,g,hl3⟩:=j;rw[Qdi,Zr e hN,Xa];refine Wq (λ_=>We Z4) λh=>?_;have h:Yb a=true:=by simpa using h
 rw[Y3 e hN,Xa,h,Wb];refine Wq (λ_=>We Z4) λk=>Uc aa ?_;have k:(rs.length:Int)=(((XM a.S).length:Nat):Int):=by simpa using k
 refine IS (Xdw rs f N 0 0 a.S aa aa rfl rfl aa (by rw[W4];omega) p) (λr q=>We (by rw[q];exact Z4)) λv q=>We ⟨?_,g,hl3⟩;simp_all
end
def TB(t:Wu):Prop:=t.e.length<=1000000
def zT:Wu:=⟨[]⟩
def Xbq:TB zT:=by simp[TB,zT]
section
variable {N:Nat}{t:Wu}
def Xhc(l:List W5):Option Nat:=l.findIdx? λe=>!e.V&&decide (e.G<4294967295)
def ZI(t:Wu)(id:Int):Wu×Int×Int×Int:=
 if Yr t.e=false then(zT,0,0,1)else
 match Xhc t.e with
 |some k=>(⟨t.e.set k ⟨(t.e.getD k ⟨0,0,false⟩).G+1,id,true⟩⟩,(k:Int),(t.e.getD k ⟨0,0,false⟩).G+1,0)
 |none=>if t.e.length=64 then(zT,0,0,18)else(⟨t.e++[⟨1,id,true⟩]⟩,(t.e.length:Int),1,0)
def XjK(g:TB t)(p:Yr t.e=true)(id:Int):∀(n k:Nat),k<=t.e.length->t.e.length-k<n->Qcj N t id n (k:Int)=some (match (t.e.drop k).findIdx? (λe=>!e.V&&decide (e.G<4294967295))with
 |some j=>.ret (⟨t.e.set (k+j) ⟨(t.e.getD (k+j) ⟨0,0,false⟩).G+1,id,true⟩⟩,((k+j:Nat):Int),(t.e.getD (k+j) ⟨0,0,false⟩).G+1,0)
 |none=>.nxt ())
 |0,k,_,r=>by omega
 |n+1,k,u,r=>by
  unfold TB at g;rw[Qcj,Xb aa];by_cases h:k<t.e.length
  .have e:=Wc h;have s:t.e.getD k ⟨0,0,false⟩=t.e[k]:=by rw[Wj,e];rfl
   have v:=Xm2 p (WG h);rw[Xn h,Wb,Xf,e];simp only[Xa];rw[Xg aa,Wo h,List.findIdx?_cons];have next:=XjK g p id n (k+1) aa aa
   have q:Qcj N t id n ((k+1:Nat):Int)=some (match Option.map (λi=>i+1) ((t.e.drop (k+1)).findIdx? (λe=>!e.V&&decide (e.G<4294967295)))with
    |some j=>.ret (⟨t.e.set (k+j) ⟨(t.e.getD (k+j) ⟨0,0,false⟩).G+1,id,true⟩⟩,((k+j:Nat):Int),(t.e.getD (k+j) ⟨0,0,false⟩).G+1,0)
    |none=>.nxt ()):=by
    rw[next]
    cases (t.e.drop (k+1)).findIdx? (λe=>!e.V&&decide (e.G<4294967295))with
    |none=>rfl
    |some j=>simp only[U7];rw[show k+1+j=k+(j+1) by omega]
   cases w:t.e[k].V
   .cases y:decide (t.e[k].G<4294967295)
    .exact q
    rw[W6,Wb,Wb,Bool.and_true,Wm rfl];have f:(k:Int).toNat=k:=aa;rw[Xc aa aa,f,Xf,If,Wm rfl,Wm h,Xa];simp only[IV];rw[s]
   exact q
  grind
def JI(f:TB t)(hN:1000000<N)(id:Int):Qc7 N t id=some (ZI t id):=by
 have g:=f;unfold TB at f;rw[Qc7,Y2 f hN,Xa,ZI];cases p:Yr t.e
 .rfl
 have k:=XjK (N:=N) g p id N 0 aa aa;rw[show((0:Nat):Int)=0 from rfl,W4]at k;rw[Wh,Wa,Xb aa,k,Xa,Wi ab,Xhc];cases t.e.findIdx? (λe=>!e.V&&decide (e.G<4294967295))with
 |some j=>simp[XA,UN]
 |none=>
  simp only[Xo];rw[Xb aa];by_cases h:t.e.length=64
  .rw[Wm h,h];rfl
  rw[Wi h,show((t.e.length:Int)==64)=false by grind,Wa,Xb aa,Xb aa]
def XjL(g:TB t)(id:Int):TB (ZI t id).1:=by
 unfold ZI;cases f:Yr t.e
 .exact Xbq
 have:=JB f;rw[Wi ab];cases Xhc t.e with
 |some k=>show(t.e.set _ _).length<=_;grind
 |none=>
  simp only;split
  .exact Xbq
  show(t.e++[_]).length<=_;grind
def Jm{i g:Int}(h:(YN t.e i g).2=0):Yr t.e=true/\0<=i/\∃p,t.e[i.toNat]? = some p/\p.G=g/\p.V=true/\(YN t.e i g).1=p.a:=by unfold YN at h⊢;grind
def Kv(t:Wu)(i g:Int):Wu×Int:=
 if(YN t.e i g).2≠0 then(zT,(YN t.e i g).2)else(⟨t.e.set i.toNat ⟨g,0,false⟩⟩,0)
def Xau(f:TB t)(hN:1000000<N)(i g:Int):QcQ N t i g=some (Kv t i g):=by
 unfold TB at f;rw[QcQ,Kt f hN,Xa,Kv];by_cases h:(YN t.e i g).2=0
 .have⟨_,h0,p,hp,_⟩:=Jm h;have:=XG hp;rw[h,show((0:Int) != 0)=false from rfl,Wa,Wi ab,QgR,Xb aa,Yd h0 aa,Xa,Xa]
 rw[show((YN t.e i g).2 != 0)=true by simp_all,Wb,Wm h];rfl
def XjM(f:TB t)(i g:Int):TB (Kv t i g).1:=by
 unfold Kv;split
 .exact Xbq
 show(t.e.set _ _).length<=_;rw[WL];exact f
def Xdx(rs:List Int)(A:t.e.length<=1000000):∀(n k:Nat) (c:Int) (v:List W5),k<=t.e.length->t.e.length-k<n->v.length=t.e.length->v.drop k=t.e.drop k->0<=c->c+(Xz (t.e.drop k)).length=rs.length->rs.length<=1000000 ->
 Ok (Qbp N rs n c (k:Int) v) λv=>v.length=t.e.length
 |0,k,c,v,_,D,_,_,_,_,_=>by omega
 |n+1,k,c,v,I,D,u,hd,B,w,g=>by
  refine Uc aa (Wq (λh=>?_) λh=>We u);have h:k<t.e.length:=by have:=Wy h;omega
  have j:(k:Int)<v.length:=aa;rw[Xg aa];have f:=Wo (show k<v.length by omega);have r:=Wo h;rw[hd,r]at f;have E:t.e[k]=v[k]:=(IP f).1;have G:t.e.drop (k+1)=v.drop (k+1):=(IP f).2;refine Ok.get aa j λp hp=>?_;have y:p=t.e[k]:=by rw[Xf,Wc aa,←E]at hp;exact(WA hp).symm
  rw[r]at w;refine Wq (λs=>?_) λs=>?_
  .have s:t.e[k].V=true:=by rw[←y];exact s
   have z:c+1+(Xz (t.e.drop (k+1))).length=rs.length:=by rw[←w];unfold Xz;rw[Uq (by rw[s]),US,Uz];omega
   refine Ok.get B aa λq _=>Ok.get aa j λJ _=>?_;rw[Xc (n:=c+1) aa aa];refine Xdx rs A n (k+1) (c+1) _ aa aa (by rw[WL];exact u) ?_ aa z g;rw[UP aa];simp_all
  refine Xdx rs A n (k+1) c v aa aa u G.symm B ?_ g;rw[←w];unfold Xz;grind
def XeS(f:TB t)(hN:1000000<N){rs:List Int}(j:rs.length<=1000000):Ok (Qcg N t rs) λr=>r.1.e.length<=t.e.length:=by
 unfold TB at f;rw[Qcg,Y2 f hN,Xa];refine Wq (λ_=>We ab) λg=>?_;have g:Yr t.e=true:=by simpa using g
 have k:=Va t.e;rw[X7 f hN,Xa,g,Wb];refine Uc aa (Wq (λ_=>We ab) λh=>Uc aa ?_);have h:(rs.length:Int)=(((Xz t.e).length:Nat):Int):=by simpa using h
 refine WI (Xdx rs f N 0 0 t.e aa aa rfl rfl aa (by rw[W4];omega) j) λv _ q=>We ?_;simp_all
def Xhd(e:TB t)(hN:1000000<N){rs:List Int}(f:rs.length<=1000000):Ok (Qcg N t rs) λr=>TB r.1:=(XeS e hN f).mono λr h=>UO h e
def Xhe{k:Nat}(g:t.e.length<=1000+k)(id:Int):(ZI t id).1.e.length<=1000+k:=by
 unfold ZI;cases f:Yr t.e
 .simp[zT]
 have:=JB f;grind[WL,zT,WJ]
def Xhf{k:Nat}(f:t.e.length<=1000+k)(i g:Int):(Kv t i g).1.e.length<=1000+k:=by unfold Kv;grind[zT,WL]
end
section
variable {N:Nat}
def Y0(h:UR):Ok (Qa3 N h) λ_=>True:=by refine WI (Q:=λ_=>True) ?_ λb _ _=>Wq (λ_=>We trivial) λ_=>We trivial;exact Wq (λ_=>Wq (λ_=>Wq (λ_=>Wq (λ_=>Wq (λ_=>We trivial) λ_=>We trivial) λ_=>We trivial) λ_=>We trivial) λ_=>We trivial) λ_=>We trivial
def XbW(a:Int):Ok (QcO N a) λ_=>True:=by exact Wq (λ_=>We trivial) λ_=>WI (Y0 _) λ_ _ _=>Wq (λ_=>We trivial) λ_=>Wq (λ_=>We trivial) λ_=>We trivial
def XqM{l:List UE}(r:Int)(g:l.length<=1000000):∀(n:Nat) (k:Int),0<=k->k<=l.length->(l.length-k).toNat<n->Ok (Qfj N l r n k) λe=>∀i,e=.ret i->0<=i/\i<l.length/\∃p∈l,p.a=r
 |0,k,_,_,j=>by omega
 |n+1,k,h0,q,j=>by
  refine Wq (λf=>?_) λ_=>We λi e=>by grind
  have f:k<l.length:=Wy f;rw[Xc (n:=k+1) aa aa];refine Ok.get h0 f λp hp=>Wq (λh=>We λi e=>?_) λ_=>XqM r g n (k+1) aa aa aa;cases e;exact⟨h0,f,p,YI hp,by simp_all⟩
def Xdy{l:List UE}(r:Int)(e:l.length<=1000000)(hN:1000000<N):Ok (QgN N l r) λi=>i = -1\/(0<=i/\i<l.length/\∃p∈l,p.a=r):=by exact IS (XqM r e N 0 aa aa aa) (λi q=>We (.inr (q i rfl))) λ_ _=>We (.inl rfl)
def Jb{h:Wk}(hp:Uy h){a:Int}(e:Iz h a):QfI N h a=some (pgi h.c a)/\0<=pgi h.c a/\pgi h.c a<h.p.length:=by have⟨_,f,g,_⟩:=Yq hp.conf e.rng;have:=hp.pages;refine⟨?_,f,aa⟩;rw[QfI,K5,Xa,hp.conf,Wi ab,Wm e.rng];rfl
def Xhg{h:Wk}{pins:List UE}(hN:NB N)(hp:Uy h)(y:List Int×Int)(j:Iy N h y.1)(A:pins.length<=64)(hb:HB h):∀(n:Nat) (k:Int) (v:List Int),0<=k->k<=pins.length->(pins.length-k).toNat<n->v.length=h.p.length->Ok (Qbl N h pins y n k v) λe=>match e with|.ret b=>b=false|.nxt v=>v.length=h.p.length/\∀i,k<=i->∀p,Xe pins i=some p->Iz h p.a
 |0,k,v,_,_,B,_=>by omega
 |n+1,k,v,h0,L,B,w=>by
  have r:=hN;unfold NB at r;have D:=j.len;refine Wq (λf=>?_) λf=>We ⟨w,λi M p hp=>?_⟩;rotate_left
  .have:=WV f;rw[Xk0 aa]at hp;cases hp
  have f:k<pins.length:=Wy f;rw[Xc (n:=k+1) aa aa];have E:0<=k+1:=aa;have G:k+1<=pins.length:=aa;have I:(pins.length-(k+1)).toNat<n:=aa;refine Ok.get h0 f λp s=>?_;have same:∀q,Xe pins k=some q->q=p:=λq g=>WA (g.symm.trans s);rw[Yx p.a aa aa,Xa];refine Wq (λ_=>We rfl) λJ=>?_;have K:p.a∈y.1:=Yh (by simpa using J);have u:=j.obj.at_ _ K;refine Ok.get h0 f λq g=>?_;refine WI (Xdy _ aa aa) λ_ _ _=>Wq (λ_=>We rfl) λ_=>Ok.get h0 f λ_ _=>Wq (λ_=>We rfl) λ_=>Ok.get h0 f λ_ _=>Wq (λ_=>We rfl) λ_=>Ok.get h0 f λq g=>?_;obtain rfl:=same q g;have⟨e,z,O⟩:=Jb (N:=N) hp u;rw[e,Xa];refine Ok.get z aa λ_ _=>Ok.get h0 f λ_ _=>Ok.get z aa λ_ _=>?_;refine(Xhg hN hp y j A hb n (k+1) _ E G I (by rw[WL];exact w)).mono λe R=>?_;grind
def Xhh{h:Wk}(hb:HB h)(v:List Int)(g:v.length=h.p.length):∀(n:Nat) (k:Int),0<=k->k<=h.p.length->(h.p.length-k).toNat<n->Ok (QbI N h v n k) λe=>∀b,e=.ret b->b=false
 |0,k,_,_,j=>by omega
 |n+1,k,h0,q,j=>by
  have:=hb.2;refine Wq (λf=>?_) λ_=>We λb e=>by grind
  have f:k<h.p.length:=Wy f;rw[Xc (n:=k+1) aa aa];exact Ok.get h0 f λ_ _=>Ok.get h0 aa λ_ _=>Wq (λ_=>We λb e=>by simp_all) λ_=>Xhh hb v g n (k+1) aa aa aa
structure OT(N:Nat)(h:Wk)(pins:List UE):Prop where
 good:OD N h
 len:pins.length<=64
 at_:∀p∈pins,Iz h p.a
def Vd(hN:NB N){h:Wk}(hb:HB h){pins:List UE}(w:pins.length<=1000000):Ok (Qcn N h pins) λb=>b=true->OT N h pins:=by
 have j:=hN;unfold NB at j;have k:=hb.2;refine WI (KQ hN hb) λb _ g=>Wq (λ_=>We λe=>by grind) λr=>?_;have g:=g (by simp_all);refine Wq (λ_=>We λe=>by grind) λf=>?_;have f:=WV f;refine WI (KK hN hb) λy _ s=>Uc aa ?_;refine IS (Xhg hN g.prop y s.1 aa hb N 0 _ aa aa aa ab) (λb q=>We λe=>?_) λv q=>?_
 .simp_all
 refine IS (Xhh hb v q.1 N 0 aa aa aa) (λb q=>We λe=>?_) λ_ _=>We λ_=>⟨g,aa,λp hp=>?_⟩
 .simp_all
 have⟨i,u,e⟩:=WE hp;exact q.2 (i:Int) aa p (by rw[Xf,Wc u,e])
def Xhi{h:Wk}(hb:HB h)(hp:Uy h){a:Int}(j:Iz h a)(d:Int):Ok (Qb7 N h a d) HB:=by have k:=hb.2;have⟨e,f,g⟩:=Jb (N:=N) hp j;rw[Qb7,Xb aa,e,Xa];exact Ok.get f g λ_ _=>Ok.get f g λ_ _=>We ⟨hb.1,by simp_all⟩
def XiF(hN:NB N){h:Wk}(hb:HB h){pins:List UE}(w:pins.length<=1000000)(a:Int):Ok (Qdz N h pins a) λr=>HB r.1/\r.2.1.length<=1000000:=by
 have g:=hN;unfold NB at g;have zero:HB zH/\([]:List UE).length<=1000000:=⟨KC,ab⟩
 refine WI (Vd hN hb w) λb _ f=>Wq (λ_=>We zero) λj=>?_;have f:=f (by simpa using j);refine Wq (λ_=>We zero) λ_=>WI (Xdy _ w aa) λi _ A=>Wq (λ_=>We zero) λh0=>?_;have h0:=WV h0;obtain⟨k,q,p,s,u⟩:0<=i/\i<pins.length/\∃p∈pins,p.a=a:=by
  rcases A with h|h
  .omega
  exact h
 have e:=f.at_ p s;rw[u]at e;have z:=Xhi (N:=N) hb f.good.prop e (-1);refine Uc aa (Ok.get k q λ_ _=>Ok.get k q λ_ _=>Ok.get k (by rw[WL];exact q) λ_ _=>?_);rw[Xc (n:=i+1) aa aa];refine Wq (λ_=>Uc aa (Uc aa (Uc aa (WI z λy _ v=>We ⟨v,?_⟩)))) λ_=>WI z λy _ v=>We ⟨v,?_⟩
 .simp;omega
 simp_all
def Xdz{h:Wk}(hb:HB h)(a:Int):∀(n:Nat) (c k:Int),0<=k->k<=h.p.length->(h.p.length-k).toNat<n->Ok (Qby N h a n c k) λ_=>True
 |0,c,k,_,_,f=>by omega
 |n+1,c,k,h0,j,f=>by
  have:=hb.2;refine Wq (λe=>?_) λ_=>We trivial;have e:k<h.p.length:=Wy e;rw[Xc (n:=k+1) aa aa];have next:=λg=>Xdz hb a n g (k+1) aa aa aa
  exact Ok.get h0 e λ_ _=>Wq (λ_=>Ok.get h0 e λ_ _=>Wq (λ_=>next _) λ_=>next _) λ_=>next _
def Vw(hN:NB N){h:Wk}(hb:HB h)(a:Int):Ok (Qc0 N h a) λ_=>True:=by have f:=hN;unfold NB at f;have k:=hb.2;refine WI (KQ hN hb) λb _ s=>Wq (λ_=>We trivial) λg=>?_;refine WI (Xco hN hb a) λb _ p=>Wq (λ_=>We trivial) λg=>?_;have⟨hp,j⟩:=p (by simp_all);have⟨e,q,r⟩:=Jb (N:=N) hp j;refine WI (Xdz hb a N 0 0 aa aa aa) λc _ _=>?_;rw[e,Xa];exact Ok.get q r λ_ _=>Wq (λ_=>Wq (λ_=>We trivial) λ_=>We trivial) λ_=>We trivial
def Xk3(hN:NB N){h:Wk}(hb:HB h){pins:List UE}(v:pins.length<=1000000)(a:Int):Ok (QfE N h pins a) λr=>HB r.1/\r.2.1.length<=1000000:=by
 have g:=hN;unfold NB at g;have zero:HB zH/\([]:List UE).length<=1000000:=⟨KC,ab⟩
 refine WI (Vd hN hb v) λb _ e=>Wq (λ_=>We zero) λj=>?_;have e:=e (by simp_all);refine Wq (λ_=>We zero) λ_=>WI (Xco hN hb a) λb _ B=>Wq (λ_=>We zero) λj=>?_;have⟨hp,k⟩:=B (by simp_all);have w:=Xhi (N:=N) hb e.good.prop k 1;have D:=e.len;refine WI (Xdy _ v aa) λi _ z=>?_
 have rest:Ok (α:=Wk×List UE×Int×Int) (grd (pins.length*16<=140737488355328) <|
  jn (λ(p:List UE)=>
   bnd (Qb7 N h a 1) λq=>
   some (q,p,(wU (a+1)),0)) λA=>
  bif (decide (i>=0))then(bnd (Xe pins i) λE=>
   bnd (Xe pins i) λs=>
   A (pins.set i.toNat (UE.mk s.a (wI (E.M+1)))))
  else grd ((pins.length+1)*16<=140737488355328) <|
  A (pins++[(UE.mk a 1)])) λr=>HB r.1/\r.2.1.length<=1000000:=by
  refine Uc aa (Im (Wq (λh0=>?_) λ_=>Uc aa (WI w λy _ u=>We ⟨u,?_⟩)))
  .have h0:0<=i:=Wy h0
   have f:i<pins.length:=by rcases z with h|h;omega;exact h.2.1
   exact Ok.get h0 f λ_ _=>Ok.get h0 f λ_ _=>WI w λy _ u=>We ⟨u,by simp_all⟩
  .grind
 refine Im (Wq (λh0=>?_) λ_=>Wq (λ_=>Wq (λ_=>We zero) λ_=>WI (Vw hN hb a) λ_ _ _=>Wq (λ_=>We zero) λ_=>rest) λ_=>WI (Vw hN hb a) λ_ _ _=>Wq (λ_=>We zero) λ_=>rest);have h0:0<=i:=Wy h0;have f:i<pins.length:=by rcases z with h|h;omega;exact h.2.1
 exact Ok.get h0 f λ_ _=>Wq (λ_=>We zero) λ_=>Wq (λ_=>Wq (λ_=>We zero) λ_=>WI (Vw hN hb a) λ_ _ _=>Wq (λ_=>We zero) λ_=>rest) λ_=>WI (Vw hN hb a) λ_ _ _=>Wq (λ_=>We zero) λ_=>rest
end
section
variable {N:Nat}
def XfQ(hN:NB N)(c:WN)(d:Wv):Ok (Qcv N c d) λb=>b=true->XN d=true/\d.k≠0/\XF c (Xw d)≠-1:=by
 have f:=hN;unfold NB at f;rw[Qcv,Zz,Xa];refine Wq (λg=>Wq (λh=>?_) λ_=>We λe=>by grind) λ_=>We λe=>by grind
 rw[XW,Xa,ZS aa,Xa];exact We λe=>⟨g,by simp_all,by simp_all⟩
def Xhj(hN:NB N){h:Wk}(hb:HB h)(hp:Uy h)(n:Int):Ok (QeB N h n) λr=>HB r.1:=by
 have z:=hN;unfold NB at z;have A:=hb.2;have setP:∀(ps:List Ws) (i:Nat) (p:Ws) (s b:Int),ps.length<=100000->HB ⟨h.c,h.w,ps.set i p,s,b⟩:=λps i p s b O=>⟨hb.1,by simp_all⟩
 refine Uc aa ?_;rw[XbS,Xa];refine WI (V2 aa aa) λu _ _=>?_;have fresh:Ok (α:=Wk×Int×Bool) (bnd (Qbt N h.p 1) λe=>
  bif (decide (e<0))then some ((Wk.mk (WN.mk 0 0) [] [] 0 0),0,false)
  else bif (decide (u>=K9 h.c))then some ((Wk.mk (WN.mk 0 0) [] [] 0 0),0,false)
  else bnd (QbP N h.p e h.s) λv=>
  bnd (Xe v.1 e) λB=>
  bnd (Xe v.1 e) λD=>
  bnd (Xe v.1 e) λf=>
  some ((Wk.mk h.c h.w (v.1.set e.toNat (Ws.mk f.k f.s (wI (D.u+n)) f.P)) h.s e),(wU (wI ((wI (4096+(wI (e*h.c.W))))+B.u))),true)) λr=>HB r.1:=by
  refine WI (Zh 1 aa aa) λj _ I=>Wq (λ_=>We KC) λK=>Wq (λ_=>We KC) λ_=>?_
  have L:RunOK h.p j 1:=by
   rcases I with rfl|I
   .grind
   .omega
  have M:=hp.space
  refine WI (Xdn j h.s aa aa) λy _ J=>?_
  obtain⟨E,R,S,U⟩:=J.1 (J.2.2 L aa aa)
  have g:j<y.1.length:=aa
  exact Ok.get E g λ_ _=>Ok.get E g λ_ _=>Ok.get E g λ_ _=>We (setP _ _ _ _ _ aa)
 refine Im (Wq (λ_=>fresh) λh0=>?_);have h0:=WV h0;have G:=hp.bump;have q:h.b<h.p.length:=by rcases G with h|h;omega;exact h.2.1
 have h0:0<=h.b:=aa;exact Ok.get h0 q λ_ _=>Wq (λ_=>fresh) λ_=>Ok.get h0 q λ_ _=>Wq (λ_=>fresh) λ_=>Wq (λ_=>fresh) λ_=>Ok.get h0 q λ_ _=>Ok.get h0 q λ_ _=>Ok.get h0 q λ_ _=>We (setP _ _ _ _ _ A)
def Xhk(hN:NB N){h:Wk}(hb:HB h)(hp:Uy h)(w k:Int):Ok (QeC N h w k) λr=>HB r.1:=by
 have e:=hN;unfold NB at e;have f:=hb.2;refine WI (Zh k aa aa) λj _ v=>Wq (λ_=>We KC) λg=>WI (V2 aa aa) λu _ _=>?_;rw[XbS,Xa];refine Wq (λ_=>We KC) λ_=>WI (XmR h.c j h.s w aa aa) λy _ p=>We ⟨hb.1,?_⟩;show y.1.length<=_;by_cases q:y.2=0
 .have:=(p.1 q).2.2.2.1;omega
 simp_all
def XfR(hN:NB N){h:Wk}(hb:HB h)(d:Wv):Ok (Qcc N h d) λr=>HB r.1:=by
 have f:=hN;unfold NB at f;refine WI (YZ (N:=N) aa hb.1 hb.2) λb _ hp=>Wq (λ_=>We KC) λj=>?_;have hp:=hp (by simp_all);refine WI (XfQ hN _ _) λb _ _=>Wq (λ_=>We KC) λ_=>?_;rw[XW,Xa,ZS aa,Xa];refine WI (Xhj hN hb hp _) λk _ p=>Im (Wq (λ_=>WI (Xhk hN hb hp _ _) λq _ s=>?_) λ_=>?_)
 .exact Wq (λ_=>We KC) λ_=>WI (XjB hN (h:=q.1) s _ d) λg _ e=>We e
 exact Wq (λ_=>We KC) λ_=>WI (XjB hN (h:=k.1) p _ d) λg _ e=>We e
end
structure EB(x:W3):Prop where
 heap:HB x.h
 loc:LBp x.l
 glo:TB x.g
 wea:TB x.v
 pins:x.P.length<=1000000
 roots:x.R.length<=100000
def zE:W3:=⟨zH,zL,zT,zT,[],[]⟩
def XdA:EB zE:=⟨KC,Z4,Xbq,Xbq,by simp[zE],by simp[zE]⟩
section
variable {N:Nat}{x:W3}
def Zi{a:Wp}(h:LBp a):(bif Yb a then XM a.S else[]).length<=4096:=by
 cases f:Yb a
 .simp
 have e:=XT.1 f;have:=e.slots;have:=e.iss;have:=Xas a.S;grind
def Yf(l:List W5):(bif Yr l then Xz l else[]).length<=64:=by
 cases e:Yr l
 .simp
 have:=JB e;have:=Va l;grind
structure EV(N:Nat)(x:W3):Prop where
 mat:OT N x.h x.P
 loc:Yb x.l=true
 glo:Yr x.g.e=true
 wea:Yr x.v.e=true
def Kg(hN:NB N)(f:EB x):Ok (Qa5 N x) λb=>b=true->EV N x:=by have h:=hN;unfold NB at h;have p:=f.roots;refine WI (Vd hN f.heap f.pins) λb _ j=>Wq (λ_=>We λe=>by grind) λk=>?_;have j:=j (by simp_all);rw[Zr f.loc aa,Xa];refine Wq (λ_=>We λe=>by grind) λq=>?_;rw[Y2 f.glo aa,Xa];refine Wq (λ_=>We λe=>by grind) λr=>?_;rw[Y2 f.wea aa,Xa];refine Wq (λ_=>We λe=>by grind) λs=>?_;rw[X7 f.glo aa,Xa];have u:=Zi f.loc;have w:=Yf x.g.e;have y:=Yf x.v.e;rw[Yx _ aa aa,Xa];refine Wq (λ_=>We λe=>by grind) λ_=>Uc aa ?_;rw[Y3 f.loc aa,Xa];refine Uc aa (Uc aa ?_);rw[X7 f.wea aa,Xa];refine Uc aa (WI (XbT hN f.heap (by grind)) λb _ _=>We λ_=>⟨j,by simp_all,by simp_all,by simp_all⟩)
def XdB(hp:x.P.length<=1000000):∀(n:Nat) (k:Int) (v:List Int),0<=k->k<=x.P.length->(x.P.length-k).toNat<n->v.length<=1000000+k->Ok (QbO N x n k v) λr=>(r.length:Int)=v.length+(x.P.length-k)
 |0,k,v,_,_,f,_=>by omega
 |n+1,k,v,h0,g,f,h=>by refine Wq (λe=>?_) λe=>We (by have:=WV e;omega);have e:k<x.P.length:=Wy e;rw[Xc (n:=k+1) aa aa];refine Ok.get h0 e λp _=>Uc aa ?_;refine(XdB hp n (k+1) _ aa aa aa ah).mono λr j=>?_;grind
def XiG(hN:NB N)(f:EB x):Ok (Qd1 N x) λr=>r.length=x.R.length+(bif Yb x.l then XM x.l.S else[]).length+(bif Yr x.g.e then Xz x.g.e else[]).length+x.P.length:=by have h:=hN;unfold NB at h;have j:=f.roots;have hp:=f.pins;have k:=Zi f.loc;have p:=Yf x.g.e;refine Uc aa ?_;rw[Y3 f.loc aa,Xa];refine Uc aa ?_;rw[X7 f.glo aa,Xa];refine Uc aa (WI (XdB hp N 0 _ aa aa aa ah) λr _ j=>We ?_);grind
def XjN(h:Wk×List Int×List Int×WR×Int)(e f:List Int)(j:Wp×Int)(q s:Wu×Int)(hp:x.P.length<=1000000)(u:x.R.length<=100000)(w:e.length<=4096)(y:f.length<=64)(z:h.2.1.length=x.R.length+e.length+f.length+x.P.length):∀(n:Nat) (k:Int) (v:List UE),0<=k->k<=x.P.length->(x.P.length-k).toNat<n->(v.length:Int)=k->Ok (QaZ N x h e f j q s n k v) λr=>r.length=x.P.length
 |0,k,v,_,_,A,_=>by omega
 |n+1,k,v,h0,B,A,D=>by refine Wq (λg=>?_) λg=>We (by grind);have g:k<x.P.length:=Wy g;rw[Xc (n:=k+1) aa aa,Xc (n:=(x.R.length:Int)+(e.length:Int)) aa aa,Xc (n:=(x.R.length:Int)+(e.length:Int)+(f.length:Int)) aa aa,Xc (n:=(x.R.length:Int)+(e.length:Int)+(f.length:Int)+k) aa aa];refine Ok.get aa aa λ_ _=>Ok.get h0 g λp _=>Uc aa ?_;exact XjN h e f j q s hp u w y z n (k+1) _ aa aa aa (by simp_all)
def V3(hN:NB N)(f:EB x):Ok (QbG N x) λr=>EB r.1:=by
 have j:=hN;unfold NB at j;have y:=f.roots;have hp:=f.pins;refine WI (Kg hN f) λb _ h=>Wq (λ_=>We XdA) λk=>?_;have h:=h (by simpa using k);have z:=h.mat.len;have p:=Zi f.loc;have q:=Yf x.g.e;have A:=Yf x.v.e;refine WI (XiG hN f) λV _ u=>?_;rw[h.loc,h.glo]at u;rw[h.loc]at p;rw[h.glo]at q;rw[X7 f.wea aa,Xa];simp at u p q A⊢;refine WI (QjN hN f.heap aa aa) λB _ w=>Wq (λ_=>We XdA) λD=>?_;have⟨g1,g2⟩:=w.len (by simpa using D);rw[Y3 f.loc aa,Xa,X7 f.glo aa,Xa,h.loc,h.glo];simp;have E:=Xc (n:=(x.R.length:Int)+(((XM x.l.S).length:Nat):Int)) aa aa;have G:=Xc (n:=(x.R.length:Int)+(((XM x.l.S).length:Nat):Int)+(((Xz x.g.e).length:Nat):Int)) aa aa;refine Uc aa (Uc aa (Uc aa (Uc aa ?_)));refine WI (Xm4 f.loc aa (by rw[Wl,Wn];omega)) λI _ J=>Uc (by rw[E,G];omega) ?_;refine WI (Xhd f.glo aa (by rw[Wl,Wn];omega)) λK _ L=>?_;refine WI (Xhd f.wea aa aa) λM _ O=>?_;refine WI (XjN B (XM x.l.S) (Xz x.g.e) I K M hp y p q aa N 0 [] aa aa aa rfl) λs _ U=>We ⟨w.hb,J,L,O,?_,?_⟩
 .show s.length<=_;omega
 grind
def XeT(hN:NB N)(e:EB x)(d:Wv):Ok (Qdc N x d) λr=>EB r.1:=by
 refine WI (Kg hN e) λb _ k=>Wq (λ_=>We XdA) λg=>?_;refine WI (XfR hN e.heap d) λp _ h=>Im (Wq (λ_=>WI (V3 hN e) λq _ f=>Wq (λ_=>We XdA) λ_=>WI (XfR hN f.heap d) λs _ j=>?_) λ_=>?_)
 .exact Wq (λ_=>We XdA) λ_=>We ⟨j,f.loc,f.glo,f.wea,f.pins,f.roots⟩
 exact Wq (λ_=>We XdA) λ_=>We ⟨h,e.loc,e.glo,e.wea,e.pins,e.roots⟩
def ZJ(hN:NB N)(e:EB x)(v:Int):Ok (Qar N x v) λr=>True:=by
 have f:=hN;unfold NB at f;refine WI (Kg hN e) λb _ h=>Wq (λ_=>We trivial) λg=>Wq (λ_=>We trivial) λ_=>?_;refine WI (XbW v) λy _ _=>Wq (λ_=>We trivial) λ_=>Wq (λ_=>?_) λ_=>Wq (λ_=>?_) λ_=>?_
 .rw[Vv e.loc aa,Xa];exact We trivial
 .rw[Kt e.glo aa,Xa];exact We trivial
 rw[Kt e.wea aa,Xa];exact We trivial
end
def Oj{β κ:Type}{P:β->Prop}{k:κ->Option β}{f:(κ->Option β)->Option β}(h:∀x,Ok (k x) P)(g:∀j:κ->Option β,(∀x,Ok (j x) P)->Ok (f j) P):Ok (Sx.jn k f) P:=by simp_all[Xs]
def Uv{β:Type}{P:β->Prop}{b:Bool}{x y:Option β}(e:Ok x P)(f:Ok y P):Ok (bif b then x else y) P:=by grind
def Uw{α β:Type}{P:β->Prop}{o:Option α}{Q:α->Prop}{f:α->Option β}(h:Ok o Q)(k:∀y,Q y->Ok (f y) P):Ok (Sx.bnd o f) P:=WI h λy _ e=>k y e
def Ok.t{α:Type}{o:Option α}{P:α->Prop}(h:Ok o P):Ok o λ_=>True:=h.mono λ_ _=>trivial
section
variable {N:Nat}{x:W3}
abbrev EP(r:W3×Int×Int):Prop:=EB r.1
def Xk4(e:Int):Ok (Qaa N e) EP:=by exact We XdA
def XK(e:Int):Ok (bnd (Qaa N e) λy=>some (y.1,y.2.1,y.2.2)) EP:=Uw (Xk4 e) λy f=>We f
def Xm5(a b c:Int):Ok (Qcs N a b c) λ_=>True:=by exact Uv (Uv (We trivial) (We trivial)) (We trivial)
def Xav(hN:NB N)(e:EB x)(a:Int):Ok (Qbh N x a) EP:=by have f:=hN;unfold NB at f;refine Uv (We e) ?_;rw[Ku e.loc aa,Xa];exact Uv (XK _) (Uw (Y0 _) λy _=>We ⟨e.heap,XjI e.loc a,e.glo,e.wea,e.pins,e.roots⟩)
def XiH(hN:NB N)(f:EB x)(a b c:Int):Ok (Qci N x a b c) EP:=by have e:=hN;unfold NB at e;refine Uv (XK _) (Uw (Xm5 _ _ _) λy _=>Im (Uv (XK _) (Uw (XfQ hN _ _) λz _=>Uv (XK _) ?_)));rw[Ku f.loc aa,Xa];exact Uv (XK _) (Uw (XeT hN f _) λj g=>Uv (XK _) (Uw (Xav hN g _) λk h=>We h))
def Xaw(hN:NB N)(e:EB x)(a:Int):Ok (Qbv N x a) λ_=>True:=by exact Uw (ZJ hN e a) λy _=>Uv (Uv (We trivial) (We trivial)) (We trivial)
def XeU(hN:NB N)(e:EB x)(a b:Int)(c:Bool):Ok (Qbw N x a b c) λ_=>True:=by refine Uw (Xaw hN e a) λy _=>Uv (We trivial) (Uw (Xdo hN e.heap _) λz _=>Uv (We trivial) ?_);rw[KP,Xa];exact Uv (We trivial) (We trivial)
def Xk5(hN:NB N)(e:EB x)(a b c d:Int):Ok (Qbx N x a b c d) EP:=by
 have k:∀i j v:Int,Ok (α:=W3×Int×Int) (bnd (QbN N x.h i j v) λf=>some ((W3.mk f.1 x.l x.g x.v x.P x.R),0,0)) EP:=λi j v=>
  Uw (Xg3 hN e.heap i j v) λy p=>We ⟨p,e.loc,e.glo,e.wea,e.pins,e.roots⟩
 refine Im (Uv (Uw (XeU hN e _ _ _) λy _=>?_) (Uw (XeU hN e _ _ _) λy _=>?_))<;>
 exact Uv (XK _) (Uw (Xg2 hN e.heap _ _) λz _=>Uv (We e) (Uv (Uw (Xav hN e _) λr q=>We q) (Im (Uv (Uw (ZJ hN e _) λs _=>Uv (XK _) (k _ _ _)) (k _ _ _)))))
def Xk6(hN:NB N)(e:EB x)(a b c:Int):Ok (QcP N x a b c) EP:=by refine Oj (λh=>Uv (Uw (Xaw hN e _) λy _=>Uv (XK _) (Uw (Xdo hN e.heap _) λz _=>Uv (We e) (We e))) (Uv (Uw (ZJ hN e _) λy _=>Uv (XK _) (Uw (ZJ hN e _) λz _=>Uv (XK _) (Uv (We e) (We e)))) (Uw (ZJ hN e _) λy _=>Uv (XK _) (Uw (Xav hN e _) λz g=>We g)))) λj f=>Uv (f _) (f _)
def Xhl(hN:NB N)(f:EB x)(a b:Int):Ok (Qdy N x a b) EP:=by
 have j:=hN;unfold NB at j;refine Uw (Xaw hN f _) λy _=>Uv (XK _) (Im (Uv ?_ ?_))
 .show Ok (bnd (Qc7 N ⟨x.v.e⟩ y.1) _) EP;rw[JI (t:=⟨x.v.e⟩) f.wea aa,Xa];have h:=XjL (t:=⟨x.v.e⟩) f.wea y.1;exact Uv (XK _) (Im (Uv (Uw (Y0 _) λz _=>We ⟨f.heap,f.loc,f.glo,h,f.pins,f.roots⟩) (Uw (Y0 _) λz _=>We ⟨f.heap,f.loc,h,f.wea,f.pins,f.roots⟩)))
 show Ok (bnd (Qc7 N ⟨x.g.e⟩ y.1) _) EP;rw[JI (t:=⟨x.g.e⟩) f.glo aa,Xa];have h:=XjL (t:=⟨x.g.e⟩) f.glo y.1;exact Uv (XK _) (Im (Uv (Uw (Y0 _) λz _=>We ⟨f.heap,f.loc,f.glo,h,f.pins,f.roots⟩) (Uw (Y0 _) λz _=>We ⟨f.heap,f.loc,h,f.wea,f.pins,f.roots⟩)))
def XiI(hN:NB N)(e:EB x)(a b:Int):Ok (Qd5 N x a b) EP:=by
 have f:=hN;unfold NB at f;refine Uv (XK _) (Uw (ZJ hN e _) λy _=>Uv (XK _) (Uw (XbW _) λz _=>Oj (λ_=>Uv ?_ (Uv ?_ ?_)) λg h=>Oj (λ_=>XK _) λj k=>?_))
 .rw[XfP e.loc aa,Xa];exact We ⟨e.heap,XjJ e.loc _ _,e.glo,e.wea,e.pins,e.roots⟩
 .rw[Xau e.glo aa,Xa];exact We ⟨e.heap,e.loc,XjM e.glo _ _,e.wea,e.pins,e.roots⟩
 .rw[Xau e.wea aa,Xa];exact We ⟨e.heap,e.loc,e.glo,XjM e.wea _ _,e.pins,e.roots⟩
 grind
def XiJ(hN:NB N)(e:EB x)(a b:Int):Ok (Qb0 N x a b) EP:=by
 have f:=hN;unfold NB at f;refine Uv (Uv (XK _) ?_) (Uw (ZJ hN e _) λy _=>Uv (XK _) ?_)
 .rw[Vc e.loc aa,Xa];exact Uv (XK _) (We ⟨e.heap,Xhb e.loc _,e.glo,e.wea,e.pins,e.roots⟩)
 rw[Xat e.loc aa,Xa];exact Uv (XK _) (Uw (Xav hN (x:=⟨x.h,(YV x.l).1,x.g,x.v,x.P,x.R⟩) ⟨e.heap,XcJ e.loc,e.glo,e.wea,e.pins,e.roots⟩ _) λz j=>We j)
def Xm6(hN:NB N)(e:EB x)(a b:Int):Ok (Qe9 N x a b) EP:=by refine Uw (Xaw hN e _) λy _=>Uv (XK _) (Uv (Uw (XiF hN e.heap e.pins _) λz f=>Uv (XK _) (We ⟨f.1,e.loc,e.glo,e.wea,f.2,e.roots⟩)) (Uw (Xk3 hN e.heap e.pins _) λz f=>Uv (XK _) (We ⟨f.1,e.loc,e.glo,e.wea,f.2,e.roots⟩)))
def Xm7(hN:NB N)(f:EB x)(op a b c:Int):Ok (Qac N x op a b c) EP:=by
 have thr:∀{o:Option (W3×Int×Int)},Ok o EP->Ok (bnd o λy=>some (y.1,y.2.1,y.2.2)) EP:=λh=>Uw h λy k=>We k;refine Uw (Kg hN f) λp _=>Uv (XK _) ?_;refine Oj (λe=>Uv (thr (XiH hN f _ _ _)) ?_) λq g=>?_
 .refine Oj (λe=>Uv (thr (Xk5 hN f _ _ _ _)) ?_) λj h=>?_
  .refine Oj (λe=>Uv (thr (Xk6 hN f _ _ _)) ?_) λj h=>?_
   .refine Oj (λe=>Uv (thr (Xhl hN f _ _)) ?_) λj h=>?_
    .refine Oj (λe=>Uv (thr (XiI hN f _ _)) ?_) λj h=>?_
     .refine Oj (λe=>Uv (thr (XiJ hN f _ _)) ?_) λj h=>?_
      .refine Oj (λe=>Uv (thr (Xm6 hN f _ _)) (XK _)) λj h=>Uv (h _) (h _)
      exact Uv (h _) (h _)
     exact Uv (h _) (Oj (λe=>h _) λj h=>Uv (h _) (h _))
    grind
   exact Uv (h _) (Oj (λe=>h _) λj h=>Uv (h _) (Oj (λe=>h _) λj h=>Uv (h _) (h _)))
  exact Uv (h _) (Oj (λe=>h _) λj h=>Uv (h _) (Oj (λe=>h _) λj h=>Uv (h _) (h _)))
 exact Uv (g _) (Oj (λe=>g _) λj h=>Uv (h _) (h _))
end
structure WB(k:Nat)(w:WM):Prop where
 kk:k<=900
 things:w.T.length<=k
 fields:∀x∈w.T,x.D.length<=1000
 loc:LBp w.l
 gloK:w.g.e.length<=1000+k
 weaK:w.v.e.length<=1000+k
 marksK:w.m.length<=100+k
 rootsK:w.R.length<=100+k
def WB.glo{k:Nat}{w:WM}(h:WB k w):TB w.g:=by have:=h.kk;have:=h.gloK;unfold TB;omega
def WB.wea{k:Nat}{w:WM}(h:WB k w):TB w.v:=by have:=h.kk;have:=h.weaK;unfold TB;omega
def WB.marks{k:Nat}{w:WM}(h:WB k w):w.m.length<=1000:=by have:=h.kk;have:=h.marksK;omega
def WB.roots{k:Nat}{w:WM}(h:WB k w):w.R.length<=1000:=by have:=h.kk;have:=h.rootsK;omega
def V4(d:Wv):Nat->List Int->List Int
 |_,[]=>[]
 |k,f::e=>if KI d k then f::V4 d (k+1) e else V4 d (k+1) e
def XeV(x:Ii):List Int:=V4 x.H 0 x.D
def XbX(d:Wv):∀(k:Nat) (l:List Int),(V4 d k l).length<=l.length
 |k,[]=>by simp[V4]
 |k,f::e=>by have:=XbX d (k+1) e;unfold V4;grind
def Z9(n:Nat)(l:List Int):Bool:=l.all λp=>!decide (p>(n:Int))
def ZW(l:List Ix)(id:Int):Int:=match l.findIdx? (λm=>m.I==id)with|some k=>(k:Int)|none=>-1
def XdC(n:Nat)(x:Ii):Bool:=XN x.H&&(!(x.H.k==0)&&(!((x.D.length:Int) != x.H.n)&&Z9 n (XeV x)))
def XjO(n:Nat)(l:List Ix)(_:Unit)(i:Nat)(m:Ix):Bool:=!decide (m.I<1)&&(!decide (m.I>(n:Int))&&(!(ZW l m.I != (i:Int))&&(!decide (m.M<1)&&!decide (m.M>1000))))
def XfS(n:Nat)(l:List Ix):Bool:=YW (XjO n l) (λs _=>s) () 0 l
def YX(w:WM):Bool:=X9 w.c&&(Yb w.l&&(Yr w.g.e&&(Yr w.v.e&&(!decide ((w.m.length:Int)>64)&&(w.T.all (XdC w.T.length)&&(((Xz w.g.e).all λp=>!(p==0))&&(XfS w.T.length w.m&&(Z9 w.T.length w.R&&(Z9 w.T.length (XM w.l.S)&&(Z9 w.T.length (Xz w.g.e)&&Z9 w.T.length (Xz w.v.e)))))))))))
section
variable {N:Nat}{w:WM}
def Ve(ht:w.T.length<=1000){l:List Int}(g:l.length<=1000000)(hN:1000000<N):Qdk N w l=some (Z9 w.T.length l):=by
 have h:=JH (l:=l) (F:=Qdj N w l) (q:=λ_ p=>!decide (p>(w.T.length:Int))) (λn k p e=>by
  have f:=XG e
  rw[Qdj,Xn f,Wb,Xf,e,Xa,Xg aa,Xp aa aa]
  cases decide (p>(w.T.length:Int))<;>rfl) (λn=>by rw[Qdj,XI,Wa]) (n:=N) aa
 rw[Kf]at h;rw[Qdk,h,Xa,Z9];cases l.all λp=>!decide (p>(w.T.length:Int))
 .rw[Wa,XA]
 simp[Wb,Xo]
def XdD{x:Ii}(e:x.D.length<=1000000):∀(n k:Nat) (v:List Int),k<=x.D.length->x.D.length-k<n->v.length<=k->Qef N x n (k:Int) v=some (v++V4 x.H k (x.D.drop k))
 |0,k,v,_,f,_=>by omega
 |n+1,k,v,j,f,g=>by
  rw[Qef];by_cases h:k<x.D.length
  .rw[Xn h,Wb,KP,Xa,Xg aa,Wo h,V4];cases hp:KI x.H (k:Int)
   .rw[Wa,Wi ab,XdD e n (k+1) v aa aa aa]
   rw[Wb,Wm rfl,Xf,Wc h,Xa,Xb aa,XdD e n (k+1) _ aa aa (by simp_all)];simp
  obtain rfl:k=x.D.length:=aa;simp[V4]
def Xhm{x:Ii}(e:x.D.length<=1000000)(hN:1000000<N):Qgv N x=some (XeV x):=by have h:=XdD (N:=N) (x:=x) e N 0 [] aa aa ab;rw[show((0:Nat):Int)=0 from rfl,W4,Ue]at h;rw[Qgv,h,Xa];rfl
def XjP(id:Int)(e:w.m.length<=1000000):∀(n k:Nat),k<=w.m.length->w.m.length-k<n->QeW N w id n (k:Int)=some (match (w.m.drop k).findIdx? (λm=>m.I==id)with|some j=>.ret ((k+j:Nat):Int)|none=>.nxt ())
 |0,k,_,f=>by omega
 |n+1,k,g,f=>by
  rw[QeW];by_cases h:k<w.m.length
  .rw[Xn h,Wb,Xf,Wc h,Xa,Xg aa,Wo h,List.findIdx?_cons];cases p:(w.m[k].I==id)
   .rw[Wa,XjP id e n (k+1) aa aa,Wi ab];cases (w.m.drop (k+1)).findIdx? (λm=>m.I==id)with
    |none=>rfl
    |some j=>simp only[U7];rw[show k+1+j=k+(j+1) by omega]
   simp
  grind
def XfT(e:w.m.length<=1000000)(hN:1000000<N)(id:Int):QfK N w id=some (ZW w.m id):=by
 have h:=XjP (N:=N) id e N 0 aa aa;rw[show((0:Nat):Int)=0 from rfl,W4]at h;rw[QfK,h,Xa,ZW];cases w.m.findIdx? (λm=>m.I==id)with
 |none=>simp[Xo]
 |some j=>simp[XA,UN]
def Xhn{a:Wp}(h:Yb a=true):(XM a.S).length<=4096:=by have e:=XT.1 h;have:=e.slots;have:=e.iss;have:=Xas a.S;omega
def Xbr{l:List W5}(h:Yr l=true):(Xz l).length<=64:=by have:=JB h;have:=Va l;omega
def XcK{k:Nat}(hw:WB k w)(hN:1000000<N):QeA N w=some (YX w):=by
 have f:=hw.kk;have ht:=hw.things;have E:=hw.marks;have G:=hw.roots;rw[QeA,Zu,Xa,YX];cases X9 w.c
 .rfl
 rw[Wh,Wa,Zr hw.loc hN,Xa,W9];cases h:Yb w.l
 .rfl
 rw[Wh,Wa,Y2 hw.glo hN,Xa,W9];cases j:Yr w.g.e
 .rfl
 rw[Wh,Wa,Y2 hw.wea hN,Xa,W9];cases r:Yr w.v.e
 .rfl
 rw[Wh,Wa,W9];cases decide ((w.m.length:Int)>64);rotate_left
 .rfl
 rw[Wa,W6,W9];have s:=JH (l:=w.T) (F:=QdH N w) (q:=λ_=>XdC w.T.length) (λn k p e=>by
  have f:=XG e
  have y:=hw.fields p (W7 e)
  have z:=XbX p.H 0 p.D
  rw[QdH,Xn f,Wb,Xf,e,Xa,Zz,Xa,Xhm aa hN,Xa,Ve aa (by unfold XeV;omega) hN,Xa,Xg aa]
  unfold XdC
  grind) (λn=>by rw[QdH,XI,Wa]) (n:=N) aa
 rw[Kf]at s;rw[s,Xa];cases w.T.all (XdC w.T.length)
 .simp[Wa,XA]
 rw[Wb,Xo,X7 hw.glo hN,Xa,j,Wb,W9];have A:=Xbr j;have u:=JH (l:=Xz w.g.e) (F:=QdI N w (Xz w.g.e)) (q:=λ_ p=>!(p==0)) (λn k p e=>by
  have f:=XG e
  rw[QdI,Xb aa,Xn f,Wb,Xf,e,Xa,Xg aa]
  simp) (λn=>by rw[QdI,Xb aa,XI,Wa]) (n:=N) aa
 rw[Kf]at u;rw[u,Xa];cases (Xz w.g.e).all λp=>!(p==0)
 .simp[Wa,XA]
 rw[Wb,Xo,W9];have B:=JH (l:=w.m) (F:=QdJ N w (Xz w.g.e)) (q:=XjO w.T.length w.m ()) (λn k p e=>by
  have f:=XG e
  rw[QdJ,Xn f,Wb,Xf,e,Xa,XfT aa hN,Xa,Xg aa,Xp aa aa]
  unfold XjO
  grind) (λn=>by rw[QdJ,XI,Wa]) (n:=N) aa
 rw[B,Xa];show exK (bif XfS w.T.length w.m then Ex.nxt ()else Ex.ret false) _ _=_;cases XfS w.T.length w.m
 .simp[Wa,XA]
 rw[Wb,Xo,Ve aa aa hN,Xa,W9];cases Z9 w.T.length w.R
 .rfl
 have I:=Xhn h;rw[Wb,Y3 hw.loc hN,Xa,h,Wb,Ve aa aa hN,Xa,W9];cases Z9 w.T.length (XM w.l.S)
 .rfl
 rw[Wb,Ve aa aa hN,Xa,W9];cases Z9 w.T.length (Xz w.g.e)
 .rfl
 have s3:=Xbr r;rw[Wb,X7 hw.wea hN,Xa,r,Wb,Ve aa aa hN,Xa,W9]
end
def Yk(v:Int):UR×Int:=
 if v=0 then(⟨0,0,0⟩,5)else if 1<=v % 4/\1<=v / 262144/\v / 262144<=4294967295 then(⟨v % 4,v / 4 % 65536,v / 262144⟩,0)else(⟨0,0,0⟩,6)
def XbY{N:Nat}{v:Int}(f:tU v):QcO N v=some (Yk v):=by
 have⟨h0,g⟩:=f;rw[QcO,Yk];by_cases j:v=0
 .simp_all
 rw[show(v==0)=false by simp_all,Wa,Wi j];have k:Zc .u64 v 3=v % 4:=YF v 2 aa h0 g;have p:YO .u64 v 2=v / 4:=YP v 2 aa h0;have q:Zc .u64 (v / 4) 65535=v / 4 % 65536:=YF (v / 4) 16 aa aa aa;have r:YO .u64 v 18=v / 262144:=YP v 18 aa h0;rw[p,k,q,r,Xc (n:=v % 4) aa aa,Xc (n:=v / 4 % 65536) aa aa,Xc (n:=v / 262144) aa aa,Qa3,Qf8];have s:∀x:Int,ZO .u64 x 2=wU (x*4):=λ_=>rfl;have u:∀x:Int,ZO .u64 x 18=wU (x*262144):=λ_=>rfl;rw[Wd (show v / 4 % 65536>=0 by omega),Wd (show v / 4 % 65536<=65535 by omega),Wd (show v % 4<=3 by omega)];simp only[Wb];by_cases g1:v % 4>=1
 .rw[Wd g1,Wb];by_cases g2:v / 262144>=1
  .rw[Wd g2,Wb,Xa];by_cases g3:v / 262144<=4294967295
   .rw[Wd g3,Wh,Wa,Xa,Wm ⟨g1,g2,g3⟩];have e:wU (wU (wU (v % 4)+ZO .u64 (wU (v / 4 % 65536)) 2)+ZO .u64 (wU (v / 262144)) 18)=v:=by rw[s,u,Xp (n:=v % 4) aa aa,Xp (n:=v / 4 % 65536) aa aa,Xp (n:=v / 262144) aa aa,Xp (n:=v / 4 % 65536*4) aa aa,Xp (n:=v / 262144*262144) aa aa,Xp (n:=v % 4+v / 4 % 65536*4) aa aa,Xp aa aa];omega
    simp_all
   rw[Wg g3,W6,Wb,Xa,Wi (λh=>g3 h.2.2)];rfl
  rw[Wg g2,Wa,Xa,W6,Wb,Xa,Wi (λh=>g2 h.2.1)];rfl
 rw[Wg g1,Wa,Xa,W6,Wb,Xa,Wi (λh=>g1 h.1)];rfl
def Kk(w:WM)(v:Int):Int×Int:=
 if v=0 then(0,0)else if(Yk v).2≠0 then(0,(Yk v).2)else
 if(Yk v).1.Tag=1 then YQ w.l (Yk v).1.Index (Yk v).1.J else
 if(Yk v).1.Tag=2 then YN w.g.e (Yk v).1.Index (Yk v).1.J else YN w.v.e (Yk v).1.Index (Yk v).1.J
def XR(w:WM)(a:Int):Int×Int:=if(Kk w a).2=0/\(Kk w a).1=0 then(0,5)else Kk w a
structure WF(w:WM):Prop where
 conf:X9 w.c=true
 loc:Yb w.l=true
 glo:Yr w.g.e=true
 wea:Yr w.v.e=true
 m64:w.m.length<=64
 thing:∀x∈w.T,XN x.H=true/\x.H.k≠0/\(x.D.length:Int)=x.H.n/\∀r∈XeV x,r<=w.T.length
 mark:XfS w.T.length w.m=true
 roots:∀r∈w.R,r<=w.T.length
 rloc:∀r∈XM w.l.S,r<=w.T.length
 rglo:∀r∈Xz w.g.e,r<=w.T.length
 rwea:∀r∈Xz w.v.e,r<=w.T.length
def JC{n:Nat}{l:List Int}:Z9 n l=true↔∀r∈l,r<=n:=by unfold Z9;simp
def Jn{w:WM}(h:YX w=true):WF w:=by unfold YX at h;simp only[WK,IL,decide_eq_false_iff_not]at h;have⟨j,k,p,q,y,r,z,s,u,e,f,g⟩:=h;refine⟨j,k,p,q,aa,λx v=>?_,s,JC.1 u,JC.1 e,JC.1 f,JC.1 g⟩;have:=(WX.1 r) x v;unfold XdC at this;simp at this;exact⟨this.1,this.2.1,this.2.2.1,JC.1 this.2.2.2⟩
def WF.mk_{w:WM}(h:WF w){k:Nat}{m:Ix}(e:w.m[k]? = some m):1<=m.I/\m.I<=w.T.length/\1<=m.M/\m.M<=1000:=by have:=(Zn w.m () 0).1 h.mark k m e;unfold XjO at this;simp_all
def Xk7{l:List UB}{p:UB}(hp:p∈l)(e:p.V=true):p.a∈XM l:=by unfold XM;grind
def Xk8{l:List W5}{p:W5}(hp:p∈l)(e:p.V=true):p.a∈Xz l:=by unfold Xz;grind
def XiK(a:Wp)(i g:Int):(YQ a i g).2=0\/(YQ a i g).1=0:=by
 unfold YQ;split
 .exact .inr rfl
 split
 .exact .inr rfl
 split
 .exact .inr rfl
 split
 .exact .inr rfl
 split
 .exact .inr rfl
 split
 .exact .inr rfl
 split
 .exact .inl rfl
 omega
def XiL(l:List W5)(i g:Int):(YN l i g).2=0\/(YN l i g).1=0:=by unfold YN;grind
def XpI{w:WM}(h:WF w)(v:Int):(Kk w v).1<=w.T.length:=by
 have g:∀i g,(YQ w.l i g).1<=w.T.length:=by
  intro i g;by_cases f:(YQ w.l i g).2=0
  .have⟨_,_,p,hp,_,j,e⟩:=Vb f;rw[e];exact h.rloc _ (Xk7 (W7 hp) j)
  have:=(XiK w.l i g).resolve_left f;omega
 have t:∀(t:Wu),(∀r∈Xz t.e,r<=w.T.length)->∀i g,(YN t.e i g).1<=w.T.length:=by
  intro t ht i g;by_cases f:(YN t.e i g).2=0
  .have⟨_,_,p,hp,_,j,e⟩:=Jm f;rw[e];exact ht _ (Xk8 (W7 hp) j)
  have:=(XiL t.e i g).resolve_left f;omega
 unfold Kk;split
 .simp
 split
 .simp
 split
 .simp_all
 split
 .exact t _ h.rglo _ _
 exact t _ h.rwea _ _
section
variable {N:Nat}{w:WM}{k:Nat}
def JP(hw:WB k w)(hN:1000000<N)(h:YX w=true){v:Int}(j:tU v):QaM N w v=some (Kk w v):=by
 rw[QaM,XcK hw hN,Xa,h,Wh,Wa,Kk];by_cases e:v=0
 .rw[Wm e,e];rfl
 rw[Wi e,show(v==0)=false by simpa using e,Wa,XbY j,Xa];by_cases p:(Yk v).2=0
 .rw[p,show((0:Int) != 0)=false from rfl,Wa,Wi ab];by_cases f:(Yk v).1.Tag=1
  .rw[Wm f,f,show((1:Int)==1)=true from rfl,Wb,Vv hw.loc hN,Xa]
  rw[Wi f,show((Yk v).1.Tag==1)=false by simpa using f,Wa];by_cases g:(Yk v).1.Tag=2
  .rw[Wm g,g,show((2:Int)==2)=true from rfl,Wb,Kt hw.glo hN,Xa]
  rw[Wi g,show((Yk v).1.Tag==2)=false by simpa using g,Wa,Kt hw.wea hN,Xa]
 grind
def Xbs(hw:WB k w)(hN:1000000<N)(e:YX w=true){v:Int}(f:tU v):QeE N w v=some (XR w v):=by rw[QeE,JP hw hN e f,Xa,XR];grind
end
end Go.Sx
