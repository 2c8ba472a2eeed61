import Derived.KernelRfl
import Derived.Test.YtgbmffljpneflaaGreatDoorBC
set_option linter.all false
namespace Go.Sx
def Ok{α:Type}(o:Option α)(P:α->Prop):Prop:=∃r,o=some r/\P r
section
variable {α β γ:Type}{P:β->Prop}
def Xa(x:α)(f:α->Option β):bnd (some x) f=f x:=by unfold bnd;rfl
def ZV(f:α->Option β):bnd none f=none:=by unfold bnd;rfl
def Xc{p:Prop}[Decidable p](h:p)(x:Option α):grd p x=x:=by unfold grd;simp_all
theorem Xv{κ:Type}(k:κ)(f:κ->γ):jn k f=f k:=by unfold jn;rfl
theorem XE(a:α)(f:α->γ)(k:β->γ):exK (.ret a) f k=f a:=by unfold exK;rfl
theorem Xp(b:β)(f:α->γ)(k:β->γ):exK (.nxt b) f k=k b:=by unfold exK;rfl
def Xe(l:List α)(k:Nat):Xb l (k:Int)=l[k]?:=by unfold Xb;simp
def X1{l:List α}{i:Int}(e:0<=i)(f:i<l.length):Xb l i=some (l[i.toNat]'aa):=by unfold Xb;simp_all
def Xav{l:List α}{i:Int}{p:α}:Xb l i=some p↔0<=i/\l[i.toNat]? = some p:=by unfold Xb;simp
def YH{l:List α}{i:Int}{p:α}(h:Xb l i=some p):p∈l:=Ue (Xav.1 h).2
def Xko{l:List α}{i:Int}(h:¬(0<=i/\i<l.length)):Xb l i=none:=by unfold Xb;simp_all
def Wg{x:β}(h:P x):Ok (some x) P:=⟨x,rfl,h⟩
def WI{o:Option α}{f:α->Option β}{Q:α->Prop}(h:Ok o Q)(k:∀y,o=.some y->Q y->Ok (f y) P):Ok (Sx.bnd o f) P:=by obtain⟨y,rfl,e⟩:=h;simp_all[Xa]
def WU{p:Prop}[Decidable p]{x:Option β}(h:p)(k:Ok x P):Ok (Sx.grd p x) P:=by simp_all[Xc,h]
def Il{κ:Type}{k:κ}{f:κ->Option β}(h:Ok (f k) P):Ok (Sx.jn k f) P:=by simp_all[Xv]
def Wp{b:Bool}{x y:Option β}(e:b=true->Ok x P)(f:b=false->Ok y P):Ok (bif b then x else y) P:=by grind
def Ok.get{l:List α}{i:Int}{f:α->Option β}(e:0<=i)(g:i<l.length)(k:∀p,Xb l i=.some p->Ok (f p) P):Ok (Sx.bnd (Xb l i) f) P:=by simp_all[X1,e,g,Xa]
def Ok.mono{o:Option β}{Q:β->Prop}(h:Ok o Q)(k:∀x,Q x->P x):Ok o P:=by obtain⟨y,rfl,e⟩:=h;exact⟨y,rfl,k y e⟩
def Ok.get_eq{o:Option β}{x:β}(h:Ok o P)(e:o=.some x):P x:=by have⟨y,f,g⟩:=h;simp_all
def Ok.isSome{o:Option β}(h:Ok o P):o≠none:=by obtain⟨y,rfl,_⟩:=h;simp
def IY{α':Type}{o:Option (Ex α' α)}{f:α'->Option β}{k:α->Option β}{Q:Ex α' α->Prop}(h:Ok o Q)(g:∀a,Q (.ret a)->Ok (f a) P)(j:∀b,Q (.nxt b)->Ok (k b) P):Ok (Sx.bnd o λe=>exK e f k) P:=by
 obtain⟨y,rfl,l⟩:=h;rw[Xa];cases y with
 |ret a=>simp_all[XE]
 |nxt b=>simp_all[Xp]
end
def Xd{n:Int}(h:-9223372036854775808<=n)(j:n<=9223372036854775807):wI n=n:=by
 have e:wI n=if n % 18446744073709551616>=9223372036854775808 then n % 18446744073709551616-18446744073709551616 else n % 18446744073709551616:=by have f:IntKind.bits .i64=64:=rfl;have g:IntKind.signed .i64=true:=rfl;simp[wI,IntKind.wrap,f,g]
 omega
theorem Xc3(n:Int):wU n=n % 18446744073709551616:=by rfl
def Xw{n:Int}(e:0<=n)(f:n<=18446744073709551615):wU n=n:=by grind[Xc3]
def Xc4(n:Int):0<=wU n/\wU n<=18446744073709551615:=by grind[Xc3]
theorem Xme(n:Int):wW n=n % 4294967296:=by rfl
def Xmf{n:Int}(e:0<=n)(f:n<=4294967295):wW n=n:=by grind[Xme]
def Xmg{n:Int}(g:0<=n)(j:n<=63):ZN .u64 1 n=2 ^ n.toNat:=by
 have e:IntKind.bits .u64=64:=rfl;have h:min n.toNat 64=n.toNat:=aa;have hp:(2:Int) ^ n.toNat<=2 ^ 63:=by have:2 ^ n.toNat<=2 ^ 63:=IE aa aa;exact_mod_cast this
 have f:(0:Int)<=2 ^ n.toNat:=Int.pow_nonneg ae;show IntKind.wrap .u64 (1*2 ^ min n.toNat (IntKind.bits .u64))=_;rw[e,h,I9];exact Xw f aa
def YI(a:Int)(k:Nat)(e:k<=64)(f:0<=a):YD .u64 a k=a / 2 ^ k:=by have g:IntKind.bits .u64=64:=rfl;show a.fdiv (2 ^ min (k:Int).toNat (IntKind.bits .u64))=_;grind
def Yv(a:Int)(k:Nat)(f:k<=63)(g:0<=a)(h:a<=18446744073709551615):Y4 .u64 a (2 ^ k-1)=a % 2 ^ k:=by
 obtain⟨n,rfl⟩:=Uo g;have hb:IntKind.u64.bits=64:=rfl;show IntKind.u64.wrap ((BitVec.ofInt IntKind.u64.bits n &&& BitVec.ofInt IntKind.u64.bits (2 ^ k-1)).toNat:Int)=_;rw[hb];have e:(2:Int) ^ k-1=((2 ^ k-1:Nat):Int):=by
  have h:=Nat.one_le_two_pow (n:=k);have j:(2:Int) ^ k=((2 ^ k:Nat):Int):=by simp
  rw[j];omega
 have l:BitVec.ofInt 64 (n:Int)=BitVec.ofNat 64 n:=by simp
 have o:BitVec.ofInt 64 ((2 ^ k-1:Nat):Int)=BitVec.ofNat 64 (2 ^ k-1):=by simp
 rw[e,l,o,BitVec.toNat_and,Ia,Ia];have p:n % 2 ^ 64=n:=Im aa;have hp:2 ^ k<=2 ^ 63:=IE aa f;have q:(2 ^ k-1) % 2 ^ 64=2 ^ k-1:=Im aa;rw[p,q,Nat.and_two_pow_sub_one_eq_mod];show wU _=_;rw[Xw aa aa];simp
def PT{α:Type}(o:Option α)(P:α->Prop):Prop:=∀r,o=some r->P r
def tU(n:Int):Prop:=0<=n/\n<=18446744073709551615
def tW(n:Int):Prop:=0<=n/\n<=4294967295
def tL{α:Type}(T:α->Prop)(l:List α):Prop:=∀x∈l,T x
def tE{α β:Type}(A:α->Prop)(B:β->Prop):Ex α β->Prop
 |.ret a=>A a
 |.nxt b=>B b
section
variable {α β γ:Type}{P:β->Prop}{T:α->Prop}
def We{x:β}(h:P x):PT (some x) P:=λr e=>WG e▸h
def IM:PT none P:=λr e=>by grind
def Wx{o:Option α}{f:α->Option β}{Q:α->Prop}(h:PT o Q)(k:∀y,Q y->PT (f y) P):PT (Sx.bnd o f) P:=by
 cases o with
 |none=>rw[ZV];exact IM
 |some y=>rw[Xa];exact k y (h y rfl)
def WD{o:Option α}{f:α->Option β}(k:∀y,PT (f y) P):PT (Sx.bnd o f) P:=by
 cases o with
 |none=>rw[ZV];exact IM
 |some y=>simp_all[Xa]
def WK{p:Prop}[Decidable p]{x:Option β}(k:PT x P):PT (Sx.grd p x) P:=by
 unfold Sx.grd;split
 .omega
 exact IM
def UU{κ:Type}{k:κ}{f:κ->Option β}{Q:κ->Prop}(h:Q k)(g:∀j,Q j->PT (f j) P):PT (Sx.jn k f) P:=by simp_all[Xv]
def Wj{b:Bool}{x y:Option β}(e:PT x P)(f:PT y P):PT (bif b then x else y) P:=by grind
def PT.get{l:List α}{i:Int}{f:α->Option β}(h:tL T l)(k:∀p,T p->PT (f p) P):PT (Sx.bnd (Xb l i) f) P:=
 Wx (Q:=T) (λr e=>h r (YH e)) k
def Oy{α':Type}{o:Option (Ex α' α)}{f:α'->Option β}{k:α->Option β}{A:α'->Prop}(h:PT o (tE A T))(j:∀a,A a->PT (f a) P)(l:∀b,T b->PT (k b) P):PT (Sx.bnd o λe=>exK e f k) P:=by
 refine Wx h λy g=>?_;cases y with
 |ret a=>rw[XE];exact j a g
 |nxt b=>rw[Xp];exact l b g
def O0{o:Option β}{r:β}(h:PT o P)(e:o=.some r):P r:=h r e
end
@[simp] def Xus{α β:Type}(A:α->Prop)(B:β->Prop)(a:α):tE A B (.ret a)=A a:=rfl
@[simp] def Xut{α β:Type}(A:α->Prop)(B:β->Prop)(b:β):tE A B (.nxt b)=B b:=rfl
@[simp] def Xuu(n:Nat):tU (no_index (OfNat.ofNat n):Int)=((OfNat.ofNat n:Nat)<=18446744073709551615):=by have:(no_index (OfNat.ofNat n):Int)=(n:Int):=rfl;simp only[eq_iff_iff];show(0:Int)<=n/\(n:Int)<=18446744073709551615↔n<=18446744073709551615;omega
@[simp] def Xuv(n:Nat):tW (no_index (OfNat.ofNat n):Int)=((OfNat.ofNat n:Nat)<=4294967295):=by have:(no_index (OfNat.ofNat n):Int)=(n:Int):=rfl;simp only[eq_iff_iff];show(0:Int)<=n/\(n:Int)<=4294967295↔n<=4294967295;omega
@[simp] def Xu9(n:Int):tU (wU n):=Xc4 n
@[simp] def Xsu(n:Int):tW (wW n):=by unfold tW;rw[Xme];omega
def Xbd(n:Int):tU (IntKind.wrap .u64 n):=Xc4 n
def Xmh(n:Int):tW (IntKind.wrap .u32 n):=Xsu n
@[simp] def Xua(a b:Int):tU (Y4 .u64 a b):=Xbd _
@[simp] def Xuw(a b:Int):tU (bOr .u64 a b):=Xbd _
@[simp] def Xub(a b:Int):tU (Xod .u64 a b):=Xbd _
@[simp] def Xuc(a b:Int):tU (ZN .u64 a b):=Xbd _
@[simp] def Xud(a b:Int):tW (Y4 .u32 a b):=Xmh _
def Xqh{a b:Int}(h:0<=a)(k:IntKind):0<=YD k a b/\YD k a b<=a:=by show 0<=a.fdiv _/\a.fdiv _<=a;have hp:(0:Int)<2 ^ min b.toNat (IntKind.bits k):=Int.pow_pos ae;rw[Int.fdiv_eq_ediv_of_nonneg _ aa];exact⟨Int.ediv_nonneg h aa,Int.ediv_le_self _ h⟩
@[simp] def Xue{a b:Int}(h:tU a):tU (YD .u64 a b):=by have:=Xqh (b:=b) h.1 .u64;unfold tU at *;omega
@[simp] def Xuf{a b:Int}(h:tW a):tW (YD .u32 a b):=by have:=Xqh (b:=b) h.1 .u32;unfold tW at *;omega
@[simp] def Xug{a b:Int}(h:tU a):tU (a.tmod b):=by
 unfold tU at *;rw[Is h.1];by_cases hb:b=0
 .subst hb;rw[Int.emod_zero];exact h
 have h1:=Int.emod_nonneg a hb;have h2:a % b<=a:=by
  obtain⟨n,rfl⟩:=Uo h.1;rcases Int.natAbs_eq b with e|e
  .rw[e,←Int.natCast_emod];have:=Nat.mod_le n b.natAbs;omega
  rw[e,Int.emod_neg,←Int.natCast_emod];have:=Nat.mod_le n b.natAbs;omega
 omega
section
variable {α:Type}{T:α->Prop}
@[simp] def Xux:tL T ([]:List α):=λx h=>by grind
@[simp] def Xuh{x:α}{l:List α}:tL T (x::l)↔T x/\tL T l:=by unfold tL;simp
@[simp] def Xr0{a b:List α}:tL T (a++b)↔tL T a/\tL T b:=by unfold tL;simp;exact⟨λh=>⟨λx hx=>h x (.inl hx),λx hx=>h x (.inr hx)⟩,λh x hx=>hx.elim (h.1 x) (h.2 x)⟩
@[simp] def Xc5{l:List α}{i:Nat}{x:α}(h:tL T l)(hx:T x):tL T (l.set i x):=λy hy=>by
 rcases UC hy with h1|h1
 .exact h y h1
 simp_all
@[simp] def Xui{l:List α}{i:Nat}(h:tL T l):tL T (l.take i):=λy hy=>h y (WY hy)
@[simp] def Xuj{l:List α}{i:Nat}(h:tL T l):tL T (l.drop i):=λy hy=>h y (WS hy)
@[simp] def Xuy{n:Nat}{x:α}(h:T x):tL T (List.replicate n x):=λy hy=>by simp_all
end
@[simp] def Xuz{p:Prop}[Decidable p]{a b:Int}(ha:tU a)(hb:tU b):tU (if p then a else b):=by split;exact ha;exact hb
set_option maxHeartbeats 1000000
def XV(s:Wm):Prop:=(tL tU) s.w
def Yw(s:UE):Prop:=tU s.a
def XN(s:Wo):Prop:=(tL Yw) s.S
def XI(s:WT):Prop:=tU s.a
def X6(s:Ws):Prop:=(tL XI) s.e
def Y8(s:Ux):Prop:=tU s.a
def Yi(s:WJ):Prop:=XV s.h/\XN s.l/\X6 s.g/\X6 s.v/\(tL Y8) s.P/\(tL tU) s.R
def Zj(s:WC):Prop:=tW s.Map
def ZF(s:In):Prop:=Zj s.H/\(tL tU) s.D
def Kx(s:IA):Prop:=tU s.I/\tU s.B0
def X2(s:WX):Prop:=(tL ZF) s.T/\XN s.l/\X6 s.g/\X6 s.v/\(tL Kx) s.m/\(tL tU) s.R
def XaH(s:Iz):Prop:=Yi s.N/\X2 s.z/\(tL tU) s.w
def JN(s:IJ):Prop:=tU s.A/\tU s.B/\tU s.C
def Xc6(s:Ik):Prop:=XV s.h/\(tL tU) s.Strong/\(tL tU) s.Weak
def Xh7(s:Ov):Prop:=tU s.B0
def Xmi(s:Oc):Prop:=XN s.l
def Xo5(s:UF):Prop:=tU s.Value
def X3(s:WE):Prop:=XV s.h/\(tL tU) s.o/\(tL tU) s.q
def Xkp(s:Uh):Prop:=tU s.Addr
def Xo6(s:UQ):Prop:=tU s.addr/\Zj s.hd
@[simp] def Xo7{l:List UE}{i:Nat}{x:UE}(h:tL Yw l)(hx:tU x.a):tL Yw (l.set i x):=Xc5 h hx
@[simp] def Xob{l:List WT}{i:Nat}{x:WT}(h:tL XI l)(hx:tU x.a):tL XI (l.set i x):=Xc5 h hx
@[simp] def Xqi{l:List Ux}{i:Nat}{x:Ux}(h:tL Y8 l)(hx:tU x.a):tL Y8 (l.set i x):=Xc5 h hx
@[simp] def Xo8{l:List IA}{i:Nat}{x:IA}(h:tL Kx l)(hx:tU x.I/\tU x.B0):tL Kx (l.set i x):=Xc5 h hx
@[simp] def Xoc{l:List In}{i:Nat}{x:In}(h:tL ZF l)(hx:tW x.H.Map/\(tL tU) x.D):tL ZF (l.set i x):=Xc5 h hx
attribute [local simp] XV Yw XN XI X6 Y8 Yi Zj ZF Kx X2 XaH JN Xc6 Xh7 Xmi Xo5 X3 Xkp Xo6
def Qf6{N g l}(o:XaH g):PT (Qb5 N g l) (λr=>tU r.1):=by rw[Qb5];refine(WD λu=>(Wj (WD λv=>(PT.get (T:=tU) ?_ λw y=>(We ?_))) (Wj (WD λz=>(PT.get (T:=tU) ?_ λA B=>(WD λD=>(We ?_)))) (UU (Q:=λk=>∀h,PT (k h) _) (λh=>(Wj (WD λE=>(PT.get (T:=tU) ?_ λp G=>(We ?_))) (WD λq=>(PT.get (T:=tU) ?_ λs H=>(We ?_))))) λI e=>(Wj (e _) (UU (Q:=λk=>∀j,PT (k j) _) (λj=>(e _)) λJ f=>(Wj (f _) (f _))))))));all_goals simp_all (maxDischargeDepth:=9)
def Qiy{N l p}(q:XaH l):PT (Qdx N l p) (λr=>JN r.1):=by rw[Qdx];refine(WD λB=>(WD λD=>(Wj (WD λE=>(WK (WD λG=>(We ?_)))) (UU (Q:=λk=>∀o,PT (k o) _) (λo=>(Wj (WD λH=>(WD λI=>(Wj (WD λJ=>(We ?_)) (We ?_)))) (Wj (WD λK=>(We ?_)) (Wx (Qf6 ?_) λs L=>(WD λu=>(WD λv=>(UU (Q:=λk=>∀g h e,tU e->PT (k g h e) _) (λg h e M=>(Wj (Wx (Qf6 ?_) λw O=>(We ?_)) (We ?_))) λR f=>(Wj (Wx (Qf6 ?_) λy S=>(f _ _ _ ?_)) (WD λz=>(Wj (Wx (Qf6 ?_) λA U=>(f _ _ _ ?_)) (f _ _ _ ?_))))))))))) λV j=>(Wj (j _) (j _))))));all_goals simp_all (maxDischargeDepth:=9)
def Qpq{N e}:PT (QgZ N e) (λr=>XV r.1):=by rw[QgZ];refine(WD λf=>(Wj (We ?_) (WK (WK (We ?_)))));all_goals simp_all (maxDischargeDepth:=9)
def Qpr{N e}:PT (QfF N e) (λr=>Yi r.1):=by rw[QfF];refine(Wx (Qpq) λf g=>(We ?_));all_goals simp_all (maxDischargeDepth:=9)
def Qps{N e}:PT (Qg0 N e) (λr=>X2 r.1):=by rw[Qg0];refine(WD λf=>(Wj (We ?_) (We ?_)));all_goals simp_all (maxDischargeDepth:=9)
def QjW{N e}:PT (Qcl N e) (λr=>XaH r.1):=by rw[Qcl];refine(WD λf=>(Wx (Qpr) λg h=>(Wx (Qps) λj k=>(WD λl=>(We ?_)))));all_goals simp_all (maxDischargeDepth:=9)
def QfE{N e f}(g:(tL tU) e)(h:tU f):PT (Qbs N e f) (λr=>tU r.1):=by rw[Qbs];refine(WD λj=>(Wj (We ?_) (PT.get (T:=tU) ?_ λk l=>(We ?_))));all_goals simp_all (maxDischargeDepth:=9) []
def Qic{N e}(f:Zj e):PT (Qc1 N e) (λr=>tU r.1):=by rw[Qc1];refine(WD λg=>(Wj (We ?_) (We ?_)));all_goals simp_all (maxDischargeDepth:=9)
def Qid{N e}(f:tU e):PT (Qc2 N e) (λr=>Zj r.1):=by rw[Qc2];refine(Wx (Qic ?_) λg h=>(Wj (We ?_) (Wj (We ?_) (We ?_))));all_goals simp_all (maxDischargeDepth:=9)
def Qjb{N f g}(h:XV f)(j:tU g):PT (Qam N f g) (λr=>Zj r.1):=by rw[Qam];refine(WD λl=>(Wj (We ?_) (WD λo=>(Wj (We ?_) (WD λp=>(Wx (QfE ?_ ?_) λq s=>(Wx (Qid ?_) λu v=>(UU (Q:=λk=>∀_,PT (k ()) _) (λ_=>(WD λw=>(Wj (Wj (We ?_) (Wj (Wj (We ?_) (Wj (We ?_) (We ?_))) (We ?_))) (Wj (Wj (We ?_) (Wj (We ?_) (We ?_))) (We ?_))))) λy e=>(Wj (Wj (We ?_) (Wj (We ?_) (Wj (We ?_) (e ())))) (Wj (We ?_) (Wj (We ?_) (e ()))))))))))));all_goals simp_all (maxDischargeDepth:=9)
def QkR{N e f g}:PT (QbF N e f g) (λr=>tU r.1):=by rw[QbF];refine(WD λh=>(Wj (We ?_) (Wj (We ?_) (Wj (We ?_) (Wj (We ?_) (Wj (We ?_) (We ?_)))))));all_goals simp_all (maxDischargeDepth:=9) []
def QiL{N a0 a1 p2}(e:XV a0):∀n g f,(tL tU) f->PT (QaA N a0 a1 p2 n g f) (tE (λr=>(tL tU) r.1) (tL tU))
 |0,_,_,_=>by rw[QaA];exact IM
 |n+1,g,f,j=>by have h:=QiL (N:=N) (a0:=a0) (a1:=a1) (p2:=p2) e n;rw[QaA];refine(Wj (Wx (QkR) λk l=>(Wx (Qjb ?_ ?_) λo p=>(Wj (We ?_) (WK (Wj (We ?_) (WD λq=>(h _ _ ?_))))))) (We ?_));all_goals (clear h;simp_all (maxDischargeDepth:=9))
def QkS{N g j k n l h}(e:XV g)(f:(tL tU) h):PT (QaA N g j k n l h) (tE (λr=>(tL tU) r.1) (tL tU)):=QiL e n _ _ f
def Qoc{N e f}(g:XV e):PT (Qan N e f) (λr=>(tL tU) r.1):=by rw[Qan];refine(WD λh=>(Wj (We ?_) (Wj (We ?_) (Wj (We ?_) (WD λj=>(Wj (We ?_) (Wj (We ?_) (Oy (QkS ?_ ?_) (λr k=>(We ?_)) λl o=>(We ?_)))))))));all_goals simp_all (maxDischargeDepth:=9)
def QiM{N e f}(g:XV e)(h:tU f):PT (QbU N e f) (λr=>Zj r.1):=by rw[QbU];refine(WD λj=>(Wj (We ?_) (Wj (We ?_) (Wx (Qjb ?_ ?_) λk l=>(Wj (Wj (We ?_) (We ?_)) (We ?_))))));all_goals simp_all (maxDischargeDepth:=9)
def Qiu{N a0}(e:XV a0):∀n g f,(tL tU) f->PT (QaY N a0 n g f) (tE (λr=>(tL tU) r.1) (tL tU))
 |0,_,_,_=>by rw[QaY];exact IM
 |n+1,g,f,j=>by have h:=Qiu (N:=N) (a0:=a0) e n;rw[QaY];refine(Wj (Wx (Qoc ?_) λk l=>(Wj (We ?_) (WK (h _ _ ?_)))) (We ?_));all_goals (clear h;simp_all (maxDischargeDepth:=9))
def QjX{N g n j h}(e:XV g)(f:(tL tU) h):PT (QaY N g n j h) (tE (λr=>(tL tU) r.1) (tL tU)):=Qiu e n _ _ f
def QlW{N e}(f:XV e):PT (Qc3 N e) (λr=>(tL tU) r.1):=by rw[Qc3];refine(WD λg=>(Wj (We ?_) (Oy (QjX ?_ ?_) (λr h=>(We ?_)) λj k=>(We ?_))));all_goals simp_all (maxDischargeDepth:=9)
def Qif{N a0 y1}(e:XV a0)(f:(λr=>(tL tU) r.1) y1):∀n j g,(tL tU) g->PT (Qa1 N a0 y1 n j g) (tL tU)
 |0,_,_,_=>by rw[Qa1];exact IM
 |n+1,j,g,k=>by have h:=Qif (N:=N) (a0:=a0) (y1:=y1) e f n;rw[Qa1];refine(Wj (PT.get (T:=tU) ?_ λl o=>(Wx (Qjb ?_ ?_) λp q=>(Wj (PT.get (T:=tU) ?_ λs u=>(WK (h _ _ ?_))) (h _ _ ?_)))) (We ?_));all_goals (clear h;simp_all (maxDischargeDepth:=9))
def Qjt{N h j n l k}(e:XV h)(f:(λr=>(tL tU) r.1) j)(g:(tL tU) k):PT (Qa1 N h j n l k) (tL tU):=Qif e f n _ _ g
def QkT{N e}(f:XV e):PT (QaK N e) (λr=>(tL tU) r.1):=by rw[QaK];refine(Wx (QlW ?_) λg h=>(Wx (Qjt ?_ ?_ ?_) λj k=>(We ?_)));all_goals simp_all (maxDischargeDepth:=9)
def Qod{N e f g}(h:(tL tU) e)(j:tU f):PT (QdO N e f g) (λr=>(tL tU) r.1):=by rw[QdO];refine(Wj (We ?_) (WD λk=>(Wj (We ?_) (WK (WK (We ?_))))));all_goals simp_all (maxDischargeDepth:=9) []
def QiN{N a0}(e:X6 a0):∀n h f,(tL tU) f->PT (QbG N a0 n h f) (tL tU)
 |0,_,_,_=>by rw[QbG];exact IM
 |n+1,h,f,j=>by have g:=QiN (N:=N) (a0:=a0) e n;rw[QbG];refine(Wj (WD λk=>(Wj (PT.get (T:=XI) ?_ λl o=>(Wj (PT.get (T:=XI) ?_ λp q=>(WK (g _ _ ?_))) (g _ _ ?_))) (We ?_))) (We ?_));all_goals (clear g;simp_all (maxDischargeDepth:=9))
def QkU{N g n j h}(e:X6 g)(f:(tL tU) h):PT (QbG N g n j h) (tL tU):=QiN e n _ _ f
def QgK{N e}(f:X6 e):PT (QbD N e) (tL tU):=by rw[QbD];refine(Wx (QkU ?_ ?_) λg h=>(We ?_));all_goals simp_all (maxDischargeDepth:=9)
def QiO{N a0}(e:XN a0):∀n h f,(tL tU) f->PT (QbH N a0 n h f) (tL tU)
 |0,_,_,_=>by rw[QbH];exact IM
 |n+1,h,f,j=>by have g:=QiO (N:=N) (a0:=a0) e n;rw[QbH];refine(Wj (WD λk=>(Wj (PT.get (T:=Yw) ?_ λl o=>(Wj (PT.get (T:=Yw) ?_ λp q=>(WK (g _ _ ?_))) (g _ _ ?_))) (We ?_))) (We ?_));all_goals (clear g;simp_all (maxDischargeDepth:=9))
def QkV{N g n j h}(e:XN g)(f:(tL tU) h):PT (QbH N g n j h) (tL tU):=QiO e n _ _ f
def Qiw{N e}(f:XN e):PT (Qdg N e) (tL tU):=by rw[Qdg];refine(Wx (QkV ?_ ?_) λg h=>(We ?_));all_goals simp_all (maxDischargeDepth:=9)
def Qah{N e}:PT (Qae N e) (λr=>Yi r.1/\tU r.2.1):=by rw[Qae];refine(We ?_);all_goals simp_all (maxDischargeDepth:=9)
def Qik{N g e f}(h:tU e)(j:tU f):PT (QbQ N g e f) (λr=>Zj r.1):=by rw[QbQ];refine(Wj (Wj (We ?_) (We ?_)) (We ?_));all_goals simp_all (maxDischargeDepth:=9)
def QiP{N e f}(g:XN e)(h:tU f):PT (Qes N e f) (λr=>XN r.1):=by rw[Qes];refine(WD λj=>(Wj (We ?_) (Wj (We ?_) (Wj (We ?_) (WD λk=>(WD λl=>(WD λo=>(Wj (We ?_) (Wj (We ?_) (WK (WK (WK (WK (We ?_))))))))))))));all_goals simp_all (maxDischargeDepth:=9)
def Qng{N e}(f:XV e):PT (QdI N e) (λr=>X3 r.1):=by rw[QdI];refine(WD λg=>(Wj (We ?_) (WD λh=>(Wj (We ?_) (Wx (QkT ?_) λj k=>(WK (WD λl=>(We ?_))))))));all_goals simp_all (maxDischargeDepth:=9)
def Qiz{N a2 y1}(e:(tL tU) a2):∀n g f,(tL tU) f->PT (Qb9 N a2 y1 n g f) (tL tU)
 |0,_,_,_=>by rw[Qb9];exact IM
 |n+1,g,f,j=>by have h:=Qiz (N:=N) (a2:=a2) (y1:=y1) e n;rw[Qb9];refine(Wj (PT.get (T:=tU) ?_ λk l=>(PT.get (T:=tU) ?_ λo p=>(h _ _ ?_))) (We ?_));all_goals (clear h;simp_all (maxDischargeDepth:=9) [])
def Qks{N g j n k h}(e:(tL tU) g)(f:(tL tU) h):PT (Qb9 N g j n k h) (tL tU):=Qiz e n _ _ f
def Qhp{N e f g}(h:(tL tU) e)(j:tU f)(k:(tL tU) g):PT (Qcv N e f g) (λr=>(tL tU) r.1):=by rw[Qcv];refine(WD λl=>(Wj (We ?_) (WK (Wx (Qks ?_ ?_) λo p=>(We ?_)))));all_goals simp_all (maxDischargeDepth:=9) []
def Qil{N e f g}(h:(tL tU) e)(j:tU f)(k:tU g):PT (Qc4 N e f g) (λr=>(tL tU) r.1):=by rw[Qc4];refine(Wx (Qhp ?_ ?_ ?_) λl o=>(We ?_));all_goals simp_all (maxDischargeDepth:=9) []
def Qi7{N e}(f:tU e):PT (Qc5 N e) (λr=>tU r.1):=by rw[Qc5];refine(Wj (We ?_) (Wj (We ?_) (We ?_)));all_goals simp_all (maxDischargeDepth:=9) []
def Qjr{N e f}(g:X3 e)(h:tU f):PT (Qek N e f) X3:=by rw[Qek];refine(WK (WK (We ?_)));all_goals simp_all (maxDischargeDepth:=9)
def Qnh{N f g}(h:X3 f):PT (Qc6 N f g) (λr=>X3 r.1/\tU r.2.1):=by rw[Qc6];refine(WK (UU (Q:=λk=>∀_,PT (k ()) _) (λ_=>(WD λu=>(Wj (We ?_) (WD λv=>(WK (WK (WD λj=>(WD λl=>(WD λo=>(We ?_)))))))))) λw e=>(Wj (WD λy=>(WD λz=>(Wj (WD λA=>(WD λp=>(WD λq=>(WD λs=>(We ?_))))) (e ())))) (e ()))));all_goals simp_all (maxDischargeDepth:=9)
def Qoe{N e f g h}(j:(tL tU) e)(k:tU f)(l:tU g):PT (Qgq N e f g h) (λr=>(tL tU) r.1):=by rw[Qgq];refine(Wx (Qod ?_ ?_) λo p=>(Wj (We ?_) (Wx (Qhp ?_ ?_ ?_) λq s=>(We ?_))));all_goals simp_all (maxDischargeDepth:=9) []
def QkW{N e}(f:tU e):PT (Qdh N e) (λr=>tU r.1):=by rw[Qdh];refine(Wj (We ?_) (We ?_));all_goals simp_all (maxDischargeDepth:=9) []
def QiQ{N e f}(g:X3 e)(h:tU f):PT (Qbb N e f) (λr=>X3 r.1/\tU r.2.1):=by rw[Qbb];refine(Wj (We ?_) (WD λv=>(Wj (We ?_) (WD λw=>(Wj (We ?_) (Wx (QfE ?_ ?_) λy z=>(Wx (Qi7 ?_) λA B=>(Wj (We ?_) (WD λD=>(Wj (We ?_) (Wj (We ?_) (WD λE=>(Wj (Wx (Qjr ?_ ?_) λG H=>(We ?_)) (WD λI=>(Wj (WK (WD λJ=>(WD λj=>(Wx (Qjr ?_ ?_) λk K=>(We ?_))))) (Wx (Qid ?_) λl L=>(WD λo=>(Wx (Qnh ?_) λp M=>(Wj (We ?_) (Wx (Qoe ?_ ?_ ?_) λq O=>(Wx (QkW ?_) λs R=>(Wx (Qil ?_ ?_ ?_) λu S=>(WK (WK (We ?_)))))))))))))))))))))))));all_goals simp_all (maxDischargeDepth:=9)
def QiA{N a1}(q:(tL tU) a1):∀n v w y s z A B u D e g h j k l o p f,(tL tU) s->(tL tU) u->(tL tU) e->(tL tU) f->PT (Qbn N a1 n v w y s z A B u D e g h j k l o p f) (tE (λr=>X3 r.1/\(tL tU) r.2.1) (λr=>(tL tU) r.2.2.1/\(tL tU) r.2.2.2.2.2.2.1/\(tL tU) r.2.2.2.2.2.2.2.2.1/\(tL tU) r.2.2.2.2.2.2.2.2.2.2.2.2.2.2.2.2))
 |0,_,_,_,_,_,_,_,_,_,_,_,_,_,_,_,_,_,_,_,_,_,_=>by rw[Qbn];exact IM
 |n+1,v,w,y,s,z,A,B,u,D,e,g,h,j,k,l,o,p,f,I,J,E,G=>by have H:=QiA (N:=N) (a1:=a1) q n;rw[Qbn];refine(Wj (PT.get (T:=tU) ?_ λK M=>(Wx (QiQ ?_ ?_) λL O=>(Wj (We ?_) (WK (H _ _ _ _ _ _ _ _ _ _ _ _ _ _ _ _ _ _ ?_ ?_ ?_ ?_))))) (We ?_));all_goals (clear H;simp_all (maxDischargeDepth:=9))
def Qkt{N y n B D E z G H I A J e j k l o p q s f}(u:(tL tU) y)(v:(tL tU) z)(w:(tL tU) A)(g:(tL tU) e)(h:(tL tU) f):PT (Qbn N y n B D E z G H I A J e j k l o p q s f) (tE (λr=>X3 r.1/\(tL tU) r.2.1) (λr=>(tL tU) r.2.2.1/\(tL tU) r.2.2.2.2.2.2.1/\(tL tU) r.2.2.2.2.2.2.2.2.1/\(tL tU) r.2.2.2.2.2.2.2.2.2.2.2.2.2.2.2.2)):=QiA u n _ _ _ _ _ _ _ _ _ _ _ _ _ _ _ _ _ _ v w g h
def Qni{N e f}(g:X3 e)(h:(tL tU) f):PT (Qel N e f) (λr=>X3 r.1/\(tL tU) r.2.1):=by rw[Qel];refine(Oy (Qkt ?_ ?_ ?_ ?_ ?_) (λr k=>(We ?_)) λj l=>(We ?_));all_goals simp_all (maxDischargeDepth:=9)
def QjY{N e f}(g:X3 e)(h:tU f):PT (Qe4 N e f) Zj:=by rw[Qe4];refine(Wx (QfE ?_ ?_) λj k=>(Wx (Qid ?_) λl o=>(We ?_)));all_goals simp_all (maxDischargeDepth:=9)
def QiR{N p1 y3}(u:tU p1):∀n w y z v A B g e h f j k l o p q s,(tL tU) v->(tL tU) e->(tL tU) f->PT (QbJ N p1 y3 n w y z v A B g e h f j k l o p q s) (tE (λr=>X3 r.1) (λr=>(tL tU) r.2.2.1/\(tL tU) r.2.2.2.2.2.2.1/\(tL tU) r.2.2.2.2.2.2.2.2.1))
 |0,_,_,_,_,_,_,_,_,_,_,_,_,_,_,_,_,_,_,_,_=>by rw[QbJ];exact IM
 |n+1,w,y,z,v,A,B,g,e,h,f,j,k,l,o,p,q,s,H,D,E=>by have G:=QiR (N:=N) (p1:=p1) (y3:=y3) u n;rw[QbJ];refine(Wj (WD λI=>(Wx (QfE ?_ ?_) λJ M=>(Wx (QiQ ?_ ?_) λK O=>(Wj (We ?_) (Wx (Qil ?_ ?_ ?_) λL R=>(G _ _ _ _ _ _ _ _ _ _ _ _ _ _ _ _ _ ?_ ?_ ?_)))))) (We ?_));all_goals (clear G;simp_all (maxDischargeDepth:=9))
def QkX{N z B n D E G A H I j e k f l o p q s u v}(w:tU z)(y:(tL tU) A)(g:(tL tU) e)(h:(tL tU) f):PT (QbJ N z B n D E G A H I j e k f l o p q s u v) (tE (λr=>X3 r.1) (λr=>(tL tU) r.2.2.1/\(tL tU) r.2.2.2.2.2.2.1/\(tL tU) r.2.2.2.2.2.2.2.2.1)):=QiR w n _ _ _ _ _ _ _ _ _ _ _ _ _ _ _ _ _ y g h
def Qof{N e}(f:X3 e):PT (Qgr N e) (λr=>X3 r.1):=by rw[Qgr];refine(Wj (We ?_) (PT.get (T:=tU) ?_ λh j=>(Wx (QjY ?_ ?_) λk l=>(WD λo=>(Oy (QkX ?_ ?_ ?_ ?_) (λr p=>(We ?_)) λg q=>(We ?_))))));all_goals simp_all (maxDischargeDepth:=9)
def Qi8{N}:∀n s u o v w y p z q e f g h j k l,(tL tU) o->(tL tU) p->(tL tU) q->PT (Qb1 N n s u o v w y p z q e f g h j k l) (λr=>X3 r.1)
 |0,_,_,_,_,_,_,_,_,_,_,_,_,_,_,_,_,_,_,_=>by rw[Qb1];exact IM
 |n+1,s,u,o,v,w,y,p,z,q,e,f,g,h,j,k,l,B,D,E=>by have A:=Qi8 (N:=N) n;rw[Qb1];refine(Wx (Qof ?_) λG H=>(Wj (We ?_) (Wj (We ?_) (A _ _ _ _ _ _ _ _ _ _ _ _ _ _ _ _ ?_ ?_ ?_))));all_goals (clear A;simp_all (maxDischargeDepth:=9))
def QlX{N n w y s z A B u D v e f g h j k l}(o:(tL tU) s)(p:(tL tU) u)(q:(tL tU) v):PT (Qb1 N n w y s z A B u D v e f g h j k l) (λr=>X3 r.1):=Qi8 n _ _ _ _ _ _ _ _ _ _ _ _ _ _ _ _ o p q
def Qpt{N e}(f:X3 e):PT (QfH N e) (λr=>X3 r.1):=by rw[QfH];refine(Wx (QlX ?_ ?_ ?_) λr g=>(We ?_));all_goals simp_all (maxDischargeDepth:=9)
def Qnj{N e f}(g:X3 e)(h:tU f):PT (Qem N e f) tU:=by rw[Qem];refine(WD λj=>(Wj (We ?_) (Wx (QfE ?_ ?_) λk l=>(Wx (Qi7 ?_) λo p=>(We ?_)))));all_goals simp_all (maxDischargeDepth:=9)
def QiS{N a0 v4 p5 v1 v2}(e:X3 a0):∀n g f,(tL tU) f->PT (QbK N a0 v4 p5 v1 v2 n g f) (tL tU)
 |0,_,_,_=>by rw[QbK];exact IM
 |n+1,g,f,j=>by have h:=QiS (N:=N) (a0:=a0) (v4:=v4) (p5:=p5) (v1:=v1) (v2:=v2) e n;rw[QbK];refine(Wj (PT.get (T:=tU) ?_ λk l=>(h _ _ ?_)) (We ?_));all_goals (clear h;simp_all (maxDischargeDepth:=9))
def QkY{N g j k l o n p h}(e:X3 g)(f:(tL tU) h):PT (QbK N g j k l o n p h) (tL tU):=QiS e n _ _ f
def QiT{N a0}(f:X3 a0):∀n h j g k,(tL tU) g->PT (Qbc N a0 n h j g k) (λr=>(tL tU) r.2.1)
 |0,_,_,_,_,_=>by rw[Qbc];exact IM
 |n+1,h,j,g,k,l=>by have e:=QiT (N:=N) (a0:=a0) f n;rw[Qbc];refine(WK (Wj (WD λp=>(Wj (e _ _ _ _ ?_) (Wj (e _ _ _ _ ?_) (WD λq=>(Wx (QkY ?_ ?_) λo s=>(e _ _ _ _ ?_)))))) (We ?_)));all_goals (clear e;simp_all (maxDischargeDepth:=9))
def QkZ{N g n j k h l}(e:X3 g)(f:(tL tU) h):PT (Qbc N g n j k h l) (λr=>(tL tU) r.2.1):=QiT e n _ _ _ _ f
def Qog{N e}(f:X3 e):PT (QeZ N e) X3:=by rw[QeZ];refine(WK (WK (Wx (QkZ ?_ ?_) λg h=>(We ?_))));all_goals simp_all (maxDischargeDepth:=9)
def QiU{N a0}(f:X3 a0):∀n h g j,(tL tU) g->PT (Qa2 N a0 n h g j) (λr=>(tL tU) r.1)
 |0,_,_,_,_=>by rw[Qa2];exact IM
 |n+1,h,g,j,k=>by have e:=QiU (N:=N) (a0:=a0) f n;rw[Qa2];refine(Wj (PT.get (T:=tU) ?_ λs u=>(WD λv=>(WD λw=>(Wj (e _ _ _ ?_) (PT.get (T:=tU) ?_ λy z=>(WD λA=>(Wj (e _ _ _ ?_) (PT.get (T:=tU) ?_ λB D=>(Wx (QjY ?_ ?_) λl E=>(Wx (Qic ?_) λo G=>(PT.get (T:=tU) ?_ λp H=>(WK (WK (Wx (Qhp ?_ ?_ ?_) λq I=>(e _ _ _ ?_))))))))))))))) (We ?_));all_goals (clear e;simp_all (maxDischargeDepth:=9))
def Qk0{N g n j h k}(e:X3 g)(f:(tL tU) h):PT (Qa2 N g n j h k) (λr=>(tL tU) r.1):=QiU e n _ _ _ f
def Qoh{N e}(f:X3 e):PT (QfI N e) X3:=by rw[QfI];refine(Wx (Qk0 ?_ ?_) λg h=>(We ?_));all_goals simp_all (maxDischargeDepth:=9)
def Qig{N a2 y5 y6}(l:(tL tU) a2)(o:(λr=>X3 r.1/\(tL tU) r.2.1) y5)(p:(λr=>X3 r.1) y6):∀n s u q,(tL tU) q->PT (Qbf N a2 y5 y6 n s u q) (λr=>(tL tU) r.2)
 |0,_,_,_,_=>by rw[Qbf];exact IM
 |n+1,s,u,q,w=>by have v:=Qig (N:=N) (a2:=a2) (y5:=y5) (y6:=y6) l o p n;rw[Qbf];refine(Wj (PT.get (T:=tU) ?_ λy B=>(UU (Q:=λk=>∀e f,tU e->PT (k e f) _) (λe f D=>(WK (v _ _ _ ?_))) λE g=>(Wj (PT.get (T:=tU) ?_ λz G=>(Wx (Qnj ?_ ?_) λA H=>(UU (Q:=λk=>∀h,PT (k h) _) (λh=>(g _ _ ?_)) λI j=>(Wj (j _) (j _))))) (g _ _ ?_)))) (We ?_));all_goals (clear v;simp_all (maxDischargeDepth:=9))
def Qju{N j k l n p q o}(e:(tL tU) j)(f:(λr=>X3 r.1/\(tL tU) r.2.1) k)(g:(λr=>X3 r.1) l)(h:(tL tU) o):PT (Qbf N j k l n p q o) (λr=>(tL tU) r.2):=Qig e f g n _ _ _ h
def Qk1{N h j l}(o:XV h)(p:(tL tU) j)(q:(tL tU) l):PT (Qdi N h j l) (λr=>XV r.1/\(tL tU) r.2.1/\(tL tU) r.2.2.1):=by rw[Qdi];refine(WD λy=>(Wj (We ?_) (UU (Q:=λk=>∀_,PT (k ()) _) (λ_=>(We ?_)) λz e=>(WD λA=>(Wj (e ()) (WD λB=>(Wj (e ()) (Wx (Qng ?_) λD E=>(Wx (Qni ?_ ?_) λG H=>(Wj (We ?_) (Wx (Qpt ?_) λI J=>(Wj (We ?_) (Wx (Qju ?_ ?_ ?_ ?_) λs K=>(Wx (Qoh ?_) λu L=>(Wx (Qog ?_) λv M=>(UU (Q:=λk=>∀f,PT (k f) _) (λf=>(We ?_)) λO g=>(Wj (WD λw=>(g _)) (g _))))))))))))))))));all_goals simp_all (maxDischargeDepth:=9)
def Qiv{N a0}(e:Yi a0):∀n g f,(tL tU) f->PT (Qbv N a0 n g f) (tL tU)
 |0,_,_,_=>by rw[Qbv];exact IM
 |n+1,g,f,j=>by have h:=Qiv (N:=N) (a0:=a0) e n;rw[Qbv];refine(Wj (PT.get (T:=Y8) ?_ λk l=>(WK (h _ _ ?_))) (We ?_));all_goals (clear h;simp_all (maxDischargeDepth:=9))
def QjZ{N g n j h}(e:Yi g)(f:(tL tU) h):PT (Qbv N g n j h) (tL tU):=Qiv e n _ _ f
def QlY{N e}(f:Yi e):PT (Qet N e) (tL tU):=by rw[Qet];refine(WK (Wx (Qiw ?_) λg h=>(WK (Wx (QgK ?_) λj k=>(WK (Wx (QjZ ?_ ?_) λl o=>(We ?_)))))));all_goals simp_all (maxDischargeDepth:=9)
def QiV{N a0 a1}(e:XN a0)(f:(tL tU) a1):∀n j k g,(tL Yw) g->PT (Qbo N a0 a1 n j k g) (tE (λr=>XN r.1) (tL Yw))
 |0,_,_,_,_=>by rw[Qbo];exact IM
 |n+1,j,k,g,l=>by have h:=QiV (N:=N) (a0:=a0) (a1:=a1) e f n;rw[Qbo];refine(WK (Wj (PT.get (T:=Yw) ?_ λo p=>(Wj (h _ _ _ ?_) (PT.get (T:=tU) ?_ λq s=>(Wj (We ?_) (PT.get (T:=tU) ?_ λu v=>(PT.get (T:=Yw) ?_ λw y=>(h _ _ _ ?_))))))) (We ?_)));all_goals (clear h;simp_all (maxDischargeDepth:=9))
def Qk2{N h j n l o k}(e:XN h)(f:(tL tU) j)(g:(tL Yw) k):PT (Qbo N h j n l o k) (tE (λr=>XN r.1) (tL Yw)):=QiV e f n _ _ _ g
def Qoi{N e f}(g:XN e)(h:(tL tU) f):PT (Qen N e f) (λr=>XN r.1):=by rw[Qen];refine(WD λk=>(Wj (We ?_) (Wx (Qiw ?_) λl o=>(Wj (We ?_) (WK (Oy (Qk2 ?_ ?_ ?_) (λr p=>(We ?_)) λj q=>(We ?_)))))));all_goals simp_all (maxDischargeDepth:=9)
def QiW{N a1}(e:(tL tU) a1):∀n h j f,(tL XI) f->PT (Qbp N a1 n h j f) (tL XI)
 |0,_,_,_,_=>by rw[Qbp];exact IM
 |n+1,h,j,f,k=>by have g:=QiW (N:=N) (a1:=a1) e n;rw[Qbp];refine(WK (Wj (PT.get (T:=XI) ?_ λl o=>(Wj (PT.get (T:=tU) ?_ λp q=>(PT.get (T:=XI) ?_ λr s=>(g _ _ _ ?_))) (g _ _ _ ?_))) (We ?_)));all_goals (clear g;simp_all (maxDischargeDepth:=9))
def Qk3{N g n j k h}(e:(tL tU) g)(f:(tL XI) h):PT (Qbp N g n j k h) (tL XI):=QiW e n _ _ _ f
def Qix{N e f}(g:X6 e)(h:(tL tU) f):PT (QcC N e f) (λr=>X6 r.1):=by rw[QcC];refine(WD λj=>(Wj (We ?_) (Wx (QgK ?_) λk l=>(WK (Wj (We ?_) (WK (Wx (Qk3 ?_ ?_) λo p=>(We ?_))))))));all_goals simp_all (maxDischargeDepth:=9)
def Qih{N a0 y4 y5 y6 y7 y8 y9}(g:Yi a0)(h:(λr=>XV r.1/\(tL tU) r.2.1/\(tL tU) r.2.2.1) y4)(j:(tL tU) y5)(k:(tL tU) y6)(l:(λr=>XN r.1) y7)(o:(λr=>X6 r.1) y8)(p:(λr=>X6 r.1) y9):∀n f e,(tL Y8) e->PT (Qa3 N a0 y4 y5 y6 y7 y8 y9 n f e) (tL Y8)
 |0,_,_,_=>by rw[Qa3];exact IM
 |n+1,f,e,q=>by have s:=Qih (N:=N) (a0:=a0) (y4:=y4) (y5:=y5) (y6:=y6) (y7:=y7) (y8:=y8) (y9:=y9) g h j k l o p n;rw[Qa3];refine(Wj (PT.get (T:=tU) ?_ λu w=>(PT.get (T:=Y8) ?_ λv y=>(WK (s _ _ ?_)))) (We ?_));all_goals (clear s;simp_all (maxDischargeDepth:=9))
def Qjv{N s u v w y z A n g e}(h:Yi s)(j:(λr=>XV r.1/\(tL tU) r.2.1/\(tL tU) r.2.2.1) u)(k:(tL tU) v)(l:(tL tU) w)(o:(λr=>XN r.1) y)(p:(λr=>X6 r.1) z)(q:(λr=>X6 r.1) A)(f:(tL Y8) e):PT (Qa3 N s u v w y z A n g e) (tL Y8):=Qih h j k l o p q n _ _ f
def QiX{N e}(f:Yi e):PT (Qbq N e) (λr=>Yi r.1):=by rw[Qbq];refine(WD λh=>(Wj (We ?_) (Wx (QlY ?_) λj k=>(Wx (QgK ?_) λl o=>(Wx (Qk1 ?_ ?_ ?_) λp q=>(Wj (We ?_) (Wx (Qiw ?_) λs u=>(Wx (QgK ?_) λv w=>(WK (WK (WK (WK (Wx (Qoi ?_ ?_) λy z=>(WK (Wx (Qix ?_ ?_) λA B=>(Wx (Qix ?_ ?_) λD E=>(Wx (Qjv ?_ ?_ ?_ ?_ ?_ ?_ ?_ ?_) λg G=>(We ?_))))))))))))))))));all_goals simp_all (maxDischargeDepth:=9)
def Qnk{N f g}(h:XV f):PT (Qe5 N f g) (λr=>XV r.1/\tU r.2.1):=by rw[Qe5];refine(WK (WD λu=>(WD λv=>(UU (Q:=λk=>∀_,PT (k ()) _) (λ_=>(WD λw=>(Wj (We ?_) (Wj (We ?_) (WD λy=>(WD λj=>(WD λl=>(WD λo=>(We ?_))))))))) λz e=>(Wj (e ()) (WD λA=>(Wj (e ()) (WD λB=>(Wj (e ()) (Wj (e ()) (WD λp=>(WD λq=>(WD λs=>(We ?_))))))))))))));all_goals simp_all (maxDischargeDepth:=9)
def Qnl{N e f g}(h:XV e):PT (Qe6 N e f g) (λr=>XV r.1/\tU r.2.1):=by rw[Qe6];refine(WD λj=>(Wj (We ?_) (WD λk=>(WD λl=>(Wj (We ?_) (WD λo=>(We ?_)))))));all_goals simp_all (maxDischargeDepth:=9)
def Qoj{N e f g}(h:XV e)(j:tU f)(k:Zj g):PT (Qbw N e f g) (λr=>XV r.1):=by rw[Qbw];refine(Wx (Qic ?_) λl o=>(WD λp=>(Wj (We ?_) (Wj (We ?_) (WK (WK (Wx (Qhp ?_ ?_ ?_) λq s=>(Wj (We ?_) (We ?_)))))))));all_goals simp_all (maxDischargeDepth:=9)
def Qj0{N p q}(v:XV p)(w:Zj q):PT (Qch N p q) (λr=>XV r.1/\tU r.2.1):=by rw[Qch];refine(WD λz=>(Wj (We ?_) (WD λA=>(Wj (We ?_) (WD λB=>(WD λD=>(Wx (Qnk ?_) λE G=>(UU (Q:=λk=>∀o s u f e g h j,tU o->(tL tU) e->PT (k o s u f e g h j) _) (λo s u f e g h j H I=>(Wj (We ?_) (Wx (Qoj ?_ ?_ ?_) λy J=>(We ?_)))) λK l=>(Wj (Wx (Qnl ?_) λL M=>(l _ _ _ _ _ _ _ _ ?_ ?_)) (l _ _ _ _ _ _ _ _ ?_ ?_))))))))));all_goals simp_all (maxDischargeDepth:=9)
def Qnm{N G H}(L:Yi G)(M:Zj H):PT (Qca N G H) (λr=>Yi r.1/\tU r.2.1):=by rw[Qca];refine(WD λS=>(Wj (We ?_) (Wx (Qj0 ?_ ?_) λU V=>(UU (Q:=λk=>∀D I J K E o p q e s u f g h j v w l y z A,tU D->(tL tU) E->(tL Yw) e->(tL XI) f->(tL XI) g->(tL Y8) h->(tL tU) j->(tL tU) l->PT (k D I J K E o p q e s u f g h j v w l y z A) _) (λD I J K E o p q e s u f g h j v w l y z A W Y Z h5 h6 h7 h8 h9=>(Wj (We ?_) (We ?_))) λj1 B=>(Wj (Wx (QiX ?_) λy3 O=>(Wj (We ?_) (Wx (Qj0 ?_ ?_) λy4 R=>(B _ _ _ _ _ _ _ _ _ _ _ _ _ _ _ _ _ _ _ _ _ ?_ ?_ ?_ ?_ ?_ ?_ ?_ ?_)))) (B _ _ _ _ _ _ _ _ _ _ _ _ _ _ _ _ _ _ _ _ _ ?_ ?_ ?_ ?_ ?_ ?_ ?_ ?_))))));all_goals simp_all (maxDischargeDepth:=9)
def QgX{N e}:PT (Qbg N e) (λr=>tU r.1):=by rw[Qbg];refine(WD λf=>(Wj (We ?_) (We ?_)));all_goals simp_all (maxDischargeDepth:=9) []
def Qhq{N e f}(g:Yi e)(h:tU f):PT (Qa7 N e f) (λr=>Yi r.1/\tU r.2.1):=by rw[Qa7];refine(Wj (We ?_) (Wx (QiP ?_ ?_) λj k=>(Wj (Wx (Qah) λl o=>(We ?_)) (Wx (QgX) λp q=>(We ?_)))));all_goals simp_all (maxDischargeDepth:=9)
def QlZ{N f j g h}(l:Yi f)(o:tU g)(p:tU h):PT (Qcm N f j g h) (λr=>Yi r.1/\tU r.2.1):=by rw[Qcm];refine(Wj (Wx (Qah) λq s=>(We ?_)) (Wx (Qik ?_ ?_) λu v=>(UU (Q:=λk=>∀_,PT (k ()) _) (λ_=>(Wx (Qah) λw y=>(We ?_))) λz e=>(Wj (e ()) (WD λA=>(Wj (e ()) (Wx (QiP ?_ ?_) λB D=>(Wj (Wx (Qah) λE G=>(We ?_)) (Wx (Qnm ?_ ?_) λH I=>(Wj (Wx (Qah) λJ K=>(We ?_)) (Wx (Qhq ?_ ?_) λL M=>(We ?_))))))))))));all_goals simp_all (maxDischargeDepth:=9)
def QiY{N e f g}(h:XN e):PT (Qe7 N e f g) (λr=>tU r.1):=by rw[Qe7];refine(WD λj=>(Wj (We ?_) (Wj (We ?_) (Wj (We ?_) (WD λk=>(Wj (We ?_) (Wj (We ?_) (PT.get (T:=Yw) ?_ λl o=>(Wj (We ?_) (PT.get (T:=Yw) ?_ λp q=>(Wj (We ?_) (PT.get (T:=Yw) ?_ λs u=>(We ?_)))))))))))));all_goals simp_all (maxDischargeDepth:=9)
def Qhb{N e f g}(h:X6 e):PT (Qeu N e f g) (λr=>tU r.1):=by rw[Qeu];refine(WD λj=>(Wj (We ?_) (Wj (We ?_) (Wj (We ?_) (Wj (We ?_) (PT.get (T:=XI) ?_ λk l=>(Wj (We ?_) (PT.get (T:=XI) ?_ λo p=>(Wj (We ?_) (PT.get (T:=XI) ?_ λq s=>(Wj (We ?_) (PT.get (T:=XI) ?_ λu v=>(We ?_)))))))))))));all_goals simp_all (maxDischargeDepth:=9)
def Qdw{N e f}(g:Yi e)(h:tU f):PT (QaB N e f) (λr=>tU r.1):=by rw[QaB];refine(WD λj=>(Wj (We ?_) (Wj (We ?_) (WD λk=>(Wj (We ?_) (Wj (Wx (QiY ?_) λl o=>(We ?_)) (Wj (Wx (Qhb ?_) λp q=>(We ?_)) (Wx (Qhb ?_) λs u=>(We ?_)))))))));all_goals simp_all (maxDischargeDepth:=9)
def Qhr{N e f}(g:Yi e)(h:tU f):PT (QaN N e f) (λr=>tU r.1):=by rw[QaN];refine(Wx (Qdw ?_ ?_) λj k=>(Wj (Wj (We ?_) (We ?_)) (We ?_)));all_goals simp_all (maxDischargeDepth:=9)
def Qjg{N e f g h}(j:Yi e)(k:tU f)(l:tU g):PT (Qcw N e f g h) (λr=>tU r.1):=by rw[Qcw];refine(Wx (Qhr ?_ ?_) λo p=>(Wj (We ?_) (Wx (QiM ?_ ?_) λq s=>(Wj (We ?_) (WD λu=>(Wj (We ?_) (We ?_)))))));all_goals simp_all (maxDischargeDepth:=9)
def Qjh{N e f g}(h:XV e)(j:tU f):PT (Qbz N e f g) (λr=>tU r.1):=by rw[Qbz];refine(Wx (QiM ?_ ?_) λk l=>(Wj (We ?_) (Wj (We ?_) (Wj (We ?_) (Wx (QfE ?_ ?_) λo p=>(We ?_))))));all_goals simp_all (maxDischargeDepth:=9)
def Qku{N e f h g}(j:XV e)(k:tU f)(l:tU g):PT (Qbr N e f h g) (λr=>XV r.1):=by rw[Qbr];refine(Wx (Qjh ?_ ?_) λo p=>(Wj (We ?_) (Wx (Qil ?_ ?_ ?_) λq s=>(We ?_))));all_goals simp_all (maxDischargeDepth:=9)
def Qnn{N j u l o p}(v:Yi j)(w:tU l)(y:tU o)(z:tU p):PT (Qcx N j u l o p) (λr=>Yi r.1/\tU r.2.1):=by rw[Qcx];refine(UU (Q:=λk=>∀h q s,tU h->PT (k h q s) _) (λh q s E=>(Wj (Wx (Qah) λG H=>(We ?_)) (Wx (Qjh ?_ ?_) λI J=>(Wj (We ?_) (Wj (Wx (Qhq ?_ ?_) λK L=>(We ?_)) (UU (Q:=λk=>∀e,tU e->PT (k e) _) (λe M=>(Wx (Qku ?_ ?_ ?_) λA O=>(We ?_))) λR f=>(Wj (Wx (Qdw ?_ ?_) λS U=>(Wj (Wx (Qah) λB V=>(We ?_)) (f _ ?_))) (f _ ?_)))))))) λW g=>(Wj (Wx (Qjg ?_ ?_ ?_) λY Z=>(g _ _ _ ?_)) (Wx (Qjg ?_ ?_ ?_) λy2 D=>(g _ _ _ ?_))));all_goals simp_all (maxDischargeDepth:=9)
def Qno{N f l g h}(o:Yi f)(p:tU g)(q:tU h):PT (Qcy N f l g h) (λr=>Yi r.1/\tU r.2.1):=by rw[Qcy];refine(UU (Q:=λk=>∀j,PT (k j) _) (λj=>(Wj (Wx (Qhr ?_ ?_) λw y=>(Wj (Wx (Qah) λz A=>(We ?_)) (Wx (QiM ?_ ?_) λB D=>(Wj (We ?_) (We ?_))))) (Wj (Wx (Qdw ?_ ?_) λE G=>(Wj (Wx (Qah) λH I=>(We ?_)) (Wx (Qdw ?_ ?_) λJ K=>(Wj (Wx (Qah) λL M=>(We ?_)) (Wj (We ?_) (We ?_)))))) (Wx (Qdw ?_ ?_) λO R=>(Wj (Wx (Qah) λs S=>(We ?_)) (Wx (Qhq ?_ ?_) λu v=>(We ?_))))))) λU e=>(Wj (e _) (e _)));all_goals simp_all (maxDischargeDepth:=9)
def Qi9{N a0 a1}(e:X6 a0)(f:tU a1):∀n h,PT (Qb2 N a0 a1 n h) (tE (λr=>X6 r.1) (λ_=>True))
 |0,_=>by rw[Qb2];exact IM
 |n+1,h=>by have g:=Qi9 (N:=N) (a0:=a0) (a1:=a1) e f n;rw[Qb2];refine(WK (Wj (PT.get (T:=XI) ?_ λj k=>(Wj (PT.get (T:=XI) ?_ λl o=>(Wj (PT.get (T:=XI) ?_ λp q=>(PT.get (T:=XI) ?_ λs u=>(PT.get (T:=XI) ?_ λv w=>(We ?_)))) (g _))) (g _))) (We ?_)));all_goals (clear g;simp_all (maxDischargeDepth:=9))
def Ql0{N g h n j}(e:X6 g)(f:tU h):PT (Qb2 N g h n j) (tE (λr=>X6 r.1) (λ_=>True)):=Qi9 e f n _
def QiZ{N e f}(g:X6 e)(h:tU f):PT (QcV N e f) (λr=>X6 r.1):=by rw[QcV];refine(WD λj=>(Wj (We ?_) (WK (Oy (Ql0 ?_ ?_) (λr k=>(We ?_)) λl o=>(WK (Wj (We ?_) (WK (WK (We ?_)))))))));all_goals simp_all (maxDischargeDepth:=9)
def Qk4{N l q o}(s:Yi l)(u:tU o):PT (Qcz N l q o) (λr=>Yi r.1/\tU r.2.1):=by rw[Qcz];refine(Wx (Qhr ?_ ?_) λv w=>(Wj (Wx (Qah) λy z=>(We ?_)) (UU (Q:=λk=>∀p g,(tL XI) g->PT (k p g) _) (λp g A=>(Wx (QiZ ?_ ?_) λB D=>(Wj (Wx (Qah) λE G=>(We ?_)) (UU (Q:=λk=>∀h j,(tL XI) h->(tL XI) j->PT (k h j) _) (λh j H I=>(Wx (QgX) λJ K=>(We ?_))) λL e=>(Wj (e _ _ ?_ ?_) (e _ _ ?_ ?_)))))) λM f=>(Wj (f _ _ ?_) (f _ _ ?_)))));all_goals simp_all (maxDischargeDepth:=9)
def Qja{N e f g}(h:XN e):PT (Qev N e f g) (λr=>XN r.1):=by rw[Qev];refine(Wx (QiY ?_) λj k=>(Wj (We ?_) (WK (PT.get (T:=Yw) ?_ λl o=>(We ?_)))));all_goals simp_all (maxDischargeDepth:=9)
def Qpu{N e g f}(h:X6 e)(j:XI f):PT (QhM N e g f) X6:=by rw[QhM];refine(WK (PT.get (T:=XI) ?_ λk l=>(We ?_)));all_goals simp_all (maxDischargeDepth:=9)
def QgY{N e f g}(h:X6 e):PT (Qc9 N e f g) (λr=>X6 r.1):=by rw[Qc9];refine(Wx (Qhb ?_) λj k=>(Wj (We ?_) (Wx (Qpu ?_ ?_) λl o=>(We ?_))));all_goals simp_all (maxDischargeDepth:=9)
def Ql1{N g j h}(l:Yi g)(o:tU h):PT (Qcn N g j h) (λr=>Yi r.1/\tU r.2.1):=by rw[Qcn];refine(Wj (Wx (Qah) λp q=>(We ?_)) (Wx (Qdw ?_ ?_) λs u=>(Wj (Wx (Qah) λv w=>(We ?_)) (WD λy=>(UU (Q:=λk=>∀_,PT (k ()) _) (λ_=>(Wj (Wx (Qja ?_) λz A=>(We ?_)) (Wj (Wx (QgY ?_) λB D=>(We ?_)) (Wx (QgY ?_) λE G=>(We ?_))))) λH e=>(UU (Q:=λk=>∀_,PT (k ()) _) (λ_=>(Wx (Qah) λI J=>(We ?_))) λK f=>(Wj (Wj (f ()) (Wj (Wj (f ()) (Wj (Wj (f ()) (e ())) (e ()))) (Wj (Wj (f ()) (e ())) (e ())))) (Wj (Wj (f ()) (Wj (Wj (f ()) (e ())) (e ()))) (Wj (Wj (f ()) (e ())) (e ()))))))))));all_goals simp_all (maxDischargeDepth:=9)
def Qok{N f g h}(j:XN f):PT (Qhh N f g h) (λr=>XN r.1):=by rw[Qhh];refine(WD λl=>(Wj (We ?_) (Wj (We ?_) (Wj (We ?_) (UU (Q:=λk=>∀_,PT (k ()) _) (λ_=>(Wj (We ?_) (WK (WK (We ?_))))) λo e=>(Wj (Wj (We ?_) (e ())) (e ())))))));all_goals simp_all (maxDischargeDepth:=9)
def Qjs{N e f}(g:XN e):PT (Qe0 N e f) (λr=>XN r.1):=by rw[Qe0];refine(Wx (Qok ?_) λh j=>(We ?_));all_goals simp_all (maxDischargeDepth:=9)
def Qpv{N e f}(g:XN e):PT (QhN N e f) XN:=by rw[QhN];refine(WD λh=>(WK (WK (WK (WK (We ?_))))));all_goals simp_all (maxDischargeDepth:=9)
def Qj1{N e}(f:XN e):PT (QfJ N e) (λr=>XN r.1):=by rw[QfJ];refine(WD λg=>(Wj (We ?_) (Wj (We ?_) (WD λh=>(Wj (We ?_) (Wx (Qpv ?_) λj k=>(We ?_)))))));all_goals simp_all (maxDischargeDepth:=9)
def Ql2{N e g f}(h:Yi e)(j:tU f):PT (Qda N e g f) (λr=>Yi r.1/\tU r.2.1):=by rw[Qda];refine(Wj (Wj (Wx (Qah) λk l=>(We ?_)) (Wx (Qjs ?_) λo p=>(Wj (Wx (Qah) λq s=>(We ?_)) (We ?_)))) (Wx (Qdw ?_ ?_) λu v=>(Wj (Wx (Qah) λw y=>(We ?_)) (Wx (Qj1 ?_) λz A=>(Wj (Wx (Qah) λB D=>(We ?_)) (Wx (Qhq ?_ ?_) λE G=>(We ?_)))))));all_goals simp_all (maxDischargeDepth:=9)
def Qim{N e f g}(h:XV e)(j:tU f):PT (Qcb N e f g) XV:=by rw[Qcb];refine(WK (WD λk=>(WD λl=>(WD λo=>(We ?_)))));all_goals simp_all (maxDischargeDepth:=9)
def Qk5{N e f g}(h:XV e)(j:(tL Y8) f)(k:tU g):PT (QbL N e f g) (λr=>XV r.1/\(tL Y8) r.2.1):=by rw[QbL];refine(WD λl=>(Wj (We ?_) (Wj (We ?_) (WD λo=>(Wj (We ?_) (WK (PT.get (T:=Y8) ?_ λp q=>(PT.get (T:=Y8) ?_ λs u=>(PT.get (T:=Y8) ?_ λv w=>(Wj (WK (WK (WK (Wx (Qim ?_ ?_) λy z=>(We ?_))))) (Wx (Qim ?_ ?_) λA B=>(We ?_))))))))))));all_goals simp_all (maxDischargeDepth:=9)
def Qpw{N h j l}(o:XV h)(p:(tL Y8) j)(q:tU l):PT (QdE N h j l) (λr=>XV r.1/\(tL Y8) r.2.1/\tU r.2.2.1):=by rw[QdE];refine(WD λv=>(Wj (We ?_) (Wj (We ?_) (WD λw=>(Wj (We ?_) (WD λy=>(UU (Q:=λk=>∀_,PT (k ()) _) (λ_=>(WK (UU (Q:=λk=>∀f,(tL Y8) f->PT (k f) _) (λf z=>(Wx (Qim ?_ ?_) λs A=>(We ?_))) λB g=>(Wj (PT.get (T:=Y8) ?_ λD E=>(PT.get (T:=Y8) ?_ λu G=>(g _ ?_))) (WK (g _ ?_)))))) λH e=>(Wj (PT.get (T:=Y8) ?_ λI J=>(Wj (We ?_) (Wj (Wj (We ?_) (WD λK=>(Wj (We ?_) (e ())))) (WD λL=>(Wj (We ?_) (e ())))))) (Wj (Wj (We ?_) (WD λM=>(Wj (We ?_) (e ())))) (WD λO=>(Wj (We ?_) (e ()))))))))))));all_goals simp_all (maxDischargeDepth:=9)
def Qol{N e g f}(h:Yi e)(j:tU f):PT (Qe1 N e g f) (λr=>Yi r.1/\tU r.2.1):=by rw[Qe1];refine(Wx (Qhr ?_ ?_) λk l=>(Wj (Wx (Qah) λo p=>(We ?_)) (Wj (Wx (Qk5 ?_ ?_ ?_) λq s=>(Wj (Wx (Qah) λu v=>(We ?_)) (We ?_))) (Wx (Qpw ?_ ?_ ?_) λw y=>(Wj (Wx (Qah) λz A=>(We ?_)) (We ?_))))));all_goals simp_all (maxDischargeDepth:=9)
def Qom{N I V J K L}(W:Yi I)(Y:tU J)(Z:tU K)(ka4:tU L):PT (Qaf N I V J K L) (λr=>Yi r.1/\tU r.2.1):=by rw[Qaf];refine(WD λy1=>(Wj (Wx (Qah) λy2 h1=>(We ?_)) (UU (Q:=λk=>∀M,PT (k M) _) (λM=>(Wj (Wx (QlZ ?_ ?_ ?_) λy5 h2=>(We ?_)) (UU (Q:=λk=>∀O,PT (k O) _) (λO=>(Wj (Wx (Qnn ?_ ?_ ?_ ?_) λy9 h3=>(We ?_)) (UU (Q:=λk=>∀j,PT (k j) _) (λj=>(Wj (Wx (Qno ?_ ?_ ?_) λy13 h4=>(We ?_)) (UU (Q:=λk=>∀l,PT (k l) _) (λl=>(Wj (Wx (Qk4 ?_ ?_) λy15 h5=>(We ?_)) (UU (Q:=λk=>∀o,PT (k o) _) (λo=>(Wj (Wx (Ql1 ?_ ?_) λy18 h6=>(We ?_)) (UU (Q:=λk=>∀p,PT (k p) _) (λp=>(Wj (Wx (Ql2 ?_ ?_) λy20 h7=>(We ?_)) (UU (Q:=λk=>∀q,PT (k q) _) (λq=>(Wj (Wx (Qol ?_ ?_) λy22 h8=>(We ?_)) (Wx (Qah) λy23 h9=>(We ?_)))) λj13 e=>(Wj (e _) (e _))))) λj12 f=>(Wj (f _) (f _))))) λj11 g=>(Wj (g _) (UU (Q:=λk=>∀s,PT (k s) _) (λs=>(g _)) λj10 h=>(Wj (h _) (h _))))))) λj9 u=>(Wj (u _) (u _))))) λj8 v=>(Wj (v _) (UU (Q:=λk=>∀w,PT (k w) _) (λw=>(v _)) λj7 y=>(Wj (y _) (UU (Q:=λk=>∀z,PT (k z) _) (λz=>(y _)) λj6 A=>(Wj (A _) (A _))))))))) λj5 B=>(Wj (B _) (UU (Q:=λk=>∀R,PT (k R) _) (λR=>(B _)) λj4 D=>(Wj (D _) (UU (Q:=λk=>∀S,PT (k S) _) (λS=>(D _)) λj3 E=>(Wj (E _) (E _))))))))) λj2 G=>(Wj (G _) (UU (Q:=λk=>∀U,PT (k U) _) (λU=>(G _)) λj1 H=>(Wj (H _) (H _)))))));all_goals simp_all (maxDischargeDepth:=9)
def Qii{N a0 y2}(f:X2 a0):∀n h g,(tL tU) g->PT (Qbh N a0 y2 n h g) (tL tU)
 |0,_,_,_=>by rw[Qbh];exact IM
 |n+1,h,g,j=>by have e:=Qii (N:=N) (a0:=a0) (y2:=y2) f n;rw[Qbh];refine(WK (Wj (PT.get (T:=tU) ?_ λk l=>(Wj (PT.get (T:=tU) ?_ λo p=>(WD λq=>(Wj (PT.get (T:=tU) ?_ λr s=>(e _ _ ?_)) (e _ _ ?_)))) (e _ _ ?_))) (We ?_)));all_goals (clear e;simp_all (maxDischargeDepth:=9))
def Qjw{N g j n k h}(e:X2 g)(f:(tL tU) h):PT (Qbh N g j n k h) (tL tU):=Qii e n _ _ f
def Qi0{N e}(f:X2 e):PT (Qd1 N e) (λr=>X2 r.1):=by rw[Qd1];refine(WD λj=>(Wj (We ?_) (WD λk=>(Wx (QgK ?_) λl o=>(Wx (Qjw ?_ ?_) λg p=>(Wx (Qix ?_ ?_) λh q=>(We ?_)))))));all_goals simp_all (maxDischargeDepth:=9)
def Qk6{N g h p j q}(r:Yi g)(s:Yi h)(u:tU j):PT (Qfw N g h p j q) Xh7:=by rw[Qfw];refine(UU (Q:=λk=>∀l,PT (k l) _) (λl=>(UU (Q:=λk=>∀o,PT (k o) _) (λo=>(Wj (Wj (We ?_) (We ?_)) (We ?_))) λv f=>(Wj (f _) (f _)))) λw e=>(Wj (e _) (Wj (e _) (e _))));all_goals simp_all (maxDischargeDepth:=9)
def Qgy{N e f}(g:X2 e)(h:tU f):PT (QaS N e f) (λr=>tU r.1):=by rw[QaS];refine(WD λj=>(Wj (We ?_) (Wj (We ?_) (WD λk=>(Wj (We ?_) (Wj (Wx (QiY ?_) λl o=>(We ?_)) (Wj (Wx (Qhb ?_) λp q=>(We ?_)) (Wx (Qhb ?_) λs u=>(We ?_)))))))));all_goals simp_all (maxDischargeDepth:=9)
def Qhs{N e f}(g:X2 e)(h:tU f):PT (QdK N e f) (λr=>X2 r.1/\tU r.2):=by rw[QdK];refine(Wj (We ?_) (Wx (QiP ?_ ?_) λj k=>(Wx (QgX) λl o=>(We ?_))));all_goals simp_all (maxDischargeDepth:=9)
def Qj2{N e f h g}(j:X2 e)(k:tU f)(l:tU g):PT (Qgk N e f h g) X2:=by rw[Qgk];refine(WK (PT.get (T:=ZF) ?_ λo p=>(WK (PT.get (T:=tU) ?_ λq r=>(PT.get (T:=ZF) ?_ λs u=>(We ?_))))));all_goals simp_all (maxDischargeDepth:=9)
def Qk7{N h q j}(s:X2 h)(u:tU j):PT (Qfx N h q j) (λr=>X2 r.1/\tU r.2):=by rw[Qfx];refine(UU (Q:=λk=>∀f g l o p,(tL XI) f->(tL XI) g->PT (k f g l o p) _) (λf g l o p v w=>(Wx (QgX) λy z=>(We ?_))) λA e=>(Wj (Wx (QiZ ?_ ?_) λB D=>(e _ _ _ _ _ ?_ ?_)) (Wx (QiZ ?_ ?_) λE G=>(e _ _ _ _ _ ?_ ?_))));all_goals simp_all (maxDischargeDepth:=9)
def Ql3{N e f}(g:X2 e)(h:tU f):PT (Qgb N e f) X2:=by rw[Qgb];refine(WD λj=>(Wj (Wx (Qja ?_) λk l=>(We ?_)) (Wj (Wx (QgY ?_) λo p=>(We ?_)) (Wx (QgY ?_) λq r=>(We ?_)))));all_goals simp_all (maxDischargeDepth:=9)
def Qon{N e h f g}(j:X2 e)(k:tU f)(l:tU g):PT (Qgt N e h f g) (λr=>X2 r.1/\tU r.2):=by rw[Qgt];refine(WD λo=>(WK (Wj (PT.get (T:=Kx) ?_ λp q=>(PT.get (T:=Kx) ?_ λs u=>(PT.get (T:=Kx) ?_ λv w=>(Wj (WK (WK (WK (We ?_)))) (We ?_))))) (Wj (PT.get (T:=Kx) ?_ λy z=>(PT.get (T:=Kx) ?_ λA B=>(PT.get (T:=Kx) ?_ λD E=>(We ?_)))) (WK (We ?_))))));all_goals simp_all (maxDischargeDepth:=9)
def Qoo{N G S H I J K}(U:X2 G)(V:tU H)(W:tU I)(Y:tU J)(Z:Xh7 K):PT (Qgu N G S H I J K) (λr=>X2 r.1/\tU r.2.1):=by rw[Qgu];refine(WD λy1=>(Wj (We ?_) (UU (Q:=λk=>∀D,tU D->PT (k D) _) (λD h1=>(UU (Q:=λk=>∀L,PT (k L) _) (λL=>(Wj (UU (Q:=λk=>∀M O E e o p f g h j,(tL ZF) E->(tL Yw) e->(tL XI) f->(tL XI) g->(tL Kx) h->(tL tU) j->PT (k M O E e o p f g h j) _) (λM O E e o p f g h j h2 h3 h4 h5 h6 h7=>(Wx (Qik ?_ ?_) λy17 h8=>(WK (WK (WK (WK (Wx (Qhs ?_ ?_) λy18 h9=>(We ?_)))))))) λj4 q=>(Wj (Wx (Qi0 ?_) λy6 h10=>(q _ _ _ _ _ _ _ _ _ _ ?_ ?_ ?_ ?_ ?_ ?_)) (q _ _ _ _ _ _ _ _ _ _ ?_ ?_ ?_ ?_ ?_ ?_))) (Wj (PT.get (T:=ZF) ?_ λp19 h11=>(We ?_)) (Wj (PT.get (T:=ZF) ?_ λp20 h12=>(We ?_)) (Wj (PT.get (T:=ZF) ?_ λp21 h13=>(PT.get (T:=tU) ?_ λp22 h14=>(We ?_))) (Wj (Wx (Qj2 ?_ ?_ ?_) λy23 h15=>(We ?_)) (Wj (PT.get (T:=ZF) ?_ λp24 h16=>(PT.get (T:=tU) ?_ λp25 h17=>(Wx (Qhs ?_ ?_) λy26 h18=>(We ?_)))) (Wj (Wx (Qgy ?_ ?_) λy27 h19=>(Wx (Qj2 ?_ ?_ ?_) λy28 h20=>(We ?_))) (Wj (Wx (Qgy ?_ ?_) λy29 h21=>(Wj (We ?_) (We ?_))) (Wj (Wx (Qhs ?_ ?_) λy30 h22=>(We ?_)) (UU (Q:=λk=>∀s,PT (k s) _) (λs=>(Wj (Wx (Qk7 ?_ ?_) λy32 h23=>(We ?_)) (UU (Q:=λk=>∀u,PT (k u) _) (λu=>(Wj (Wx (Ql3 ?_ ?_) λy35 h24=>(We ?_)) (Wj (Wx (Qjs ?_) λy36 h25=>(We ?_)) (Wj (Wx (Qj1 ?_) λy37 h26=>(Wx (Qhs ?_ ?_) λy38 h27=>(We ?_))) (Wx (Qon ?_ ?_ ?_) λy39 h28=>(We ?_)))))) λj7 v=>(Wj (v _) (UU (Q:=λk=>∀w,PT (k w) _) (λw=>(v _)) λj6 y=>(Wj (y _) (y _))))))) λj5 z=>(Wj (z _) (z _))))))))))))) λj3 A=>(Wj (A _) (UU (Q:=λk=>∀R,PT (k R) _) (λR=>(A _)) λj2 B=>(Wj (B _) (B _)))))) λj1 l=>(Wj (Wj (Wx (Qgy ?_ ?_) λy2 h29=>(l _ ?_)) (l _ ?_)) (l _ ?_)))));all_goals simp_all (maxDischargeDepth:=9)
def Ql4{N V W}(ka0:XaH V)(ka1:JN W):PT (Qco N V W) (λr=>XaH r.1/\tU r.2.1):=by rw[Qco];refine(Wj (Wx (QiX ?_) λy1 h1=>(UU (Q:=λk=>∀Y Z S x6 x7 x8 U B D e f g h E G j l H I o p q s,(tL tU) S->(tL Yw) U->(tL XI) e->(tL XI) f->(tL Y8) g->(tL tU) h->(tL ZF) j->(tL Yw) l->(tL XI) o->(tL XI) p->(tL Kx) q->(tL tU) s->PT (k Y Z S x6 x7 x8 U B D e f g h E G j l H I o p q s) _) (λY Z S x6 x7 x8 U B D e f g h E G j l H I o p q s h2 h3 h4 h5 h6 h7 h8 h9 h10 h11 h12 h13=>(We ?_)) λj1 J=>(Wj (Wx (Qi0 ?_) λy2 h14=>(J _ _ _ _ _ _ _ _ _ _ _ _ _ _ _ _ _ _ _ _ _ _ _ ?_ ?_ ?_ ?_ ?_ ?_ ?_ ?_ ?_ ?_ ?_ ?_)) (J _ _ _ _ _ _ _ _ _ _ _ _ _ _ _ _ _ _ _ _ _ _ _ ?_ ?_ ?_ ?_ ?_ ?_ ?_ ?_ ?_ ?_ ?_ ?_)))) (Wx (Qom ?_ ?_ ?_ ?_) λy26 h15=>(Wx (Qk6 ?_ ?_ ?_) λy27 h16=>(Wx (Qoo ?_ ?_ ?_ ?_ ?_) λy28 h17=>(UU (Q:=λk=>∀K L u v M O w y z A,(tL ZF) u->(tL Yw) v->(tL XI) w->(tL XI) y->(tL Kx) z->(tL tU) A->PT (k K L u v M O w y z A) _) (λK L u v M O w y z A h18 h19 h20 h21 h22 h23=>(Wj (Wj (WK (WK (We ?_))) (We ?_)) (We ?_))) λj2 R=>(Wj (R _ _ _ _ _ _ _ _ _ _ ?_ ?_ ?_ ?_ ?_ ?_) (R _ _ _ _ _ _ _ _ _ _ ?_ ?_ ?_ ?_ ?_ ?_)))))));all_goals simp_all (maxDischargeDepth:=9)
def Qjx{N f h}(j:Xc6 f):PT (QbY N f h) (λr=>Xc6 r.1):=by rw[QbY];refine(WK (WK (WK (WD λE=>(WK (WD λG=>(WD λH=>(UU (Q:=λk=>∀g,PT (k g) _) (λg=>(Wj (WD λI=>(PT.get (T:=tU) ?_ λJ K=>(PT.get (T:=tU) ?_ λL M=>(We ?_)))) (Wj (PT.get (T:=tU) ?_ λO R=>(WD λS=>(WK (PT.get (T:=tU) ?_ λl U=>(We ?_))))) (Wj (WD λo=>(WD λp=>(We ?_))) (Wj (WD λq=>(WD λs=>(We ?_))) (Wj (WD λu=>(WD λv=>(WD λw=>(We ?_)))) (Wj (WD λy=>(WD λz=>(We ?_))) (Wj (WD λA=>(We ?_)) (Wj (WK (WD λB=>(We ?_))) (Wj (We ?_) (Wj (WK (We ?_)) (Wj (WD λD=>(We ?_)) (We ?_))))))))))))) λV e=>(Wj (e _) (e _))))))))));all_goals simp_all (maxDischargeDepth:=9)
def Qpx{N e f}(g:Yi e):PT (Qg4 N e f) (λr=>Yi r.1):=by rw[Qg4];refine(WD λq=>(Wj (Wx (Qjx ?_) λs u=>(We ?_)) (Wj (WK (WD λv=>(WK (We ?_)))) (Wj (Wj (WK (WD λw=>(PT.get (T:=Yw) ?_ λy z=>(WD λA=>(PT.get (T:=Yw) ?_ λB D=>(We ?_)))))) (We ?_)) (Wj (WK (WD λE=>(WD λG=>(WK (We ?_))))) (Wj (WK (WD λh=>(WD λj=>(WK (We ?_))))) (Wj (WK (WD λk=>(WD λl=>(WK (We ?_))))) (Wj (WK (WD λo=>(WD λp=>(WK (We ?_))))) (We ?_)))))))));all_goals simp_all (maxDischargeDepth:=9)
def BIG:Nat:=1099511627776
def Xcs{ws:List Int}(e:ws.length<=BIG)(N:Nat)(a k:Int)(h:-1<=k/\k<=1000000000000000000):Qej N ws a k =
 some (if 4096<=a/\a<=4096+ws.length then(a-4096,decide (a+k<=4096+ws.length))else(0,false)):=by
 unfold BIG at e;simp only[Qej,Uz];rw[Xw (n:=(ws.length:Int)) aa aa,Xw (n:=4096+(ws.length:Int)) aa aa];by_cases f:a<4096
 .grind
 rw[Wk f];by_cases g:a>4096+ws.length
 .grind
 rw[Wk g,Wq aa,Xw (n:=a-4096) aa aa,Xd (n:=a-4096) aa aa,Xd aa aa];grind
def inW(ws:List Int)(a:Int):Prop:=4096<=a/\a<4096+ws.length
instance(ws:List Int)(a:Int):Decidable (inW ws a):=by unfold inW;infer_instance
def ix(a:Int):Nat:=(a-4096).toNat
def YK{ws:List Int}(g:ws.length<=BIG)(N:Nat)(a:Int):Qbs N ws a=some (if inW ws a then(ws.getD (ix a) 0,0)else(0,2)):=by
 simp only[Qbs,QgL,Xcs g N a 1 aa,Xa];by_cases h:4096<=a/\a<=4096+ws.length
 .simp only[Wq h];by_cases e:inW ws a
  .have f:a+1<=4096+ws.length:=by unfold inW at e;omega
   simp only[Wq e,f,decide_true,Wi,Wa,Xa];have j:(a-4096).toNat<ws.length:=by unfold inW at e;omega
   rw[show((0:Int) != 0)=false from rfl,Wa,X1 aa aa,Xa];simp[ix,List.getD,j]
  have f:¬a+1<=4096+ws.length:=by unfold inW at e;omega
  simp[Wk,e,f,decide_false,W7,Wb,Xa]
 have e:¬inW ws a:=by unfold inW;omega
 simp[Wk,h,e,W7,Wb,Xa]
def ovr(ws l:List Int)(i:Nat):List Int:=ws.take i++l++ws.drop (i+l.length)
def ZW{ws l:List Int}{i:Nat}(h:i+l.length<=ws.length):(ovr ws l i).length=ws.length:=by grind[ovr]
def Xfm{ws l:List Int}{i:Nat}(h:i+l.length<=ws.length)(j:Nat):(ovr ws l i)[j]? = if i<=j/\j<i+l.length then l[j-i]? else ws[j]?:=by
 unfold ovr;have e:(ws.take i).length=i:=by simp only[Wl];omega
 grind
def Xc7{ws l:List Int}{i:Nat}(h:i+l.length<=ws.length)(j:Nat):(ovr ws l i).getD j 0=if i<=j/\j<i+l.length then l.getD (j-i) 0 else ws.getD j 0:=by simp only[Wr,Xfm h];grind
def XgA{l:List Int}(y:Int×Bool)(i N:Nat)(ws:List Int)(o:y.1=i)(h:i+l.length<=ws.length)(r:ws.length<=BIG):∀(n k:Nat) (v:List Int),k<=l.length->l.length-k<n->v=ovr ws (l.take k) i ->
 Qb9 N l y n (k:Int) v=some (ovr ws l i)
 |0,k,v,_,s,_=>by omega
 |n+1,k,v,B,s,p=>by
  unfold BIG at r;rw[Qb9];have g:(l.take k).length=k:=by simp;omega
  have u:v.length=ws.length:=by rw[p];exact ZW aa
  by_cases w:k<l.length
  .have z:decide ((k:Int)<(l.length:Int))=true:=by simp;omega
   have A:wI (y.1+(k:Int))=((i+k:Nat):Int):=by rw[o,Xd aa aa];simp
   have e3:wI ((k:Int)+1)=((k+1:Nat):Int):=by rw[Xd aa aa];simp
   rw[z,Wb,X1 aa aa,Xa,A,X1 aa aa,Xa,e3];refine XgA y i N ws o h (by unfold BIG;omega) n (k+1) _ aa aa ?_;rw[p];simp only[UX];apply List.ext_getElem?;intro j;have e:(l.take (k+1)).length=k+1:=by simp only[Wl];omega
   rw[IC,ZW aa,Xfm aa,Xfm aa,g,e];by_cases q:i+k=j
   .subst q;rw[Wq rfl,Wq aa,Wq aa,Un,Wq aa,IN,Wc w]
   rw[Wk q];by_cases f:i<=j/\j<i+k
   .rw[Wq f,Wq aa,Un,Un,Wq aa,Wq aa]
   rw[Wk f,Wk aa]
  grind
def Yp(ws:List Int)(a:Int)(k:Nat):Prop:=4096<=a/\a+k<=4096+ws.length
instance(ws:List Int)(a:Int)(k:Nat):Decidable (Yp ws a k):=by unfold Yp;infer_instance
def ZQ{ws l:List Int}(e:ws.length<=BIG)(j:l.length<=BIG){N:Nat}(hN:l.length<N)(a:Int):Qcv N ws a l=some (if Yp ws a l.length then(ovr ws l (ix a),0)else([],2)):=by
 simp only[Qcv];rw[Xcs e N a _ (by unfold BIG at j;omega),Xa];by_cases h:Yp ws a l.length
 .have f:4096<=a/\a<=4096+ws.length:=by unfold Yp at h;omega
  have g:a+(l.length:Int)<=4096+ws.length:=by unfold Yp at h;omega
  simp only[Wq h,Wq f,g,decide_true,Wi,Wa];rw[Xc (by unfold BIG at e;omega)];have:=XgA (l:=l) (a-4096,true) (ix a) N ws (by unfold ix;omega) (by unfold ix;omega) e N 0 ws aa aa (by simp[ovr]);rw[show((0:Nat):Int)=0 from rfl]at this;rw[this,Xa]
 by_cases f:4096<=a/\a<=4096+ws.length
 .have g:¬a+(l.length:Int)<=4096+ws.length:=by unfold Yp at h;omega
  simp only[Wk h,Wq f,g,decide_false,W7,Wb]
 grind
def KF{ws:List Int}(g:ws.length<=BIG){N:Nat}(hN:1<N)(a v:Int):Qc4 N ws a v=some (if inW ws a then(ws.set (ix a) v,0)else([],2)):=by
 simp only[Qc4];rw[ZQ (l:=[v]) g (by unfold BIG;simp) aa,Xa];by_cases h:inW ws a
 .have f:Yp ws a [v].length:=by unfold inW at h;unfold Yp;simp only[Um,Ig];omega
  simp only[Wq h,Wq f];unfold ovr;have e:ix a<ws.length:=by unfold inW at h;unfold ix;omega
  simp[List.set_eq_take_append_cons_drop,e]
 have f:¬Yp ws a [v].length:=by unfold inW at h;unfold Yp;simp only[Um,Ig];omega
 simp_all
def Xct{ws:List Int}(g:ws.length<=BIG)(N:Nat)(a:Int)(k:Nat)(o:k<=1000000000):QdO N ws a (k:Int)=some (if Yp ws a k then((ws.drop (ix a)).take k,0)else([],2)):=by
 simp only[QdO];have j:decide ((k:Int)<0)=false:=Wh aa;rw[j,Wa,Xcs g N a _ aa,Xa];unfold BIG at g;by_cases h:Yp ws a k
 .have e:4096<=a/\a<=4096+ws.length:=by unfold Yp at h;omega
  have f:a+(k:Int)<=4096+ws.length:=by unfold Yp at h;omega
  simp only[Wq h,Wq e,f,decide_true,Wi,Wa];rw[Xd (n:=a-4096+(k:Int)) aa aa,Xc aa,Xc aa];have l:(a-4096+(k:Int)).toNat-(a-4096).toNat=k:=aa;rw[l];rfl
 by_cases e:4096<=a/\a<=4096+ws.length
 .have f:¬a+(k:Int)<=4096+ws.length:=by unfold Yp at h;omega
  simp only[Wk h,Wq e,f,decide_false,W7,Wb]
 grind
def Xi4{ws:List Int}(j:ws.length<=BIG){N:Nat}(f a:Int)(k:Nat)(l:k<=1000000000)(hN:k<N):Qgq N ws f a (k:Int) =
 some (if Yp ws a k/\Yp ws f k then(ovr ws ((ws.drop (ix a)).take k) (ix f),0)else([],2)):=by
 simp only[Qgq];rw[Xct j N a k l,Xa];by_cases h:Yp ws a k
 .have e:((ws.drop (ix a)).take k).length=k:=by unfold Yp at h;simp[ix];omega
  simp only[Wq h];rw[show((0:Int) != 0)=false from rfl,Wa,ZQ j (by unfold BIG;omega) (by rw[e];exact hN),Xa,e];by_cases g:Yp ws f k
  .rw[Wq g,Wq ⟨h,g⟩]
  rw[Wk g,Wk (λo=>g o.2)]
 simp_all
def XL(d:WC):Bool:=decide (0<=d.k/\d.k<=3/\0<=d.n/\d.n<=255)&&(if d.k=1 then decide (d.n<=32)&&decide (d.Map % 18446744073709551616<2 ^ d.n.toNat)else decide (d.Map=0))
def Zq(N:Nat)(d:WC):QdH N d=some (XL d):=by
 simp only[QdH,Uz,XL];by_cases f:d.k<0
 .rw[Wq f,Wh aa,Uw]
 rw[Wk f];by_cases g:d.k>3
 .rw[Wq g,Wh aa,Uw]
 rw[Wk g];by_cases h:d.n<0
 .rw[Wq h,Wh aa,Uw]
 rw[Wk h];by_cases j:d.n>255
 .rw[Wq j,Wh aa,Uw]
 rw[Wk j,Wd (p:=0<=d.k/\d.k<=3/\0<=d.n/\d.n<=255) aa,W8];by_cases l:d.k=1
 .rw[Wq l,l,show((1:Int) != 1)=false from rfl,Wa];by_cases e:d.n<=32
  .rw[Wq e,Xw (n:=d.n) aa aa,Xc aa,Xmg aa aa,Xc3,Wd e,W8]
  rw[Wk e,Wh e,Uw]
 grind
def XO{d:WC}(h:XL d=true):0<=d.k/\d.k<=3/\0<=d.n/\d.n<=255:=by unfold XL at h;simp_all
def XF(d:WC):Int:=if XL d then d.n+1 else 0
def X5(N:Nat)(d:WC):Qde N d=some (XF d):=by
 simp only[Qde,Zq,Xa,XF];cases h:XL d with
 |false=>rfl
 |true=>have:=XO h;simp[Xd (n:=d.n+1) aa aa]
def Xmj(d:WC):0<=XF d/\XF d<=256:=by
 unfold XF;split
 .rename_i h;have:=XO h;omega
 omega
def Vx(d:WC):Int:=wU (wU (wU (1+wU (4*wU d.k))+wU (16*wU d.n))+ZN .u64 (wU d.Map) 16)
def KX(N:Nat)(d:WC):Qc1 N d=some (if XL d then(Vx d,0)else(0,1)):=by simp only[Qc1,Zq,Xa];cases h:XL d<;>rfl
def Xco(w:Int):WC:=⟨wI (Y4 .u64 (YD .u64 w 2) 3),wI (Y4 .u64 (YD .u64 w 4) 4095),wW (YD .u64 w 16)⟩
def okH(w:Int):Bool:=XL (Xco w)&&(Vx (Xco w)==w)
def ZX(w:Int):WC:=if okH w then Xco w else⟨0,0,0⟩
def KY(N:Nat)(w:Int):Qc2 N w=some (ZX w,okH w):=by simp only[Qc2];rw[KX N (WC.mk _ _ _),Xa];unfold ZX okH Xco;grind
def ZY(w:Int):XL (ZX w)=true:=by
 unfold ZX;split
 .rename_i h;unfold okH at h;simp_all
 rfl
def Xeq(w:Int):XF (ZX w)=(ZX w).n+1/\1<=XF (ZX w)/\XF (ZX w)<=256:=by have h:=ZY w;have:=XO h;unfold XF;grind
def KO(d:WC)(i:Int):Bool:=XL d&&(decide (0<=i/\i<d.n)&&(decide (d.k=2)||(decide (d.k=1)&&(Y4 .u32 (YD .u32 d.Map (wU i)) 1==1))))
def Kz(N:Nat)(d:WC)(i:Int):Qcs N d i=some (KO d i):=by
 simp only[Qcs,Zq,Xa,KO,Uz];cases h:XL d with
 |false=>rfl
 |true=>
  simp only[Wi,Wa,W8];by_cases e:i<0
  .rw[Wq e,Wh aa,Uw]
  rw[Wk e];by_cases f:i>=d.n
  .rw[Wq f,Wh aa,Uw]
  rw[Wk f,Wd (p:=0<=i/\i<d.n) aa,W8,Xc (Xc4 i).1];grind
def YJ(d:WC):Nat->Int->List Int
 |0,_=>[]
 |k+1,i=>(if KO d i then[i]else[])++YJ d k (i+1)
def ZA(d:WC):List Int:=if XL d then YJ d d.n.toNat 0 else[]
def Vk{d:WC}:∀{k:Nat} {i x:Int},x∈YJ d k i->i<=x/\x<i+k/\KO d x=true
 |0,i,x,h=>by simp_all[YJ]
 |k+1,i,x,h=>by
  simp only[YJ,WH]at h;rcases h with h|h
  .grind
  have:=Vk h;grind
def Vl{d:WC}:∀{k:Nat} {i:Int},(YJ d k i).length<=k
 |0,i=>by simp[YJ]
 |k+1,i=>by have:=Vl (d:=d) (k:=k) (i:=i+1);grind[YJ,WR]
def VM(N:Nat)(d:WC)(f:XL d=true):∀(n:Nat) (i:Int) (v:List Int),0<=i->i<=d.n->(d.n-i).toNat<n->v.length<=1000-(d.n-i).toNat->v.length+(d.n-i).toNat<=1000 ->
 Qcg N d n i v=some (v++YJ d (d.n-i).toNat i)
 |0,i,v,_,_,h,_,_=>by omega
 |n+1,i,v,j,l,o,p,q=>by
  have hb:=XO f;rw[Qcg];by_cases h:i<d.n
  .obtain⟨k,g⟩:∃k,(d.n-i).toNat=k+1:=⟨(d.n-i).toNat-1,aa⟩
   have e:(d.n-(i+1)).toNat=k:=aa;rw[Wd h,Wb,Zq,Xa,f,Wb,Kz,Xa,g,Xd (n:=i+1) aa aa];simp only[YJ];cases hp:KO d i with
   |true=>rw[Wb,Xc aa,VM N d f n (i+1) _ aa aa aa (by grind) (by grind),e];simp
   |false=>rw[Wa,VM N d f n (i+1) _ aa aa aa aa aa,e];simp
  rw[Wh h,Wa,show(d.n-i).toNat=0 by omega];simp[YJ]
def XgB{N:Nat}(hN:300<N)(d:WC):Qga N d=some (ZA d):=by
 simp only[Qga,ZA];cases e:XL d with
 |true=>have hb:=XO e;rw[VM N d e N 0 [] aa aa aa ab (by grind),Xa];simp
 |false=>
  obtain⟨n,rfl⟩:∃n,N=n+1:=⟨N-1,aa⟩
  simp[Qcg,Zq,Xa,e,Wa]
def VN(w:Int):Bool:=decide (w.tmod 4=2)&&decide (YD .u64 w 2<4294967296)
def J1(N:Nat)(w:Int):Qc5 N w=some (if VN w then(YD .u64 w 2,true)else(0,false)):=by simp only[Qc5,VN,Uz];grind
def XaI(N:Nat)(a:Int):Qdh N a=some (if a>=4294967296 then(0,1)else(wU (wU (4*a)+2),0)):=by simp only[Qdh,Uz];grind
def X8(c:WW):Bool:=decide (16<=c.W/\c.W<=64/\c.W % 4=0/\8<=c.p/\c.p<=64)
def Xo{c:WW}:X8 c=true↔16<=c.W/\c.W<=64/\c.W % 4=0/\8<=c.p/\c.p<=64:=by simp[X8]
def Zk(N:Nat)(c:WW):QaX N c=some (X8 c):=by simp only[QaX,Uz,X8];grind
def KZ(c:WW):Int:=if X8 c then c.p / 4 else 0
def XbL(N:Nat)(c:WW):QgM N c=some (KZ c):=by
 simp only[QgM,Zk,Xa,KZ];cases h:X8 c with
 |false=>rfl
 |true=>have:=Xo.1 h;simp;rw[Ic aa,Xd aa aa]
def smC(c:WW):Int:=if X8 c then c.W / 4 else 0
def Xi5(N:Nat)(c:WW):Qd8 N c=some (smC c):=by
 simp only[Qd8,Zk,Xa,smC];cases h:X8 c with
 |false=>rfl
 |true=>have:=Xo.1 h;simp;rw[Ic aa,Xd aa aa]
def XD(c:WW)(w:Int):Int:=
 if X8 c=true/\1<=w then(if w<=c.W / 4 then 0 else if c.W>=w then 1 else if 2*c.W>=w then 2 else if 3*c.W>=w then 3 else if 4*c.W>=w then 4 else -1)else -1
def Xcu(N:Nat)(c:WW)(w:Int)(e:X8 c=true)(k:Int)(f:1<=k/\k<=4)(n:Nat):Qdd N c w (n+1) k=if k*c.W>=w then some (.ret k)else Qdd N c w n (k+1):=by
 have h:=Xo.1 e;have g:0<=k*c.W/\k*c.W<=256:=by
  constructor
  .exact Int.mul_nonneg aa aa
  have:=Int.mul_le_mul (a:=k) (b:=c.W) (c:=4) (d:=64) aa aa aa aa;omega
 rw[Qdd,Wd aa,Wb,Uz,Xd (n:=k*c.W) aa aa,Xd (n:=k+1) aa aa]
def ZG{N:Nat}(hN:10<=N)(c:WW)(w:Int):QfG N c w=some (XD c w):=by
 simp only[QfG,Zk,Xi5,Xa,XD,smC];cases e:X8 c with
 |false=>simp
 |true=>
  simp only[Wi,Wa,if_true,Uz];by_cases g:w<1
  .rw[Wq g,Wk (show¬(True/\1<=w)fromλh=>aa)]
  rw[Wk g,Wq (show True/\1<=w from⟨trivial,aa⟩)];by_cases f:w<=c.W / 4
  .rw[Wq f,Wq f]
  rw[Wk f,Wk f];obtain⟨n,rfl⟩:∃n,N=n+5:=⟨N-5,aa⟩
  rw[Xcu _ c w e 1 aa,Xcu _ c w e (1+1) aa,Xcu _ c w e (1+1+1) aa,Xcu _ c w e (1+1+1+1) aa];rw[show Qdd (n+5) c w (n+1) (1+1+1+1+1)=some (.nxt ()) by rw[Qdd,Wh aa,Wa]];simp;by_cases j:c.W>=w
  .simp only[Wq j,Xa,XE]
  simp only[Wk j];by_cases k:2*c.W>=w
  .simp only[Wq k,Xa,XE]
  simp only[Wk k];by_cases l:3*c.W>=w
  .simp only[Wq l,Xa,XE]
  simp only[Wk l];by_cases o:4*c.W>=w
  .simp only[Wq o,Xa,XE]
  simp[Wk,o,Xa,Xp]
def K0(c:WW)(w:Int):-1<=XD c w/\XD c w<=4:=by unfold XD;omega
def XZ{c:WW}(e:X8 c=true){i:Int}(f:0<=i)(g:i<c.p):0<=i*c.W/\i*c.W+c.W<=c.p*c.W/\c.p*c.W<=4096:=by
 have h:=Xo.1 e;refine⟨Int.mul_nonneg f aa,?_,?_⟩
 .have:=Ut (a:=i+1) (b:=c.p) (c:=c.W) aa aa;grind
 have:=Int.mul_le_mul (a:=c.p) (b:=c.W) (c:=64) (d:=64) aa aa aa aa;omega
def Xj(c:WW)(p o:Int):Int:=4096+p*c.W+o
def K1(N:Nat)(c:WW)(p o:Int):QbF N c p o=some (if X8 c=false then(0,1)else if 0<=p/\p<c.p/\0<=o/\o<c.W then(Xj c p o,0)else(0,2)):=by
 simp only[QbF,Zk,Xa,Uz];cases e:X8 c with
 |false=>simp
 |true=>
  rw[Wk (show¬(true=false) by simp)];by_cases f:p<0
  .grind
  rw[Wk f];by_cases g:p>=c.p
  .grind
  rw[Wk g];by_cases h:o<0
  .grind
  rw[Wk h];by_cases j:o>=c.W
  .simp_all
  rw[Wk j,Wq aa];have k:=XZ e (i:=p) aa aa;rw[Xd (n:=p*c.W) aa aa,Xd (n:=4096+p*c.W) aa aa,Xd (n:=4096+p*c.W+o) aa aa,Xw aa aa];rfl
def J4(N:Nat)(c:WW)(a:Int):Qdl N c a=some (if X8 c=false then(0,0,1)else if 4096<=a/\a<4096+c.p*c.W then((a-4096) / c.W,(a-4096) % c.W,0)else(0,0,2)):=by
 simp only[Qdl,Zk,Xa,Uz];cases e:X8 c with
 |false=>simp
 |true=>
  have h:=Xo.1 e;have k:=XZ e (i:=0) aa aa;simp only[Wi,Wa];rw[Wk (show¬(true=false) by simp)];rw[Xd (n:=c.p*c.W) aa aa,Xd (n:=4096+c.p*c.W) aa aa,Xw (n:=4096+c.p*c.W) aa aa];by_cases f:a<4096
  .grind
  rw[Wk f];by_cases g:a>=4096+c.p*c.W
  .simp_all
  rw[Wk g,Wq aa,Xc aa,Xc aa];rw[Xw (n:=a-4096) aa aa,Xd (n:=a-4096) aa aa,Ic aa,Is aa];have hd:0<=(a-4096) / c.W:=Int.ediv_nonneg aa aa;have j:(a-4096) / c.W<=a-4096:=Int.ediv_le_self _ aa;rw[Xd aa aa]
def Xfn{c:WW}(e:X8 c=true){a:Int}(f:4096<=a)(g:a<4096+c.p*c.W):
 0<=(a-4096) / c.W/\(a-4096) / c.W<c.p/\0<=(a-4096) % c.W/\(a-4096) % c.W<c.W/\a=Xj c ((a-4096) / c.W) ((a-4096) % c.W):=by have h:=Xo.1 e;refine⟨Int.ediv_nonneg aa aa,Int.ediv_lt_of_lt_mul aa aa,Int.emod_nonneg _ aa,Int.emod_lt_of_pos _ aa,?_⟩;have:=Int.mul_ediv_add_emod (a-4096) c.W;unfold Xj;grind
def Xo9{c:WW}(h:X8 c=true){p o:Int}(f:0<=o)(g:o<c.W):(Xj c p o-4096) / c.W=p/\(Xj c p o-4096) % c.W=o:=by
 have e:Xj c p o-4096=o+c.W*p:=by unfold Xj;rw[Int.mul_comm p];omega
 rw[e,Int.add_mul_ediv_left _ _ aa,Int.add_mul_emod_self_left,Int.ediv_eq_zero_of_lt f g,Int.emod_eq_of_lt f g];omega
def Jr:Wv:=⟨0,0,0,0⟩
def pg(e:List Wv)(i:Int):Wv:=e.getD i.toNat Jr
def YB{e:List Wv}{i:Int}{p:Wv}(h:Xb e i=some p):pg e i=p:=by have:=(Xav.1 h).2;simp[pg,this]
def XH{ps:List Wv}{i:Int}(e:0<=i)(f:i<ps.length):Xb ps i=some (pg ps i):=by rw[X1 e f];have:i.toNat<ps.length:=aa;simp[pg,List.getD,this]
def XgC(N:Nat)(e:List Wv)(sp:Int)(v:e.length<=BIG):∀(n:Nat) (c i:Int),0<=i->0<=c->c<=BIG*2->i<=BIG*2->(e.length:Int)+c-i<=BIG*2->(e.length-i).toNat<n ->
 Ok (Qd9 N e sp n c i) λr=>c<=r/\∀m,0<=m->m<r-c->i+m<e.length/\(pg e (i+m)).k=3
 |0,c,i,_,_,_,_,_,h=>by omega
 |n+1,c,i,j,w,o,y,z,A=>by
  unfold BIG at *;refine Wp (λh=>?_) λh=>Wg ⟨Int.le_refl _,λm f g=>aa⟩;have f:i<e.length:=by simpa using h
  refine Ok.get j f λp hp=>Wp (λl=>?_) λl=>Wg ⟨Int.le_refl _,λm f g=>aa⟩;refine Ok.get j f λB q=>Wp (λs=>?_) λl=>Wg ⟨Int.le_refl _,λm f g=>aa⟩;rw[Xd (n:=c+1) aa aa,Xd (n:=i+1) aa aa];refine(XgC N e sp ag n (c+1) (i+1) aa aa (by unfold BIG;omega) (by unfold BIG;omega) (by unfold BIG;omega) aa).mono λr u=>⟨aa,λm g D=>?_⟩
  by_cases E:m=0
  .simp_all[Int.add_zero,YB,hp]
  have:=u.2 (m-1) aa aa;grind
def Xmk{N:Nat}{ps:List Wv}(sp i:Int)(f:ps.length<N)(e:ps.length<=100000000)(g:0<=i)(j:i<=100000000):Ok (QfT N ps i sp) λr=>0<=r/\∀m,1<=m->m<=r->i+m<ps.length/\(pg ps (i+m)).k=3:=by rw[QfT,Xd (n:=i+1) aa aa];refine WI (XgC N ps sp (by unfold BIG;omega) N 0 (i+1) aa aa aa (by unfold BIG;omega) (by unfold BIG;omega) aa) λr _ h=>Wg ⟨h.1,λm l o=>?_⟩;have:=h.2 (m-1) aa aa;grind
def Xfo(N:Nat)(n:Int):QhU N n=some (decide (0<=n/\n<=2147483647)):=by simp only[QhU,Uz];grind
structure OS(h:Wm)(i:Int):Prop where
 kind:0<=(pg h.p i).k/\(pg h.p i).k<=3
 space:0<=(pg h.p i).s/\(pg h.p i).s<=1
 pins:0<=(pg h.p i).P/\(pg h.p i).P<=2147483647
 free:(pg h.p i).k=0->pg h.p i=Jr
 small:(pg h.p i).k=1->0<=(pg h.p i).u/\(pg h.p i).u<=h.c.W
 large:(pg h.p i).k=2->1<=XD h.c (pg h.p i).u/\∀m,1<=m->m<XD h.c (pg h.p i).u->i+m<h.p.length/\(pg h.p (i+m)).k=3
structure Uv(h:Wm):Prop where
 conf:X8 h.c=true
 words:(h.w.length:Int)=h.c.p*h.c.W
 pages:(h.p.length:Int)=h.c.p
 space:0<=h.s/\h.s<=1
 bump:h.b = -1\/(0<=h.b/\h.b<h.p.length/\(pg h.p h.b).k=1)
 pgs:∀i:Int,0<=i->i<h.p.length->OS h i
 first:(pg h.p 0).k≠3
def PL(h:Wm)(i:Int):Ex Bool Unit->Prop
 |.ret a=>a=false
 |.nxt _=>(∀j,i<=j->j<h.p.length->OS h j)/\(i=0->(0:Int)<h.p.length->(pg h.p 0).k≠3)
def Xer{N:Nat}{h:Wm}(A:X8 h.c=true)(hN:100000<N)(I:(h.p.length:Int)=h.c.p):∀(n:Nat) (due i:Int),0<=i->0<=due->due<=4->(h.p.length-i).toNat<n->(i=0->due=0) ->
 Ok (QaL N h n due i) (PL h i)
 |0,due,i,_,_,_,J,_=>by omega
 |n+1,due,i,B,hd,g,J,K=>by
  have W:=Xo.1 A;refine Wp (λD=>?_) λD=>Wg ⟨λj L k=>?_,λM l=>?_⟩;rotate_left
  .grind
  .grind
  have v:i<h.p.length:=by simpa using D
  refine Ok.get B v λp hp=>?_;have w:=YB hp;refine Wp (λ_=>Wg rfl) λg1=>?_;refine Wp (λ_=>Wg rfl) λg2=>?_;refine Wp (λ_=>Wg rfl) λg3=>?_;rw[Xfo,Xa];refine Wp (λ_=>Wg rfl) λg4=>?_;simp at g1 g2 g3 g4;have next:∀(f:Int),0<=f->f<=4->OS h i->Ok (QaL N h n (if 0<wI (f-1)then wI (f-1)else 0) (wI (i+1))) (PL h i):=by
   intro f O R y;rw[Xd (n:=i+1) aa aa,Xd (n:=f-1) aa aa];refine(Xer A hN I n _ (i+1) aa aa aa aa aa).mono λe E=>?_;cases e with
   |ret a=>exact E
   |nxt b=>
   have⟨k1,k2⟩:=E;refine⟨λj L k=>?_,λM l Y=>?_⟩
   .by_cases z:j=i
    .subst z;exact y
    exact k1 j aa k
   simp_all
  refine Il ?_;refine Wp (λS=>Wp (λ_=>Wg rfl) λo=>?_) λS=>Il (Wp (λo=>Wp (λ_=>Wg rfl) λG=>Wp (λ_=>Wg rfl) λr=>?_) λo=>Il (Wp (λG=>?_) λG=>Wp (λr=>Wp (λ_=>Wg rfl) λH=>Wp (λ_=>Wg rfl) λZ=>?_) λr=>Wg rfl))
  .refine next due hd g ?_
   simp at o;have q:pg h.p i=Jr:=by rw[w];cases p;simp only at o;obtain⟨rfl,rfl,rfl,rfl⟩:=o;rfl
   refine⟨by rw[q];decide,by rw[q];decide,by rw[q];decide,λ_=>q,λe=>?_,λe=>?_⟩
   .rw[q]at e;cases e
   simp_all
  .refine next due hd g ?_
   exact⟨by simp_all,by simp_all,by simp_all,λe=>by simp_all,λ_=>by simp_all,λe=>by simp_all⟩
  .rw[ZG aa,Xa];refine Wp (λ_=>Wg rfl) λr=>?_;refine WI (Xmk (N:=N) (ps:=h.p) p.s i aa aa B aa) λt _ ht=>?_;refine Wp (λ_=>Wg rfl) λH=>?_;have hr:=K0 h.c p.u;have U:1<=XD h.c p.u:=by have:=WP r;omega
   have V:XD h.c p.u-1<=t:=by have:=WP H;rw[Xd aa aa]at this;omega
   refine next _ aa aa ?_
   exact⟨by simp_all,by simp_all,by simp_all,λe=>by simp_all,λe=>by simp_all,λ_=>by grind⟩
  refine next due hd g ?_
  exact⟨by simp_all,by simp_all,by simp_all,λe=>by simp_all,λe=>by simp_all,λe=>by simp_all⟩
def YM{N:Nat}(hN:100000<N){h:Wm}(hw:h.w.length<=100000)(hp:h.p.length<=100000):Ok (Qac N h) λb=>b=true->Uv h:=by
 rw[Qac,Zk,Xa];refine Wp (λ_=>Wg λe=>by cases e) λg1=>?_;have f:X8 h.c=true:=by simpa using g1
 have z:=Xo.1 f;have A:=XZ f (i:=0) aa aa;refine Wp (λ_=>Wg λe=>by cases e) λg2=>?_;refine Wp (λ_=>Wg λe=>by cases e) λg3=>?_;refine Wp (λ_=>Wg λe=>by cases e) λg4=>?_;refine Wp (λ_=>Wg λe=>by cases e) λg5=>?_;have q:(h.w.length:Int)=h.c.p*h.c.W:=by
  have:(h.w.length:Int)=wI (h.c.p*h.c.W):=by simpa using g2
  rwa[Xd aa aa]at this
 have e3:(h.p.length:Int)=h.c.p:=by simpa using g3
 have e4:0<=h.s/\h.s<=1:=⟨by simpa using g4,by simpa using g5⟩
 have main:(h.b = -1\/(0<=h.b/\h.b<h.p.length/\(pg h.p h.b).k=1))->Ok (bnd (QaL N h N 0 0) λe=>exK e (λr=>some r) λu=>some true) λb=>b=true->Uv h:=by
  intro hb;refine IY (Xer (N:=N) (h:=h) f hN e3 N 0 0 aa aa aa aa aa) (λa g=>?_) λb g=>Wg λ_=>?_
  .have v:a=false:=g;subst v;exact Wg λe=>by cases e
  have⟨k1,k2⟩:=g;exact⟨f,q,e3,e4,hb,k1,k2 rfl aa⟩
 refine Il (Wp (λj=>Wp (λ_=>Wg λe=>by cases e) λb2=>Wp (λ_=>Wg λe=>by cases e) λy=>?_) λj=>main (.inl (by simpa using j)));have l:0<=h.b:=by simpa using b2
 have o:h.b<h.p.length:=by simpa using y
 refine Ok.get l o λp hp=>Wp (λ_=>Wg λe=>by cases e) λB=>main (.inr ⟨l,o,?_⟩);rw[YB hp];grind
def dlt{a b:Int}(h:decide (a<b)=true):a<b:=Ww h
def ZZ{ps:List Wv}{i j:Int}(p:Wv)(f:0<=i)(e:i<ps.length)(g:0<=j):pg (ps.set i.toNat p) j=if j=i then p else pg ps j:=by unfold pg;grind
def Xc8(N:Nat)(e:List Wv)(f:e.length<=100000000):∀(n:Nat) (c i:Int),0<=i->0<=c->c<=i->i<=e.length->(e.length-i).toNat<n->Ok (QbO N e n c i) λr=>0<=r/\r<=e.length
 |0,c,i,_,_,_,_,h=>by omega
 |n+1,c,i,g,j,k,o,q=>by
  refine Wp (λh=>?_) λh=>Wg ⟨j,aa⟩;have l:i<e.length:=dlt h;refine Ok.get g l λp hp=>?_;rw[Xd (n:=c+1) aa aa,Xd (n:=i+1) aa aa];refine Wp (λ_=>?_) λ_=>?_
  .exact Xc8 N e f n (c+1) (i+1) aa aa aa aa aa
  exact Xc8 N e f n c (i+1) aa aa aa aa aa
def VO{N:Nat}{ps:List Wv}(e:ps.length<=100000000)(hN:ps.length<N):Ok (Qc7 N ps) λr=>0<=r/\r<=ps.length:=
 WI (Xc8 N ps e N 0 0 aa aa aa aa aa) λr _ h=>Wg h
def RunOK(e:List Wv)(i k:Int):Prop:=0<=i/\1<=k/\i+k<=e.length/\∀m,0<=m->m<k->(pg e (i+m)).k=0
def Xcv(N:Nat)(f:List Wv)(s:f.length<=100000000):∀(n:Nat) (i:Int) (rs:List Oq),0<=i->i<=f.length->(f.length-i).toNat<n->rs.length<=i->(∀r∈rs,RunOK f r.O r.Len) ->
 Ok (QbI N f n i rs) λout=>out.length<=f.length/\∀r∈out,RunOK f r.O r.Len
 |0,i,rs,_,_,h,_,_=>by omega
 |n+1,i,rs,y,G,H,z,j=>by
  refine Wp (λh=>?_) λh=>Wg ⟨aa,j⟩;have l:i<f.length:=dlt h;refine Ok.get y l λp hp=>?_;have B:=YB hp;rw[Xd (n:=i+1) aa aa];refine Wp (λ_=>Xcv N f s n (i+1) rs aa aa aa aa j) λI=>?_;have new:Ok (grd ((rs.length+1)*16<=140737488355328) (QbI N f n (i+1) (rs++[Oq.mk i 1]))) λout=>out.length<=f.length/\∀r∈out,RunOK f r.O r.Len:=by
   refine WU aa (Xcv N f s n (i+1) _ aa aa aa (by simp_all) λr g=>?_);rcases WH.1 g with g|g
   .simp_all
   have:r=Oq.mk i 1:=by simpa using g
   subst this;refine⟨y,by show(1:Int)<=1;omega,by show i+1<=_;omega,λm l D=>?_⟩;grind
  refine WU aa (Il (Wp (λk=>?_) λ_=>new));have k:0<(rs.length:Int):=Ww k;rw[Xd (n:=(rs.length:Int)-1) aa aa];refine Ok.get aa aa λq o=>Ok.get aa aa λq' u=>?_;obtain rfl:q=q':=WG (o.symm.trans u);have e:=j q (YH o);have hb:=e.2.2.1;rw[Xd (n:=q.O+q.Len) (by have:=e.1;have:=e.2.1;omega) aa];refine Wp (λA=>?_) λ_=>new;have A:q.O+q.Len=i:=by simpa using A
  refine Ok.get aa aa λq2 v=>Ok.get aa aa λq3 w=>?_;obtain rfl:q=q2:=WG (o.symm.trans v);obtain rfl:q=q3:=WG (o.symm.trans w);have:=e.1;have:=e.2.1;rw[Xd (n:=q.Len+1) aa aa];refine Xcv N f s n (i+1) _ aa aa aa (by grind) λr g=>?_;rcases UC g with g|g
  .simp_all
  subst g;refine⟨e.1,by show 1<=q.Len+1;omega,by show q.O+(q.Len+1)<=_;omega,λm l D=>?_⟩;by_cases E:m<q.Len
  .exact e.2.2.2 m l E
  grind
def Xi6{N:Nat}{ps:List Wv}(e:ps.length<=100000000)(hN:ps.length<N):Ok (Qhg N ps) λout=>out.length<=ps.length/\∀r∈out,RunOK ps r.O r.Len:=
 WI (Xcv N ps e N 0 [] aa aa aa ab ab) λr _ h=>Wg h
def RunOK.less{e:List Wv}{i k j:Int}(h:RunOK e i k)(f:1<=j)(g:j<=k):RunOK e i j:=⟨h.1,f,by have:=h.2.2.1;omega,λm a b=>h.2.2.2 m a aa⟩
def XgD(N:Nat)(j:List Wv)(k:Int)(rs:List Oq)(u:rs.length<=100000000)(g:∀r∈rs,RunOK j r.O r.Len):∀(n:Nat) (i:Int),0<=i->i<=rs.length->(rs.length-i).toNat<n ->
 Ok (QbN N k rs n i) λe=>∀a,e=.ret a->RunOK j a k
 |0,i,_,_,h=>by omega
 |n+1,i,q,v,w=>by
  refine Wp (λh=>?_) λh=>Wg λa e=>by grind
  have s:i<rs.length:=dlt h;rw[Xd (n:=i+1) aa aa];have next:=XgD N j k rs u g n (i+1) aa aa aa
  refine Wp (λl=>?_) λ_=>next
  refine Ok.get q s λp hp=>Wp (λf=>?_) λ_=>next
  refine Ok.get q s λp' o=>Wg λa e=>?_;obtain rfl:p=p':=WG (hp.symm.trans o);cases e;have l:1<=k:=Ww l;have f:k<=p.Len:=Ww f;exact(g p (YH hp)).less l f
def Zl{N:Nat}{ps:List Wv}(k:Int)(e:ps.length<=100000000)(hN:ps.length<N):Ok (Qby N ps k) λi=>i = -1\/RunOK ps i k:=by refine WI (Xi6 e hN) λrs _ h=>?_;refine IY (XgD N ps k rs aa h.2 N 0 aa aa aa) (λa q=>Wg (.inr (q a rfl))) λ_ _=>Wg (.inl rfl)
def Taken(e out:List Wv)(i k:Int)(first rest:Wv):Prop:=out.length=e.length/\∀j,0<=j->pg out j=if j=i then first else if i<=j/\j<i+k then rest else pg e j
def Xi7(N:Nat)(l:List Wv)(i k:Int)(f r:Wv)(B:l.length<=100000000)(D:0<=i)(E:i+k<=l.length):∀(n:Nat) (m:Int) (v:List Wv),0<=m->(m<=k\/m=0)->(k-m).toNat<n->v.length=l.length->(∀j,0<=j->pg v j=if i<=j/\j<i+m then r else pg l j) ->
 Ok (QeF N i k f r n m v) λe=>(∀o,e=.nxt o->o.length=l.length/\∀j,0<=j->pg o j=if i<=j/\j<i+k then r else pg l j)/\(∀o,e=.ret o->o.2=20/\o.1=[])/\((∀j,m<=j->j<k->(pg l (i+j)).k=0)->∀o,e≠.ret o)
 |0,m,v,_,_,h,_,_=>by omega
 |n+1,m,v,I,J,K,z,q=>by
  refine Wp (λh=>?_) λh=>Wg ⟨λo e=>?_,λo e=>(by cases e),λ_ o e=>(by cases e)⟩;rotate_left
  .cases e;have:¬m<k:=WP h;refine⟨z,λj u=>?_⟩;rw[q j u];by_cases A:i<=j/\j<i+m
   .rw[Wq A,Wq aa]
   rw[Wk A,Wk aa]
  have G:m<k:=dlt h;rw[Xd (n:=i+m) aa aa,Xd (n:=m+1) aa aa];refine Ok.get aa aa λp hp=>?_;have w:p=pg l (i+m):=by rw[←YB hp,q _ aa,Wk aa]
  refine Wp (λs=>Wg ⟨λo e=>(by cases e),λo e=>(by cases e;exact⟨rfl,rfl⟩),λg=>?_⟩) λs=>?_
  .have:=g m aa G;rw[←w]at this;simp[this]at s
  refine Ok.get aa aa λL H=>?_;refine(Xi7 N l i k f r B D E n (m+1) _ aa aa aa (by rw[WO];exact z) λj u=>?_).mono λe y=>⟨y.1,y.2.1,λg=>y.2.2 λj a b=>g j aa b⟩
  rw[ZZ r aa aa u,q j u];grind
def Xi8{N:Nat}{g:List Wv}(i k:Int)(f r:Wv)(D:g.length<=1000000)(hN:1000000<N)(z:1<=k)(A:k<=1000000):Ok (QdP N g i k f r) λo=>(o.2=0->0<=i/\i+k<=g.length/\Taken g o.1 i k f r)/\(o.2≠0->o.1=[])/\(RunOK g i k->o.2=0):=by
 refine Wp (λh=>Wg ⟨λe=>aa,λ_=>rfl,λl=>?_⟩) λv=>?_
 .have:=Ww h;have:=l.1;omega
 have v:¬i<0:=WP v;refine Wp (λh=>Wg ⟨λe=>aa,λ_=>rfl,λl=>?_⟩) λw=>?_
 .have:=Ww h;have:=l.2.2.1;omega
 have w:¬i>=(g.length:Int):=WP w;rw[Xd (n:=(g.length:Int)-i) aa aa];refine Wp (λh=>Wg ⟨λe=>aa,λ_=>rfl,λl=>?_⟩) λy=>?_
 .have:=Ww h;have:=l.2.2.1;omega
 have y:¬k>(g.length:Int)-i:=WP y;refine WU aa (IY (Xi7 N g i k f r aa aa aa N 0 g aa aa aa rfl λj s=>(by grind)) (λa q=>?_) λo q=>?_)
 .have⟨B,u⟩:=q.2.1 a rfl;refine Wg ⟨λe=>aa,λ_=>u,λl=>?_⟩;exact absurd rfl (q.2.2 (λj a b=>l.2.2.2 j a b) a)
 have⟨B,u⟩:=q.1 o rfl;refine Ok.get aa aa λp hp=>Wg ⟨λ_=>⟨aa,aa,⟨by simp_all,λj s=>?_⟩⟩,λe=>absurd rfl e,λ_=>rfl⟩;rw[ZZ f aa aa s,u j s]
def Xc9{N:Nat}{ps:List Wv}(i sp:Int)(k:ps.length<=1000000)(hN:1000000<N):Ok (QbR N ps i sp) λo=>(o.2=0->0<=i/\i+1<=ps.length/\Taken ps o.1 i 1 ⟨1,sp,0,0⟩ ⟨0,0,0,0⟩)/\(o.2≠0->o.1=[])/\(RunOK ps i 1->0<=sp->sp<=1->o.2=0):=by
 refine Wp (λh=>Wg ⟨λe=>aa,λ_=>rfl,λ_ g j=>?_⟩) λg=>?_
 .grind
 refine Wp (λh=>Wg ⟨λe=>aa,λ_=>rfl,λ_ g j=>?_⟩) λj=>?_
 .grind
 refine WI (Xi8 i 1 ⟨1,sp,0,0⟩ ⟨0,0,0,0⟩ k hN aa aa) λy _ f=>Wg ⟨f.1,f.2.1,λl _ _=>f.2.2 l⟩
def Xml{N:Nat}{f:List Wv}(c:WW)(i sp w:Int)(j:f.length<=1000000)(hN:1000000<N):Ok (Qeo N c f i sp w) λo=>(o.2=0->0<=i/\i+XD c w<=f.length/\1<=XD c w/\Taken f o.1 i (XD c w) ⟨2,sp,w,0⟩ ⟨3,sp,0,0⟩)/\(o.2≠0->o.1=[]):=by rw[Qeo,ZG aa,Xa];refine Wp (λh=>Wg ⟨λe=>(by cases e),λ_=>rfl⟩) λg=>?_;have g:¬XD c w<1:=WP g;refine Wp (λh=>Wg ⟨λe=>(by cases e),λ_=>rfl⟩) λl=>?_;refine Wp (λh=>Wg ⟨λe=>(by cases e),λ_=>rfl⟩) λp=>?_;have q:=K0 c w;refine WI (Xi8 i (XD c w) ⟨2,sp,w,0⟩ ⟨3,sp,0,0⟩ j hN aa aa) λy _ k=>Wg ⟨λe=>?_,k.2.1⟩;simp_all
def HB(h:Wm):Prop:=h.w.length<=100000/\h.p.length<=100000
def NB(N:Nat):Prop:=10000000<N
def zH:Wm:=⟨⟨0,0⟩,[],[],0,0⟩
def Ko:HB zH:=⟨ae,ae⟩
def wd(ws:List Int)(a:Int):Int:=ws.getD (ix a) 0
def hdA(ws:List Int)(a:Int):WC:=ZX (wd ws a)
def szA(ws:List Int)(a:Int):Int:=(hdA ws a).n+1
def YY(ws:List Int)(a:Int):XF (hdA ws a)=szA ws a/\1<=szA ws a/\szA ws a<=256:=by have:=Xeq (wd ws a);unfold szA hdA;omega
def pgi(c:WW)(a:Int):Int:=(a-4096) / c.W
def pgo(c:WW)(a:Int):Int:=(a-4096) % c.W
structure IW(h:Wm)(a:Int):Prop where
 rng:4096<=a/\a<4096+h.c.p*h.c.W
 kind:(pg h.p (pgi h.c a)).k=1\/(pg h.p (pgi h.c a)).k=2
 ok:okH (wd h.w a)=true
 used:pgo h.c a<(pg h.p (pgi h.c a)).u
 small:(pg h.p (pgi h.c a)).k=1->pgo h.c a+szA h.w a<=(pg h.p (pgi h.c a)).u
 large:(pg h.p (pgi h.c a)).k=2->pgo h.c a=0/\szA h.w a=(pg h.p (pgi h.c a)).u
def Xes{N:Nat}(hN:NB N){h:Wm}(hb:HB h)(a:Int):Ok (Qam N h a) λr=>r.2=0->Uv h/\Qac N h=some true/\IW h a/\r.1=hdA h.w a:=by
 unfold NB at hN;refine WI (YM (N:=N) aa hb.1 hb.2) λb eb hp=>?_;refine Wp (λ_=>Wg λe=>by cases e) λq=>?_;have s:b=true:=by simpa using q
 subst s;have hp:=hp rfl;rw[J4,Xa,hp.conf,Wk ab];have L:=Xo.1 hp.conf;by_cases l:4096<=a/\a<4096+h.c.p*h.c.W;rotate_left
 .rw[Wk l];exact Wp (λ_=>Wg λe=>by cases e) λe=>by cases e
 rw[Wq l,show(a-4096) / h.c.W=pgi h.c a from rfl,show(a-4096) % h.c.W=pgo h.c a from rfl];have j:=Xfn hp.conf l.1 l.2;have M:=hp.pages;have H:0<=pgi h.c a:=j.1;have I:pgi h.c a<h.p.length:=by have:pgi h.c a<h.c.p:=j.2.1;omega
 refine Ok.get H I λp v=>?_;have f:=YB v;have y:inW h.w a:=by unfold inW;have:=hp.words;omega
 rw[YK (by unfold BIG;have:=hb.1;omega),Xa,Wq y];show Ok (bnd (Qc2 N (wd h.w a)) _) _;rw[KY,Xa];have z:=YY h.w a;have J:pgo h.c a<h.c.W:=j.2.2.2.1;have B:0<=pgo h.c a:=j.2.2.1;have rest:okH (wd h.w a)=true->(p.k=1\/p.k=2)->pgo h.c a<p.u->Ok (α:=WC×Int) (bnd (Qde N (ZX (wd h.w a))) λA=>
  bif (p.k==1)then(bif (decide ((wI (pgo h.c a+A))>p.u))then some ((WC.mk 0 0 0),19)
   else bif (p.k==2)then(bif (pgo h.c a != 0)then some ((WC.mk 0 0 0),19)
    else bif (A != p.u)then some ((WC.mk 0 0 0),19)
    else some (ZX (wd h.w a),0))
   else some (ZX (wd h.w a),0))
  else bif (p.k==2)then(bif (pgo h.c a != 0)then some ((WC.mk 0 0 0),19)
   else bif (A != p.u)then some ((WC.mk 0 0 0),19)
   else some (ZX (wd h.w a),0))
  else some (ZX (wd h.w a),0)) λr=>r.2=0->Uv h/\Qac N h=some true/\IW h a/\r.1=hdA h.w a:=by
  intro D E G
  rw[X5,Xa]
  have K:XF (ZX (wd h.w a))=szA h.w a:=z.1
  rw[K,Xd aa aa]
  refine Wp (λk1=>?_) λk1=>?_
  .have k1:p.k=1:=by simpa using k1
   refine Wp (λ_=>Wg λe=>by cases e) λk2=>?_
   have k2:¬pgo h.c a+szA h.w a>p.u:=WP k2
   refine Wp (λg=>by rw[k1]at g;cases g) λ_=>Wg λ_=>⟨hp,eb,⟨l,by rw[f];exact E,D,by rw[f];exact G,λ_=>by rw[f];omega,λe=>by rw[f,k1]at e;cases e⟩,rfl⟩
  .have k1:¬p.k=1:=by simpa using k1
   have k2:p.k=2:=aa
   refine Wp (λ_=>?_) λg=>by rw[k2]at g;cases g
   refine Wp (λ_=>Wg λe=>by cases e) λg=>?_
   refine Wp (λ_=>Wg λe=>by cases e) λo=>Wg λ_=>⟨hp,eb,⟨l,by rw[f];exact E,D,by rw[f];exact G,λe=>by rw[f]at e;omega,λ_=>⟨by simpa using g,by rw[f];simpa using o⟩⟩,rfl⟩
 refine Il (Wp (λk1=>Wp (λ_=>Wg λe=>by cases e) λk2=>Wp (λ_=>Wg λe=>by cases e) λg=>Wp (λ_=>Wg λe=>by cases e) λo=>?_) λk1=>Wp (λ_=>Wg λe=>by cases e) λg=>Wp (λ_=>Wg λe=>by cases e) λo=>?_)
 .exact rest (by simpa using o) (.inr (by simpa using k2)) (by have O:¬(pgo h.c a>=p.u):=WP g;omega)
 grind
def XaJ{N:Nat}(hN:NB N){h:Wm}(hb:HB h)(a:Int):Ok (QbU N h a) λr=>r.2=0->Uv h/\Qac N h=some true/\IW h a/\r.1=hdA h.w a/\r.1.k≠0:=by
 have f:=hN;unfold NB at hN;refine WI (YM (N:=N) aa hb.1 hb.2) λb eb hp=>?_;refine Wp (λ_=>Wg λe=>by cases e) λg=>?_;refine Wp (λ_=>Wg λe=>by cases e) λ_=>?_;refine WI (Xes f hb a) λy s j=>?_;refine Wp (λk1=>Wp (λ_=>Wg λe=>by cases e) λk2=>Wg λe=>?_) λk1=>Wg λe=>?_
 .have⟨l,o,p,q⟩:=j e;exact⟨l,o,p,q,by simpa using k2⟩
 simp_all
def Xda{N:Nat}(hN:NB N){h:Wm}(hb:HB h)(a i:Int):Ok (Qbz N h a i) λr=>r.2=0->Uv h/\IW h a/\0<=i/\i<(hdA h.w a).n:=by
 refine WI (XaJ hN hb a) λy l f=>?_;refine Wp (λk=>Wg λe=>absurd e (by simpa using k)) λk1=>?_;refine Wp (λ_=>Wg λe=>by cases e) λk2=>?_;refine Wp (λ_=>Wg λe=>by cases e) λo=>?_;have⟨g,p,j,q,s⟩:=f (by simpa using k1);rw[YK (by unfold BIG;have:=hb.1;omega),Xa];refine Wg λ_=>⟨g,j,?_,?_⟩
 .have:=WP k2;omega
 simp_all
def XgE{N:Nat}(hN:NB N){h:Wm}(hb:HB h)(a i v:Int):Ok (Qbr N h a i v) λr=>HB r.1:=by
 refine WI (Xda hN hb a i) λy f g=>?_;refine Wp (λ_=>Wg Ko) λk1=>?_;have e:=hN;unfold NB at e;rw[KF (by unfold BIG;have:=hb.1;omega) aa,Xa];refine Wg ?_;split
 .exact⟨by rw[WO];exact hb.1,hb.2⟩
 exact⟨ab,hb.2⟩
def Xkq{N:Nat}(hN:NB N){h:Wm}(hb:HB h)(a:Int):Ok (Qf9 N h a) λr=>r.1.length<=256:=by
 refine WI (XaJ hN hb a) λy o f=>?_;refine Wp (λ_=>Wg ab) λk1=>?_;have⟨p,q,s,g,u⟩:=f (by simpa using k1);have j:=YY h.w a;have e:y.1.n=szA h.w a-1:=by rw[g];unfold szA;omega
 have⟨k,l⟩:=Uo (a:=y.1.n) aa;rw[l,Xct (by unfold BIG;have:=hb.1;omega) N _ k aa,Xa];refine Wg ?_;grind
def Xi9{N:Nat}(hN:NB N){h:Wm}(hb:HB h)(a:Int)(hd:WC):Ok (Qbw N h a hd) λr=>HB r.1:=by
 have f:=hN;unfold NB at f;rw[Qbw,KX,Xa];refine WI (YM (N:=N) aa hb.1 hb.2) λb eb hp=>?_;refine Wp (λ_=>Wg Ko) λ_=>?_;refine Wp (λ_=>Wg Ko) λk1=>?_;have g:XL hd=true:=by
  cases g:XL hd with
  |true=>rfl
  |false=>simp_all
 have k:=XO g;refine WU aa (WU aa ?_);rw[Wq g,ZQ (by unfold BIG;have:=hb.1;omega) (by unfold BIG;grind) (by grind),Xa];split
 .rename_i j;refine Wp (λe=>by grind) λ_=>Wg ⟨?_,hb.2⟩;have l:=hb.1;rw[ZW]
  .omega
  unfold Yp at j;unfold ix;omega
 exact Wp (λ_=>Wg Ko) λe=>by grind
def Xmm(N:Nat)(l:List Int)(v:Int)(g:l.length<=1000000000):∀(n k:Nat),k<=l.length->l.length-k<n->Qf8 N l v n (k:Int)=some (if(l.drop k).contains v then .ret true else .nxt ())
 |0,k,_,h=>by omega
 |n+1,k,o,p=>by
  rw[Qf8];by_cases h:k<l.length
  .have j:decide ((k:Int)<(l.length:Int))=true:=Wd aa;rw[j,Wb,Xe,Wc h,Xa,Xd aa aa];rw[show((k:Int)+1)=((k+1:Nat):Int) by omega,Xmm N l v g n (k+1) aa aa];rw[Wu h,List.contains_cons];by_cases f:l[k]=v
   .subst f;simp
   rw[show(l[k]==v)=false by simpa using f,Wa,show(v==l[k])=false by simpa usingλe=>f e.symm,Ii]
  grind
def YQ{N:Nat}{l:List Int}(v:Int)(e:l.length<=1000000000)(hN:l.length<N):Qdy N l v=some (l.contains v):=by have h:=Xmm N l v e N 0 aa aa;rw[show((0:Nat):Int)=0 from rfl,W0]at h;rw[Qdy,h,Xa];grind[Xp,XE]
structure OC(N:Nat)(h:Wm)(l:List Int):Prop where
 at_:∀a∈l,IW h a
 ev:∀a∈l,Qam N h a=some (hdA h.w a,0)
 pw:l.Pairwise λa b=>a+szA h.w a<=b
def Xh8(h:Wm)(i:Int)(l:List Int):Prop:=∀a∈l,Xj h.c i 0<=a/\pgi h.c a=i
def Xet{c:WW}{i o p:Int}(h:o<=p):Xj c i o<=Xj c i p:=by unfold Xj;omega
def XgF{c:WW}(e:X8 c=true){p o:Int}(f:0<=o)(g:o<c.W):pgi c (Xj c p o)=p/\pgo c (Xj c p o)=o:=Xo9 e f g
def KP{c:WW}(e:X8 c=true){a:Int}(h:4096<=a/\a<4096+c.p*c.W):a=Xj c (pgi c a) (pgo c a)/\0<=pgi c a/\pgi c a<c.p/\0<=pgo c a/\pgo c a<c.W:=by have:=Xfn e h.1 h.2;exact⟨this.2.2.2.2,this.1,this.2.1,this.2.2.1,this.2.2.2.1⟩
def XuA(N:Nat)(h:Wm)(i o:Int)(l:List Int):Prop:=OC N h l/\Xh8 h i l/\(∀a∈l,a+szA h.w a<=Xj h.c i o)/\(l.length:Int)<=o
def OC.snoc{N:Nat}{h:Wm}{l:List Int}{a:Int}(f:OC N h l)(k:IW h a)(g:Qam N h a=some (hdA h.w a,0))(j:∀b∈l,b+szA h.w b<=a):OC N h (l++[a]):=by
 refine⟨λx e=>?_,λx e=>?_,?_⟩
 .rcases WH.1 e with e|e
  .exact f.at_ x e
  simp_all
 .rcases WH.1 e with e|e
  .exact f.ev x e
  simp_all
 rw[I8];refine⟨f.pw,ab,λb hb c o=>?_⟩;simp_all
def PageL(N:Nat)(h:Wm)(i:Int)(l:List Int):Prop:=OC N h l/\Xh8 h i l/\(l.length:Int)<=64
def Xsv(N:Nat)(h:Wm)(i:Int):Ex (List Int×Int) (List Int)->Prop
 |.ret r=>r=([],19)
 |.nxt l=>PageL N h i l
def Qrh{N:Nat}(hN:NB N){h:Wm}(hb:HB h)(hp:Uv h){i:Int}(J:0<=i)(K:i<h.p.length)(g:(pg h.p i).k=1\/(pg h.p i).k=2):∀(n:Nat) (o:Int) (l:List Int),0<=o->(65-o).toNat<n->XuA N h i o l->((pg h.p i).k=1->o<=(pg h.p i).u)->((pg h.p i).k=2->o=0) ->
 Ok (QaA N h i (pg h.p i) n o l) (Xsv N h i)
 |0,o,l,_,L,j,k1,k2=>by omega
 |n+1,o,l,v,L,j,k1,k2=>by
  have Z:=Xo.1 hp.conf;have M:=(hp.pgs i J K).small;have O:=hp.pages;have r:(l.length:Int)<=64:=by
   have:=j.2.2.2;rcases g with g|g
   .omega
   omega
  refine Wp (λz=>?_) λ_=>Wg ⟨j.1,j.2.1,r⟩;have z:o<(pg h.p i).u:=Ww z;have A:o<h.c.W:=by
   rcases g with g|g
   .omega
   omega
  rw[K1,hp.conf,Xa,Wk ab,Wq aa];dsimp only;refine WI (Xes hN hb (Xj h.c i o)) λy R S=>?_;refine Wp (λ_=>Wg rfl) λU=>?_;have⟨_,_,B,D⟩:=S (by simp_all);have s:=XgF hp.conf (p:=i) v A;have G:=YY h.w (Xj h.c i o);have H:Qam N h (Xj h.c i o)=some (hdA h.w (Xj h.c i o),0):=by rw[R];congr 1;exact Prod.ext D (by simp_all)
  have q:OC N h (l++[Xj h.c i o]):=j.1.snoc B H j.2.2.1;have E:Xh8 h i (l++[Xj h.c i o]):=by
   intro x f;rcases WH.1 f with f|f
   .exact j.2.1 x f
   have:x=Xj h.c i o:=by simpa using f
   subst this;exact⟨Xet v,s.1⟩
  have I:((l++[Xj h.c i o]).length:Int)=l.length+1:=by simp
  have V:=j.2.2.2;refine WU aa (Wp (λkk=>Wg ⟨q,E,aa⟩) λkk=>?_);have kk:(pg h.p i).k=1:=by
   rcases g with g|g
   .omega
   simp_all
  rw[D,X5,Xa];rw[G.1];have Y:=B.small (by simp_all);rw[s.1,s.2]at Y;rw[Xd aa aa];refine Qrh hN hb hp J K g n _ _ aa aa ⟨q,E,λx f=>?_,aa⟩ (λ_=>aa) (λe=>aa);rcases WH.1 f with f|f
  .have:=j.2.2.1 x f;have:=Xet (c:=h.c) (i:=i) (o:=o) (p:=o+szA h.w (Xj h.c i o)) aa;omega
  have:x=Xj h.c i o:=by simpa using f
  subst this;unfold Xj;omega
def PageL.nil(N:Nat)(h:Wm)(i:Int):PageL N h i []:=⟨⟨ab,ab,ab⟩,λa e=>by simp_all,ab⟩
def Qri{N:Nat}(hN:NB N){h:Wm}(hb:HB h)(i:Int):Ok (Qan N h i) λr=>(r.2≠0->r.1=[])/\r.1.length<=64/\(Uv h->PageL N h i r.1):=by
 have j:=hN;unfold NB at j;refine WI (YM (N:=N) aa hb.1 hb.2) λb eb hp=>?_;refine Wp (λ_=>Wg ⟨λ_=>rfl,ab,λ_=>PageL.nil N h i⟩) λv=>?_;have hp:=hp (by simp_all);refine Wp (λ_=>Wg ⟨λ_=>rfl,ab,λ_=>PageL.nil N h i⟩) λf=>?_;refine Wp (λ_=>Wg ⟨λ_=>rfl,ab,λ_=>PageL.nil N h i⟩) λg=>?_;have f:0<=i:=by have:=WP f;omega
 have g:i<h.p.length:=by have:=WP g;omega
 refine Ok.get f g λp o=>?_;have s:=YB o;subst s;refine Wp (λ_=>Wg ⟨λ_=>rfl,ab,λ_=>PageL.nil N h i⟩) λk0=>?_;refine Wp (λ_=>Wg ⟨λ_=>rfl,ab,λ_=>PageL.nil N h i⟩) λu=>?_;have w:=(hp.pgs i f g).kind;have k0:¬(pg h.p i).k=0:=by simpa using k0
 have u:¬(pg h.p i).k=3:=by simpa using u
 refine IY (Qrh hN hb hp f g aa N 0 [] aa aa ⟨⟨ab,ab,ab⟩,λa y=>by simp_all,ab,ab⟩ (λk=>((hp.pgs i f g).small k).1) (λ_=>rfl)) (λa q=>?_) λl q=>?_
 .have:a=([],19):=q;subst this;exact Wg ⟨λ_=>rfl,ab,λ_=>PageL.nil N h i⟩
 exact Wg ⟨λe=>absurd rfl e,by have:=q.2.2;grind,λ_=>q⟩
def Xfp{c:WW}(e:X8 c=true){w:Int}(h:1<=XD c w):w<=XD c w*c.W:=by unfold XD at h⊢;grind
def Xfq{h:Wm}(hp:Uv h){a:Int}(g:IW h a):∃k,1<=k/\pgi h.c a+k<=h.c.p/\a+szA h.w a<=Xj h.c (pgi h.c a+k) 0/\∀m,1<=m->m<k->(pg h.p (pgi h.c a+m)).k=3:=by
 have⟨e,l,y,z,A⟩:=KP hp.conf g.rng;have s:=hp.pages;rcases g.kind with f|f
 .have B:=g.small f;have:=(hp.pgs _ l aa).small f;refine⟨1,aa,aa,?_,λm j o=>aa⟩;have D:Xj h.c (pgi h.c a+1) 0=4096+pgi h.c a*h.c.W+h.c.W:=by unfold Xj;rw[IF];omega
  have e3:a=4096+pgi h.c a*h.c.W+pgo h.c a:=e;omega
 have⟨E,G⟩:=g.large f;have⟨q,r⟩:=(hp.pgs _ l aa).large f;have v:=Xfp hp.conf q;refine⟨_,q,?_,?_,λm j o=>(r m j o).2⟩
 .by_cases j:XD h.c (pg h.p (pgi h.c a)).u=1
  .omega
  have:=(r (XD h.c (pg h.p (pgi h.c a)).u-1) aa aa).1;omega
 have e3:a=4096+pgi h.c a*h.c.W+pgo h.c a:=e;unfold Xj;grind
def K2{h:Wm}(hp:Uv h){a:Int}(e:IW h a):a+szA h.w a<=4096+h.w.length:=by have⟨k,j,f,g,_⟩:=Xfq hp e;have l:=Xo.1 hp.conf;have:=hp.words;have o:(pgi h.c a+k)*h.c.W<=h.c.p*h.c.W:=Ut f aa;unfold Xj at g;omega
def Xkr{h:Wm}(hp:Uv h){a b:Int}(g:IW h a)(hb:IW h b)(j:pgi h.c a<pgi h.c b):a+szA h.w a<=b:=by
 have⟨k,r,s,l,o⟩:=Xfq hp g;have⟨e,u,v,y,z⟩:=KP hp.conf hb.rng;have f:pgi h.c a+k<=pgi h.c b:=by
  rcases(by omega:pgi h.c b<pgi h.c a+k\/pgi h.c a+k<=pgi h.c b)with p|p
  .have:=o (pgi h.c b-pgi h.c a) aa aa;rw[show pgi h.c a+(pgi h.c b-pgi h.c a)=pgi h.c b by omega]at this;rcases hb.kind with q|q<;>omega
  omega
 have A:(pgi h.c a+k)*h.c.W<=pgi h.c b*h.c.W:=Ut f aa;unfold Xj at l e;omega
def Qin{N:Nat}(hN:NB N){h:Wm}(hb:HB h)(hp:Uv h)(i:Int)(f:0<=i)(g:i<h.p.length):Ok (Qan N h i) λr=>PageL N h i r.1/\r.1.length<=64:=(Qri hN hb i).mono λr e=>⟨e.2.2 hp,e.2.1⟩
structure Io(N:Nat)(h:Wm)(l:List Int):Prop where
 obj:OC N h l
 page:∀a∈l,∃r,Qan N h (pgi h.c a)=some r/\a∈r.1
 len:l.length<=4096
def Io.nil(N:Nat)(h:Wm):Io N h []:=⟨⟨ab,ab,ab⟩,ab,ab⟩
def Xeu{N:Nat}(hN:NB N){h:Wm}(hb:HB h)(hp:Uv h):∀(n:Nat) (i:Int) (l:List Int),0<=i->i<=h.p.length->(h.p.length-i).toNat<n->OC N h l->(∀a∈l,∃r,Qan N h (pgi h.c a)=some r/\a∈r.1)->(∀a∈l,pgi h.c a<i)->(l.length:Int)<=64*i ->
 Ok (QaY N h n i l) λe=>match e with|.ret r=>r.1=[]/\r.2≠0|.nxt l=>Io N h l
 |0,i,l,_,_,z,_,_,_,_=>by omega
 |n+1,i,l,A,E,z,g,j,s,v=>by
  have G:=Xo.1 hp.conf;have B:=hp.pages;refine Wp (λu=>?_) λ_=>Wg ⟨g,j,aa⟩;have u:i<h.p.length:=Ww u;refine WI (Qin hN hb hp i A u) λy D k=>?_;refine Wp (λw=>Wg ⟨rfl,by simpa using w⟩) λw=>?_;refine WU aa ?_;rw[Xd aa aa];have o:∀a∈y.1,pgi h.c a=i:=λa f=>(k.1.2.1 a f).2;refine Xeu hN hb hp n (i+1) _ aa aa aa ⟨λa f=>?_,λa f=>?_,?_⟩ (λa f=>?_) (λa f=>?_) (by rw[WR];omega)
  .rcases WH.1 f with f|f
   .exact g.at_ a f
   exact k.1.1.at_ a f
  .rcases WH.1 f with f|f
   .exact g.ev a f
   exact k.1.1.ev a f
  .rw[I8];refine⟨g.pw,k.1.1.pw,λa f b q=>?_⟩;exact Xkr hp (g.at_ a f) (k.1.1.at_ b q) (by rw[o b q];exact s a f)
  .rcases WH.1 f with f|f
   .exact j a f
   exact⟨y,by rw[o a f];exact D,f⟩
  grind
def V9{N:Nat}(hN:NB N){h:Wm}(hb:HB h):Ok (Qc3 N h) λr=>Io N h r.1/\(r.2=0->Uv h)/\(r.2≠0->r.1=[]):=by have f:=hN;unfold NB at f;refine WI (YM (N:=N) aa hb.1 hb.2) λb eb hp=>?_;refine Wp (λ_=>Wg ⟨Io.nil N h,λe=>aa,λ_=>rfl⟩) λg=>?_;have hp:=hp (by simp_all);have j:=hb.2;refine IY (Xeu hN hb hp N 0 [] aa aa aa ⟨ab,ab,ab⟩ ab ab ab) (λa q=>?_) λl q=>Wg ⟨q,λ_=>hp,λe=>absurd rfl e⟩;refine Wg ⟨?_,λe=>absurd e q.2,λ_=>q.1⟩;rw[q.1];exact Io.nil N h
def Io.sub{N:Nat}{h:Wm}{l l':List Int}(e:Io N h l)(f:l'.Sublist l):Io N h l':=
 ⟨⟨λa g=>e.obj.at_ a (f.subset g),λa g=>e.obj.ev a (f.subset g),e.obj.pw.sublist f⟩,λa g=>e.page a (f.subset g),Uq f.length_le e.len⟩
def XaK{N:Nat}(hN:NB N){h:Wm}(hb:HB h)(y:List Int×Int)(r:y.1.length<=4096):∀(n k:Nat) (l:List Int),k<=y.1.length->y.1.length-k<n->l.Sublist (y.1.take k)->Ok (Qa1 N h y n (k:Int) l) λo=>o.Sublist y.1
 |0,k,l,_,u,_=>by omega
 |n+1,k,l,A,u,j=>by
  have s:l.length<=4096:=Uq j.length_le (by rw[Wl];omega);refine Wp (λg=>?_) λ_=>Wg (j.trans (List.take_sublist _ _));have g:(k:Int)<y.1.length:=Ww g;have e:k<y.1.length:=aa;refine Ok.get aa g λp hp=>?_;refine WI (Xes hN hb p) λz B D=>?_;have v:wI ((k:Int)+1)=((k+1:Nat):Int):=by rw[Xd aa aa];omega
  rw[v];refine Wp (λ_=>?_) λ_=>XaK hN hb y r n (k+1) l aa aa (j.trans (List.take_sublist_take_left aa));refine Ok.get aa g λw f=>WU aa (XaK hN hb y r n (k+1) _ aa aa ?_);have q:w=y.1[k]:=by rw[Xe,Wc e]at f;exact(WG f).symm
  simp_all[List.take_succ_eq_append_getElem,e,q]
def Z0{N:Nat}(hN:NB N){h:Wm}(hb:HB h):Ok (QaK N h) λr=>Io N h r.1/\(r.2=0->Uv h)/\(r.1≠[]->Uv h):=by refine WI (V9 hN hb) λy l e=>?_;have f:=hN;unfold NB at f;have g:=e.1.len;have:=XaK hN hb y g N 0 [] aa aa ab;refine WI this λo p j=>Wg ⟨e.1.sub j,e.2.1,λk=>?_⟩;grind
def Xce{N:Nat}(hN:NB N){h:Wm}(hb:HB h)(a:Int):Ok (Qeb N h a) λb=>b=true->Uv h/\IW h a:=by
 have f:=hN;unfold NB at f;refine WI (Z0 hN hb) λy k g=>?_;have l:=g.1.len;rw[YQ a aa aa,Xa];refine Wg λe=>?_;have j:a∈y.1:=by simpa using e
 exact⟨g.2.2 (List.ne_nil_of_mem j),g.1.obj.at_ a j⟩
def Xpa{N:Nat}{h:Wm}(hb:HB h)(i o:Int):Ok (Qgm N h i o) λ_=>True:=by rw[Qgm,QhW,K1,Xa,YK (by unfold BIG;have:=hb.1;omega),Xa,Xa];exact Wg trivial
def Xdb(h:Wm)(i:Int)(l:List Int):Prop:=(pg h.p i).k=1->∀a∈l,szA h.w a<=smC h.c
def XgG{N:Nat}(hN:NB N){h:Wm}(hb:HB h){i:Int}(v:0<=i)(y:i<h.p.length)(l:List Int)(D:l.length<=4096)(j:∀a∈l,Qam N h a=some (hdA h.w a,0)/\a≠0):∀(n k:Nat),k<=l.length->l.length-k<n ->
 Ok (QbM N h i l n (k:Int)) λe=>match e with|.ret r=>r≠0|.nxt _=>(pg h.p i).k=1->∀a∈l.drop k,szA h.w a<=smC h.c
 |0,k,_,E=>by omega
 |n+1,k,M,E=>by
  refine Wp (λo=>?_) λo=>Wg ?_;rotate_left
  .grind
  have o:(k:Int)<l.length:=Ww o;have u:k<l.length:=aa;refine Ok.get aa o λp hp=>?_;have G:p=l[k]:=by rw[Xe,Wc u]at hp;exact(WG hp).symm
  have z:p∈l:=YH hp;rw[(j p z).1,Xa];rw[X5,Xa,Xi5,Xa,(YY h.w p).1];have H:wI ((k:Int)+1)=((k+1:Nat):Int):=by rw[Xd aa aa];omega
  rw[H];have ret:∀g,Xb l (k:Int)=some g->g≠0:=λg f=>(j g (YH f)).2;have next:((pg h.p i).k=1->szA h.w p<=smC h.c)->Ok (QbM N h i l n ((k+1:Nat):Int)) λe=>match e with|.ret r=>r≠0|.nxt _=>(pg h.p i).k=1->∀a∈l.drop k,szA h.w a<=smC h.c:=by
   intro s
   refine(XgG hN hb v y l D j n (k+1) aa aa).mono λe O=>?_
   cases e with
   |ret r=>omega
   |nxt _=>
    intro I a J
    rw[Wu u]at J
    grind
  refine Ok.get v y λq K=>?_;have A:=YB K;refine Wp (λk1=>?_) λk1=>?_
  .refine Wp (λ_=>Ok.get aa o λg f=>Wg (ret g f)) λk2=>?_;have s:szA h.w p<=smC h.c:=by simpa using k2
   refine Ok.get v y λL B=>Wp (λ_=>Wp (λ_=>Ok.get aa o λg f=>Wg (ret g f)) λ_=>next λ_=>s) λ_=>next λ_=>s
  have s:(pg h.p i).k=1->szA h.w p<=smC h.c:=by intro e;rw[A]at e;rw[e]at k1;cases k1
  refine Ok.get v y λL B=>Wp (λ_=>Wp (λ_=>Ok.get aa o λg f=>Wg (ret g f)) λ_=>next s) λ_=>next s
def Xmn{N:Nat}(hN:NB N){h:Wm}(hb:HB h){i:Int}(j:0<=i)(k:i<h.p.length){l:List Int}(o:l.length<=64)(f:∀a∈l,Qam N h a=some (hdA h.w a,0)/\a≠0):
 Ok (QfU N h i l) λr=>r=0->Xdb h i l:=by have g:=hN;unfold NB at g;have:=XgG hN hb j k l aa f N 0 aa aa;refine IY this (λa q=>Wg λe=>absurd e q) λ_ q=>Wg λ_=>?_;assumption
def Xfr{N:Nat}{h:Wm}(i:Int)(l:List Int)(k:Int)(e:0<=k)(f:k<l.length)(x:Int)(g:x<=256):∀(n:Nat) (w:Int) (u:List Bool),0<=w->(x-w).toNat<n->u.length<=1000->Ok (Qb0 N h i l k x n w u) λr=>r.length=u.length
 |0,w,u,_,s,_=>by omega
 |n+1,w,u,z,s,j=>by
  refine Wp (λo=>?_) λ_=>Wg rfl;have o:w<x:=Ww o;refine Ok.get e f λp hp=>?_;rw[Xd (n:=w+1) aa aa];have next:=Xfr (N:=N) (h:=h) i l k e f x g n (w+1) u aa aa j
  refine Wp (λv=>?_) λ_=>next
  refine WU aa (Wp (λy=>?_) λ_=>next);refine Ok.get (Ww v) (Ww y) λq A=>?_;refine(Xfr i l k e f x g n (w+1) _ aa aa (by rw[WO];exact j)).mono λr B=>?_;simp_all
def Xja{N:Nat}(hN:NB N){h:Wm}(hb:HB h)(i:Int)(l:List Int)(q:l.length<=100000):∀(n:Nat) (k:Int) (u:List Bool),0<=k->k<=l.length->(l.length-k).toNat<n->u.length<=1000->Ok (Qd0 N h i l n k u) λr=>r.length=u.length
 |0,k,u,_,_,s,_=>by omega
 |n+1,k,u,j,z,s,v=>by
  refine Wp (λe=>?_) λ_=>Wg rfl;have e:k<l.length:=Ww e;have f:=hN;unfold NB at f;refine Ok.get j e λp hp=>WI (Xes hN hb p) λy A B=>?_;rw[X5,Xa];have D:=Xmj y.1;have next:∀x:Int,x<=256->Ok (bnd (Qb0 N h i l k x N 0 u) λg=>Qd0 N h i l n (wI (k+1)) g) λr=>r.length=u.length:=by intro x w;refine WI (Xfr i l k j e x w N 0 u aa aa v) λr E G=>?_;rw[Xd (n:=k+1) aa aa];exact(Xja hN hb i l q n (k+1) r aa aa aa aa).mono λo H=>by omega
  exact Il (Wp (λ_=>next 1 aa) λ_=>next _ aa)
def Xfs(N:Nat){h:Wm}(e:(pg h.p 0).k≠3):∀(n:Nat) (i:Int),0<=i->i<h.p.length->h.p.length<=100000->i.toNat<n->Ok (QeD N h n i) λr=>0<=r/\r<h.p.length
 |0,i,_,_,_,j=>by omega
 |n+1,i,f,g,l,j=>by
  refine Ok.get f g λp hp=>Wp (λo=>?_) λ_=>Wg ⟨f,g⟩;have:i≠0:=by rintro rfl;exact e (by simp_all[YB,hp])
  rw[Xd aa aa];exact Xfs N e n (i-1) aa aa l aa
def Xjb{N:Nat}{h:Wm}(hb:HB h)(i:Int)(u:List Bool)(f:u.length<=1000):∀(n:Nat) (k:Int),0<=k->k<=u.length->(u.length-k).toNat<n->Ok (Qdf N h i u n k) λ_=>True
 |0,k,_,_,g=>by omega
 |n+1,k,j,l,g=>by
  refine Wp (λe=>?_) λ_=>Wg trivial;have e:k<u.length:=Ww e;rw[Xd (n:=k+1) aa aa];have next:=Xjb (N:=N) hb i u f n (k+1) aa aa aa
  refine Ok.get j e λp hp=>Wp (λ_=>WI (Xpa hb i k) λy _ _=>Wp (λ_=>?_) λ_=>next) λ_=>next
  rw[QgA,Xa];exact Wg trivial
def Xpb{N:Nat}(hN:NB N){h:Wm}(hb:HB h)(hp:Uv h){i:Int}(k:0<=i)(l:i<h.p.length):Ok (Qgn N h i) λ_=>True:=by
 have f:=hN;unfold NB at f;have g:=hb.2;have o:=Xo.1 hp.conf;refine WI (WI (Xfs N hp.first N i k l g aa) λr _ e=>Wg e) λr _ e=>?_;refine WI (Qin hN hb hp r e.1 e.2) λy _ q=>?_;refine WI (Q:=λr=>r.length<=1000) (WU aa (WI (Xja hN hb i y.1 aa N 0 _ aa aa aa (by grind)) λu _ j=>Wg ?_)) λu _ j=>?_
 .grind
 exact IY (Xjb hb i u j N 0 aa aa aa) (λ_ _=>Wg trivial) λ_ _=>Wg trivial
def Xmo{N:Nat}(hN:NB N){h:Wm}(hb:HB h)(hp:Uv h){i:Int}(g:0<=i)(j:i<h.p.length):Ok (Qgo N h i) λf=>f.Fault=0->∀r,Qan N h i=some r->Xdb h i r.1/\r.2=0:=by
 have main:Ok (bnd (Qan N h i) λl=>
  bif (l.2 != 0)then some (Uh.mk 3 i 0)
  else bnd (QfU N h i l.1) λo=>
  bif (o != 0)then some (Uh.mk 5 i o)
  else bnd (Qgn N h i) λq=>
  bif (q != 0)then some (Uh.mk 4 i q)
  else some (Uh.mk 0 0 0)) λf=>f.Fault=0->∀r,Qan N h i=some r->Xdb h i r.1/\r.2=0:=by
  refine WI (Qin hN hb hp i g j) λy v k=>?_
  refine Wp (λ_=>Wg λe=>by grind) λw=>?_
  refine WI (Xmn hN hb g j k.2 λa s=>⟨k.1.1.ev a s,by have:=(k.1.1.at_ a s).rng;omega⟩) λc _ z=>?_
  refine Wp (λ_=>Wg λe=>by grind) λA=>?_
  refine WI (Xpb hN hb hp g j) λd _ _=>?_
  refine Wp (λ_=>Wg λe=>by grind) λ_=>Wg λ_ r u=>?_
  rw[v]at u
  exact WG u▸⟨z (by simp_all),by simp_all⟩
 refine Il (Ok.get g j λp hp=>Wp (λ_=>Ok.get g j λp hp=>Wp (λ_=>Wg λe=>by grind) λ_=>main) λ_=>main)
def Xcf{N:Nat}{h:Wm}(l g:List Int×Int)(w:l.1.length<=4096)(y:g.1.length<=256)(hN:1000000<N)(v:Int)(j:0<=v)(r:v<l.1.length)(s:WC×Int):∀(n:Nat) (k:Int),0<=k->k<=g.1.length->(g.1.length-k).toNat<n->Ok (QaH N h l g v s n k) λe=>∀f,e=.ret f->f.Fault=6
 |0,k,_,_,z=>by omega
 |n+1,k,u,A,z=>by
  refine Wp (λo=>?_) λ_=>Wg λf e=>by grind
  have o:k<g.1.length:=Ww o;rw[Xd (n:=k+1) aa aa];have next:=Xcf (N:=N) (h:=h) l g w y hN v j r s n (k+1) aa aa aa
  rw[Kz,Xa];refine Wp (λ_=>Ok.get u o λp hp=>Wp (λ_=>Ok.get u o λp hp=>?_) λ_=>next) λ_=>next
  rw[YQ p aa aa,Xa];refine Wp (λ_=>Ok.get j r λq B=>?_) λ_=>next
  rw[J4,Xa];exact Wg λf e=>by grind
def Xcg{N:Nat}(hN:NB N){h:Wm}(hb:HB h)(g:List Int×Int)(r:g.1.length<=4096):∀(n:Nat) (k:Int),0<=k->k<=g.1.length->(g.1.length-k).toNat<n->Ok (Qcf N h g n k) λe=>∀f,e=.ret f->f.Fault=6
 |0,k,_,_,s=>by omega
 |n+1,k,l,y,s=>by
  have o:=hN;unfold NB at o;refine Wp (λj=>?_) λ_=>Wg λf e=>by cases e
  have j:k<g.1.length:=Ww j;rw[Xd (n:=k+1) aa aa];refine Ok.get l j λp hp=>WI (XaJ hN hb p) λu _ _=>Ok.get l j λp hp=>WI (Xkq hN hb p) λv _ w=>?_;refine IY (Xcf g v r w aa k l j u N 0 aa aa aa) (λa q=>Wg λf e=>?_) λ_ _=>Xcg hN hb g r n (k+1) aa aa aa;simp_all
def XgH{N:Nat}(hN:NB N){h:Wm}(hb:HB h):Ok (Qfd N h) λ_=>True:=by have e:=hN;unfold NB at e;refine WI (Z0 hN hb) λy _ f=>?_;have:=f.1.len;exact IY (Xcg hN hb y f.1.len N 0 aa aa aa) (λ_ _=>Wg trivial) λ_ _=>Wg trivial
def XgI{N:Nat}(hN:NB N){h:Wm}(hb:HB h)(hp:Uv h):∀(n:Nat) (i:Int),0<=i->i<=h.p.length->(h.p.length-i).toNat<n->Ok (Qb6 N h n i) λe=>match e with|.ret f=>f.Fault≠0|.nxt _=>∀j,i<=j->j<h.p.length->∀r,Qan N h j=some r->Xdb h j r.1/\r.2=0
 |0,i,_,_,l=>by omega
 |n+1,i,o,w,l=>by
  have q:=hb.2;refine Wp (λg=>?_) λg=>Wg λj s k=>?_;rotate_left
  .grind
  have g:i<h.p.length:=Ww g;refine WI (Xmo hN hb hp o g) λf _ y=>Wp (λu=>Wg (by simp_all)) λu=>?_;rw[Xd aa aa];refine(XgI hN hb hp n (i+1) aa aa aa).mono λe v=>?_;cases e with
  |ret f=>omega
  |nxt _=>
   intro j s k;by_cases z:j=i
   .grind
   exact v j aa k
def XgJ{N:Nat}{h:Wm}(g:h.p.length<=100000):∀(n:Nat) (c i:Int),0<=i->i<=h.p.length->(h.p.length-i).toNat<n->Ok (Qb7 N h n c i) λ_=>True
 |0,c,i,_,_,j=>by omega
 |n+1,c,i,f,l,j=>by
  refine Wp (λe=>?_) λ_=>Wg trivial;have e:i<h.p.length:=Ww e;rw[Xd (n:=i+1) aa aa];have next:=λk=>XgJ (N:=N) g n k (i+1) aa aa aa
  exact Ok.get f e λp hp=>Wp (λ_=>Ok.get f e λp hp=>Wp (λ_=>next _) λ_=>next _) λ_=>next _
structure Oz(N:Nat)(h:Wm):Prop where
 prop:Uv h
 small:∀j:Int,0<=j->j<h.p.length->∀r,Qan N h j=some r->Xdb h j r.1/\r.2=0
def KA{N:Nat}(hN:NB N){h:Wm}(hb:HB h):Ok (Qbt N h) λb=>b=true->Oz N h:=by
 have g:=hN;unfold NB at g;have j:=hb.2;refine WI (Q:=λf=>f.Fault=0->Oz N h) (WI (YM (N:=N) aa hb.1 hb.2) λb eb hp=>Wp (λ_=>Wg λe=>by cases e) λk=>?_) λf _ o=>Wg λe=>?_
 .have hp:=hp (by simpa using k);refine IY (XgI hN hb hp N 0 aa aa aa) (λa q=>Wg λe=>absurd e q) λ_ q=>?_;have l:Oz N h:=⟨hp,q⟩
  refine WI (XgH hN hb) λf _ _=>Wp (λ_=>Wg λ_=>l) λ_=>?_;exact WI (XgJ j N 0 0 aa aa aa) λc _ _=>Wp (λ_=>Wg λ_=>l) λ_=>Wg λ_=>l
 simp_all
def Oz.sz{N:Nat}{h:Wm}(e:Oz N h){l:List Int}(g:Io N h l){a:Int}(j:a∈l)(o:(pg h.p (pgi h.c a)).k=1):szA h.w a<=h.c.W / 4:=by have⟨r,q,s⟩:=g.page a j;have f:=g.obj.at_ a j;have⟨_,u,v,_⟩:=KP e.prop.conf f.rng;have:=(e.small _ u (by have:=e.prop.pages;omega) r q).1 o a s;unfold smC at this;omega
def Xev{N:Nat}(l:List Int)(g:l.length<=100000000)(y:List Int×Int)(h:y.1.length<=4096)(hN:1000000<N):∀(n:Nat) (k:Int),0<=k->k<=l.length->(l.length-k).toNat<n->Ok (QaM N l y n k) λ_=>True
 |0,k,_,_,j=>by omega
 |n+1,k,f,o,j=>by
  refine Wp (λe=>?_) λ_=>Wg trivial;have e:k<l.length:=Ww e;rw[Xd (n:=k+1) aa aa];have next:=Xev (N:=N) l g y h hN n (k+1) aa aa aa
  refine Ok.get f e λp hp=>Wp (λ_=>Ok.get f e λp hp=>?_) λ_=>next
  rw[YQ p aa aa,Xa];exact Wp (λ_=>Wg trivial) λ_=>next
def J5{N:Nat}(hN:NB N){h:Wm}(hb:HB h){l:List Int}(p:l.length<=1000000):Ok (Qbu N h l) λb=>b=true->Oz N h:=by have f:=hN;unfold NB at f;refine WI (KA hN hb) λb _ g=>Wp (λ_=>Wg λe=>by grind) λk=>?_;have j:=g (by simp_all);refine WI (Z0 hN hb) λy _ o=>?_;exact IY (Xev l aa y o.1.len aa N 0 aa aa aa) (λ_ _=>Wg λ_=>j) λ_ _=>Wg λ_=>j
def Xmp(d:WC):Vx d % 4=1:=by have e:ZN .u64 (wU d.Map) 16=wU (wU d.Map*65536):=rfl;unfold Vx;grind[Xc3]
def Xpc(ws:List Int)(a:Int)(h:wd ws a % 4=2):szA ws a=1:=by
 have:okH (wd ws a)=false:=by
  unfold okH;have f:=Xmp (Xco (wd ws a));have:(Vx (Xco (wd ws a))==wd ws a)=false:=by rw[WZ];intro e;rw[e]at f;omega
  rw[this,Bool.and_false]
 unfold szA hdA ZX;simp_all
structure Ot(h0:Wm)(l:List Int)(w:WE)(O:Int->Prop)(s:Int->Int):Prop where
 old:∀a∈l,O a/\s a=szA h0.w a
 queue:∀a∈w.q,O a
 fit:∀a,O a->4096<=a/\1<=s a/\a+s a<=4096+w.h.w.length/\szA w.h.w a<=s a
 apart:∀a b,O a->O b->a≠b->a+s a<=b\/b+s b<=a
 taken:∀a,O a->∀j∈w.t,a+s a<=Xj h0.c j (pg w.h.p j).u\/Xj h0.c (j+1) 0<=a
 free:∀a,O a->∀j:Int,0<=j->j<w.h.p.length->(pg w.h.p j).k=0->a+s a<=Xj h0.c j 0\/Xj h0.c (j+1) 0<=a
structure CI(h0:Wm)(l:List Int)(w:WE):Prop where
 conf:w.h.c=h0.c
 wlen:w.h.w.length=h0.w.length
 plen:w.h.p.length=h0.p.length
 spc:w.h.s=h0.s
 old:w.o.Sublist l
 tk:∀j∈w.t,0<=j/\j<w.h.p.length/\(pg w.h.p j).k=1/\0<=(pg w.h.p j).u/\(pg w.h.p j).u<=h0.c.W
 tnd:w.t.Nodup
 knd:∀a∈l,(pg w.h.p (pgi h0.c a)).k=(pg h0.p (pgi h0.c a)).k
 qnd:w.q.Nodup
 obj:∃O s,Ot h0 l w O s
def Xbe:∀(n:Nat) (a:Int) (l:List Int),l.Nodup->(∀x∈l,a<=x/\x<a+n)->l.length<=n
 |0,a,l,_,h=>by
  cases l with
  |nil=>simp
  |cons x l=>have:=h x ab;omega
 |n+1,a,l,e,h=>by
  by_cases k:a+(n:Int)∈l
  .have g:=Xbe n a (l.erase (a+(n:Int))) (e.erase _) λx f=>by have j:=(List.Nodup.mem_erase_iff e).1 f;have o:=h x j.2;omega
   simp_all
  have g:=Xbe n a l e λx f=>by grind
  omega
section
variable {N:Nat}{h0:Wm}{l:List Int}
def CI.ql{w:WE}(hb:HB h0)(e:CI h0 l w):w.q.length<=100000:=by
 have⟨O,s,f⟩:=e.obj;have:=Xbe w.h.w.length 4096 w.q e.qnd λx g=>by have:=f.fit x (f.queue x g);omega
 have:=hb.1;have:=e.wlen;omega
def CI.tl{w:WE}(hb:HB h0)(e:CI h0 l w):w.t.length<=100000:=by
 have:=Xbe w.h.p.length 0 w.t e.tnd λx f=>by have:=e.tk x f;omega
 have:=hb.2;have:=e.plen;omega
def Xew{w:WE}(f:w.t.length<=100000)(i:Int):∀(n:Nat) (k:Int),0<=k->k<=w.t.length->(w.t.length-k).toNat<n->Ok (QdC N w i n k) λ_=>True
 |0,k,_,_,g=>by omega
 |n+1,k,h0,h,g=>by refine Wp (λe=>?_) λ_=>Wg trivial;have e:k<w.t.length:=Ww e;rw[Xd (n:=k+1) aa aa];exact Ok.get h0 e λp hp=>Wp (λ_=>Wg trivial) λ_=>Xew f i n (k+1) aa aa aa
def Xch(hN:NB N){w:WE}(j:w.t.length<=100000)(i:Int):Ok (QdD N w i) λb=>b=true->0<=i/\i<w.h.p.length:=by
 unfold NB at hN;refine Wp (λ_=>Wg λe=>by grind) λf=>Wp (λ_=>Wg λe=>by grind) λg=>?_;have f:0<=i:=by have:=WP f;omega
 have g:i<w.h.p.length:=by have:=WP g;omega
 refine Ok.get f g λp hp=>Wp (λ_=>Wp (λ_=>WI (Q:=λ_=>True) ?_ λy _ _=>Wg λ_=>⟨f,g⟩) λ_=>Wg λe=>aa) λ_=>Wg λe=>by omega
 exact IY (Xew j i N 0 aa aa aa) (λ_ _=>Wg trivial) λ_ _=>Wg trivial
structure OB(h0:Wm)(w:WE)(n:Int)(w':WE)(at_ j u:Int):Prop where
 rng:0<=j/\j<w.h.p.length
 fit:0<=u/\u+n<=h0.c.W
 addr:at_=Xj h0.c j u
 conf:w'.h.c=w.h.c
 words:w'.h.w=w.h.w
 space:w'.h.s=w.h.s
 old:w'.o=w.o
 queue:w'.q=w.q
 scanned:w'.d=w.d
 plen:w'.h.p.length=w.h.p.length
 other:∀i,0<=i->i≠j->pg w'.h.p i=pg w.h.p i
 this:(pg w'.h.p j).k=1/\(pg w'.h.p j).u=u+n
 sp:((pg w'.h.p j).s=(pg w.h.p j).s/\(pg w'.h.p j).P=(pg w.h.p j).P)\/((pg w'.h.p j).s=1-w.h.s/\(pg w'.h.p j).P=0)
 way:(j∈w.t/\w'.t=w.t/\u=(pg w.h.p j).u)\/((pg w.h.p j).k=0/\w'.t=w.t++[j]/\u=0)
def XgK(hN:NB N)(hb:HB h0)(hp:Uv h0){w:WE}(H:CI h0 l w){n:Int}(hn:1<=n)(hn2:n<=h0.c.W):Ok (Qc6 N w n) λr=>r.2.2=true->∃j u,OB h0 w n r.1 r.2.1 j u:=by
 have S:=hN;unfold NB at S;have hpl:=H.plen;have hv:=Xo.1 hp.conf;have htl:=H.tl hb;have hpp:=hp.pages;have new:Ok (bnd (Qby N w.h.p 1) λE=>
  bif (decide (E<0))then some ((WE.mk (Wm.mk (WW.mk 0 0) [] [] 0 0) [] [] [] 0 (WQ.mk 0 0 0 0 0 0)),0,false)
  else bnd (QbR N w.h.p E (wI (1-w.h.s))) λO=>
  grd (w.t.length*8<=140737488355328) <|
  grd ((w.t.length+1)*8<=140737488355328) <|
  bnd (Xb O.1 E) λU=>
  bnd (Xb O.1 E) λV=>
  bnd (Xb O.1 E) λI=>
  some ((WE.mk (Wm.mk w.h.c w.h.w (O.1.set E.toNat (Wv.mk I.k I.s (wI (V.u+n)) I.P)) w.h.s w.h.b) w.o (w.t++[E]) w.q w.d w.r),(wU (wI ((wI (4096+(wI (E*w.h.c.W))))+U.u))),true)) λr=>r.2.2=true->∃j u,OB h0 w n r.1 r.2.1 j u:=by
  refine WI (Zl 1 aa aa) λj _ L=>Wp (λ_=>Wg λe=>by grind) λhj0=>?_
  have hr:RunOK w.h.p j 1:=by
   rcases L with rfl|L
   .grind
   .omega
  have hsp:=hp.space
  have hws:=H.spc
  rw[Xd (n:=1-w.h.s) aa aa]
  refine WI (Xc9 j (1-w.h.s) aa aa) λy _ hy=>?_
  have Y:=hy.2.2 hr aa aa
  obtain⟨v,q1,q2,q3⟩:=hy.1 Y
  have hk:=hr.2.2.2 0 aa aa
  rw[Int.add_zero]at hk
  have f:j<y.1.length:=aa
  refine WU aa (WU aa (Ok.get v f λp1 J=>Ok.get v f λp2 z=>Ok.get v f λp3 K=>Wg λ_=>?_))
  have g1:=YB J
  have g2:=YB z
  have g3:=YB K
  rw[q3 j v,Wq rfl]at g1 g2 g3
  subst g1;subst g2;subst g3
  have hm:=XZ hp.conf (i:=j) v aa
  refine⟨j,0,⟨⟨v,aa⟩,⟨aa,aa⟩,?_,rfl,rfl,rfl,rfl,rfl,rfl,?_,λi R B=>?_,?_,.inr ?_,.inr ⟨hk,rfl,rfl⟩⟩⟩
  .show wU (wI (wI (4096+wI (j*w.h.c.W))+0))=_
   rw[H.conf,Xd (n:=j*h0.c.W) aa aa,Xd (n:=4096+j*h0.c.W) aa aa,Xd aa aa,Xw aa aa]
   rfl
  .simp_all
  .show pg (y.1.set _ _) i=_
   rw[ZZ _ v f R,Wk B,q3 i R,Wk B,Wk aa]
  .show(pg (y.1.set _ _) j).k=1/\(pg (y.1.set _ _) j).u=_
   rw[ZZ _ v f v,Wq rfl]
   refine⟨rfl,?_⟩
   show wI (0+n)=0+n
   rw[Xd aa aa]
  .show(pg (y.1.set _ _) j).s=_/\(pg (y.1.set _ _) j).P=_
   rw[ZZ _ v f v,Wq rfl]
   simp
 refine WU aa (Il (Wp (λht=>?_) λ_=>new));have ht:0<(w.t.length:Int):=Ww ht;rw[Xd (n:=(w.t.length:Int)-1) aa aa];refine Ok.get aa aa λj L=>?_;have M:=YH L;have⟨A,G,t2,t3,t4⟩:=H.tk j M;refine Ok.get A G λp z=>?_;have g:=YB z;subst g;rw[Xd (n:=(pg w.h.p j).u+n) aa aa];refine Wp (λD=>?_) λ_=>new;have D:(pg w.h.p j).u+n<=w.h.c.W:=Ww D;rw[H.conf]at D;refine Ok.get aa aa λj' Z=>?_;obtain rfl:j=j':=WG (L.symm.trans Z);refine Ok.get A G λp1 J=>Ok.get A G λp2 z=>Ok.get A G λp3 K=>Wg λ_=>?_;have g1:=YB J;have g2:=YB z;have g3:=YB K;subst g1;subst g2;subst g3;have hm:=XZ hp.conf (i:=j) A aa;refine⟨j,(pg w.h.p j).u,⟨⟨A,G⟩,⟨t3,D⟩,?_,rfl,rfl,rfl,rfl,rfl,rfl,?_,λi R B=>?_,?_,.inl ?_,.inl ⟨M,rfl,rfl⟩⟩⟩
 .show wU (wI (wI (4096+wI (j*w.h.c.W))+_))=_;rw[H.conf,Xd (n:=j*h0.c.W) aa aa,Xd (n:=4096+j*h0.c.W) aa aa,Xd aa aa,Xw aa aa];rfl
 .simp
 .simp[ZZ,A,G,R,Wk,B]
 .rw[ZZ _ A G A,Wq rfl];refine⟨t2,?_⟩;rw[Xd aa aa]
 rw[ZZ _ A G A,Wq rfl];simp
end
def Xra{a b:Int}(e:4096<=a)(hb:4096<=b)(h:ix a=ix b):a=b:=by unfold ix at h;omega
def Xh9{ws:List Int}{x a v:Int}(f:inW ws x)(g:4096<=a):wd (ws.set (ix x) v) a=if a=x then v else wd ws a:=by
 unfold wd;have j:ix x<ws.length:=by unfold inW at f;unfold ix;omega
 rw[Wr,Wr,IC];by_cases h:a=x
 .simp_all
 rw[Wk h,Wk];intro e;exact h (Xra g f.1 e.symm)
def Xpd{ws:List Int}{f a x:Int}{k:Nat}(g:Yp ws a k)(j:Yp ws f k)(o:4096<=x):wd (ovr ws ((ws.drop (ix a)).take k) (ix f)) x=if f<=x/\x<f+k then wd ws (a+(x-f))else wd ws x:=by
 have e:((ws.drop (ix a)).take k).length=k:=by unfold Yp at g;simp[ix];omega
 unfold wd;rw[Xc7 (by rw[e];unfold Yp at j;unfold ix;omega),e];unfold Yp at g j;by_cases h:f<=x/\x<f+k
 .rw[Wq h,Wq (by unfold ix;omega),Wr,Un,Wq (by unfold ix;omega),UO,←Wr];congr 1;unfold ix;omega
 rw[Wk h,Wk (by unfold ix;omega)]
def Xcw{ws:List Int}{f a:Int}{k:Nat}(g:Yp ws a k)(h:Yp ws f k):(ovr ws ((ws.drop (ix a)).take k) (ix f)).length=ws.length:=by
 have e:((ws.drop (ix a)).take k).length=k:=by unfold Yp at g;simp[ix];omega
 exact ZW (by rw[e];unfold Yp at h;unfold ix;omega)
def Xbf{c:WW}(f:X8 c=true){i j o p:Int}(h:i<j)(g:o<=c.W)(k:0<=p):Xj c i o<=Xj c j p:=by
 have q:=Xo.1 f;have:(i+1)*c.W<=j*c.W:=Ut aa aa;have e:(i+1)*c.W=i*c.W+c.W:=by rw[IF,I9]
 unfold Xj;omega
section
variable {N:Nat}{h0:Wm}{l:List Int}
structure OF(h0:Wm)(l:List Int)(w w':WE)(O:Int->Prop)(s:Int->Int):Prop where
 ci:CI h0 l w'
 ob:∃O' s',Ot h0 l w' O' s'/\∀a,O a->O' a/\s' a=s a
 sc:w'.d=w.d
 ql:w.q.length<=w'.q.length
def SameK(e f:List Wv):Prop:=f.length=e.length/\∀i,0<=i->(pg f i).k=(pg e i).k/\(pg f i).u=(pg e i).u
def SameK.refl(ps:List Wv):SameK ps ps:=⟨rfl,λ_ _=>⟨rfl,rfl⟩⟩
def SameK.set{o f:List Wv}(h:SameK o f){i:Int}(h0:0<=i)(p:i<f.length)(sp pins:Int):SameK o (f.set i.toNat ⟨(pg f i).k,sp,(pg f i).u,pins⟩):=by
 refine⟨by rw[WO];exact h.1,λj g=>?_⟩;rw[ZZ _ h0 p g];split
 .rename_i e;subst e;exact h.2 j g
 exact h.2 j g
def Xia(w:WE)(a:Int){ps:List Wv}(h:ps.length<=100000):∀(n:Nat) (i:Int) (e:List Wv),0<=i->i<=ps.length->(ps.length-i).toNat<n->SameK ps e->Ok (QaR N w a n i e) λr=>SameK ps r
 |0,i,e,_,_,j,_=>by omega
 |n+1,i,e,h0,o,j,g=>by have q:=g.1;refine WU aa (Wp (λf=>?_) λ_=>Wg g);have f:i<e.length:=Ww f;rw[Xd (n:=i+1) aa aa];refine Ok.get h0 f λp hp=>Wp (λ_=>Ok.get h0 f λp hp=>?_) λ_=>Wg g;have k:=YB hp;subst k;exact Xia w a h n (i+1) _ aa aa aa (g.set h0 f _ _)
def CI.pages{w:WE}(e:CI h0 l w){r:List Wv}(h:SameK w.h.p r):CI h0 l {w with h:={w.h with p:=r}}:=by
 have⟨O,s,f⟩:=e.obj;refine⟨e.conf,e.wlen,h.1.trans e.plen,e.spc,e.old,λj k=>?_,e.tnd,λa g=>?_,e.qnd,?_⟩
 .have:=e.tk j k;have o:=h.2 j this.1;rw[o.1,o.2,h.1];omega
 .have z:=e.knd a g;by_cases hp:0<=pgi h0.c a
  .rw[(h.2 _ hp).1];omega
  have u:∀q:List Wv,pg q (pgi h0.c a)=pg q 0:=λq=>by unfold pg;grind
  rw[u,(h.2 0 aa).1,←u,z]
 refine⟨O,s,f.old,f.queue,f.fit,f.apart,λa g j k=>?_,λa g j v o y=>?_⟩
 .rw[(h.2 j (e.tk j k).1).2];exact f.taken a g j k
 rw[(h.2 j v).1]at y;exact f.free a g j v (by rw[←h.1];omega) y
def Ot.pages{w:WE}{O:Int->Prop}{s:Int->Int}(r:CI h0 l w)(e:Ot h0 l w O s){g:List Wv}(h:SameK w.h.p g):Ot h0 l {w with h:={w.h with p:=g}} O s:=by
 refine⟨e.old,e.queue,e.fit,e.apart,λa f j k=>?_,λa f j o u q=>?_⟩
 .rw[(h.2 j (r.tk j k).1).2];exact e.taken a f j k
 rw[(h.2 j o).1]at q;exact e.free a f j o (by rw[←h.1];omega) q
def CI.push{w:WE}{O:Int->Prop}{s:Int->Int}(e:CI h0 l w)(g:Ot h0 l w O s){a:Int}(o:O a)(p:a∉w.q)(k:WQ):OF h0 l w {w with q:=w.q++[a],r:=k} O s:=by
 have j:Ot h0 l {w with q:=w.q++[a],r:=k} O s:=by
  refine⟨g.old,λx f=>?_,g.fit,g.apart,g.taken,g.free⟩;rcases WH.1 f with f|f
  .exact g.queue x f
  rw[US.1 f];exact o
 refine⟨⟨e.conf,e.wlen,e.plen,e.spc,e.old,e.tk,e.tnd,e.knd,?_,⟨O,s,j⟩⟩,⟨O,s,j,λa h=>⟨h,rfl⟩⟩,rfl,?_⟩
 .rw[ID];refine⟨e.qnd,ab,λx f y u=>?_⟩;rw[US.1 u];rintro rfl;exact p f
 simp
end
section
variable {N:Nat}{h0:Wm}{l:List Int}
def Xmq(hp:Uv h0){w H:WE}{O:Int->Prop}{s:Int->Int}(y:CI h0 l w)(k:Ot h0 l w O s){a n at_ j u:Int}(p:a∈l)(hn:n=szA w.h.w a)(I:1<=n)(o:OB h0 w n H at_ j u)(v:Int):
 Yp w.h.w a n.toNat/\Yp w.h.w at_ n.toNat/\(∀x,O x->x+s x<=at_\/Xj h0.c (j+1) 0<=x)/\¬O at_/\(∀x,O x->x+s x<=at_\/at_+n<=x)/\(∀x,4096<=x->wd ((ovr w.h.w ((w.h.w.drop (ix a)).take n.toNat) (ix at_)).set (ix a) v) x=if x=a then v else if at_<=x/\x<at_+n then wd w.h.w (a+(x-at_))else wd w.h.w x):=by
 have⟨q,J⟩:=k.old a p;have⟨K,L,M,R⟩:=k.fit a q;have S:=y.wlen;have U:=hp.words;have V:=y.plen;have z:=hp.pages;have⟨A,Y⟩:=o.rng;have hm:=XZ hp.conf (i:=j) A aa;have⟨u0,u1⟩:=o.fit;have g:at_=Xj h0.c j u:=o.addr;have B:at_=4096+j*h0.c.W+u:=g;have r:at_+n<=Xj h0.c (j+1) 0:=by
  have e:(j+1)*h0.c.W=j*h0.c.W+h0.c.W:=by rw[IF,I9]
  unfold Xj;omega
 have D:Yp w.h.w a n.toNat:=by unfold Yp;omega
 have E:Yp w.h.w at_ n.toNat:=by unfold Yp;omega
 have away:∀x,O x->x+s x<=at_\/Xj h0.c (j+1) 0<=x:=by
  intro x f;rcases o.way with⟨g1,g2,g3⟩|⟨g1,g2,g3⟩
  .have:=k.taken x f j g1;rw[←g3,←g]at this;exact this
  have:=k.free x f j A Y g1;rw[g3]at g;rw[g];exact this
 have fresh:¬O at_:=by intro f;have:=away at_ f;have:=(k.fit at_ f).2.1;omega
 have Z:∀x,O x->x+s x<=at_\/at_+n<=x:=λx f=>by have:=away x f;omega
 have G:(ovr w.h.w ((w.h.w.drop (ix a)).take n.toNat) (ix at_)).length=w.h.w.length:=Xcw D E;have hwd:∀x,4096<=x->wd ((ovr w.h.w ((w.h.w.drop (ix a)).take n.toNat) (ix at_)).set (ix a) v) x=if x=a then v else if at_<=x/\x<at_+n then wd w.h.w (a+(x-at_))else wd w.h.w x:=by intro x f;rw[Xh9 (by unfold inW;omega) f,Xpd D E f];have:(n.toNat:Int)=n:=aa;rw[this]
 simp_all
def Xmr(hp:Uv h0)(Y:∀a∈l,(pg h0.p (pgi h0.c a)).k=1\/(pg h0.p (pgi h0.c a)).k=2)(hpr:∀a∈l,0<=pgi h0.c a){w A:WE}{O:Int->Prop}{s:Int->Int}(B:CI h0 l w)(G:Ot h0 l w O s){a n at_ j u:Int}(Z:a∈l)(hn:n=szA w.h.w a)(hn1:1<=n)(g:OB h0 w n A at_ j u)(v:Int)(hv:v % 4=2)(rp:WQ):
 Yp w.h.w a n.toNat/\Yp w.h.w at_ n.toNat/\4096<=at_/\at_<=200000/\OF h0 l w {A with h:={A.h with w:=(ovr w.h.w ((w.h.w.drop (ix a)).take n.toNat) (ix at_)).set (ix a) v},q:=A.q++[at_],r:=rp} O s:=by
 have⟨hOa,hsa⟩:=G.old a Z;have⟨fa1,fa2,fa3,fa4⟩:=G.fit a hOa;have hwl:=B.wlen;have hw0:=hp.words;have hpl:=B.plen;have hpl0:=hp.pages;have⟨r1,r2⟩:=g.rng;have hm:=XZ hp.conf (i:=j) r1 aa;have⟨u0,u1⟩:=g.fit;have hat:at_=Xj h0.c j u:=g.addr;have hat1:at_=4096+j*h0.c.W+u:=hat;have hend:at_+n=Xj h0.c j (u+n):=by rw[hat];unfold Xj;omega
 have⟨i1,i2,away,fresh,L,M⟩:=Xmq hp B G Z hn hn1 g v;have hne:a≠at_:=λe=>fresh (e▸hOa);have hlen:(ovr w.h.w ((w.h.w.drop (ix a)).take n.toNat) (ix at_)).length=w.h.w.length:=Xcw i1 i2;have H:((ovr w.h.w ((w.h.w.drop (ix a)).take n.toNat) (ix at_)).set (ix a) v).length=w.h.w.length:=by rw[WO,hlen]
 have hsz:∀x,O x->szA ((ovr w.h.w ((w.h.w.drop (ix a)).take n.toNat) (ix at_)).set (ix a) v) x<=s x:=by
  intro x f;have hf:=G.fit x f;by_cases hxa:x=a
  .have:szA ((ovr w.h.w ((w.h.w.drop (ix a)).take n.toNat) (ix at_)).set (ix a) v) x=1:=by apply Xpc;rw[M x hf.1,Wq hxa];exact hv
   omega
  have:szA ((ovr w.h.w ((w.h.w.drop (ix a)).take n.toNat) (ix at_)).set (ix a) v) x=szA w.h.w x:=by unfold szA hdA;rw[M x hf.1,Wk hxa,Wk];have:=L x f;omega
  omega
 have R:szA ((ovr w.h.w ((w.h.w.drop (ix a)).take n.toNat) (ix at_)).set (ix a) v) at_=n:=by refine Eq.trans ?_ hn.symm;unfold szA hdA;rw[M at_ aa,Wk (λe=>hne e.symm),Wq aa];rw[show a+(at_-at_)=a by omega]
 have I:=g.this;have hk0:∀i,0<=i->(pg A.h.p i).k=0->i≠j/\(pg w.h.p i).k=0:=by
  intro i D hk;have z:i≠j:=by rintro rfl;rw[I.1]at hk;cases hk
  rw[g.other i D z]at hk;exact⟨z,hk⟩
 have htk:∀i∈A.t,i=j\/(i∈w.t/\i≠j):=by
  intro i D;by_cases z:i=j
  .exact .inl z
  right;refine⟨?_,z⟩;rcases g.way with⟨_,g2,_⟩|⟨_,g2,_⟩
  .rwa[g2]at D
  rw[g2]at D;rcases WH.1 D with D|D
  .exact D
  exact absurd (US.1 D) z
 have hqe:A.q=w.q:=g.queue;refine⟨i1,i2,aa,aa,?_⟩;have hO:Ot h0 l {A with h:={A.h with w:=(ovr w.h.w ((w.h.w.drop (ix a)).take n.toNat) (ix at_)).set (ix a) v},q:=A.q++[at_],r:=rp} (λx=>O x\/x=at_) (λx=>if x=at_ then n else s x):=by
  have ne:∀x,O x->x≠at_:=λx f e=>fresh (e▸f);refine⟨λx f=>?_,λx f=>?_,λx f=>?_,λx y f J hxy=>?_,λx f i D=>?_,λx f i g1 g2 g3=>?_⟩
  .have⟨q1,q2⟩:=G.old x f;exact⟨.inl q1,by rw[Wk (ne x q1)];exact q2⟩
  .rcases WH.1 f with f|f
   .rw[hqe]at f;exact .inl (G.queue x f)
   exact .inr (US.1 f)
  .rw[H];rcases f with f|rfl
   .rw[Wk (ne x f)];have⟨f1,f2,f3,f4⟩:=G.fit x f;exact⟨f1,f2,f3,hsz x f⟩
   rw[Wq rfl,R];omega
  .rcases f with f|rfl
   .rcases J with J|rfl
    .rw[Wk (ne x f),Wk (ne y J)];exact G.apart x y f J hxy
    have:=L x f;omega
   rcases J with J|rfl
   .have:=L y J;omega
   exact absurd rfl hxy
  .rcases htk i D with rfl|⟨K,S⟩
   .rw[I.2];rcases f with f|rfl
    .have:=away x f;omega
    omega
   have⟨t1,t2,t3,t4,t5⟩:=B.tk i K;rw[g.other i t1 S];rcases f with f|rfl
   .rw[Wk (ne x f)];exact G.taken x f i K
   by_cases U:i<j
   .have:=Xbf hp.conf (o:=h0.c.W) (p:=u) U aa u0;have e:Xj h0.c (i+1) 0=Xj h0.c i h0.c.W:=by unfold Xj;rw[IF,I9];omega
    omega
   have:=Xbf hp.conf (i:=j) (j:=i) (o:=u+n) (p:=(pg w.h.p i).u) aa aa t4;omega
  have⟨k1,k2⟩:=hk0 i g1 g3;rcases f with f|rfl
  .rw[Wk (ne x f)];exact G.free x f i g1 (by rw[←g.plen];exact g2) k2
  by_cases U:i<j
  .right;have:=Xbf hp.conf (o:=h0.c.W) (p:=u) U aa u0;have e:Xj h0.c (i+1) 0=Xj h0.c i h0.c.W:=by unfold Xj;rw[IF,I9];omega
   omega
  left;have:=Xbf hp.conf (i:=j) (j:=i) (o:=u+n) (p:=0) aa aa aa;omega
 refine⟨⟨?_,?_,?_,?_,?_,λi D=>?_,?_,λx f=>?_,?_,⟨_,_,hO⟩⟩,⟨_,_,hO,λx f=>⟨.inl f,?_⟩⟩,g.scanned,?_⟩
 .exact g.conf.trans B.conf
 .exact H.trans B.wlen
 .exact g.plen.trans B.plen
 .exact g.space.trans B.spc
 .exact(by show A.o.Sublist l;rw[g.old];exact B.old)
 .show 0<=i/\i<A.h.p.length/\(pg A.h.p i).k=1/\0<=(pg A.h.p i).u/\(pg A.h.p i).u<=h0.c.W;rw[g.plen];rcases htk i D with rfl|⟨K,S⟩
  .rw[I.1,I.2];omega
  have:=B.tk i K;rw[g.other i this.1 S];exact this
 .show A.t.Nodup;rcases g.way with⟨_,g2,_⟩|⟨g1,g2,_⟩
  .rw[g2];exact B.tnd
  rw[g2,ID];refine⟨B.tnd,ab,λx f y J=>?_⟩;rw[US.1 J];rintro rfl;rw[(B.tk x f).2.2.1]at g1;cases g1
 .show(pg A.h.p _).k=_;have E:=B.knd x f;have V:=Y x f;by_cases z:pgi h0.c x=j
  .rw[z]at E V⊢;rw[I.1];rcases g.way with⟨g1,_,_⟩|⟨g1,_,_⟩
   .rw[(B.tk j g1).2.2.1]at E;exact E
   rw[g1]at E;rw[←E]at V;rcases V with h|h<;>cases h
  rw[g.other _ (hpr x f) z];exact E
 .show(A.q++[at_]).Nodup;rw[hqe,ID];refine⟨B.qnd,ab,λx f y J=>?_⟩;rw[US.1 J];rintro rfl;exact fresh (G.queue x f)
 .show(if x=at_ then n else s x)=s x;exact Wk (λe=>fresh (by rw[←e];exact f))
 simp_all
structure Start(N:Nat)(h0:Wm)(l:List Int):Prop where
 hb:HB h0
 good:l≠[]->Oz N h0
 prop:l≠[]->Uv h0
 st:Io N h0 l
def XgL(a:Int)(h0:0<=a)(e:a<4294967296):wU (wU (4*a)+2) % 4=2:=by rw[Xw (n:=4*a) aa aa,Xw aa aa];omega
def Kf{l:List Int}{a:Int}(h:l.contains a=false):a∉l:=by simp_all
def Zr{l:List Int}{a:Int}(h:l.contains a=true):a∈l:=by simp_all
def CI.wl{w:WE}(hb:HB h0)(e:CI h0 l w):w.h.w.length<=BIG:=by have:=hb.1;have:=e.wlen;unfold BIG;omega
def Xdc(hN:NB N)(z:Start N h0 l){w:WE}{O:Int->Prop}{s:Int->Int}(g:CI h0 l w)(o:Ot h0 l w O s)(a:Int):Ok (Qbb N w a) λr=>r.2.2=0->OF h0 l w r.1 O s:=by
 have S:=hN;unfold NB at S;have hb:=z.hb;have hql:=g.ql hb;have H:=g.wl hb;have hww:=g.wlen;have hpl:=g.plen;have same:OF h0 l w w O s:=⟨g,⟨O,s,o,λ_ h=>⟨h,rfl⟩⟩,rfl,Uj _⟩
 refine Wp (λ_=>Wg λ_=>same) λ_=>?_;rw[YQ a aa aa,Xa];refine Wp (λ_=>Wg λ_=>same) λR=>?_;have R:=Kf R;have hol:=g.old.length_le;have hsl:=z.st.len;rw[YQ a aa aa,Xa];refine Wp (λ_=>Wg λe=>by grind) λf=>?_;have f:a∈l:=g.old.subset (Zr (by simp_all));have I:l≠[]:=List.ne_nil_of_mem f;have hp:=z.prop I;have hg:=z.good I;have U:=z.st.obj.at_ a f;have hwd0:=hp.words;have hpg0:=hp.pages;have hvc:=Xo.1 hp.conf;have A:=U.rng;have⟨_,V,q1,_⟩:=KP hp.conf A;have J:inW w.h.w a:=by unfold inW;omega
 rw[YK H,Xa,Wq J,J1,Xa];have W:Qdl N w.h.c a=some (pgi h0.c a,pgo h0.c a,0):=by rw[J4,g.conf,hp.conf,Wk ab,Wq A];rfl
 rw[W,Xa];refine Wp (λ_=>Wg λ_=>same) λ_=>?_;refine Wp (λ_=>Wg λe=>by grind) λ_=>?_;refine Wp (λ_=>Wg λe=>by grind) λ_=>?_;refine WI (Xch hN (g.tl hb) _) λb _ _=>Wp (λ_=>?_) λ_=>?_
 .rw[Qek,Xc aa,Xc aa,Xa];exact Wg λ_=>g.push o (o.old a f).1 R _
 refine Ok.get V aa λp D=>Wp (λ_=>?_) λhk2=>?_
 .refine WU aa (Ok.get V aa λp D=>?_);have E:=YB D;subst E;rw[Xd (n:=pgi h0.c a+1) aa aa];refine WI (Xia w a (ps:=w.h.p) aa N (pgi h0.c a+1) _ aa aa aa ((SameK.refl _).set V aa _ _)) λqs _ K=>?_;rw[Qek,Xc (by grind),Xc (by grind),Xa];refine Wg λ_=>?_;have q:=λY=>(g.pages K).push (o.pages g K) (o.old a f).1 R Y;exact⟨(q _).ci,(q _).ob,(q w.r).sc,(q w.r).ql⟩
 have E:=YB D;have B:∀x∈l,(pg h0.p (pgi h0.c x)).k=1\/(pg h0.p (pgi h0.c x)).k=2:=λx Z=>(z.st.obj.at_ x Z).kind;have hpr:∀x∈l,0<=pgi h0.c x:=λx Z=>(KP hp.conf (z.st.obj.at_ x Z).rng).2.1;have hk1:(pg h0.p (pgi h0.c a)).k=1:=by
  rcases B a f with h|h
  .omega
  exfalso;rw[←g.knd a f,E]at h;grind
 have hsz:=hg.sz z.st f hk1;have hso:=(o.old a f).2;have hfit:=o.fit a (o.old a f).1;have G:=YY w.h.w a;rw[KY,Xa,X5,Xa];have e1:XF (ZX (w.h.w.getD (ix a) 0))=szA w.h.w a:=G.1;rw[e1];refine WI (XgK hN hb hp g (n:=szA w.h.w a) G.2.1 aa) λy _ hy=>Wp (λ_=>Wg λe=>by grind) λhy2=>?_;have⟨j,u,pq⟩:=hy (by grind);have q:=λv hv Y=>Xmr (n:=szA w.h.w a) hp B hpr g o f rfl G.2.1 pq v hv Y;have⟨i1,i2,a1,a2,_⟩:=q 2 rfl y.1.r;rw[pq.words];have en:szA w.h.w a=(((szA w.h.w a).toNat:Nat):Int):=aa;have L:=Xi4 (N:=N) H y.2.1 a (szA w.h.w a).toNat aa aa;rw[←en,Wq ⟨i1,i2⟩]at L;rw[L,Xa,XaI,Xa,Wk aa];have ol:=Xcw i1 i2;rw[KF (by grind) aa,Xa];have M:inW (ovr w.h.w ((w.h.w.drop (ix a)).take (szA w.h.w a).toNat) (ix y.2.1)) a:=by unfold inW;rw[ol];exact J
 rw[Wq M];have hqe:=pq.queue;refine WU (by grind) (WU (by grind) (Wg λ_=>?_));exact(q _ (XgL y.2.1 aa aa) _).2.2.2.2
end
section
variable {N:Nat}{h0:Wm}{l:List Int}
def Xbg(h:Wm)(y:List Int×Int)(j:h.p.length<=100000):∀(n:Nat) (i:Int) (e:List Wv),0<=i->i<=h.p.length->(h.p.length-i).toNat<n->SameK h.p e->Ok (QcB N h y n i e) λr=>SameK h.p r
 |0,i,e,_,_,k,_=>by omega
 |n+1,i,e,h0,q,k,g=>by
  have s:=g.1;refine WU aa (Wp (λf=>?_) λ_=>Wg g);have f:i<e.length:=Ww f;rw[Xd (n:=i+1) aa aa];have next:=Xbg h y j n (i+1) e aa aa aa g
  refine Ok.get h0 f λp hp=>Wp (λ_=>Wp (λ_=>Ok.get h0 f λp hp=>?_) λ_=>next) λ_=>next
  have o:=YB hp;subst o;exact Xbg h y j n (i+1) _ aa aa aa (g.set h0 f _ _)
def Xib{h:Wm}(hp:Uv h){a:Int}(f:IW h a){j:Int}(v:0<=j)(y:(pg h.p j).k=0):a+szA h.w a<=Xj h.c j 0\/Xj h.c (j+1) 0<=a:=by
 have⟨k,k1,k2,z,r⟩:=Xfq hp f;have⟨A,B,D,s,E⟩:=KP hp.conf f.rng;have u:=f.kind;by_cases g:j<pgi h.c a
 .have:=Xbf hp.conf (o:=h.c.W) (p:=pgo h.c a) g aa s;have e:Xj h.c (j+1) 0=Xj h.c j h.c.W:=by unfold Xj;rw[IF,I9];omega
  omega
 by_cases G:j=pgi h.c a
 .grind
 by_cases q:j<pgi h.c a+k
 .have:=r (j-pgi h.c a) aa aa;grind
 have:(pgi h.c a+k)*h.c.W<=j*h.c.W:=Ut aa aa;have H:Xj h.c (pgi h.c a+k) 0=4096+(pgi h.c a+k)*h.c.W+0:=rfl;have I:Xj h.c j 0=4096+j*h.c.W+0:=rfl;omega
def Xdd{h:Wm}(hb:HB h)(hp:Uv h){l:List Int}(g:Io N h l){w:WE}(z:w.h.c=h.c)(A:w.h.w=h.w)(e3:w.h.s=h.s)(k:SameK h.p w.h.p)(e4:w.o.Sublist l)(E:w.t=[])(G:w.q=[]):CI h l w:=by
 have B:Ot h l w (λa=>a∈l) (szA h.w):=by
  refine⟨λa e=>⟨e,rfl⟩,λa e=>(by simp_all),λa e=>?_,λa b e r D=>?_,λa e j v=>(by simp_all),λa e j f H y=>?_⟩
  .rw[A];have f:=g.obj.at_ a e;exact⟨f.rng.1,(YY h.w a).2.1,K2 hp f,Int.le_refl _⟩
  .have u:=g.obj.pw;rw[UL]at u;have⟨i,I,J⟩:=WM e;have⟨j,v,K⟩:=WM r;grind
  rw[(k.2 j f).1]at y;exact Xib hp (g.obj.at_ a e) f y
 refine⟨z,by grind,k.1,e3,e4,λj v=>(by simp_all),by simp_all,λa e=>?_,by simp_all,⟨_,_,B⟩⟩;exact(k.2 _ (KP hp.conf (g.obj.at_ a e).rng).2.1).1
def zW:WE:=⟨zH,[],[],[],0,⟨0,0,0,0,0,0⟩⟩
def Xms(N:Nat):Start N zH []:=⟨Ko,λh=>absurd rfl h,λh=>absurd rfl h,Io.nil N zH⟩
def Xsw:CI zH [] zW:=by refine⟨rfl,rfl,rfl,rfl,.refl _,λj f=>(by cases f),On,λa e=>(by rfl),On,⟨λ_=>False,λ_=>0,?_⟩⟩;exact⟨λa e=>(by grind),λa e=>(by cases e),λa e=>e.elim,λa b e=>e.elim,λa e=>e.elim,λa e=>e.elim⟩
structure OP(N:Nat)(h:Wm)(l:List Int)(w:WE):Prop where
 st:Start N h l
 ci:CI h l w
 sc:w.d=0
 pr:Uv h\/h.p=[]
def Xmt(hN:NB N){h:Wm}(hb:HB h):Ok (QdI N h) λr=>∃e l,OP N e l r.1:=by
 have f:=hN;unfold NB at f;have g:=hb.2;have zero:∃e l,OP N e l zW:=⟨zH,[],Xms N,Xsw,rfl,.inr rfl⟩
 refine WI (YM (N:=N) aa hb.1 hb.2) λb eb hp=>Wp (λ_=>Wg zero) λq=>?_;have hp:=hp (by simp_all);refine WI (KA hN hb) λb _ j=>Wp (λ_=>Wg zero) λg=>?_;have j:=j (by simp_all);refine WI (Z0 hN hb) λy _ o=>WU aa ?_;refine WI (Xbg h y aa N 0 h.p aa aa aa (SameK.refl _)) λs _ k=>Wg ?_;exact⟨h,y.1,⟨hb,λ_=>j,λ_=>hp,o.1⟩,Xdd hb hp o.1 rfl rfl rfl k (.refl _) rfl rfl,rfl,.inl hp⟩
def XgM(hN:NB N)(B:Start N h0 l)(rs:List Int)(D:rs.length<=1000000):∀(n:Nat) (i:Int) (w:WE) (out:List Int),0<=i->i<=rs.length->(rs.length-i).toNat<n->CI h0 l w->(out.length:Int)=i ->
 Ok (Qbn N rs n i w.h.c.W w.h.c.p w.h.w w.h.p w.h.s w.h.b w.o w.t w.q w.d w.r.j w.r.K w.r.F w.r.E w.r.f w.r.y out) λe=>match e with
  |.ret r=>r.2.2≠0
  |.nxt t=>∃(g:WE) (k:List Int),CI h0 l g/\g.d=w.d/\k.length=rs.length/\t=(g.h.c.W,g.h.c.p,g.h.w,g.h.p,g.h.s,g.h.b,g.o,g.t,g.q,g.d,g.r.j,g.r.K,g.r.F,g.r.E,g.r.f,g.r.y,k)
 |0,i,w,out,_,_,G,_,_=>by omega
 |n+1,i,w,out,H,S,G,v,U=>by
  refine Wp (λu=>?_) λu=>Wg ⟨w,out,v,rfl,by grind,rfl⟩;have u:i<rs.length:=Ww u;rw[Xd (n:=i+1) aa aa];have⟨O,s,z⟩:=v.obj;refine Ok.get H u λp hp=>WI (Xdc hN B v z p) λy _ I=>Wp (λA=>Wg (by simp_all)) λA=>?_;have q:=I (by simp_all);refine WU aa ((XgM hN B rs D n (i+1) y.1 (out++[y.2.1]) aa aa aa q.ci (by simp_all)).mono λe A=>?_);cases e with
  |ret r=>omega
  |nxt t=>have⟨g,o',J,L,M,R⟩:=A;exact⟨g,o',J,L.trans q.sc,M,R⟩
def XgN(hN:NB N)(g:Start N h0 l){rs:List Int}(h:rs.length<=1000000){w:WE}(j:CI h0 l w):Ok (Qel N w rs) λr=>r.2.2=0->CI h0 l r.1/\r.1.d=w.d/\r.2.1.length=rs.length:=by have f:=hN;unfold NB at f;refine IY (XgM hN g rs h N 0 w [] aa aa aa j rfl) (λa q=>Wg λe=>absurd e q) λb q=>Wg λ_=>?_;obtain⟨s,o',k,o,p,rfl⟩:=q;exact⟨k,o,p⟩
end
def Xex{d:WC}{x:Int}(h:x∈ZA d):0<=x/\x<d.n:=by
 unfold ZA at h;by_cases e:XL d=true
 .rw[Wq e]at h;have:=Vk h;omega
 simp_all
def Xey(d:WC):(ZA d).length<=255:=by
 unfold ZA;by_cases e:XL d=true
 .rw[Wq e];have:=Vl (d:=d) (k:=d.n.toNat) (i:=0);have:=XO e;omega
 simp_all
section
variable {N:Nat}{h0:Wm}{l:List Int}
def Xjc{w:WE}{O:Int->Prop}{s:Int->Int}(e:CI h0 l w)(f:Ot h0 l w O s){p x:Int}(hp:O p)(z:p<x)(A:x<p+s p)(v:Int):
 inW w.h.w x/\CI h0 l {w with h:={w.h with w:=w.h.w.set (ix x) v}}/\Ot h0 l {w with h:={w.h with w:=w.h.w.set (ix x) v}} O s:=by
 have B:=f.fit p hp;have g:inW w.h.w x:=by unfold inW;omega
 have j:Ot h0 l {w with h:={w.h with w:=w.h.w.set (ix x) v}} O s:=by
  refine⟨f.old,f.queue,λa k=>?_,f.apart,f.taken,f.free⟩;show 4096<=a/\1<=s a/\a+s a<=4096+(w.h.w.set (ix x) v).length/\szA (w.h.w.set (ix x) v) a<=s a;obtain⟨o,q,r,u⟩:=f.fit a k;rw[WO];refine⟨o,q,r,?_⟩;have:a≠x:=by
   rintro rfl;by_cases y:a=p
   .omega
   have:=f.apart a p k hp y;omega
  unfold szA hdA at *;rw[Xh9 g o,Wk this];exact u
 refine⟨g,⟨e.conf,?_,e.plen,e.spc,e.old,e.tk,e.tnd,e.knd,e.qnd,⟨O,s,j⟩⟩,j⟩;rw[WO];exact e.wlen
def Xjd(hN:NB N)(u:Start N h0 l){p:Int}{ks:List Int}(B:ks.length<=255):∀(n:Nat) (i:Int) (w:WE) (O:Int->Prop) (s:Int->Int),0<=i->i<=ks.length->(ks.length-i).toNat<n->CI h0 l w->Ot h0 l w O s->O p->(∀k∈ks,0<=k/\k<255/\k+1<s p) ->
 Ok (QbJ N p ks n i w.h.c.W w.h.c.p w.h.w w.h.p w.h.s w.h.b w.o w.t w.q w.d w.r.j w.r.K w.r.F w.r.E w.r.f w.r.y) λe=>match e with
  |.ret r=>r.2.2≠0
  |.nxt t=>∃(g:WE),CI h0 l g/\g.d=w.d/\w.q.length<=g.q.length/\t=(g.h.c.W,g.h.c.p,g.h.w,g.h.p,g.h.s,g.h.b,g.o,g.t,g.q,g.d,g.r.j,g.r.K,g.r.F,g.r.E,g.r.f,g.r.y)
 |0,i,w,O,s,_,_,M,_,_,_,_=>by omega
 |n+1,i,w,O,s,R,hi,M,z,L,hp,S=>by
  have D:=hN;unfold NB at D;have U:=u.hb.1;refine Wp (λA=>?_) λA=>Wg ⟨w,z,rfl,Uj _,rfl⟩;have A:i<ks.length:=Ww A;rw[Xd (n:=i+1) aa aa];refine Ok.get R A λk G=>?_;have H:=YH G;have⟨k0,k1,k2⟩:=S k H;have hf:=L.fit p hp;have V:=z.wlen;rw[Xw (n:=p+1) aa aa,Xw (n:=k) aa aa,Xw (n:=p+1+k) aa aa];rw[YK (z.wl u.hb),Xa];refine WI (Xdc hN u z L _) λy _ Y=>Wp (λI=>Wg (by simp_all)) λI=>?_;have q:=Y (by simp_all);have⟨O',Z,J,hx⟩:=q.ob;have⟨v,hs'⟩:=hx p hp;have st:=Xjc q.ci J v (x:=p+1+k) aa aa y.2.1;rw[KF (q.ci.wl u.hb) aa,Xa,Wq st.1];refine(Xjd hN u B n (i+1) _ O' Z aa aa aa st.2.1 st.2.2 v (λk' hk'=>by simp_all)).mono λe I=>?_;cases e with
  |ret r=>omega
  |nxt t=>have⟨g,c1,c2,c3,c4⟩:=I;exact⟨g,c1,c2.trans q.sc,Uq q.ql c3,c4⟩
def Xpe(hN:NB N)(G:Start N h0 l){w:WE}(j:CI h0 l w)(o:0<=w.d)(v:w.d<=w.q.length):Ok (Qgr N w) λr=>r.2.2=0->CI h0 l r.1/\0<=r.1.d/\r.1.d<=r.1.q.length/\(r.2.1=true->r.1.d=w.d+1):=by
 have y:=hN;unfold NB at y;have hb:=G.hb;have I:=j.ql hb;refine Wp (λ_=>Wg λ_=>⟨j,o,v,λe=>by grind⟩) λg=>?_;have g:w.d<w.q.length:=by have:=WP g;omega
 refine Ok.get o g λp hp=>?_;have z:=YH hp;have⟨O,s,A⟩:=j.obj;have u:=A.queue p z;have L:=A.fit p u;have B:inW w.h.w p:=by unfold inW;omega
 rw[Qe4,YK (j.wl hb),Xa,Wq B,KY,Xa,Xa,XgB aa,Xa];have D:=Xey (hdA w.h.w p);have E:=XO (ZY (wd w.h.w p));refine IY (Xjd hN G (p:=p) (ks:=ZA (hdA w.h.w p)) D N 0 w O s aa aa aa j A u λk J=>?_) (λa q=>Wg λe=>absurd e q) λt q=>Wg λ_=>?_
 .have M:=Xex J;have R:szA w.h.w p=(hdA w.h.w p).n+1:=rfl;have S:(hdA w.h.w p).n<=255:=E.2.2.2;omega
 obtain⟨H,f,K,U,rfl⟩:=q;have e:wI (H.d+1)=w.d+1:=by rw[K,Xd aa aa]
 refine⟨⟨f.conf,f.wlen,f.plen,f.spc,f.old,f.tk,f.tnd,f.knd,f.qnd,?_⟩,?_,?_,λ_=>e⟩
 .have⟨O,s,h⟩:=f.obj;exact⟨O,s,⟨h.old,h.queue,h.fit,h.apart,h.taken,h.free⟩⟩
 .show 0<=wI (H.d+1);omega
 grind
def Xmu(hN:NB N)(g:Start N h0 l):∀(n:Nat) (w:WE),CI h0 l w->0<=w.d->w.d<=w.q.length->(100001-w.d).toNat<n ->
 Ok (Qb1 N n w.h.c.W w.h.c.p w.h.w w.h.p w.h.s w.h.b w.o w.t w.q w.d w.r.j w.r.K w.r.F w.r.E w.r.f w.r.y) λr=>r.2=0->CI h0 l r.1
 |0,w,_,_,_,v=>by omega
 |n+1,w,z,A,g1,v=>by refine WI (Xpe hN g z A g1) λy _ B=>Wp (λD=>Wg λe=>absurd e (by simp_all)) λD=>?_;have⟨k,G,H,u⟩:=B (by simp_all);refine Wp (λ_=>Wg λ_=>k) λhb=>?_;have u:y.1.d=w.d+1:=u (by simp_all);have:=k.ql g.hb;exact Xmu hN g n y.1 k G H aa
def Xmv(hN:NB N)(f:Start N h0 l){w:WE}(g:CI h0 l w)(h:0<=w.d)(g1:w.d<=w.q.length):Ok (QfH N w) λr=>r.2=0->CI h0 l r.1:=by have e:=hN;unfold NB at e;exact WI (Xmu hN f N w g h g1 aa) λy _ j=>Wg j
def Xmw(hN:NB N)(f:Start N h0 l){w:WE}(g:w.q.length<=100000)(hw:w.h.w.length<=BIG)(a:Int):Ok (Qem N w a) λ_=>True:=by have e:=hN;unfold NB at e;rw[Qem,YQ a aa aa,Xa];refine Wp (λ_=>Wg trivial) λ_=>?_;rw[YK hw,Xa,J1,Xa];exact Wg trivial
def Xft(hN:NB N){w:WE}(hb:HB h0)(B:CI h0 l w){s:Int->Int}(y:w.o.length<=4096)(q:w.o.Pairwise λa b=>a+s a<=b)(f:∀a∈w.o,4096<=a/\1<=s a/\a+s a<=4096+h0.w.length):∀(n k:Nat) (v:List Int) (c:Int),k<=w.o.length->w.o.length-k<n->v.length=h0.w.length->(∀a∈w.o.drop k,szA v a<=s a) ->
 Ok (Qa2 N w n (k:Int) v c) λr=>r.1.length=h0.w.length
 |0,k,v,c,_,S,_,_=>by omega
 |n+1,k,v,c,hk,S,E,O=>by
  have G:=hN;unfold NB at G;have U:=hb.1;have V:=B.ql hb;have H:=B.tl hb;refine Wp (λz=>?_) λ_=>Wg E;have z:k<w.o.length:=by have:=Ww z;omega
  have g:(k:Int)<w.o.length:=aa;have u:=Wu z;rw[Xd (n:=(k:Int)+1) aa aa,show((k:Int)+1)=((k+1:Nat):Int) by omega];have R:∀p,Xb w.o (k:Int)=some p->p=w.o[k]:=by intro p hp;rw[Xe,Wc z]at hp;exact(WG hp).symm
  have next:Ok (Qa2 N w n ((k+1:Nat):Int) v c) λr=>r.1.length=h0.w.length:=
   Xft hN hb B y q f n (k+1) v c aa aa E λa D=>O a (by rw[u];exact Ul _ D)
  refine Ok.get aa g λp hp=>?_;rw[J4,Xa];refine WI (Xch hN (w:={w with h:={w.h with w:=v},r:=⟨_,_,_,_,_,_⟩}) H _) λb _ _=>Wp (λ_=>next) λ_=>?_;refine Ok.get aa g λp hp=>?_;rw[YQ p aa aa,Xa];refine Wp (λ_=>next) λ_=>Ok.get aa g λp hp=>?_;have j:=R p hp;have I:p∈w.o:=by rw[j];exact WL z
  have⟨f1,f2,f3⟩:=f p I;have W:=O p (by rw[u,←j];exact List.mem_cons_self);have J:inW v p:=by unfold inW;omega
  have Y:=YY v p;rw[Qe4,YK (by show v.length<=BIG;unfold BIG;omega),Xa,Wq J,KY,Xa,Xa,KX,Xa];refine Ok.get aa g λp' K=>?_;obtain rfl:p=p':=j.trans (R p' K).symm;have e1:szA v p=(hdA v p).n+1:=rfl;have L:(ZX (v.getD (ix p) 0)).n=(hdA v p).n:=rfl;refine WU (by rw[L];omega) (WU (by rw[L];omega) ?_);have e:∀x:Int,([x]++List.replicate (ZX (v.getD (ix p) 0)).n.toNat (0:Int)).length=(szA v p).toNat:=by intro x;rw[WR,WV,L];simp only[Um,Ig];omega
  rw[ZQ (by unfold BIG;omega) (by rw[e];unfold BIG;omega) (by rw[e];omega),Xa,e,Wq (by unfold Yp;omega)];have M:∀x:Int,(ovr v ([x]++List.replicate (ZX (v.getD (ix p) 0)).n.toNat (0:Int)) (ix p)).length=v.length:=by intro x;apply ZW;rw[e];unfold ix;omega
  refine Xft hN hb B y q f n (k+1) _ _ aa aa ((M _).trans E) λa D=>?_;have Z:a∈w.o:=WS D;have hle:p+s p<=a:=by have A:=q.drop (i:=k);rw[u,IS]at A;rw[j];exact A.1 a D
  have:∀x:Int,szA (ovr v ([x]++List.replicate (ZX (v.getD (ix p) 0)).n.toNat (0:Int)) (ix p)) a=szA v a:=by intro x;unfold szA hdA wd;rw[Xc7 (by rw[e];unfold ix;omega),e,Wk];unfold ix;have:p+szA v p<=a:=aa;omega
  grind
def Xje(hN:NB N)(j:Start N h0 l){w:WE}(e:CI h0 l w):Ok (QfI N w) λr=>r.h.c=h0.c/\r.h.w.length=h0.w.length/\r.h.p=w.h.p/\r.h.p.length=h0.p.length/\r.t.length<=100000:=by
 have k:=hN;unfold NB at k;have hb:=j.hb;have⟨O,s,f⟩:=e.obj;have q:w.o.Pairwise λa b=>a+s a<=b:=by refine List.Pairwise.imp_of_mem ?_ (j.st.obj.pw.sublist e.old);intro a b g _ h;rw[(f.old a (e.old.subset g)).2];exact h
 have u:=Uq e.old.length_le j.st.len;have v:=e.wlen;have:=Xft hN (w:=w) hb e (s:=s) u q (λa g=>by have:=f.fit a (f.old a (e.old.subset g)).1;omega) N 0 w.h.w w.r.F aa aa v λa g=>(f.fit a (f.old a (e.old.subset (WS g))).1).2.2.2;have y:w.t.length<=100000:=e.tl hb;refine WI this λr _ z=>Wg ⟨e.conf,z,rfl,e.plen,y⟩
def Xjf{w:WE}(e:List Wv)(f:Wv)(i c:Int)(hp:Uv h0)(g:w.h.c=h0.c)(j:0<=i)(g1:i<h0.c.p):∀(n:Nat) (k:Int) (v:List Int),0<=k->(65-k).toNat<n->v.length=h0.w.length->Ok (QbK N w e f i c n k v) λr=>r.length=h0.w.length
 |0,k,v,_,q,_=>by omega
 |n+1,k,v,k0,q,s=>by have u:=Xo.1 hp.conf;have y:=XZ hp.conf j g1;have hw:=hp.words;rw[QbK,g];refine Wp (λo=>?_) λ_=>Wg s;have o:k<h0.c.W:=Ww o;rw[Xd (n:=k+1) aa aa,Xd (n:=i*h0.c.W) aa aa,Xd (n:=i*h0.c.W+k) aa aa];refine Ok.get aa aa λp _=>Xjf e f i c hp g j g1 n (k+1) _ aa aa (by simp_all)
def Xcx(hN:NB N){w:WE}(hb:HB h0)(hp:Uv h0\/h0.p=[])(j:w.h.c=h0.c):∀(n:Nat) (i c:Int) (v:List Int) (e:List Wv),0<=i->i<=h0.p.length->(h0.p.length-i).toNat<n->v.length=h0.w.length->e.length=h0.p.length->Ok (Qbc N w n i c v e) λr=>r.2.1.length=h0.w.length/\r.2.2.length=h0.p.length
 |0,i,c,v,e,_,_,s,_,_=>by omega
 |n+1,i,c,v,e,k,A,s,o,f=>by
  have q:=hN;unfold NB at q;have u:=hb.2;refine WU aa (Wp (λg=>?_) λ_=>Wg ⟨o,f⟩);have g:i<e.length:=Ww g;rw[Xd (n:=i+1) aa aa];have next:=Xcx hN (w:=w) hb hp j n (i+1) c v e aa aa aa o f
  refine Ok.get k g λp _=>Wp (λ_=>next) λ_=>Wp (λ_=>next) λ_=>Ok.get k g λB _=>?_;rcases hp with hp|hp
  .have y:=hp.pages;refine WI (Xjf e p i c hp j k aa N 0 v aa aa o) λr _ z=>?_;exact Xcx hN hb (.inl hp) j n (i+1) _ r _ aa aa aa z (by rw[WO];exact f)
  grind
def Xpf(hN:NB N){w:WE}(hb:HB h0)(hp:Uv h0\/h0.p=[])(g:w.h.c=h0.c)(hw:w.h.w.length=h0.w.length)(e:w.h.p.length=h0.p.length):Ok (QeZ N w) λr=>HB r.h/\r.t=w.t:=by
 have f:=hN;unfold NB at f;have j:=hb.1;have k:=hb.2;refine WU aa (WU aa (WI (Xcx hN hb hp g N 0 _ _ _ aa aa aa hw e) λr _ o=>Wg ⟨⟨?_,?_⟩,rfl⟩))
 .show r.2.1.length<=_;omega
 simp_all
def Xfu(hN:NB N)(f:Start N h0 l)(ws:List Int)(o:ws.length<=1000000)(j:WE×List Int×Int)(g:WE×Int)(h:CI h0 l g.1):∀(n:Nat) (i c:Int) (out:List Int),0<=i->i<=ws.length->(ws.length-i).toNat<n->(out.length:Int)=i->Ok (Qbf N ws j g n i c out) λr=>r.2.length=ws.length
 |0,i,c,out,_,_,q,_=>by omega
 |n+1,i,c,out,k,u,q,v=>by
  refine Wp (λe=>?_) λe=>Wg (by grind);have e:i<ws.length:=Ww e;rw[Xd (n:=i+1) aa aa];have next:=λs x=>Xfu hN f ws o j g h n (i+1) s (out++[x]) aa aa aa (by simp_all)
  refine Ok.get k e λp _=>Il (Wp (λ_=>Ok.get k e λp _=>?_) λ_=>WU aa (next _ _));refine WI (Xmw hN f (w:=⟨_,_,_,_,_,_⟩) (h.ql f.hb) (h.wl f.hb) p) λy _ _=>Il (Wp (λ_=>WU aa (next _ _)) λ_=>WU aa (next _ _))
structure OT(rs ws:List Int)(r:Wm×List Int×List Int×WQ×Int):Prop where
 hb:HB r.1
 len:r.2.2.2.2=0->r.2.1.length=rs.length/\r.2.2.1.length=ws.length
 no:r.2.2.2.2≠0->r.2.1=[]/\r.2.2.1=[]
def Ql5(hN:NB N){h:Wm}(hb:HB h){rs ws:List Int}(L:rs.length<=1000000)(hw:ws.length<=1000000):Ok (Qdi N h rs ws) (OT rs ws):=by
 have G:=hN;unfold NB at G;have bad:∀e:Int,e≠0->OT rs ws (zH,[],[],⟨0,0,0,0,0,0⟩,e):=λe v=>⟨Ko,λh=>absurd h v,λ_=>⟨rfl,rfl⟩⟩
 refine WI (YM (N:=N) aa hb.1 hb.2) λb _ _=>Wp (λ_=>Wg (bad 1 ae)) λ_=>Il ?_;refine WI (J5 hN hb L) λb _ _=>Wp (λ_=>Wg (bad 19 ae)) λ_=>?_;refine WI (J5 hN hb hw) λb _ _=>Wp (λ_=>Wg (bad 19 ae)) λ_=>?_;refine WI (Xmt hN hb) λy4 _ H=>?_;have⟨M,l,D⟩:=H;have z:=D.st;refine WI (XgN hN z L D.ci) λR _ I=>Wp (λv=>Wg (bad _ (by simp_all))) λv=>?_;have⟨S,c2,U⟩:=I (by simp_all);have V:=D.sc;refine WI (Xmv hN z S aa aa) λg _ J=>Wp (λv=>Wg (bad _ (by simp_all))) λv=>?_;have k:=J (by simp_all);refine WI (Xfu hN z ws hw R g k N 0 _ [] aa aa aa rfl) λA _ B=>?_;have W:CI M l (WE.mk g.1.h g.1.o g.1.t g.1.q g.1.d (WQ.mk g.1.r.j g.1.r.K g.1.r.F g.1.r.E A.1 g.1.r.y)):=by obtain⟨O,s,u⟩:=k.obj;exact⟨k.conf,k.wlen,k.plen,k.spc,k.old,k.tk,k.tnd,k.knd,k.qnd,⟨O,s,⟨u.old,u.queue,u.fit,u.apart,u.taken,u.free⟩⟩⟩
 refine WI (Xje hN z W) λY _ ⟨Z,f2,f3,f4,f5⟩=>?_;refine WI (Xpf hN (h0:=M) z.hb D.pr Z f2 f4) λf _ ⟨g1,g2⟩=>?_;have fin:∀x:Int,OT rs ws ((Wm.mk f.h.c f.h.w f.h.p (wI (1-f.h.s)) x),R.2.1,A.2,f.r,0):=λx=>⟨g1,λ_=>⟨U,B⟩,λh=>absurd rfl h⟩
 refine Il (Wp (λht=>?_) λ_=>Wg (fin _));have ht:0<(f.t.length:Int):=Ww ht;rw[g2]at ht⊢;rw[Xd aa aa];exact Ok.get aa aa λp _=>Wg (fin _)
end
def ZH{α σ:Type}(q:σ->Nat->α->Bool)(nxp:σ->α->σ):σ->Nat->List α->Bool
 |_,_,[]=>true
 |s,k,x::l=>q s k x&&ZH q nxp (nxp s x) (k+1) l
def Z4{α:Type}(q:α->Bool):∀(k:Nat) (l:List α),ZH (λ(_:Unit) _ x=>q x) (λs _=>s) () k l=l.all q
 |_,[]=>rfl
 |k,x::l=>by rw[ZH,Z4 q (k+1) l,List.all_cons]
def J6{α σ:Type}{l:List α}{F:Nat->σ->Int->Option (Ex Bool Unit)}{q:σ->Nat->α->Bool}{nxp:σ->α->σ}{I:σ->Prop}(f:∀(n:Nat) (s:σ) (k:Nat) (p:α),I s->l[k]? = some p->F (n+1) s (k:Int)=bif q s k p then F n (nxp s p) ((k+1:Nat):Int)else some (.ret false))(g:∀(n:Nat) (s:σ),F (n+1) s (l.length:Int)=some (.nxt ()))(j:∀s k p,I s->l[k]? = some p->q s k p=true->I (nxp s p)):∀(n:Nat) (s:σ) (k:Nat),I s->k<=l.length->l.length-k<n->F n s (k:Int)=some (bif ZH q nxp s k (l.drop k)then .nxt ()else .ret false)
 |0,s,k,_,_,r=>by omega
 |n+1,s,k,o,v,r=>by
  by_cases h:k<l.length
  .have e:=Wc h;rw[f n s k _ o e,Wu h,ZH];cases u:q s k l[k]with
   |false=>rfl
   |true=>exact J6 f g j n _ (k+1) (j s k _ o e u) aa aa
  obtain rfl:k=l.length:=aa;rw[g,UN (Uj _)];rfl
def JE{α:Type}{l:List α}{F:Nat->Int->Option (Ex Bool Unit)}{q:Nat->α->Bool}(f:∀(n k:Nat) (p:α),l[k]? = some p->F (n+1) (k:Int)=bif q k p then F n ((k+1:Nat):Int)else some (.ret false))(g:∀(n:Nat),F (n+1) (l.length:Int)=some (.nxt ())){n:Nat}(j:l.length<n):F n 0=some (bif ZH (λ(_:Unit)=>q) (λs _=>s) () 0 l then .nxt ()else .ret false):=by have h:=J6 (F:=λn (_:Unit) i=>F n i) (q:=λ_=>q) (nxp:=λs _=>s) (I:=λ_=>True) (l:=l) (λn s k p _ e=>f n k p e) (λn _=>g n) (λ_ _ _ _ _ _=>trivial) n () 0 trivial aa aa;assumption
def Xm{k n:Nat}(h:k<n):decide ((k:Int)<(n:Int))=true:=Wd aa
def XA(n:Nat):decide ((n:Int)<(n:Int))=false:=Wh aa
def XC{α:Type}{l:List α}{k:Nat}{p:α}(h:l[k]? = some p):k<l.length:=(Iw.1 h).1
def Xg{k:Nat}(h:k<=140737488355328):wI ((k:Int)+1)=((k+1:Nat):Int):=by rw[Xd aa aa];omega
def Xci(e:WT):Bool:=!decide (e.G<1)&&(!decide (e.G>4294967295)&&(e.V||!(e.a != 0)))
def YZ(l:List WT):Bool:=l.all Xci&&decide (l.length<=64)
def XT(l:List WT):List Int:=(l.filter (·.V)).map (·.a)
def Zv{N:Nat}{t:Ws}(g:t.e.length<=1000000)(hN:1000000<N):Qcu N t=some (YZ t.e):=by
 have h:=JE (l:=t.e) (F:=QdB N t) (q:=λ_=>Xci) (λn k p e=>?_) (λn=>?_) (n:=N) aa
 .rw[Qcu,h,Xa,Z4,YZ];cases t.e.all Xci
  .rw[Wa,XE];rfl
  rw[Wb,Xp,W8];congr 1;exact decide_eq_decide.2 aa
 .have f:=XC e;rw[QdB,Xm f,Wb,Xe,e,Xa,Xg aa];unfold Xci;cases decide (p.G<1)<;>cases decide (p.G>4294967295)<;>cases p.V<;>cases (p.a != 0)<;>rfl
 simp[QdB,XA,Wa]
def Xde{N:Nat}{t:Ws}(f:t.e.length<=1000000)(hN:1000000<N)(g:YZ t.e=true):∀(n k:Nat) (v:List Int),k<=t.e.length->t.e.length-k<n->v.length<=k ->
 QbG N t n (k:Int) v=some (v++XT (t.e.drop k))
 |0,k,v,_,j,_=>by omega
 |n+1,k,v,p,j,o=>by
  rw[QbG];by_cases h:k<t.e.length
  .rw[Xm h,Wb,Zv f hN,Xa,g,Wb,Xe,Wc h,Xa,Xa,Xg aa,Wu h,XT];cases q:t.e[k].V
   .rw[Wa,Xde f hN g n (k+1) v aa aa aa,UZ (by simp_all)];rfl
   rw[Wb,Xc aa,Xde f hN g n (k+1) _ aa aa (by simp_all),UA aa];simp[XT]
  obtain rfl:k=t.e.length:=aa;simp[XT]
def Yt{N:Nat}{t:Ws}(f:t.e.length<=1000000)(hN:1000000<N):QbD N t=some (bif YZ t.e then XT t.e else[]):=by
 rw[QbD];cases g:YZ t.e
 .obtain⟨m,rfl⟩:∃m,N=m+1:=⟨N-1,aa⟩
  rw[QbG,Zv f hN,g];by_cases h:0<t.e.length
  .rw[show decide ((0:Int)<(t.e.length:Int))=true from Wd aa,Wb,Xa,Wa,Xa];rfl
  rw[show decide ((0:Int)<(t.e.length:Int))=false from Wh aa,Wa,Xa];rfl
 have h:=Xde f hN g N 0 [] aa aa ab;rw[show((0:Nat):Int)=0 from rfl,W0,Uk]at h;simp[h,Xa]
def Xaa(l:List WT):(XT l).length<=l.length:=by unfold XT;grind
def Js{l:List WT}(h:YZ l=true):l.length<=64:=by unfold YZ at h;simp_all
def Xbh{l:List WT}(h:YZ l=true){e:WT}(f:e∈l):1<=e.G/\e.G<=4294967295/\(e.V=false->e.a=0):=by unfold YZ at h;rw[W9,Ud]at h;have:=h.1 e f;unfold Xci at this;grind
def YF(l:List WT)(i g:Int):Int×Int:=
 if YZ l=false then(0,1)else if i<0\/(l.length:Int)<=i\/g<1 then(0,6)else
 match l[i.toNat]? with
 |none=>(0,6)
 |some e=>if g>e.G then(0,6)else if g<e.G then(0,8)else if e.V then(e.a,0)else(0,8)
def Kg{N:Nat}{t:Ws}(h:t.e.length<=1000000)(hN:1000000<N)(i g:Int):Qeu N t i g=some (YF t.e i g):=by
 rw[Qeu,Zv h hN,Xa,YF];cases k:YZ t.e
 .rfl
 simp only[Wi,Wa,Uz,Bool.true_eq_false,if_false];by_cases h0:i<0
 .simp_all
 by_cases o:i>=(t.e.length:Int)
 .simp_all
 by_cases j:g<1
 .simp_all
 have f:i.toNat<t.e.length:=aa;rw[Wk j,Wk aa,X1 aa aa,Xa,Wc f];simp only[Xa];grind
def JF{α σ:Type}{q:σ->Nat->α->Bool}{nxp:σ->α->σ}:∀(l:List α) (s:σ) (k:Nat),ZH q nxp s k l=true↔∀i p,l[i]? = some p->q ((l.take i).foldl nxp s) (k+i) p=true
 |[],s,k=>by simp[ZH]
 |x::l,s,k=>by
  rw[ZH,W9,JF l (nxp s x) (k+1)];constructor
  .rintro⟨e,f⟩ i p hp;cases i with
   |zero=>simp_all
   |succ i=>grind
  intro h;refine⟨h 0 x rfl,λi p hp=>?_⟩;have:=h (i+1) p (by exact hp);grind
def Xpg(l:List Int):Bool:=l.all λp=>!decide (p<0)&&!decide (p>4095)
def stQ(iss:List Int)(s:Int)(i:Nat)(p:UE):Bool:=!decide (p.J<=s)&&(!decide (p.J>(iss.length:Int))&&(!((iss.getD (p.J-1).toNat 0) != (i:Int))&&(p.V==(p.a != 0))))
def stB(iss:List Int)(l:List UE):Bool:=ZH (stQ iss) (λ_ p=>p.J) 0 0 l
def neQ(n:Nat)(s:Int)(i:Nat)(p:UJ):Bool:=(!((i:Int)==0)||(!(p.O != 0)&&p.B0))&&(!decide (p.O<s)&&(!decide (p.O>(n:Int))&&(!decide (p.C0<0)&&!decide (p.C0>64))))
def neB(n:Nat)(l:List UJ):Bool:=ZH (neQ n) (λ_ p=>p.O) 0 0 l
def KG(l:List UE)(f t:Nat):Nat:=((l.drop f).take (t-f)).countP (·.V)
def toL(a:Wo)(i:Nat):Int:=match a.x[i+1]? with|some p=>p.O|none=>a.S.length
def Xmx(a:Wo)(_:Unit)(i:Nat)(p:UJ):Bool:=!decide (((KG a.S p.O.toNat (toL a i).toNat:Nat):Int)>p.C0)
def Xic(a:Wo):Bool:=ZH (Xmx a) (λs _=>s) () 0 a.x
def Y0(a:Wo):Bool:=!decide ((a.i.length:Int)>4096)&&(!decide ((a.x.length:Int)>64)&&((!((a.x.length:Int)==0)||!decide ((a.S.length:Int)>0))&&(Xpg a.i&&(stB a.i a.S&&(neB a.S.length a.x&&Xic a)))))
def LBp(a:Wo):Prop:=a.S.length<=1000000/\a.x.length<=1000000/\a.i.length<=1000000
def VP{n:Nat}{l:List UJ}(h:neB n l=true){i:Nat}{p:UJ}(hp:l[i]? = some p):0<=p.O/\p.O<=n/\0<=p.C0/\p.C0<=64/\(i=0->p.O=0/\p.B0=true)/\∀g,l[i+1]? = some g->p.O<=g.O:=by
 have j:=(JF l (0:Int) 0).1 h;have inv:∀(k:Nat) (p:UJ),l[k]? = some p->0<=p.O:=by
  intro k;induction k with
  |zero=>intro p hp;have:=j 0 p hp;unfold neQ at this;simp_all
  |succ k q=>
   intro p hp;have r:k<l.length:=by have:=XC hp;omega
   have e:=Wc r;have s:=q _ e;have f:=j (k+1) p hp;rw[List.take_add_one,e]at f;simp only[List.foldl_append,Option.toList,Iy,List.foldl_nil]at f;unfold neQ at f;grind
 have h0:=j i p hp;unfold neQ at h0;simp at h0;refine⟨inv i p hp,aa,aa,aa,λu=>?_,λg o=>?_⟩
 .simp_all
 have f:=j (i+1) g o;rw[List.take_add_one,hp]at f;unfold neQ at f;simp_all
def Xez{iss:List Int}{l:List UE}(h:stB iss l=true){i:Nat}{p:UE}(hp:l[i]? = some p):(i:Int)+1<=p.J/\p.J<=iss.length/\iss.getD (p.J-1).toNat 0=i/\(p.V=true↔p.a≠0):=by
 have g:=(JF l (0:Int) 0).1 h;have inv:∀(k:Nat) (p:UE),l[k]? = some p->(k:Int)+1<=p.J:=by
  intro k;induction k with
  |zero=>intro p hp;have:=g 0 p hp;unfold stQ at this;simp at this;have:=WP this.1;omega
  |succ k j=>
   intro p hp;have o:k<l.length:=by have:=XC hp;omega
   have e:=Wc o;have q:=j _ e;have f:=g (k+1) p hp;rw[List.take_add_one,e]at f;simp only[List.foldl_append,Option.toList,Iy,List.foldl_nil]at f;unfold stQ at f;simp at f;omega
 have h0:=g i p hp;unfold stQ at h0;simp_all
structure OR(a:Wo):Prop where
 iss:a.i.length<=4096
 sc:a.x.length<=64
 none:a.x.length=0->a.S.length=0
 issr:∀x∈a.i,0<=x/\x<=4095
 st:stB a.i a.S=true
 ne:neB a.S.length a.x=true
 cap:Xic a=true
def YW{a:Wo}:Y0 a=true↔OR a:=by
 unfold Y0 Xpg;simp only[W9,I7,IP,Ix,Ud,WZ];constructor
 .rintro⟨o,p,q,r,g,j,k⟩;exact⟨aa,aa,λe=>aa,λx f=>by simp_all,g,j,k⟩
 intro h;exact⟨by have:=h.iss;omega,by have:=h.sc;omega,by have:=h.none;omega,λx f=>by have:=h.issr x f;omega,h.st,h.ne,h.cap⟩
def OR.slots{a:Wo}(h:OR a):a.S.length<=a.i.length:=by
 by_cases f:a.S.length=0
 .omega
 have e:=Wc (show a.S.length-1<a.S.length by omega);have:=Xez h.st e;omega
def Xfv{N:Nat}{a:Wo}(j:a.S.length<=1000000)(t:Nat)(ht:t<=a.S.length):∀(n f c:Nat),t-f<n->c<=f->f<=1000000->QeE N a (t:Int) n (c:Int) (f:Int)=some (((c+KG a.S f t:Nat):Int))
 |0,f,c,o,_,_=>by omega
 |n+1,f,c,o,p,q=>by
  rw[QeE];by_cases h:f<t
  .have g:f<a.S.length:=aa;rw[show decide ((f:Int)<(t:Int))=true from Wd aa,Wb,Xe,Wc g,Xa,Xg aa,Xg aa];have e:KG a.S f t=(if a.S[f].V then 1 else 0)+KG a.S (f+1) t:=by unfold KG;rw[Wu g,show t-f=(t-(f+1))+1 by omega,List.take_succ_cons,List.countP_cons];omega
   cases k:a.S[f].V
   .rw[Wa,Xfv j t ht n (f+1) c aa aa aa,e,k];simp
   rw[Wb,Xfv j t ht n (f+1) (c+1) aa aa aa,e,k];grind
  rw[show decide ((f:Int)<(t:Int))=false from Wh aa,Wa];unfold KG;simp_all
def Xjg{N:Nat}{a:Wo}(e:a.S.length<=1000000)(hN:1000000<N){f t:Int}(g:0<=f)(j:f<=1000000)(h:0<=t)(k:t<=a.S.length):Qhf N a f t=some ((KG a.S f.toNat t.toNat:Nat):Int):=by obtain⟨f,rfl⟩:=Uo g;obtain⟨t,rfl⟩:=Uo h;rw[Qhf];have:=Xfv (N:=N) e t aa N f 0 aa aa aa;rw[show((0:Nat):Int)=0 from rfl]at this;simp[this,Xa]
def Xsx{N:Nat}{a:Wo}{i:Nat}(e:i<=1000000):QiI N a (i:Int)=some (toL a i):=by
 rw[QiI,Xg aa,toL];by_cases h:i+1<a.x.length
 .rw[Xm h,Wb,Xe,Wc h,Xa]
 grind
def Xsy{a:Wo}(h:neB a.S.length a.x=true)(i:Nat):0<=toL a i/\toL a i<=a.S.length:=by
 unfold toL;cases e:a.x[i+1]? with
 |none=>simp
 |some p=>have:=VP h e;simp_all
def ZI{N:Nat}{a:Wo}(v:LBp a)(hN:1000000<N):Qct N a=some (Y0 a):=by
 have⟨h,w,hl3⟩:=v;have o:=JE (l:=a.i) (F:=Qea N a) (q:=λ_ p=>!decide (p<0)&&!decide (p>4095)) (λn k p e=>by
  have f:=XC e
  rw[Qea,Xm f,Wb,Xe,e,Xa,Xa,Xg aa]
  cases decide (p<0)<;>cases decide (p>4095)<;>rfl) (λn=>by rw[Qea,XA,Wa]) (n:=N) aa
 have y:=J6 (l:=a.S) (F:=λn s i=>Qaw N a n s i) (q:=stQ a.i) (nxp:=λ_ p=>p.J) (I:=λs=>0<=s) (λn s k p u e=>by
  have f:=XC e
  show Qaw N a (n+1) s (k:Int)=_
  rw[Qaw,Xm f,Wb,Xe,e,Xa,Xg aa]
  unfold stQ
  cases g1:decide (p.J<=s)
  .cases g2:decide (p.J>(a.i.length:Int))
   .have g1:=WP g1
    have g2:=WP g2
    rw[Wa,Wa,Xd aa aa,X1 aa aa,Xa]
    have ge:a.i[(p.J-1).toNat]'aa=a.i.getD (p.J-1).toNat 0:=by
     rw[Wr,Wc aa];rfl
    rw[ge]
    cases (a.i.getD (p.J-1).toNat 0 != (k:Int))<;>cases (p.V==(p.a != 0))<;>rfl
   .rfl
  .rfl) (λn s=>by show Qaw N a (n+1) s _=_;rw[Qaw,XA,Wa]) (λs k p u e j=>by
   unfold stQ at j
   simp only[W9,I7,IP]at j
   have:=j.1
   omega) N 0 0 aa aa aa
 have z:=J6 (l:=a.x) (F:=λn s i=>Qaq N a n s i) (q:=neQ a.S.length) (nxp:=λ_ p=>p.O) (I:=λ_=>True) (λn s k p u e=>by
  have f:=XC e
  show Qaq N a (n+1) s (k:Int)=_
  rw[Qaq,Xm f,Wb,Xe,e,Xa,Xg aa]
  unfold neQ
  cases ((k:Int)==0)<;>cases (p.O != 0)<;>cases p.B0<;>cases decide (p.O<s)<;>cases decide (p.O>(a.S.length:Int))<;>cases decide (p.C0<0)<;>cases decide (p.C0>64)<;>rfl) (λn s=>by show Qaq N a (n+1) s _=_;rw[Qaq,XA,Wa]) (λ_ _ _ _ _ _=>trivial) N 0 0 trivial aa aa
 rw[Z4]at o;rw[Qct,Xv,o,Xa];have A:Qaw N a N 0 0=some (bif stB a.i a.S then .nxt ()else .ret false):=y;have e3:Qaq N a N 0 0=some (bif neB a.S.length a.x then .nxt ()else .ret false):=z;unfold Y0 Xpg;have main:(exK (bif (a.i.all λp=>!decide (p<0)&&!decide (p>4095))then Ex.nxt ()else Ex.ret false) (λr=>some r) λH=>
  bnd (Qaw N a N 0 0) λe=>exK e (λr=>some r) λK=>
  bnd (Qaq N a N 0 0) λe=>exK e (λr=>some r) λB=>
  bnd (QdA N a N 0) λe=>exK e (λr=>some r) λD=>some true)=some ((a.i.all λp=>!decide (p<0)&&!decide (p>4095))&&(stB a.i a.S&&(neB a.S.length a.x&&Xic a))):=by
  cases (a.i.all λp=>!decide (p<0)&&!decide (p>4095))
  .rw[Wa,XE];rfl
  rw[Wb,Xp,W8,A,Xa]
  cases stB a.i a.S
  .rw[Wa,XE];rfl
  rw[Wb,Xp,W8,e3,Xa]
  cases g:neB a.S.length a.x
  .rw[Wa,XE];rfl
  rw[Wb,Xp,W8]
  have E:=JE (l:=a.x) (F:=QdA N a) (q:=Xmx a ()) (λn k p e=>by
   have f:=XC e
   have G:=VP g e
   have ht:=Xsy g k
   rw[QdA,Xm f,Wb,Xe,e,Xa,Xsx aa,Xa,Xjg h hN G.1 aa ht.1 ht.2,Xa,Xa,Xg aa]
   unfold Xmx
   cases decide (((KG a.S p.O.toNat (toL a k).toNat:Nat):Int)>p.C0)<;>rfl) (λn=>by rw[QdA,XA,Wa]) (n:=N) aa
  rw[E,Xa]
  show exK (bif Xic a then Ex.nxt ()else Ex.ret false) _ _=_
  cases Xic a
  .rw[Wa,XE]
  .rw[Wb,Xp]
 grind
def zL:Wo:=⟨[],[],[]⟩
def X9(l:List UE):List Int:=(l.filter (·.V)).map (·.a)
def XbM(l:List UE):(X9 l).length<=l.length:=by unfold X9;grind
section
variable {N:Nat}{a:Wo}
def Xdf(e:LBp a)(hN:1000000<N)(f:Y0 a=true):∀(n k:Nat) (v:List Int),k<=a.S.length->a.S.length-k<n->v.length<=k ->
 QbH N a n (k:Int) v=some (v++X9 (a.S.drop k))
 |0,k,v,_,g,_=>by omega
 |n+1,k,v,p,g,j=>by
  have o:=e.1;rw[QbH];by_cases h:k<a.S.length
  .rw[Xm h,Wb,ZI e hN,Xa,f,Wb,Xe,Wc h,Xa,Xa,Xg aa,Wu h,X9];cases q:a.S[k].V
   .rw[Wa,Xdf e hN f n (k+1) v aa aa aa,UZ (by simp_all)];rfl
   rw[Wb,Xc aa,Xdf e hN f n (k+1) _ aa aa (by simp_all),UA aa];simp[X9]
  obtain rfl:k=a.S.length:=aa;simp[X9]
def ZB(e:LBp a)(hN:1000000<N):Qdg N a=some (bif Y0 a then X9 a.S else[]):=by
 rw[Qdg];cases f:Y0 a
 .obtain⟨m,rfl⟩:∃m,N=m+1:=⟨N-1,aa⟩
  rw[QbH,ZI e hN,f];by_cases h:0<a.S.length
  .rw[show decide ((0:Int)<(a.S.length:Int))=true from Wd aa,Wb,Xa,Wa,Xa];rfl
  rw[show decide ((0:Int)<(a.S.length:Int))=false from Wh aa,Wa,Xa];rfl
 have h:=Xdf e hN f N 0 [] aa (by have:=e.1;omega) ab;rw[show((0:Nat):Int)=0 from rfl,W0,Uk]at h;simp[h,Xa]
def JD(a:Wo):UJ:=a.x.getD (a.x.length-1) ⟨0,0,false⟩
def Xbi(h:a.x.length≠0)(e:a.x.length<=1000000):Xb a.x (wI ((a.x.length:Int)-1))=some (JD a):=by rw[Xd aa aa,show(a.x.length:Int)-1=((a.x.length-1:Nat):Int) by omega,Xe,JD,Wr,Wc aa];rfl
def Yn(a:Wo)(id:Int):Wo×Int×Int×Int:=
 if Y0 a=false then(zL,0,0,1)else if id=0 then(zL,0,0,1)else if a.x.length=0 then(zL,0,0,9)
 else if(JD a).C0<=((KG a.S (JD a).O.toNat a.S.length:Nat):Int)then(zL,0,0,10)
 else if a.i.length=4096 then(zL,0,0,18)
 else(⟨a.S++[⟨(a.i.length:Int)+1,id,true⟩],a.x,a.i++[(a.S.length:Int)]⟩,(a.S.length:Int),(a.i.length:Int)+1,0)
def Xdg(f:Y0 a=true)(h:a.x.length≠0):0<=(JD a).O/\(JD a).O<=a.S.length:=by
 have g:=YW.1 f;have e:=Wc (show a.x.length-1<a.x.length by omega);have:=VP g.ne e;have j:JD a=a.x[a.x.length-1]:=by unfold JD;rw[Wr,e];rfl
 simp_all
def K3(o:LBp a)(hN:1000000<N)(id:Int):Qes N a id=some (Yn a id):=by
 have⟨e,f,hl3⟩:=o;rw[Qes,ZI ⟨e,f,hl3⟩ hN,Xa,Yn];cases p:Y0 a
 .rfl
 rw[Wi,Wa,Wk ab];by_cases k:id=0
 .subst k;rfl
 rw[Wk k,show(id==0)=false by simp_all,Wa];by_cases g:a.x.length=0
 .rw[Wq g,g];rfl
 rw[Wk g,show((a.x.length:Int)==0)=false by simp_all,Wa,Xbi g f,Xa];have ht:=Xdg p g;rw[Xjg e hN ht.1 aa aa aa,Xa,Xa,UX];by_cases h:(JD a).C0<=((KG a.S (JD a).O.toNat a.S.length:Nat):Int)
 .rw[Wq h,Wd (show((KG a.S (JD a).O.toNat a.S.length:Nat):Int)>=_ from h),Wb];rfl
 rw[Wk h,Wh (show¬((KG a.S (JD a).O.toNat a.S.length:Nat):Int)>=_ from h),Wa];by_cases j:a.i.length=4096
 .rw[Wq j,j];rfl
 rw[Wk j,show((a.i.length:Int)==4096)=false by grind,Wa,Xc aa,Xc aa,Xc aa,Xc aa,Xd aa aa]
def ZR:LBp zL:=⟨by simp[zL],by simp[zL],by simp[zL]⟩
def Xjh(g:LBp a)(id:Int):LBp (Yn a id).1:=by
 have⟨h,e,hl3⟩:=g;unfold Yn;cases j:Y0 a
 .exact ZR
 have f:=YW.1 j;have k:=f.slots;have o:=f.iss;split
 .exact ZR
 split
 .exact ZR
 split
 .exact ZR
 split
 .exact ZR
 split
 .exact ZR
 refine⟨?_,e,?_⟩
 .simp;omega
 grind
def Zh(a:Wo)(i g:Int):Int×Int:=
 if Y0 a=false then(0,1)else if g<1\/(a.i.length:Int)<g then(0,6)else
 if a.i.getD (g-1).toNat 0≠i then(0,6)else if(a.S.length:Int)<=i then(0,7)else
 match a.S[i.toNat]? with
 |none=>(0,7)
 |some p=>if p.J≠g then(0,7)else if p.V then(p.a,0)else(0,8)
def Vm(q:LBp a)(hN:1000000<N)(i g:Int):Qe7 N a i g=some (Zh a i g):=by
 have h:=q;have⟨s,u,hl3⟩:=q;rw[Qe7,ZI h hN,Xa,Zh];cases v:Y0 a
 .rfl
 have w:=YW.1 v;rw[Wi,Wa,Wk ab];by_cases j:g<1
 .rw[Wd j,Wb,Wq (.inl j)]
 rw[Wh j,Wa];by_cases k:g>(a.i.length:Int)
 .rw[Wd k,Wb,Wq (.inr k)]
 have e:(g-1).toNat<a.i.length:=aa;rw[Wh k,Wa,Wk aa,Xd aa aa,X1 aa aa,Xa];have ge:a.i[(g-1).toNat]=a.i.getD (g-1).toNat 0:=by rw[Wr,Wc e];rfl
 have r:=w.issr _ (WL e);rw[ge]at r⊢;by_cases y:a.i.getD (g-1).toNat 0=i
 .rw[y]at r⊢;rw[show(i != i)=false by simp,Wa,Wk ab];by_cases o:i>=(a.S.length:Int)
  .rw[Wd o,Wb,Wq o]
  have f:i.toNat<a.S.length:=aa;rw[Wh o,Wa,Wk aa,X1 aa aa,Xa,Wc f];simp only[Xa];by_cases p:a.S[i.toNat].J=g
  .rw[p,show(g != g)=false by simp,Wa,Wk ab];cases a.S[i.toNat].V<;>rfl
  rw[show(a.S[i.toNat].J != g)=true by simpa using p,Wb,Wq p]
 grind
def Xab{i g:Int}(h:(Zh a i g).2=0):Y0 a=true/\0<=i/\∃p,a.S[i.toNat]? = some p/\p.J=g/\p.V=true/\(Zh a i g).1=p.a:=by
 unfold Zh at h⊢;cases j:Y0 a
 .rw[j]at h;cases h
 have s:=YW.1 j;rw[j]at h;by_cases o:g<1\/(a.i.length:Int)<g
 .rw[Wq o]at h;cases h
 rw[Wk o]at h⊢;have f:(g-1).toNat<a.i.length:=aa;have ge:a.i[(g-1).toNat]=a.i.getD (g-1).toNat 0:=by rw[Wr,Wc f];rfl
 have v:=s.issr _ (WL f);by_cases k:a.i.getD (g-1).toNat 0≠i
 .rw[Wq k]at h;cases h
 rw[Wk k]at h⊢;by_cases q:(a.S.length:Int)<=i
 .rw[Wq q]at h;cases h
 rw[Wk q]at h⊢;have w:0<=i:=by have:a.i.getD (g-1).toNat 0=i:=Classical.not_not.1 k;omega
 have e:=Wc (show i.toNat<a.S.length by omega);rw[e]at h⊢;simp only at h⊢;by_cases r:a.S[i.toNat].J≠g
 .rw[Wq r]at h;cases h
 rw[Wk r]at h⊢;cases u:a.S[i.toNat].V
 .rw[u]at h;cases h
 simp_all
def Vn(a:Wo)(i g:Int):Wo×Int:=
 if(Zh a i g).2≠0 then(zL,(Zh a i g).2)else(⟨a.S.set i.toNat ⟨g,0,false⟩,a.x,a.i⟩,0)
def Xcy(e:LBp a)(hN:1000000<N)(i g:Int):Qev N a i g=some (Vn a i g):=by
 rw[Qev,Vm e hN,Xa,Vn];by_cases h:(Zh a i g).2=0
 .have⟨_,h0,p,hp,_⟩:=Xab h;have:=XC hp;have f:=e.1;rw[h,show((0:Int) != 0)=false from rfl,Wa,Wk ab,Xc aa,X1 h0 aa,Xa]
 rw[show((Zh a i g).2 != 0)=true by simp_all,Wb,Wq h];rfl
def Xji(e:LBp a)(i g:Int):LBp (Vn a i g).1:=by
 unfold Vn;split
 .exact ZR
 exact⟨by rw[WO];exact e.1,e.2⟩
def KB(a:Wo)(c:Int):Wo×Int:=
 if Y0 a=false\/c<0\/64<c then(zL,1)else if a.x.length=0 then(zL,9)else if a.x.length=64 then(zL,17)else(⟨a.S,a.x++[⟨(a.S.length:Int),c,false⟩],a.i⟩,0)
def VQ(j:LBp a)(hN:1000000<N)(c:Int):Qe0 N a c=some (KB a c):=by
 have k:=j.2.1;rw[Qe0,Qhh,ZI j hN,Xa,KB];cases o:Y0 a
 .rw[W7,Wb,Xa,Wq (.inl rfl)];rfl
 rw[Wi,Wa];by_cases e:c<0
 .rw[Wd e,Wb,Xa,Wq (.inr (.inl e))];rfl
 by_cases f:c>64
 .rw[Wh e,Wa,Wd f,Wb,Xa,Wq (.inr (.inr f))];rfl
 rw[Wh e,Wa,Wh f,Wa,Xv,W7,Wb,Wk (by simp_all)];by_cases g:a.x.length=0
 .rw[Wq g,g];rw[show(((0:Nat):Int)==0)=true from rfl,Wb,Xa];rfl
 rw[Wk g,show((a.x.length:Int)==0)=false by simp_all,Wa];by_cases h:a.x.length=64
 .rw[Wq h,h];rw[show(((64:Nat):Int)==64)=true from rfl,Wb,Xa];rfl
 rw[Wk h,show((a.x.length:Int)==64)=false by grind,Wa,Xc aa,Xc aa,Xa]
def XgO(e:LBp a)(c:Int):LBp (KB a c).1:=by
 unfold KB;cases f:Y0 a
 .exact ZR
 have:=(YW.1 f).sc;split
 .exact ZR
 split
 .exact ZR
 split
 .exact ZR
 exact⟨e.1,by grind,e.2.2⟩
def ZC(a:Wo):Wo×Int:=
 if Y0 a=false then(zL,1)else if a.x.length=0 then(zL,9)else if(JD a).B0 then(zL,9)else(⟨a.S.take (JD a).O.toNat,a.x.take (a.x.length-1),a.i⟩,0)
def Xbj(h:LBp a)(hN:1000000<N):QfJ N a=some (ZC a):=by
 have⟨g,e,hl3⟩:=h;rw[QfJ,ZI ⟨g,e,hl3⟩ hN,Xa,ZC];cases j:Y0 a
 .rfl
 by_cases f:a.x.length=0
 .rw[Wq f,f];rfl
 have ht:=Xdg j f;rw[Wk f,show((a.x.length:Int)==0)=false by simpa using f,Wa,Xbi f e,Xa];cases k:(JD a).B0
 .rw[Wa,QhN,Xbi f e,Xa,Xd aa aa,Xc aa,Xc aa,Xc aa,Xc aa,Xa];rw[show((a.x.length:Int)-1).toNat=a.x.length-1 by omega];rfl
 rfl
def Xbk(e:LBp a):LBp (ZC a).1:=by
 unfold ZC;split
 .exact ZR
 split
 .exact ZR
 split
 .exact ZR
 have⟨f,g,hl3⟩:=e;exact⟨by grind,by grind,hl3⟩
def Xdh(rs:List Int)(B:a.S.length<=1000000):∀(n k:Nat) (c:Int) (v:List UE),k<=a.S.length->a.S.length-k<n->v.length=a.S.length->v.drop k=a.S.drop k->0<=c->c+(X9 (a.S.drop k)).length=rs.length->rs.length<=1000000 ->
 Ok (Qbo N a rs n c (k:Int) v) λe=>match e with|.ret r=>r=(zL,1)|.nxt v=>v.length=a.S.length
 |0,k,c,v,_,D,_,_,_,_,_=>by omega
 |n+1,k,c,v,H,D,u,hd,w,y,g=>by
  refine WU aa (Wp (λh=>?_) λh=>Wg u);have h:k<a.S.length:=by have:=Ww h;omega
  have j:(k:Int)<v.length:=aa;rw[Xg aa];have f:=Wu (show k<v.length by omega);have o:=Wu h;rw[hd,o]at f;have E:a.S[k]=v[k]:=(Oh f).1;have G:a.S.drop (k+1)=v.drop (k+1):=(Oh f).2;refine Ok.get aa j λp hp=>?_;have z:p=a.S[k]:=by rw[Xe,Wc aa,←E]at hp;exact(WG hp).symm
  rw[o]at y;refine Wp (λs=>?_) λs=>?_
  .refine Xdh rs B n (k+1) c v aa aa u G.symm w ?_ g;rw[←y];unfold X9;grind
  have s:a.S[k].V=true:=by rw[←z];simpa using s
  have A:c+1+(X9 (a.S.drop (k+1))).length=rs.length:=by rw[←y];unfold X9;rw[UA (by rw[s]),Ub,Um];omega
  refine Ok.get w aa λq _=>Wp (λ_=>Wg rfl) λ_=>Ok.get w aa λq _=>Ok.get aa j λI _=>?_;rw[Xd (n:=c+1) aa aa];refine Xdh rs B n (k+1) (c+1) _ aa aa (by rw[WO];exact u) ?_ aa A g;rw[IL aa];simp_all
def Xmy(j:LBp a)(hN:1000000<N){rs:List Int}(o:rs.length<=1000000):Ok (Qen N a rs) λr=>LBp r.1:=by
 have e:=j;have⟨f,g,hl3⟩:=j;rw[Qen,ZI e hN,Xa];refine Wp (λ_=>Wg ZR) λh=>?_;have h:Y0 a=true:=by simpa using h
 rw[ZB e hN,Xa,h,Wb];refine Wp (λ_=>Wg ZR) λk=>WU aa ?_;have k:(rs.length:Int)=(((X9 a.S).length:Nat):Int):=by simpa using k
 refine IY (Xdh rs f N 0 0 a.S aa aa rfl rfl aa (by rw[W0];omega) o) (λr q=>Wg (by rw[q];exact ZR)) λv q=>Wg ⟨?_,g,hl3⟩;simp_all
end
def TB(t:Ws):Prop:=t.e.length<=1000000
def zT:Ws:=⟨[]⟩
def Xdi:TB zT:=by simp[TB,zT]
section
variable {N:Nat}{t:Ws}
def XeA(l:List WT):Option Nat:=l.findIdx? λe=>!e.V&&decide (e.G<4294967295)
def YG(t:Ws)(id:Int):Ws×Int×Int×Int:=
 if YZ t.e=false then(zT,0,0,1)else
 match XeA t.e with
 |some k=>(⟨t.e.set k ⟨(t.e.getD k ⟨0,0,false⟩).G+1,id,true⟩⟩,(k:Int),(t.e.getD k ⟨0,0,false⟩).G+1,0)
 |none=>if t.e.length=64 then(zT,0,0,18)else(⟨t.e++[⟨1,id,true⟩]⟩,(t.e.length:Int),1,0)
def Xjj(g:TB t)(o:YZ t.e=true)(id:Int):∀(n k:Nat),k<=t.e.length->t.e.length-k<n->Qb2 N t id n (k:Int)=some (match (t.e.drop k).findIdx? (λe=>!e.V&&decide (e.G<4294967295))with
 |some j=>.ret (⟨t.e.set (k+j) ⟨(t.e.getD (k+j) ⟨0,0,false⟩).G+1,id,true⟩⟩,((k+j:Nat):Int),(t.e.getD (k+j) ⟨0,0,false⟩).G+1,0)
 |none=>.nxt ())
 |0,k,_,q=>by omega
 |n+1,k,s,q=>by
  unfold TB at g;rw[Qb2,Xc aa];by_cases h:k<t.e.length
  .have e:=Wc h;have r:t.e.getD k ⟨0,0,false⟩=t.e[k]:=by rw[Wr,e];rfl
   have u:=Xbh o (WL h);rw[Xm h,Wb,Xe,e];simp only[Xa];rw[Xg aa,Wu h,IT];have next:=Xjj g o id n (k+1) aa aa
   have p:Qb2 N t id n ((k+1:Nat):Int)=some (match Option.map (λi=>i+1) ((t.e.drop (k+1)).findIdx? (λe=>!e.V&&decide (e.G<4294967295)))with
    |some j=>.ret (⟨t.e.set (k+j) ⟨(t.e.getD (k+j) ⟨0,0,false⟩).G+1,id,true⟩⟩,((k+j:Nat):Int),(t.e.getD (k+j) ⟨0,0,false⟩).G+1,0)
    |none=>.nxt ()):=by
    rw[next]
    cases (t.e.drop (k+1)).findIdx? (λe=>!e.V&&decide (e.G<4294967295))with
    |none=>rfl
    |some j=>simp only[U4];rw[show k+1+j=k+(j+1) by omega]
   cases v:t.e[k].V
   .cases w:decide (t.e[k].G<4294967295)
    .exact p
    rw[W7,Wb,Wb,Bool.and_true,Wq rfl];have f:(k:Int).toNat=k:=aa;rw[Xd aa aa,f,Xe,IC,Wq rfl,Wq h,Xa];simp only[IR];rw[r]
   exact p
  grind
def K4(f:TB t)(hN:1000000<N)(id:Int):QcV N t id=some (YG t id):=by
 have g:=f;unfold TB at f;rw[QcV,Zv f hN,Xa,YG];cases o:YZ t.e
 .rfl
 have k:=Xjj (N:=N) g o id N 0 aa aa;rw[show((0:Nat):Int)=0 from rfl,W0]at k;rw[Wi,Wa,Xc aa,k,Xa,Wk ab,XeA];cases t.e.findIdx? (λe=>!e.V&&decide (e.G<4294967295))with
 |some j=>simp[XE,UG]
 |none=>
  simp only[Xp];rw[Xc aa];by_cases h:t.e.length=64
  .rw[Wq h,h];rfl
  rw[Wk h,show((t.e.length:Int)==64)=false by grind,Wa,Xc aa,Xc aa]
def Xjk(g:TB t)(id:Int):TB (YG t id).1:=by
 unfold YG;cases f:YZ t.e
 .exact Xdi
 have:=Js f;rw[Wk ab];cases XeA t.e with
 |some k=>show(t.e.set _ _).length<=_;grind
 |none=>
  simp only;split
  .exact Xdi
  show(t.e++[_]).length<=_;grind
def Xac{i g:Int}(h:(YF t.e i g).2=0):YZ t.e=true/\0<=i/\∃p,t.e[i.toNat]? = some p/\p.G=g/\p.V=true/\(YF t.e i g).1=p.a:=by unfold YF at h⊢;grind
def KR(t:Ws)(i g:Int):Ws×Int:=
 if(YF t.e i g).2≠0 then(zT,(YF t.e i g).2)else(⟨t.e.set i.toNat ⟨g,0,false⟩⟩,0)
def JG(f:TB t)(hN:1000000<N)(i g:Int):Qc9 N t i g=some (KR t i g):=by
 unfold TB at f;rw[Qc9,Kg f hN,Xa,KR];by_cases h:(YF t.e i g).2=0
 .have⟨_,h0,p,hp,_⟩:=Xac h;have:=XC hp;rw[h,show((0:Int) != 0)=false from rfl,Wa,Wk ab,QhM,Xc aa,X1 h0 aa,Xa,Xa]
 rw[show((YF t.e i g).2 != 0)=true by simp_all,Wb,Wq h];rfl
def Xjl(f:TB t)(i g:Int):TB (KR t i g).1:=by
 unfold KR;split
 .exact Xdi
 show(t.e.set _ _).length<=_;rw[WO];exact f
def Xdj(rs:List Int)(z:t.e.length<=1000000):∀(n k:Nat) (c:Int) (v:List WT),k<=t.e.length->t.e.length-k<n->v.length=t.e.length->v.drop k=t.e.drop k->0<=c->c+(XT (t.e.drop k)).length=rs.length->rs.length<=1000000 ->
 Ok (Qbp N rs n c (k:Int) v) λv=>v.length=t.e.length
 |0,k,c,v,_,B,_,_,_,_,_=>by omega
 |n+1,k,c,v,G,B,s,hd,A,u,g=>by
  refine WU aa (Wp (λh=>?_) λh=>Wg s);have h:k<t.e.length:=by have:=Ww h;omega
  have j:(k:Int)<v.length:=aa;rw[Xg aa];have f:=Wu (show k<v.length by omega);have o:=Wu h;rw[hd,o]at f;have D:t.e[k]=v[k]:=(Oh f).1;have E:t.e.drop (k+1)=v.drop (k+1):=(Oh f).2;refine Ok.get aa j λp hp=>?_;have w:p=t.e[k]:=by rw[Xe,Wc aa,←D]at hp;exact(WG hp).symm
  rw[o]at u;refine Wp (λr=>?_) λr=>?_
  .have r:t.e[k].V=true:=by rw[←w];exact r
   have y:c+1+(XT (t.e.drop (k+1))).length=rs.length:=by rw[←u];unfold XT;rw[UA (by rw[r]),Ub,Um];omega
   refine Ok.get A aa λq _=>Ok.get aa j λH _=>?_;rw[Xd (n:=c+1) aa aa];refine Xdj rs z n (k+1) (c+1) _ aa aa (by rw[WO];exact s) ?_ aa y g;rw[IL aa];simp_all
  refine Xdj rs z n (k+1) c v aa aa s E.symm A ?_ g;rw[←u];unfold XT;grind
def XeB(f:TB t)(hN:1000000<N){rs:List Int}(j:rs.length<=1000000):Ok (QcC N t rs) λr=>r.1.e.length<=t.e.length:=by
 unfold TB at f;rw[QcC,Zv f hN,Xa];refine Wp (λ_=>Wg ab) λg=>?_;have g:YZ t.e=true:=by simpa using g
 have k:=Xaa t.e;rw[Yt f hN,Xa,g,Wb];refine WU aa (Wp (λ_=>Wg ab) λh=>WU aa ?_);have h:(rs.length:Int)=(((XT t.e).length:Nat):Int):=by simpa using h
 refine WI (Xdj rs f N 0 0 t.e aa aa rfl rfl aa (by rw[W0];omega) j) λv _ q=>Wg ?_;simp_all
def XgP(e:TB t)(hN:1000000<N){rs:List Int}(f:rs.length<=1000000):Ok (QcC N t rs) λr=>TB r.1:=(XeB e hN f).mono λr h=>Uq h e
def Xdk{k:Nat}(g:t.e.length<=1000+k)(id:Int):(YG t id).1.e.length<=1000+k:=by
 unfold YG;cases f:YZ t.e
 .simp[zT]
 have:=Js f;grind[WO,zT,WR]
def XgQ{k:Nat}(f:t.e.length<=1000+k)(i g:Int):(KR t i g).1.e.length<=1000+k:=by unfold KR;grind[zT,WO]
end
section
variable {N:Nat}
def ZJ(h:UR):Ok (Qbg N h) λ_=>True:=by refine WI (Q:=λ_=>True) ?_ λb _ _=>Wp (λ_=>Wg trivial) λ_=>Wg trivial;exact Wp (λ_=>Wp (λ_=>Wp (λ_=>Wp (λ_=>Wp (λ_=>Wg trivial) λ_=>Wg trivial) λ_=>Wg trivial) λ_=>Wg trivial) λ_=>Wg trivial) λ_=>Wg trivial
def XbN(a:Int):Ok (Qc8 N a) λ_=>True:=by exact Wp (λ_=>Wg trivial) λ_=>WI (ZJ _) λ_ _ _=>Wp (λ_=>Wg trivial) λ_=>Wp (λ_=>Wg trivial) λ_=>Wg trivial
def Xqj{l:List Ux}(r:Int)(g:l.length<=1000000):∀(n:Nat) (k:Int),0<=k->k<=l.length->(l.length-k).toNat<n->Ok (QfV N l r n k) λe=>∀i,e=.ret i->0<=i/\i<l.length/\∃p∈l,p.a=r
 |0,k,_,_,j=>by omega
 |n+1,k,h0,o,j=>by
  refine Wp (λf=>?_) λ_=>Wg λi e=>by grind
  have f:k<l.length:=Ww f;rw[Xd (n:=k+1) aa aa];refine Ok.get h0 f λp hp=>Wp (λh=>Wg λi e=>?_) λ_=>Xqj r g n (k+1) aa aa aa;cases e;exact⟨h0,f,p,YH hp,by simp_all⟩
def Xdl{l:List Ux}(r:Int)(e:l.length<=1000000)(hN:1000000<N):Ok (QhJ N l r) λi=>i = -1\/(0<=i/\i<l.length/\∃p∈l,p.a=r):=by exact IY (Xqj r e N 0 aa aa aa) (λi q=>Wg (.inr (q i rfl))) λ_ _=>Wg (.inl rfl)
def Xad{h:Wm}(hp:Uv h){a:Int}(e:IW h a):Qgp N h a=some (pgi h.c a)/\0<=pgi h.c a/\pgi h.c a<h.p.length:=by have⟨_,f,g,_⟩:=KP hp.conf e.rng;have:=hp.pages;refine⟨?_,f,aa⟩;rw[Qgp,J4,Xa,hp.conf,Wk ab,Wq e.rng];rfl
def XgR{h:Wm}{pins:List Ux}(hN:NB N)(hp:Uv h)(y:List Int×Int)(j:Io N h y.1)(z:pins.length<=64)(hb:HB h):∀(n:Nat) (k:Int) (v:List Int),0<=k->k<=pins.length->(pins.length-k).toNat<n->v.length=h.p.length->Ok (Qb8 N h pins y n k v) λe=>match e with|.ret b=>b=false|.nxt v=>v.length=h.p.length/\∀i,k<=i->∀p,Xb pins i=some p->IW h p.a
 |0,k,v,_,_,A,_=>by omega
 |n+1,k,v,h0,J,A,u=>by
  have o:=hN;unfold NB at o;have B:=j.len;refine Wp (λf=>?_) λf=>Wg ⟨u,λi K p hp=>?_⟩;rotate_left
  .have:=WP f;rw[Xko aa]at hp;cases hp
  have f:k<pins.length:=Ww f;rw[Xd (n:=k+1) aa aa];have D:0<=k+1:=aa;have E:k+1<=pins.length:=aa;have G:(pins.length-(k+1)).toNat<n:=aa;refine Ok.get h0 f λp r=>?_;have same:∀q,Xb pins k=some q->q=p:=λq g=>WG (g.symm.trans r);rw[YQ p.a aa aa,Xa];refine Wp (λ_=>Wg rfl) λH=>?_;have I:p.a∈y.1:=Zr (by simpa using H);have s:=j.obj.at_ _ I;refine Ok.get h0 f λq g=>?_;refine WI (Xdl _ aa aa) λ_ _ _=>Wp (λ_=>Wg rfl) λ_=>Ok.get h0 f λ_ _=>Wp (λ_=>Wg rfl) λ_=>Ok.get h0 f λ_ _=>Wp (λ_=>Wg rfl) λ_=>Ok.get h0 f λq g=>?_;obtain rfl:=same q g;have⟨e,w,L⟩:=Xad (N:=N) hp s;rw[e,Xa];refine Ok.get w aa λ_ _=>Ok.get h0 f λ_ _=>Ok.get w aa λ_ _=>?_;refine(XgR hN hp y j z hb n (k+1) _ D E G (by rw[WO];exact u)).mono λe M=>?_;grind
def XgS{h:Wm}(hb:HB h)(v:List Int)(g:v.length=h.p.length):∀(n:Nat) (k:Int),0<=k->k<=h.p.length->(h.p.length-k).toNat<n->Ok (Qdz N h v n k) λe=>∀b,e=.ret b->b=false
 |0,k,_,_,j=>by omega
 |n+1,k,h0,o,j=>by
  have:=hb.2;refine Wp (λf=>?_) λ_=>Wg λb e=>by grind
  have f:k<h.p.length:=Ww f;rw[Xd (n:=k+1) aa aa];exact Ok.get h0 f λ_ _=>Ok.get h0 aa λ_ _=>Wp (λ_=>Wg λb e=>by simp_all) λ_=>XgS hb v g n (k+1) aa aa aa
structure OM(N:Nat)(h:Wm)(pins:List Ux):Prop where
 good:Oz N h
 len:pins.length<=64
 at_:∀p∈pins,IW h p.a
def Jt(hN:NB N){h:Wm}(hb:HB h){pins:List Ux}(u:pins.length<=1000000):Ok (Qbk N h pins) λb=>b=true->OM N h pins:=by
 have j:=hN;unfold NB at j;have k:=hb.2;refine WI (KA hN hb) λb _ g=>Wp (λ_=>Wg λe=>by grind) λo=>?_;have g:=g (by simp_all);refine Wp (λ_=>Wg λe=>by grind) λf=>?_;have f:=WP f;refine WI (Z0 hN hb) λy _ r=>WU aa ?_;refine IY (XgR hN g.prop y r.1 aa hb N 0 _ aa aa aa ab) (λb q=>Wg λe=>?_) λv q=>?_
 .simp_all
 refine IY (XgS hb v q.1 N 0 aa aa aa) (λb q=>Wg λe=>?_) λ_ _=>Wg λ_=>⟨g,aa,λp hp=>?_⟩
 .simp_all
 have⟨i,s,e⟩:=WM hp;exact q.2 (i:Int) aa p (by rw[Xe,Wc s,e])
def XgT{h:Wm}(hb:HB h)(hp:Uv h){a:Int}(j:IW h a)(d:Int):Ok (Qcb N h a d) HB:=by have k:=hb.2;have⟨e,f,g⟩:=Xad (N:=N) hp j;rw[Qcb,Xc aa,e,Xa];exact Ok.get f g λ_ _=>Ok.get f g λ_ _=>Wg ⟨hb.1,by simp_all⟩
def Xdm(hN:NB N){h:Wm}(hb:HB h){pins:List Ux}(v:pins.length<=1000000)(a:Int):Ok (QbL N h pins a) λr=>HB r.1/\r.2.1.length<=1000000:=by
 have g:=hN;unfold NB at g;have zero:HB zH/\([]:List Ux).length<=1000000:=⟨Ko,ab⟩
 refine WI (Jt hN hb v) λb _ f=>Wp (λ_=>Wg zero) λj=>?_;have f:=f (by simpa using j);refine Wp (λ_=>Wg zero) λ_=>WI (Xdl _ v aa) λi _ z=>Wp (λ_=>Wg zero) λh0=>?_;have h0:=WP h0;obtain⟨k,o,p,q,s⟩:0<=i/\i<pins.length/\∃p∈pins,p.a=a:=by
  rcases z with h|h
  .omega
  exact h
 have e:=f.at_ p q;rw[s]at e;have w:=XgT (N:=N) hb f.good.prop e (-1);refine WU aa (Ok.get k o λ_ _=>Ok.get k o λ_ _=>Ok.get k (by rw[WO];exact o) λ_ _=>?_);rw[Xd (n:=i+1) aa aa];refine Wp (λ_=>WU aa (WU aa (WU aa (WI w λy _ u=>Wg ⟨u,?_⟩)))) λ_=>WI w λy _ u=>Wg ⟨u,?_⟩
 .simp;omega
 simp_all
def XaL{h:Wm}(hb:HB h)(a:Int):∀(n:Nat) (c k:Int),0<=k->k<=h.p.length->(h.p.length-k).toNat<n->Ok (QbX N h a n c k) λ_=>True
 |0,c,k,_,_,f=>by omega
 |n+1,c,k,h0,j,f=>by
  have:=hb.2;refine Wp (λe=>?_) λ_=>Wg trivial;have e:k<h.p.length:=Ww e;rw[Xd (n:=k+1) aa aa];have next:=λg=>XaL hb a n g (k+1) aa aa aa
  exact Ok.get h0 e λ_ _=>Wp (λ_=>Ok.get h0 e λ_ _=>Wp (λ_=>next _) λ_=>next _) λ_=>next _
def Ju(hN:NB N){h:Wm}(hb:HB h)(a:Int):Ok (Qdj N h a) λ_=>True:=by have f:=hN;unfold NB at f;have k:=hb.2;refine WI (KA hN hb) λb _ r=>Wp (λ_=>Wg trivial) λg=>?_;refine WI (Xce hN hb a) λb _ o=>Wp (λ_=>Wg trivial) λg=>?_;have⟨hp,j⟩:=o (by simp_all);have⟨e,p,q⟩:=Xad (N:=N) hp j;refine WI (XaL hb a N 0 0 aa aa aa) λc _ _=>?_;rw[e,Xa];exact Ok.get p q λ_ _=>Wp (λ_=>Wp (λ_=>Wg trivial) λ_=>Wg trivial) λ_=>Wg trivial
def XeC(hN:NB N){h:Wm}(hb:HB h){pins:List Ux}(u:pins.length<=1000000)(a:Int):Ok (QdE N h pins a) λr=>HB r.1/\r.2.1.length<=1000000:=by
 have g:=hN;unfold NB at g;have zero:HB zH/\([]:List Ux).length<=1000000:=⟨Ko,ab⟩
 refine WI (Jt hN hb u) λb _ e=>Wp (λ_=>Wg zero) λj=>?_;have e:=e (by simp_all);refine Wp (λ_=>Wg zero) λ_=>WI (Xce hN hb a) λb _ A=>Wp (λ_=>Wg zero) λj=>?_;have⟨hp,k⟩:=A (by simp_all);have v:=XgT (N:=N) hb e.good.prop k 1;have B:=e.len;refine WI (Xdl _ u aa) λi _ w=>?_
 have rest:Ok (α:=Wm×List Ux×Int×Int) (grd (pins.length*16<=140737488355328) <|
  jn (λ(o:List Ux)=>
   bnd (Qcb N h a 1) λp=>
   some (p,o,(wU (a+1)),0)) λz=>
  bif (decide (i>=0))then(bnd (Xb pins i) λD=>
   bnd (Xb pins i) λq=>
   z (pins.set i.toNat (Ux.mk q.a (wI (D.M+1)))))
  else grd ((pins.length+1)*16<=140737488355328) <|
  z (pins++[(Ux.mk a 1)])) λr=>HB r.1/\r.2.1.length<=1000000:=by
  refine WU aa (Il (Wp (λh0=>?_) λ_=>WU aa (WI v λy _ s=>Wg ⟨s,?_⟩)))
  .have h0:0<=i:=Ww h0
   have f:i<pins.length:=by rcases w with h|h;omega;exact h.2.1
   exact Ok.get h0 f λ_ _=>Ok.get h0 f λ_ _=>WI v λy _ s=>Wg ⟨s,by simp_all⟩
  .grind
 refine Il (Wp (λh0=>?_) λ_=>Wp (λ_=>Wp (λ_=>Wg zero) λ_=>WI (Ju hN hb a) λ_ _ _=>Wp (λ_=>Wg zero) λ_=>rest) λ_=>WI (Ju hN hb a) λ_ _ _=>Wp (λ_=>Wg zero) λ_=>rest);have h0:0<=i:=Ww h0;have f:i<pins.length:=by rcases w with h|h;omega;exact h.2.1
 exact Ok.get h0 f λ_ _=>Wp (λ_=>Wg zero) λ_=>Wp (λ_=>Wp (λ_=>Wg zero) λ_=>WI (Ju hN hb a) λ_ _ _=>Wp (λ_=>Wg zero) λ_=>rest) λ_=>WI (Ju hN hb a) λ_ _ _=>Wp (λ_=>Wg zero) λ_=>rest
end
section
variable {N:Nat}
def Xfw(hN:NB N)(c:WW)(d:WC):Ok (QcA N c d) λb=>b=true->XL d=true/\d.k≠0/\XD c (XF d)≠-1:=by
 have f:=hN;unfold NB at f;rw[QcA,Zq,Xa];refine Wp (λg=>Wp (λh=>?_) λ_=>Wg λe=>by grind) λ_=>Wg λe=>by grind
 rw[X5,Xa,ZG aa,Xa];exact Wg λe=>⟨g,by simp_all,by simp_all⟩
def XgU(hN:NB N){h:Wm}(hb:HB h)(hp:Uv h)(n:Int):Ok (Qe5 N h n) λr=>HB r.1:=by
 have v:=hN;unfold NB at v;have z:=hb.2;have setP:∀(A:List Wv) (i:Nat) (p:Wv) (s b:Int),A.length<=100000->HB ⟨h.c,h.w,A.set i p,s,b⟩:=λA i p s b M=>⟨hb.1,by simp_all⟩
 refine WU aa ?_;rw[XbL,Xa];refine WI (VO aa aa) λu _ _=>?_;have fresh:Ok (α:=Wm×Int×Bool) (bnd (Qby N h.p 1) λe=>
  bif (decide (e<0))then some ((Wm.mk (WW.mk 0 0) [] [] 0 0),0,false)
  else bif (decide (u>=KZ h.c))then some ((Wm.mk (WW.mk 0 0) [] [] 0 0),0,false)
  else bnd (QbR N h.p e h.s) λq=>
  bnd (Xb q.1 e) λB=>
  bnd (Xb q.1 e) λD=>
  bnd (Xb q.1 e) λf=>
  some ((Wm.mk h.c h.w (q.1.set e.toNat (Wv.mk f.k f.s (wI (D.u+n)) f.P)) h.s e),(wU (wI ((wI (4096+(wI (e*h.c.W))))+B.u))),true)) λr=>HB r.1:=by
  refine WI (Zl 1 aa aa) λj _ H=>Wp (λ_=>Wg Ko) λJ=>Wp (λ_=>Wg Ko) λ_=>?_
  have K:RunOK h.p j 1:=by
   rcases H with rfl|H
   .grind
   .omega
  have L:=hp.space
  refine WI (Xc9 j h.s aa aa) λy _ I=>?_
  obtain⟨E,O,R,S⟩:=I.1 (I.2.2 K aa aa)
  have g:j<y.1.length:=aa
  exact Ok.get E g λ_ _=>Ok.get E g λ_ _=>Ok.get E g λ_ _=>Wg (setP _ _ _ _ _ aa)
 refine Il (Wp (λ_=>fresh) λh0=>?_);have h0:=WP h0;have G:=hp.bump;have o:h.b<h.p.length:=by rcases G with h|h;omega;exact h.2.1
 have h0:0<=h.b:=aa;exact Ok.get h0 o λ_ _=>Wp (λ_=>fresh) λ_=>Ok.get h0 o λ_ _=>Wp (λ_=>fresh) λ_=>Wp (λ_=>fresh) λ_=>Ok.get h0 o λ_ _=>Ok.get h0 o λ_ _=>Ok.get h0 o λ_ _=>Wg (setP _ _ _ _ _ z)
def XgV(hN:NB N){h:Wm}(hb:HB h)(hp:Uv h)(w k:Int):Ok (Qe6 N h w k) λr=>HB r.1:=by
 have e:=hN;unfold NB at e;have f:=hb.2;refine WI (Zl k aa aa) λj _ q=>Wp (λ_=>Wg Ko) λg=>WI (VO aa aa) λu _ _=>?_;rw[XbL,Xa];refine Wp (λ_=>Wg Ko) λ_=>WI (Xml h.c j h.s w aa aa) λy _ o=>Wg ⟨hb.1,?_⟩;show y.1.length<=_;by_cases p:y.2=0
 .have:=(o.1 p).2.2.2.1;omega
 simp_all
def Xcz(hN:NB N){h:Wm}(hb:HB h)(d:WC):Ok (Qch N h d) λr=>HB r.1:=by
 have f:=hN;unfold NB at f;refine WI (YM (N:=N) aa hb.1 hb.2) λb _ hp=>Wp (λ_=>Wg Ko) λj=>?_;have hp:=hp (by simp_all);refine WI (Xfw hN _ _) λb _ _=>Wp (λ_=>Wg Ko) λ_=>?_;rw[X5,Xa,ZG aa,Xa];refine WI (XgU hN hb hp _) λk _ o=>Il (Wp (λ_=>WI (XgV hN hb hp _ _) λp _ q=>?_) λ_=>?_)
 .exact Wp (λ_=>Wg Ko) λ_=>WI (Xi9 hN (h:=p.1) q _ d) λg _ e=>Wg e
 exact Wp (λ_=>Wg Ko) λ_=>WI (Xi9 hN (h:=k.1) o _ d) λg _ e=>Wg e
end
structure EB(x:WJ):Prop where
 heap:HB x.h
 loc:LBp x.l
 glo:TB x.g
 wea:TB x.v
 pins:x.P.length<=1000000
 roots:x.R.length<=100000
def zE:WJ:=⟨zH,zL,zT,zT,[],[]⟩
def Xdn:EB zE:=⟨Ko,ZR,Xdi,Xdi,by simp[zE],by simp[zE]⟩
section
variable {N:Nat}{x:WJ}
def Zs{a:Wo}(h:LBp a):(bif Y0 a then X9 a.S else[]).length<=4096:=by
 cases f:Y0 a
 .simp
 have e:=YW.1 f;have:=e.slots;have:=e.iss;have:=XbM a.S;grind
def Yu(l:List WT):(bif YZ l then XT l else[]).length<=64:=by
 cases e:YZ l
 .simp
 have:=Js e;have:=Xaa l;grind
structure EV(N:Nat)(x:WJ):Prop where
 mat:OM N x.h x.P
 loc:Y0 x.l=true
 glo:YZ x.g.e=true
 wea:YZ x.v.e=true
def Zt(hN:NB N)(f:EB x):Ok (QbP N x) λb=>b=true->EV N x:=by have h:=hN;unfold NB at h;have o:=f.roots;refine WI (Jt hN f.heap f.pins) λb _ j=>Wp (λ_=>Wg λe=>by grind) λk=>?_;have j:=j (by simp_all);rw[ZI f.loc aa,Xa];refine Wp (λ_=>Wg λe=>by grind) λp=>?_;rw[Zv f.glo aa,Xa];refine Wp (λ_=>Wg λe=>by grind) λq=>?_;rw[Zv f.wea aa,Xa];refine Wp (λ_=>Wg λe=>by grind) λr=>?_;rw[Yt f.glo aa,Xa];have s:=Zs f.loc;have u:=Yu x.g.e;have w:=Yu x.v.e;rw[YQ _ aa aa,Xa];refine Wp (λ_=>Wg λe=>by grind) λ_=>WU aa ?_;rw[ZB f.loc aa,Xa];refine WU aa (WU aa ?_);rw[Yt f.wea aa,Xa];refine WU aa (WI (J5 hN f.heap (by grind)) λb _ _=>Wg λ_=>⟨j,by simp_all,by simp_all,by simp_all⟩)
def Xdo(hp:x.P.length<=1000000):∀(n:Nat) (k:Int) (v:List Int),0<=k->k<=x.P.length->(x.P.length-k).toNat<n->v.length<=1000000+k->Ok (Qbv N x n k v) λr=>(r.length:Int)=v.length+(x.P.length-k)
 |0,k,v,_,_,f,_=>by omega
 |n+1,k,v,h0,g,f,h=>by refine Wp (λe=>?_) λe=>Wg (by have:=WP e;omega);have e:k<x.P.length:=Ww e;rw[Xd (n:=k+1) aa aa];refine Ok.get h0 e λp _=>WU aa ?_;refine(Xdo hp n (k+1) _ aa aa aa ah).mono λr j=>?_;grind
def Xdp(hN:NB N)(f:EB x):Ok (Qet N x) λr=>r.length=x.R.length+(bif Y0 x.l then X9 x.l.S else[]).length+(bif YZ x.g.e then XT x.g.e else[]).length+x.P.length:=by have h:=hN;unfold NB at h;have j:=f.roots;have hp:=f.pins;have k:=Zs f.loc;have o:=Yu x.g.e;refine WU aa ?_;rw[ZB f.loc aa,Xa];refine WU aa ?_;rw[Yt f.glo aa,Xa];refine WU aa (WI (Xdo hp N 0 _ aa aa aa ah) λr _ j=>Wg ?_);grind
def Xjm(h:Wm×List Int×List Int×WQ×Int)(e f:List Int)(j:Wo×Int)(o q:Ws×Int)(hp:x.P.length<=1000000)(s:x.R.length<=100000)(u:e.length<=4096)(w:f.length<=64)(y:h.2.1.length=x.R.length+e.length+f.length+x.P.length):∀(n:Nat) (k:Int) (v:List Ux),0<=k->k<=x.P.length->(x.P.length-k).toNat<n->(v.length:Int)=k->Ok (Qa3 N x h e f j o q n k v) λr=>r.length=x.P.length
 |0,k,v,_,_,z,_=>by omega
 |n+1,k,v,h0,A,z,B=>by refine Wp (λg=>?_) λg=>Wg (by grind);have g:k<x.P.length:=Ww g;rw[Xd (n:=k+1) aa aa,Xd (n:=(x.R.length:Int)+(e.length:Int)) aa aa,Xd (n:=(x.R.length:Int)+(e.length:Int)+(f.length:Int)) aa aa,Xd (n:=(x.R.length:Int)+(e.length:Int)+(f.length:Int)+k) aa aa];refine Ok.get aa aa λ_ _=>Ok.get h0 g λp _=>WU aa ?_;exact Xjm h e f j o q hp s u w y n (k+1) _ aa aa aa (by simp_all)
def JH(hN:NB N)(f:EB x):Ok (Qbq N x) λr=>EB r.1:=by
 have j:=hN;unfold NB at j;have w:=f.roots;have hp:=f.pins;refine WI (Zt hN f) λb _ h=>Wp (λ_=>Wg Xdn) λk=>?_;have h:=h (by simpa using k);have y:=h.mat.len;have o:=Zs f.loc;have p:=Yu x.g.e;have z:=Yu x.v.e;refine WI (Xdp hN f) λO _ s=>?_;rw[h.loc,h.glo]at s;rw[h.loc]at o;rw[h.glo]at p;rw[Yt f.wea aa,Xa];simp at s o p z⊢;refine WI (Ql5 hN f.heap aa aa) λA _ u=>Wp (λ_=>Wg Xdn) λB=>?_;have⟨g1,g2⟩:=u.len (by simpa using B);rw[ZB f.loc aa,Xa,Yt f.glo aa,Xa,h.loc,h.glo];simp;have D:=Xd (n:=(x.R.length:Int)+(((X9 x.l.S).length:Nat):Int)) aa aa;have E:=Xd (n:=(x.R.length:Int)+(((X9 x.l.S).length:Nat):Int)+(((XT x.g.e).length:Nat):Int)) aa aa;refine WU aa (WU aa (WU aa (WU aa ?_)));refine WI (Xmy f.loc aa (by rw[Wl,Wn];omega)) λG _ H=>WU (by rw[D,E];omega) ?_;refine WI (XgP f.glo aa (by rw[Wl,Wn];omega)) λI _ J=>?_;refine WI (XgP f.wea aa aa) λK _ L=>?_;refine WI (Xjm A (X9 x.l.S) (XT x.g.e) G I K hp w o p aa N 0 [] aa aa aa rfl) λq _ M=>Wg ⟨u.hb,H,J,L,?_,?_⟩
 .show q.length<=_;omega
 grind
def XbO(hN:NB N)(e:EB x)(d:WC):Ok (Qca N x d) λr=>EB r.1:=by
 refine WI (Zt hN e) λb _ k=>Wp (λ_=>Wg Xdn) λg=>?_;refine WI (Xcz hN e.heap d) λo _ h=>Il (Wp (λ_=>WI (JH hN e) λp _ f=>Wp (λ_=>Wg Xdn) λ_=>WI (Xcz hN f.heap d) λq _ j=>?_) λ_=>?_)
 .exact Wp (λ_=>Wg Xdn) λ_=>Wg ⟨j,f.loc,f.glo,f.wea,f.pins,f.roots⟩
 exact Wp (λ_=>Wg Xdn) λ_=>Wg ⟨h,e.loc,e.glo,e.wea,e.pins,e.roots⟩
def ZD(hN:NB N)(e:EB x)(v:Int):Ok (QaB N x v) λr=>True:=by
 have f:=hN;unfold NB at f;refine WI (Zt hN e) λb _ h=>Wp (λ_=>Wg trivial) λg=>Wp (λ_=>Wg trivial) λ_=>?_;refine WI (XbN v) λy _ _=>Wp (λ_=>Wg trivial) λ_=>Wp (λ_=>?_) λ_=>Wp (λ_=>?_) λ_=>?_
 .rw[Vm e.loc aa,Xa];exact Wg trivial
 .rw[Kg e.glo aa,Xa];exact Wg trivial
 rw[Kg e.wea aa,Xa];exact Wg trivial
end
end Go.Sx
