import Derived.KernelRfl
import Derived.Test.YtmpbhfnjjaocoaaGreatAC
set_option linter.all false
namespace Go.Sx
def Ok{α:Type}(o:Option α)(P:α->Prop):Prop:=∃r,o=some r/\P r
section
variable {α β γ:Type}{P:β->Prop}
def Xa(x:α)(f:α->Option β):bnd (some x) f=f x:=by unfold bnd;rfl
def Kr(f:α->Option β):bnd none f=none:=by unfold bnd;rfl
def Xc{p:Prop}[Decidable p](h:p)(x:Option α):grd p x=x:=by unfold grd;simp_all
theorem XF{κ:Type}(k:κ)(f:κ->γ):jn k f=f k:=by unfold jn;rfl
theorem XA(a:α)(f:α->γ)(k:β->γ):exK (.ret a) f k=f a:=by unfold exK;rfl
theorem Xm(b:β)(f:α->γ)(k:β->γ):exK (.nxt b) f k=k b:=by unfold exK;rfl
def Xe(l:List α)(k:Nat):Xb l (k:Int)=l[k]?:=by unfold Xb;simp
def Yj{l:List α}{i:Int}(h0:0<=i)(h1:i<l.length):Xb l i=some (l[i.toNat]'aa):=by unfold Xb;simp_all
def VV{l:List α}{i:Int}{p:α}:Xb l i=some p↔0<=i/\l[i.toNat]? = some p:=by unfold Xb;simp
def Yy{l:List α}{i:Int}{p:α}(h:Xb l i=some p):p∈l:=Ui (VV.1 h).2
def Xjo{l:List α}{i:Int}(h:¬(0<=i/\i<l.length)):Xb l i=none:=by unfold Xb;simp_all
def We{x:β}(h:P x):Ok (some x) P:=⟨x,rfl,h⟩
def WH{o:Option α}{f:α->Option β}{Q:α->Prop}(h:Ok o Q)(k:∀y,o=.some y->Q y->Ok (f y) P):Ok (Sx.bnd o f) P:=by obtain⟨y,rfl,hq⟩:=h;simp_all[Xa]
def WS{p:Prop}[Decidable p]{x:Option β}(h:p)(k:Ok x P):Ok (Sx.grd p x) P:=by simp_all[Xc,h]
def U6{κ:Type}{k:κ}{f:κ->Option β}(h:Ok (f k) P):Ok (Sx.jn k f) P:=by simp_all[XF]
def Wm{b:Bool}{x y:Option β}(h1:b=true->Ok x P)(h2:b=false->Ok y P):Ok (bif b then x else y) P:=by grind
def Ok.get{l:List α}{i:Int}{f:α->Option β}(h0:0<=i)(h1:i<l.length)(k:∀p,Xb l i=.some p->Ok (f p) P):Ok (Sx.bnd (Xb l i) f) P:=by simp_all[Yj,h0,h1,Xa]
def Ok.mono{o:Option β}{Q:β->Prop}(h:Ok o Q)(k:∀x,Q x->P x):Ok o P:=by obtain⟨y,rfl,hq⟩:=h;exact⟨y,rfl,k y hq⟩
def Ok.get_eq{o:Option β}{x:β}(h:Ok o P)(e:o=.some x):P x:=by have⟨y,h1,h2⟩:=h;simp_all
def Ok.isSome{o:Option β}(h:Ok o P):o≠none:=by obtain⟨y,rfl,_⟩:=h;simp
def IH{α':Type}{o:Option (Ex α' α)}{f:α'->Option β}{k:α->Option β}{Q:Ex α' α->Prop}(h:Ok o Q)(h1:∀a,Q (.ret a)->Ok (f a) P)(h2:∀b,Q (.nxt b)->Ok (k b) P):Ok (Sx.bnd o λe=>exK e f k) P:=by
 obtain⟨y,rfl,hq⟩:=h;rw[Xa];cases y with
 |ret a=>simp_all[XA]
 |nxt b=>simp_all[Xm]
end
def Xd{n:Int}(h1:-9223372036854775808<=n)(h2:n<=9223372036854775807):wI n=n:=by
 have e:wI n=if n % 18446744073709551616>=9223372036854775808 then n % 18446744073709551616-18446744073709551616 else n % 18446744073709551616:=by have e1:IntKind.bits .i64=64:=rfl;have e2:IntKind.signed .i64=true:=rfl;simp[wI,IntKind.wrap,e1,e2]
 omega
theorem Xbq(n:Int):wU n=n % 18446744073709551616:=by rfl
def Xx{n:Int}(h1:0<=n)(h2:n<=18446744073709551615):wU n=n:=by grind[Xbq]
def Xcm(n:Int):0<=wU n/\wU n<=18446744073709551615:=by grind[Xbq]
theorem Xla(n:Int):wW n=n % 4294967296:=by rfl
def Xpc{n:Int}(h1:0<=n)(h2:n<=4294967295):wW n=n:=by grind[Xla]
def Xlb{n:Int}(h0:0<=n)(h1:n<=63):ZQ .u64 1 n=2 ^ n.toNat:=by
 have e1:IntKind.bits .u64=64:=rfl;have h:min n.toNat 64=n.toNat:=aa;have hp:(2:Int) ^ n.toNat<=2 ^ 63:=by have:2 ^ n.toNat<=2 ^ 63:=IO aa aa;exact_mod_cast this
 have hq:(0:Int)<=2 ^ n.toNat:=Int.pow_nonneg ae;show IntKind.wrap .u64 (1*2 ^ min n.toNat (IntKind.bits .u64))=_;rw[e1,h,IP];exact Xx hq aa
def YQ(a:Int)(k:Nat)(hk:k<=64)(h0:0<=a):YA .u64 a k=a / 2 ^ k:=by have e1:IntKind.bits .u64=64:=rfl;show a.fdiv (2 ^ min (k:Int).toNat (IntKind.bits .u64))=_;grind
def YR(a:Int)(k:Nat)(hk:k<=63)(h0:0<=a)(h1:a<=18446744073709551615):Zc .u64 a (2 ^ k-1)=a % 2 ^ k:=by
 obtain⟨n,rfl⟩:=UB h0;have hb:IntKind.u64.bits=64:=rfl;show IntKind.u64.wrap ((BitVec.ofInt IntKind.u64.bits n &&& BitVec.ofInt IntKind.u64.bits (2 ^ k-1)).toNat:Int)=_;rw[hb];have hk2:(2:Int) ^ k-1=((2 ^ k-1:Nat):Int):=by
  have h1:=Nat.one_le_two_pow (n:=k);have h2:(2:Int) ^ k=((2 ^ k:Nat):Int):=by simp
  rw[h2];omega
 have e1:BitVec.ofInt 64 (n:Int)=BitVec.ofNat 64 n:=by simp
 have e2:BitVec.ofInt 64 ((2 ^ k-1:Nat):Int)=BitVec.ofNat 64 (2 ^ k-1):=by simp
 rw[hk2,e1,e2,BitVec.toNat_and,Ie,Ie];have hn:n % 2 ^ 64=n:=IS aa;have hp:2 ^ k<=2 ^ 63:=IO aa hk;have hm:(2 ^ k-1) % 2 ^ 64=2 ^ k-1:=IS aa;rw[hn,hm,Nat.and_two_pow_sub_one_eq_mod];show wU _=_;rw[Xx aa aa];simp
def PT{α:Type}(o:Option α)(P:α->Prop):Prop:=∀r,o=some r->P r
def tU(n:Int):Prop:=0<=n/\n<=18446744073709551615
def tW(n:Int):Prop:=0<=n/\n<=4294967295
def tL{α:Type}(T:α->Prop)(l:List α):Prop:=∀x∈l,T x
def tE{α β:Type}(A:α->Prop)(B:β->Prop):Ex α β->Prop
 |.ret a=>A a
 |.nxt b=>B b
section
variable {α β γ:Type}{P:β->Prop}{T:α->Prop}
def Wd{x:β}(h:P x):PT (some x) P:=λr e=>WK e▸h
def Iz:PT none P:=λr e=>by grind
def Wv{o:Option α}{f:α->Option β}{Q:α->Prop}(h:PT o Q)(k:∀y,Q y->PT (f y) P):PT (Sx.bnd o f) P:=by
 cases o with
 |none=>rw[Kr];exact Iz
 |some y=>rw[Xa];exact k y (h y rfl)
def WC{o:Option α}{f:α->Option β}(k:∀y,PT (f y) P):PT (Sx.bnd o f) P:=by
 cases o with
 |none=>rw[Kr];exact Iz
 |some y=>simp_all[Xa]
def WI{p:Prop}[Decidable p]{x:Option β}(k:PT x P):PT (Sx.grd p x) P:=by
 unfold Sx.grd;split
 .omega
 exact Iz
def UL{κ:Type}{k:κ}{f:κ->Option β}{Q:κ->Prop}(h:Q k)(g:∀j,Q j->PT (f j) P):PT (Sx.jn k f) P:=by simp_all[XF]
def Wi{b:Bool}{x y:Option β}(h1:PT x P)(h2:PT y P):PT (bif b then x else y) P:=by grind
def PT.get{l:List α}{i:Int}{f:α->Option β}(h:tL T l)(k:∀p,T p->PT (f p) P):PT (Sx.bnd (Xb l i) f) P:=
 Wv (Q:=T) (λr e=>h r (Yy e)) k
def I9{α':Type}{o:Option (Ex α' α)}{f:α'->Option β}{k:α->Option β}{A:α'->Prop}(h:PT o (tE A T))(h1:∀a,A a->PT (f a) P)(h2:∀b,T b->PT (k b) P):PT (Sx.bnd o λe=>exK e f k) P:=by
 refine Wv h λy hy=>?_;cases y with
 |ret a=>rw[XA];exact h1 a hy
 |nxt b=>rw[Xm];exact h2 b hy
def OC{o:Option β}{r:β}(h:PT o P)(e:o=.some r):P r:=h r e
end
@[simp] def Xs4{α β:Type}(A:α->Prop)(B:β->Prop)(a:α):tE A B (.ret a)=A a:=rfl
@[simp] def Xs5{α β:Type}(A:α->Prop)(B:β->Prop)(b:β):tE A B (.nxt b)=B b:=rfl
@[simp] def Xs6(n:Nat):tU (no_index (OfNat.ofNat n):Int)=((OfNat.ofNat n:Nat)<=18446744073709551615):=by have:(no_index (OfNat.ofNat n):Int)=(n:Int):=rfl;simp only[eq_iff_iff];show(0:Int)<=n/\(n:Int)<=18446744073709551615↔n<=18446744073709551615;omega
@[simp] def Xs7(n:Nat):tW (no_index (OfNat.ofNat n):Int)=((OfNat.ofNat n:Nat)<=4294967295):=by have:(no_index (OfNat.ofNat n):Int)=(n:Int):=rfl;simp only[eq_iff_iff];show(0:Int)<=n/\(n:Int)<=4294967295↔n<=4294967295;omega
@[simp] def Xty(n:Int):tU (wU n):=Xcm n
@[simp] def Xrq(n:Int):tW (wW n):=by unfold tW;rw[Xla];omega
def Xaq(n:Int):tU (IntKind.wrap .u64 n):=Xcm n
def Xlc(n:Int):tW (IntKind.wrap .u32 n):=Xrq n
@[simp] def XsN(a b:Int):tU (Zc .u64 a b):=Xaq _
@[simp] def Xs8(a b:Int):tU (bOr .u64 a b):=Xaq _
@[simp] def XsO(a b:Int):tU (Xm0 .u64 a b):=Xaq _
@[simp] def XsP(a b:Int):tU (ZQ .u64 a b):=Xaq _
@[simp] def XsQ(a b:Int):tW (Zc .u32 a b):=Xlc _
def Xpd{a b:Int}(h:0<=a)(k:IntKind):0<=YA k a b/\YA k a b<=a:=by show 0<=a.fdiv _/\a.fdiv _<=a;have hp:(0:Int)<2 ^ min b.toNat (IntKind.bits k):=Int.pow_pos ae;rw[Int.fdiv_eq_ediv_of_nonneg _ aa];exact⟨Int.ediv_nonneg h aa,Int.ediv_le_self _ h⟩
@[simp] def XsR{a b:Int}(h:tU a):tU (YA .u64 a b):=by have:=Xpd (b:=b) h.1 .u64;unfold tU at *;omega
@[simp] def XsS{a b:Int}(h:tW a):tW (YA .u32 a b):=by have:=Xpd (b:=b) h.1 .u32;unfold tW at *;omega
@[simp] def XsT{a b:Int}(h:tU a):tU (a.tmod b):=by
 unfold tU at *;rw[If h.1];by_cases hb:b=0
 .subst hb;rw[Int.emod_zero];exact h
 have h1:=Int.emod_nonneg a hb;have h2:a % b<=a:=by
  obtain⟨n,rfl⟩:=UB h.1;rcases Int.natAbs_eq b with e|e
  .rw[e,←Int.natCast_emod];have:=Nat.mod_le n b.natAbs;omega
  rw[e,Int.emod_neg,←Int.natCast_emod];have:=Nat.mod_le n b.natAbs;omega
 omega
section
variable {α:Type}{T:α->Prop}
@[simp] def Xs9:tL T ([]:List α):=λx h=>by grind
@[simp] def XsU{x:α}{l:List α}:tL T (x::l)↔T x/\tL T l:=by unfold tL;simp
@[simp] def XqX{a b:List α}:tL T (a++b)↔tL T a/\tL T b:=by unfold tL;simp;exact⟨λh=>⟨λx hx=>h x (.inl hx),λx hx=>h x (.inr hx)⟩,λh x hx=>hx.elim (h.1 x) (h.2 x)⟩
@[simp] def Xcn{l:List α}{i:Nat}{x:α}(h:tL T l)(hx:T x):tL T (l.set i x):=λy hy=>by
 rcases Ux hy with h1|h1
 .exact h y h1
 simp_all
@[simp] def XsV{l:List α}{i:Nat}(h:tL T l):tL T (l.take i):=λy hy=>h y (WW hy)
@[simp] def XsW{l:List α}{i:Nat}(h:tL T l):tL T (l.drop i):=λy hy=>h y (WP hy)
@[simp] def Xta{n:Nat}{x:α}(h:T x):tL T (List.replicate n x):=λy hy=>by simp_all
end
@[simp] def Xtb{p:Prop}[Decidable p]{a b:Int}(ha:tU a)(hb:tU b):tU (if p then a else b):=by split;exact ha;exact hb
set_option maxHeartbeats 1000000
def XQ(s:Wk):Prop:=(tL tU) s.w
def Yr(s:UM):Prop:=tU s.a
def XK(s:Ww):Prop:=(tL Yr) s.S
def XE(s:W8):Prop:=tU s.a
def X3(s:WE):Prop:=(tL XE) s.e
def YS(s:UH):Prop:=tU s.a
def X7(s:W9):Prop:=XQ s.h/\XK s.l/\X3 s.g/\X3 s.v/\(tL YS) s.P/\(tL tU) s.R
def YD(s:Wy):Prop:=tW s.Map
def Zo(s:Ib):Prop:=YD s.H/\(tL tU) s.D
def Kc(s:Il):Prop:=tU s.I/\tU s.B0
def XZ(s:WV):Prop:=(tL Zo) s.T/\XK s.l/\X3 s.g/\X3 s.v/\(tL Kc) s.m/\(tL tU) s.R
def V3(s:Iw):Prop:=X7 s.N/\XZ s.z/\(tL tU) s.w
def Xco(s:IZ):Prop:=tU s.A/\tU s.B/\tU s.C
def Xcp(s:Ih):Prop:=XQ s.h/\(tL tU) s.Strong/\(tL tU) s.Weak
def X0(s:WD):Prop:=XQ s.h/\(tL tU) s.o/\(tL tU) s.q
def Xhd(s:I6):Prop:=tU s.B0
def Xld(s:IV):Prop:=XK s.l
def Xjp(s:Uc):Prop:=tU s.Addr
def XnT(s:UJ):Prop:=tU s.addr/\YD s.hd
def XnU(s:U2):Prop:=tU s.Value
@[simp] def XnV{l:List UM}{i:Nat}{x:UM}(h:tL Yr l)(hx:tU x.a):tL Yr (l.set i x):=Xcn h hx
@[simp] def XmY{l:List W8}{i:Nat}{x:W8}(h:tL XE l)(hx:tU x.a):tL XE (l.set i x):=Xcn h hx
@[simp] def Xpe{l:List UH}{i:Nat}{x:UH}(h:tL YS l)(hx:tU x.a):tL YS (l.set i x):=Xcn h hx
@[simp] def XnW{l:List Il}{i:Nat}{x:Il}(h:tL Kc l)(hx:tU x.I/\tU x.B0):tL Kc (l.set i x):=Xcn h hx
@[simp] def XmZ{l:List Ib}{i:Nat}{x:Ib}(h:tL Zo l)(hx:tW x.H.Map/\(tL tU) x.D):tL Zo (l.set i x):=Xcn h hx
attribute [local simp] XQ Yr XK XE X3 YS X7 YD Zo Kc XZ V3 Xco Xcp X0 Xhd Xld Xjp XnT XnU
def Qn5{N a0}:PT (Qgd N a0) (λr=>XQ r.1):=by rw[Qgd];refine(WC λy1=>(Wi (Wd ?_) (WI (WI (Wd ?_)))));all_goals simp_all (maxDischargeDepth:=9)
def Qn6{N a0}:PT (QeS N a0) (λr=>X7 r.1):=by rw[QeS];refine(Wv (Qn5) λy1 h1=>(Wd ?_));all_goals simp_all (maxDischargeDepth:=9)
def Qn7{N a0}:PT (Qge N a0) (λr=>XZ r.1):=by rw[Qge];refine(WC λy1=>(Wi (Wd ?_) (Wd ?_)));all_goals simp_all (maxDischargeDepth:=9)
def QiY{N a0}:PT (QbZ N a0) (λr=>V3 r.1):=by rw[QbZ];refine(WC λy1=>(Wv (Qn6) λy2 h1=>(Wv (Qn7) λy3 h2=>(WC λy4=>(Wd ?_)))));all_goals simp_all (maxDischargeDepth:=9)
def QhX{N a0}(ka0:X3 a0):∀n v1 v2,(tL tU) v2->PT (Qbo N a0 n v1 v2) (tL tU)
 |0,_,_,_=>by rw[Qbo];exact Iz
 |n+1,v1,v2,kv2=>by have ih:=QhX (N:=N) (a0:=a0) ka0 n;rw[Qbo];refine(Wi (WC λy3=>(Wi (PT.get (T:=XE) ?_ λp4 h1=>(Wi (PT.get (T:=XE) ?_ λp5 h2=>(WI (ih _ _ ?_))) (ih _ _ ?_))) (Wd ?_))) (Wd ?_));all_goals (clear ih;simp_all (maxDischargeDepth:=9))
def QjL{N a0 n v1 v2}(ka0:X3 a0)(kv2:(tL tU) v2):PT (Qbo N a0 n v1 v2) (tL tU):=QhX ka0 n _ _ kv2
def Qf0{N a0}(ka0:X3 a0):PT (Qbl N a0) (tL tU):=by rw[Qbl];refine(Wv (QjL ?_ ?_) λy6 h1=>(Wd ?_));all_goals simp_all (maxDischargeDepth:=9)
def QhY{N a0}(ka0:XK a0):∀n v1 v2,(tL tU) v2->PT (Qbp N a0 n v1 v2) (tL tU)
 |0,_,_,_=>by rw[Qbp];exact Iz
 |n+1,v1,v2,kv2=>by have ih:=QhY (N:=N) (a0:=a0) ka0 n;rw[Qbp];refine(Wi (WC λy3=>(Wi (PT.get (T:=Yr) ?_ λp4 h1=>(Wi (PT.get (T:=Yr) ?_ λp5 h2=>(WI (ih _ _ ?_))) (ih _ _ ?_))) (Wd ?_))) (Wd ?_));all_goals (clear ih;simp_all (maxDischargeDepth:=9))
def QjM{N a0 n v1 v2}(ka0:XK a0)(kv2:(tL tU) v2):PT (Qbp N a0 n v1 v2) (tL tU):=QhY ka0 n _ _ kv2
def QhK{N a0}(ka0:XK a0):PT (QcE N a0) (tL tU):=by rw[QcE];refine(Wv (QjM ?_ ?_) λy6 h1=>(Wd ?_));all_goals simp_all (maxDischargeDepth:=9)
def QeR{N a0 a1}(ka0:(tL tU) a0)(ka1:tU a1):PT (Qbb N a0 a1) (λr=>tU r.1):=by rw[Qbb];refine(WC λy1=>(Wi (Wd ?_) (PT.get (T:=tU) ?_ λp2 h1=>(Wd ?_))));all_goals simp_all (maxDischargeDepth:=9) []
def Qhn{N a0}(ka0:YD a0):PT (Qcq N a0) (λr=>tU r.1):=by rw[Qcq];refine(WC λy1=>(Wi (Wd ?_) (Wd ?_)));all_goals simp_all (maxDischargeDepth:=9)
def Qho{N a0}(ka0:tU a0):PT (Qcr N a0) (λr=>YD r.1):=by rw[Qcr];refine(Wv (Qhn ?_) λy1 h1=>(Wi (Wd ?_) (Wi (Wd ?_) (Wd ?_))));all_goals simp_all (maxDischargeDepth:=9)
def Qil{N a0 a1}(ka0:XQ a0)(ka1:tU a1):PT (Qam N a0 a1) (λr=>YD r.1):=by rw[Qam];refine(WC λy1=>(Wi (Wd ?_) (WC λy2=>(Wi (Wd ?_) (WC λp3=>(Wv (QeR ?_ ?_) λy4 h1=>(Wv (Qho ?_) λy5 h2=>(UL (Q:=λk=>∀_,PT (k ()) _) (λ_=>(WC λy6=>(Wi (Wi (Wd ?_) (Wi (Wi (Wd ?_) (Wi (Wd ?_) (Wd ?_))) (Wd ?_))) (Wi (Wi (Wd ?_) (Wi (Wd ?_) (Wd ?_))) (Wd ?_))))) λj1 hj1=>(Wi (Wi (Wd ?_) (Wi (Wd ?_) (Wi (Wd ?_) (hj1 ())))) (Wi (Wd ?_) (Wi (Wd ?_) (hj1 ()))))))))))));all_goals simp_all (maxDischargeDepth:=9)
def QjN{N a0 a1 a2}:PT (Qbq N a0 a1 a2) (λr=>tU r.1):=by rw[Qbq];refine(WC λy1=>(Wi (Wd ?_) (Wi (Wd ?_) (Wi (Wd ?_) (Wi (Wd ?_) (Wi (Wd ?_) (Wd ?_)))))));all_goals simp_all (maxDischargeDepth:=9) []
def QhZ{N a0 a1 p2}(ka0:XQ a0):∀n v3 v4,(tL tU) v4->PT (Qas N a0 a1 p2 n v3 v4) (tE (λr=>(tL tU) r.1) (tL tU))
 |0,_,_,_=>by rw[Qas];exact Iz
 |n+1,v3,v4,kv4=>by have ih:=QhZ (N:=N) (a0:=a0) (a1:=a1) (p2:=p2) ka0 n;rw[Qas];refine(Wi (Wv (QjN) λy5 h1=>(Wv (Qil ?_ ?_) λy6 h2=>(Wi (Wd ?_) (WI (Wi (Wd ?_) (WC λy7=>(ih _ _ ?_))))))) (Wd ?_));all_goals (clear ih;simp_all (maxDischargeDepth:=9))
def QjO{N a0 a1 p2 n v3 v4}(ka0:XQ a0)(kv4:(tL tU) v4):PT (Qas N a0 a1 p2 n v3 v4) (tE (λr=>(tL tU) r.1) (tL tU)):=QhZ ka0 n _ _ kv4
def QmV{N a0 a1}(ka0:XQ a0):PT (Qal N a0 a1) (λr=>(tL tU) r.1):=by rw[Qal];refine(WC λy1=>(Wi (Wd ?_) (Wi (Wd ?_) (Wi (Wd ?_) (WC λp2=>(Wi (Wd ?_) (Wi (Wd ?_) (I9 (QjO ?_ ?_) (λr h1=>(Wd ?_)) λy8 h2=>(Wd ?_)))))))));all_goals simp_all (maxDischargeDepth:=9)
def QhI{N a0}(ka0:XQ a0):∀n v2 v3,(tL tU) v3->PT (QaN N a0 n v2 v3) (tE (λr=>(tL tU) r.1) (tL tU))
 |0,_,_,_=>by rw[QaN];exact Iz
 |n+1,v2,v3,kv3=>by have ih:=QhI (N:=N) (a0:=a0) ka0 n;rw[QaN];refine(Wi (Wv (QmV ?_) λy4 h1=>(Wi (Wd ?_) (WI (ih _ _ ?_)))) (Wd ?_));all_goals (clear ih;simp_all (maxDischargeDepth:=9))
def QiZ{N a0 n v2 v3}(ka0:XQ a0)(kv3:(tL tU) v3):PT (QaN N a0 n v2 v3) (tE (λr=>(tL tU) r.1) (tL tU)):=QhI ka0 n _ _ kv3
def QkP{N a0}(ka0:XQ a0):PT (Qcs N a0) (λr=>(tL tU) r.1):=by rw[Qcs];refine(WC λy1=>(Wi (Wd ?_) (I9 (QiZ ?_ ?_) (λr h1=>(Wd ?_)) λy5 h2=>(Wd ?_))));all_goals simp_all (maxDischargeDepth:=9)
def Qhq{N a0 y1}(ka0:XQ a0)(ky1:(λr=>(tL tU) r.1) y1):∀n v2 v3,(tL tU) v3->PT (QaS N a0 y1 n v2 v3) (tL tU)
 |0,_,_,_=>by rw[QaS];exact Iz
 |n+1,v2,v3,kv3=>by have ih:=Qhq (N:=N) (a0:=a0) (y1:=y1) ka0 ky1 n;rw[QaS];refine(Wi (PT.get (T:=tU) ?_ λp4 h1=>(Wv (Qil ?_ ?_) λy5 h2=>(Wi (PT.get (T:=tU) ?_ λp6 h3=>(WI (ih _ _ ?_))) (ih _ _ ?_)))) (Wd ?_));all_goals (clear ih;simp_all (maxDischargeDepth:=9))
def QiE{N a0 y1 n v2 v3}(ka0:XQ a0)(ky1:(λr=>(tL tU) r.1) y1)(kv3:(tL tU) v3):PT (QaS N a0 y1 n v2 v3) (tL tU):=Qhq ka0 ky1 n _ _ kv3
def QjP{N a0}(ka0:XQ a0):PT (Qay N a0) (λr=>(tL tU) r.1):=by rw[Qay];refine(Wv (QkP ?_) λy1 h1=>(Wv (QiE ?_ ?_ ?_) λy7 h2=>(Wd ?_)));all_goals simp_all (maxDischargeDepth:=9)
def Qh0{N a0 a1}(ka0:XQ a0)(ka1:tU a1):PT (Qb0 N a0 a1) (λr=>YD r.1):=by rw[Qb0];refine(WC λy1=>(Wi (Wd ?_) (Wi (Wd ?_) (Wv (Qil ?_ ?_) λy2 h1=>(Wi (Wi (Wd ?_) (Wd ?_)) (Wd ?_))))));all_goals simp_all (maxDischargeDepth:=9)
def QmW{N a0 a1 a2}(ka0:(tL tU) a0)(ka1:tU a1):PT (Qc5 N a0 a1 a2) (λr=>(tL tU) r.1):=by rw[Qc5];refine(Wi (Wd ?_) (WC λy1=>(Wi (Wd ?_) (WI (WI (Wd ?_))))));all_goals simp_all (maxDischargeDepth:=9) []
def Ql5{N a0}(ka0:XQ a0):PT (Qc2 N a0) (λr=>X0 r.1):=by rw[Qc2];refine(WC λy1=>(Wi (Wd ?_) (WC λy2=>(Wi (Wd ?_) (Wv (QjP ?_) λy3 h1=>(WI (WC λy8=>(Wd ?_))))))));all_goals simp_all (maxDischargeDepth:=9)
def Qih{N a0}(ka0:tU a0):PT (Qcv N a0) (λr=>tU r.1):=by rw[Qcv];refine(Wi (Wd ?_) (Wi (Wd ?_) (Wd ?_)));all_goals simp_all (maxDischargeDepth:=9) []
def QiC{N a0 a1}(ka0:X0 a0)(ka1:tU a1):PT (Qdw N a0 a1) X0:=by rw[Qdw];refine(WI (WI (Wd ?_)));all_goals simp_all (maxDischargeDepth:=9)
def Ql6{N a0 a1}(ka0:X0 a0):PT (Qcw N a0 a1) (λr=>X0 r.1/\tU r.2.1):=by rw[Qcw];refine(WI (UL (Q:=λk=>∀_,PT (k ()) _) (λ_=>(WC λy4=>(Wi (Wd ?_) (WC λy5=>(WI (WI (WC λp13=>(WC λp14=>(WC λp15=>(Wd ?_)))))))))) λj1 hj1=>(Wi (WC λp1=>(WC λp2=>(Wi (WC λp3=>(WC λp10=>(WC λp11=>(WC λp12=>(Wd ?_))))) (hj1 ())))) (hj1 ()))));all_goals simp_all (maxDischargeDepth:=9)
def QhM{N a2 y1}(ka2:(tL tU) a2):∀n v2 v3,(tL tU) v3->PT (QbM N a2 y1 n v2 v3) (tL tU)
 |0,_,_,_=>by rw[QbM];exact Iz
 |n+1,v2,v3,kv3=>by have ih:=QhM (N:=N) (a2:=a2) (y1:=y1) ka2 n;rw[QbM];refine(Wi (PT.get (T:=tU) ?_ λp4 h1=>(PT.get (T:=tU) ?_ λp5 h2=>(ih _ _ ?_))) (Wd ?_));all_goals (clear ih;simp_all (maxDischargeDepth:=9) [])
def Qjl{N a2 y1 n v2 v3}(ka2:(tL tU) a2)(kv3:(tL tU) v3):PT (QbM N a2 y1 n v2 v3) (tL tU):=QhM ka2 n _ _ kv3
def QgD{N a0 a1 a2}(ka0:(tL tU) a0)(ka1:tU a1)(ka2:(tL tU) a2):PT (Qca N a0 a1 a2) (λr=>(tL tU) r.1):=by rw[Qca];refine(WC λy1=>(Wi (Wd ?_) (WI (Wv (Qjl ?_ ?_) λy6 h1=>(Wd ?_)))));all_goals simp_all (maxDischargeDepth:=9) []
def QmX{N a0 a1 a2 a3}(ka0:(tL tU) a0)(ka1:tU a1)(ka2:tU a2):PT (QfE N a0 a1 a2 a3) (λr=>(tL tU) r.1):=by rw[QfE];refine(Wv (QmW ?_ ?_) λy1 h1=>(Wi (Wd ?_) (Wv (QgD ?_ ?_ ?_) λy2 h2=>(Wd ?_))));all_goals simp_all (maxDischargeDepth:=9) []
def QjQ{N a0}(ka0:tU a0):PT (QcI N a0) (λr=>tU r.1):=by rw[QcI];refine(Wi (Wd ?_) (Wd ?_));all_goals simp_all (maxDischargeDepth:=9) []
def Qhv{N a0 a1 a2}(ka0:(tL tU) a0)(ka1:tU a1)(ka2:tU a2):PT (Qdx N a0 a1 a2) (λr=>(tL tU) r.1):=by rw[Qdx];refine(Wv (QgD ?_ ?_ ?_) λy1 h1=>(Wd ?_));all_goals simp_all (maxDischargeDepth:=9) []
def Qh1{N a0 a1}(ka0:X0 a0)(ka1:tU a1):PT (QaZ N a0 a1) (λr=>X0 r.1/\tU r.2.1):=by rw[QaZ];refine(Wi (Wd ?_) (WC λy1=>(Wi (Wd ?_) (WC λy2=>(Wi (Wd ?_) (Wv (QeR ?_ ?_) λy3 h1=>(Wv (Qih ?_) λy4 h2=>(Wi (Wd ?_) (WC λy5=>(Wi (Wd ?_) (Wi (Wd ?_) (WC λy6=>(Wi (Wv (QiC ?_ ?_) λy7 h3=>(Wd ?_)) (WC λp8=>(Wi (WI (WC λp9=>(WC λy14=>(Wv (QiC ?_ ?_) λy15 h4=>(Wd ?_))))) (Wv (Qho ?_) λy16 h5=>(WC λy17=>(Wv (Ql6 ?_) λy18 h6=>(Wi (Wd ?_) (Wv (QmX ?_ ?_ ?_) λy19 h7=>(Wv (QjQ ?_) λy20 h8=>(Wv (Qhv ?_ ?_ ?_) λy21 h9=>(WI (WI (Wd ?_)))))))))))))))))))))))));all_goals simp_all (maxDischargeDepth:=9)
def QhN{N a1}(ka1:(tL tU) a1):∀n v1 v2 v3 v4 v5 v6 v7 v8 v9 v10 v11 v12 v13 v14 v15 v16 v17 v18,(tL tU) v4->(tL tU) v8->(tL tU) v10->(tL tU) v18->PT (Qa7 N a1 n v1 v2 v3 v4 v5 v6 v7 v8 v9 v10 v11 v12 v13 v14 v15 v16 v17 v18) (tE (λr=>X0 r.1/\(tL tU) r.2.1) (λr=>(tL tU) r.2.2.1/\(tL tU) r.2.2.2.2.2.2.1/\(tL tU) r.2.2.2.2.2.2.2.2.1/\(tL tU) r.2.2.2.2.2.2.2.2.2.2.2.2.2.2.2.2))
 |0,_,_,_,_,_,_,_,_,_,_,_,_,_,_,_,_,_,_,_,_,_,_=>by rw[Qa7];exact Iz
 |n+1,v1,v2,v3,v4,v5,v6,v7,v8,v9,v10,v11,v12,v13,v14,v15,v16,v17,v18,kv4,kv8,kv10,kv18=>by have ih:=QhN (N:=N) (a1:=a1) ka1 n;rw[Qa7];refine(Wi (PT.get (T:=tU) ?_ λp19 h1=>(Wv (Qh1 ?_ ?_) λy20 h2=>(Wi (Wd ?_) (WI (ih _ _ _ _ _ _ _ _ _ _ _ _ _ _ _ _ _ _ ?_ ?_ ?_ ?_))))) (Wd ?_));all_goals (clear ih;simp_all (maxDischargeDepth:=9))
def Qjm{N a1 n v1 v2 v3 v4 v5 v6 v7 v8 v9 v10 v11 v12 v13 v14 v15 v16 v17 v18}(ka1:(tL tU) a1)(kv4:(tL tU) v4)(kv8:(tL tU) v8)(kv10:(tL tU) v10)(kv18:(tL tU) v18):PT (Qa7 N a1 n v1 v2 v3 v4 v5 v6 v7 v8 v9 v10 v11 v12 v13 v14 v15 v16 v17 v18) (tE (λr=>X0 r.1/\(tL tU) r.2.1) (λr=>(tL tU) r.2.2.1/\(tL tU) r.2.2.2.2.2.2.1/\(tL tU) r.2.2.2.2.2.2.2.2.1/\(tL tU) r.2.2.2.2.2.2.2.2.2.2.2.2.2.2.2.2)):=QhN ka1 n _ _ _ _ _ _ _ _ _ _ _ _ _ _ _ _ _ _ kv4 kv8 kv10 kv18
def Ql7{N a0 a1}(ka0:X0 a0)(ka1:(tL tU) a1):PT (Qdy N a0 a1) (λr=>X0 r.1/\(tL tU) r.2.1):=by rw[Qdy];refine(I9 (Qjm ?_ ?_ ?_ ?_ ?_) (λr h1=>(Wd ?_)) λy21 h2=>(Wd ?_));all_goals simp_all (maxDischargeDepth:=9)
def Qi0{N a0 a1}(ka0:X0 a0)(ka1:tU a1):PT (Qek N a0 a1) YD:=by rw[Qek];refine(Wv (QeR ?_ ?_) λy1 h1=>(Wv (Qho ?_) λy2 h2=>(Wd ?_)));all_goals simp_all (maxDischargeDepth:=9)
def Qh2{N p1 y3}(kp1:tU p1):∀n v4 v5 v6 v7 v8 v9 v10 v11 v12 v13 v14 v15 v16 v17 v18 v19 v20,(tL tU) v7->(tL tU) v11->(tL tU) v13->PT (Qbs N p1 y3 n v4 v5 v6 v7 v8 v9 v10 v11 v12 v13 v14 v15 v16 v17 v18 v19 v20) (tE (λr=>X0 r.1) (λr=>(tL tU) r.2.2.1/\(tL tU) r.2.2.2.2.2.2.1/\(tL tU) r.2.2.2.2.2.2.2.2.1))
 |0,_,_,_,_,_,_,_,_,_,_,_,_,_,_,_,_,_,_,_,_=>by rw[Qbs];exact Iz
 |n+1,v4,v5,v6,v7,v8,v9,v10,v11,v12,v13,v14,v15,v16,v17,v18,v19,v20,kv7,kv11,kv13=>by have ih:=Qh2 (N:=N) (p1:=p1) (y3:=y3) kp1 n;rw[Qbs];refine(Wi (WC λp21=>(Wv (QeR ?_ ?_) λy22 h1=>(Wv (Qh1 ?_ ?_) λy23 h2=>(Wi (Wd ?_) (Wv (Qhv ?_ ?_ ?_) λy24 h3=>(ih _ _ _ _ _ _ _ _ _ _ _ _ _ _ _ _ _ ?_ ?_ ?_)))))) (Wd ?_));all_goals (clear ih;simp_all (maxDischargeDepth:=9))
def QjR{N p1 y3 n v4 v5 v6 v7 v8 v9 v10 v11 v12 v13 v14 v15 v16 v17 v18 v19 v20}(kp1:tU p1)(kv7:(tL tU) v7)(kv11:(tL tU) v11)(kv13:(tL tU) v13):PT (Qbs N p1 y3 n v4 v5 v6 v7 v8 v9 v10 v11 v12 v13 v14 v15 v16 v17 v18 v19 v20) (tE (λr=>X0 r.1) (λr=>(tL tU) r.2.2.1/\(tL tU) r.2.2.2.2.2.2.1/\(tL tU) r.2.2.2.2.2.2.2.2.1)):=Qh2 kp1 n _ _ _ _ _ _ _ _ _ _ _ _ _ _ _ _ _ kv7 kv11 kv13
def QmY{N a0}(ka0:X0 a0):PT (QfF N a0) (λr=>X0 r.1):=by rw[QfF];refine(Wi (Wd ?_) (PT.get (T:=tU) ?_ λp1 h1=>(Wv (Qi0 ?_ ?_) λy2 h2=>(WC λy3=>(I9 (QjR ?_ ?_ ?_ ?_) (λr h3=>(Wd ?_)) λy25 h4=>(Wd ?_))))));all_goals simp_all (maxDischargeDepth:=9)
def Qii{N}:∀n v1 v2 v3 v4 v5 v6 v7 v8 v9 v10 v11 v12 v13 v14 v15 v16,(tL tU) v3->(tL tU) v7->(tL tU) v9->PT (QbG N n v1 v2 v3 v4 v5 v6 v7 v8 v9 v10 v11 v12 v13 v14 v15 v16) (λr=>X0 r.1)
 |0,_,_,_,_,_,_,_,_,_,_,_,_,_,_,_,_,_,_,_=>by rw[QbG];exact Iz
 |n+1,v1,v2,v3,v4,v5,v6,v7,v8,v9,v10,v11,v12,v13,v14,v15,v16,kv3,kv7,kv9=>by have ih:=Qii (N:=N) n;rw[QbG];refine(Wv (QmY ?_) λy17 h1=>(Wi (Wd ?_) (Wi (Wd ?_) (ih _ _ _ _ _ _ _ _ _ _ _ _ _ _ _ _ ?_ ?_ ?_))));all_goals (clear ih;simp_all (maxDischargeDepth:=9))
def QkQ{N n v1 v2 v3 v4 v5 v6 v7 v8 v9 v10 v11 v12 v13 v14 v15 v16}(kv3:(tL tU) v3)(kv7:(tL tU) v7)(kv9:(tL tU) v9):PT (QbG N n v1 v2 v3 v4 v5 v6 v7 v8 v9 v10 v11 v12 v13 v14 v15 v16) (λr=>X0 r.1):=Qii n _ _ _ _ _ _ _ _ _ _ _ _ _ _ _ _ kv3 kv7 kv9
def Qn8{N a0}(ka0:X0 a0):PT (QeU N a0) (λr=>X0 r.1):=by rw[QeU];refine(Wv (QkQ ?_ ?_ ?_) λr h1=>(Wd ?_));all_goals simp_all (maxDischargeDepth:=9)
def Ql8{N a0 a1}(ka0:X0 a0)(ka1:tU a1):PT (Qdz N a0 a1) tU:=by rw[Qdz];refine(WC λy1=>(Wi (Wd ?_) (Wv (QeR ?_ ?_) λy2 h1=>(Wv (Qih ?_) λy3 h2=>(Wd ?_)))));all_goals simp_all (maxDischargeDepth:=9)
def Qh3{N a0 v4 p5 v1 v2}(ka0:X0 a0):∀n v7 v8,(tL tU) v8->PT (Qbt N a0 v4 p5 v1 v2 n v7 v8) (tL tU)
 |0,_,_,_=>by rw[Qbt];exact Iz
 |n+1,v7,v8,kv8=>by have ih:=Qh3 (N:=N) (a0:=a0) (v4:=v4) (p5:=p5) (v1:=v1) (v2:=v2) ka0 n;rw[Qbt];refine(Wi (PT.get (T:=tU) ?_ λp9 h1=>(ih _ _ ?_)) (Wd ?_));all_goals (clear ih;simp_all (maxDischargeDepth:=9))
def QjS{N a0 v4 p5 v1 v2 n v7 v8}(ka0:X0 a0)(kv8:(tL tU) v8):PT (Qbt N a0 v4 p5 v1 v2 n v7 v8) (tL tU):=Qh3 ka0 n _ _ kv8
def Qh4{N a0}(ka0:X0 a0):∀n v1 v2 v3 v4,(tL tU) v3->PT (Qa0 N a0 n v1 v2 v3 v4) (λr=>(tL tU) r.2.1)
 |0,_,_,_,_,_=>by rw[Qa0];exact Iz
 |n+1,v1,v2,v3,v4,kv3=>by have ih:=Qh4 (N:=N) (a0:=a0) ka0 n;rw[Qa0];refine(WI (Wi (WC λp5=>(Wi (ih _ _ _ _ ?_) (Wi (ih _ _ _ _ ?_) (WC λp6=>(Wv (QjS ?_ ?_) λy10 h1=>(ih _ _ _ _ ?_)))))) (Wd ?_)));all_goals (clear ih;simp_all (maxDischargeDepth:=9))
def QjT{N a0 n v1 v2 v3 v4}(ka0:X0 a0)(kv3:(tL tU) v3):PT (Qa0 N a0 n v1 v2 v3 v4) (λr=>(tL tU) r.2.1):=Qh4 ka0 n _ _ _ _ kv3
def QmZ{N a0}(ka0:X0 a0):PT (Qeh N a0) X0:=by rw[Qeh];refine(WI (WI (Wv (QjT ?_ ?_) λy11 h1=>(Wd ?_))));all_goals simp_all (maxDischargeDepth:=9)
def Qh5{N a0}(ka0:X0 a0):∀n v1 v2 v3,(tL tU) v2->PT (QaT N a0 n v1 v2 v3) (λr=>(tL tU) r.1)
 |0,_,_,_,_=>by rw[QaT];exact Iz
 |n+1,v1,v2,v3,kv2=>by have ih:=Qh5 (N:=N) (a0:=a0) ka0 n;rw[QaT];refine(Wi (PT.get (T:=tU) ?_ λp4 h1=>(WC λy5=>(WC λy6=>(Wi (ih _ _ _ ?_) (PT.get (T:=tU) ?_ λp7 h2=>(WC λy8=>(Wi (ih _ _ _ ?_) (PT.get (T:=tU) ?_ λp9 h3=>(Wv (Qi0 ?_ ?_) λy10 h4=>(Wv (Qhn ?_) λy11 h5=>(PT.get (T:=tU) ?_ λp12 h6=>(WI (WI (Wv (QgD ?_ ?_ ?_) λy13 h7=>(ih _ _ _ ?_))))))))))))))) (Wd ?_));all_goals (clear ih;simp_all (maxDischargeDepth:=9))
def QjU{N a0 n v1 v2 v3}(ka0:X0 a0)(kv2:(tL tU) v2):PT (QaT N a0 n v1 v2 v3) (λr=>(tL tU) r.1):=Qh5 ka0 n _ _ _ kv2
def Qm0{N a0}(ka0:X0 a0):PT (QeV N a0) X0:=by rw[QeV];refine(Wv (QjU ?_ ?_) λy14 h1=>(Wd ?_));all_goals simp_all (maxDischargeDepth:=9)
def Qhr{N a2 y5 y6}(ka2:(tL tU) a2)(ky5:(λr=>X0 r.1/\(tL tU) r.2.1) y5)(ky6:(λr=>X0 r.1) y6):∀n v7 v8 v9,(tL tU) v9->PT (Qa2 N a2 y5 y6 n v7 v8 v9) (λr=>(tL tU) r.2)
 |0,_,_,_,_=>by rw[Qa2];exact Iz
 |n+1,v7,v8,v9,kv9=>by have ih:=Qhr (N:=N) (a2:=a2) (y5:=y5) (y6:=y6) ka2 ky5 ky6 n;rw[Qa2];refine(Wi (PT.get (T:=tU) ?_ λp10 h1=>(UL (Q:=λk=>∀x14 x15,tU x14->PT (k x14 x15) _) (λx14 x15 h2=>(WI (ih _ _ _ ?_))) λj3 hj3=>(Wi (PT.get (T:=tU) ?_ λp11 h3=>(Wv (Ql8 ?_ ?_) λy12 h4=>(UL (Q:=λk=>∀x13,PT (k x13) _) (λx13=>(hj3 _ _ ?_)) λj2 hj2=>(Wi (hj2 _) (hj2 _))))) (hj3 _ _ ?_)))) (Wd ?_));all_goals (clear ih;simp_all (maxDischargeDepth:=9))
def QiF{N a2 y5 y6 n v7 v8 v9}(ka2:(tL tU) a2)(ky5:(λr=>X0 r.1/\(tL tU) r.2.1) y5)(ky6:(λr=>X0 r.1) y6)(kv9:(tL tU) v9):PT (Qa2 N a2 y5 y6 n v7 v8 v9) (λr=>(tL tU) r.2):=Qhr ka2 ky5 ky6 n _ _ _ kv9
def QjV{N a0 a1 a2}(ka0:XQ a0)(ka1:(tL tU) a1)(ka2:(tL tU) a2):PT (QcJ N a0 a1 a2) (λr=>XQ r.1/\(tL tU) r.2.1/\(tL tU) r.2.2.1):=by rw[QcJ];refine(WC λy1=>(Wi (Wd ?_) (UL (Q:=λk=>∀_,PT (k ()) _) (λ_=>(Wd ?_)) λj1 hj1=>(WC λy2=>(Wi (hj1 ()) (WC λy3=>(Wi (hj1 ()) (Wv (Ql5 ?_) λy4 h1=>(Wv (Ql7 ?_ ?_) λy5 h2=>(Wi (Wd ?_) (Wv (Qn8 ?_) λy6 h3=>(Wi (Wd ?_) (Wv (QiF ?_ ?_ ?_ ?_) λy16 h4=>(Wv (Qm0 ?_) λy17 h5=>(Wv (QmZ ?_) λy18 h6=>(UL (Q:=λk=>∀x20,PT (k x20) _) (λx20=>(Wd ?_)) λj4 hj4=>(Wi (WC λp19=>(hj4 _)) (hj4 _))))))))))))))))));all_goals simp_all (maxDischargeDepth:=9)
def QhJ{N a0}(ka0:X7 a0):∀n v3 v4,(tL tU) v4->PT (Qbd N a0 n v3 v4) (tL tU)
 |0,_,_,_=>by rw[Qbd];exact Iz
 |n+1,v3,v4,kv4=>by have ih:=QhJ (N:=N) (a0:=a0) ka0 n;rw[Qbd];refine(Wi (PT.get (T:=YS) ?_ λp5 h1=>(WI (ih _ _ ?_))) (Wd ?_));all_goals (clear ih;simp_all (maxDischargeDepth:=9))
def Qi1{N a0 n v3 v4}(ka0:X7 a0)(kv4:(tL tU) v4):PT (Qbd N a0 n v3 v4) (tL tU):=QhJ ka0 n _ _ kv4
def QkR{N a0}(ka0:X7 a0):PT (QdG N a0) (tL tU):=by rw[QdG];refine(WI (Wv (QhK ?_) λy1 h1=>(WI (Wv (Qf0 ?_) λy2 h2=>(WI (Wv (Qi1 ?_ ?_) λy6 h3=>(Wd ?_)))))));all_goals simp_all (maxDischargeDepth:=9)
def Qh6{N a0 a1}(ka0:XK a0)(ka1:(tL tU) a1):∀n v3 v4 v5,(tL Yr) v5->PT (Qa8 N a0 a1 n v3 v4 v5) (tE (λr=>XK r.1) (tL Yr))
 |0,_,_,_,_=>by rw[Qa8];exact Iz
 |n+1,v3,v4,v5,kv5=>by have ih:=Qh6 (N:=N) (a0:=a0) (a1:=a1) ka0 ka1 n;rw[Qa8];refine(WI (Wi (PT.get (T:=Yr) ?_ λp6 h1=>(Wi (ih _ _ _ ?_) (PT.get (T:=tU) ?_ λp7 h2=>(Wi (Wd ?_) (PT.get (T:=tU) ?_ λp8 h3=>(PT.get (T:=Yr) ?_ λp9 h4=>(ih _ _ _ ?_))))))) (Wd ?_)));all_goals (clear ih;simp_all (maxDischargeDepth:=9))
def QjW{N a0 a1 n v3 v4 v5}(ka0:XK a0)(ka1:(tL tU) a1)(kv5:(tL Yr) v5):PT (Qa8 N a0 a1 n v3 v4 v5) (tE (λr=>XK r.1) (tL Yr)):=Qh6 ka0 ka1 n _ _ _ kv5
def Qm1{N a0 a1}(ka0:XK a0)(ka1:(tL tU) a1):PT (QdA N a0 a1) (λr=>XK r.1):=by rw[QdA];refine(WC λy1=>(Wi (Wd ?_) (Wv (QhK ?_) λy2 h1=>(Wi (Wd ?_) (WI (I9 (QjW ?_ ?_ ?_) (λr h2=>(Wd ?_)) λy10 h3=>(Wd ?_)))))));all_goals simp_all (maxDischargeDepth:=9)
def Qh7{N a1}(ka1:(tL tU) a1):∀n v3 v4 v5,(tL XE) v5->PT (Qa9 N a1 n v3 v4 v5) (tL XE)
 |0,_,_,_,_=>by rw[Qa9];exact Iz
 |n+1,v3,v4,v5,kv5=>by have ih:=Qh7 (N:=N) (a1:=a1) ka1 n;rw[Qa9];refine(WI (Wi (PT.get (T:=XE) ?_ λp6 h1=>(Wi (PT.get (T:=tU) ?_ λp7 h2=>(PT.get (T:=XE) ?_ λp8 h3=>(ih _ _ _ ?_))) (ih _ _ _ ?_))) (Wd ?_)));all_goals (clear ih;simp_all (maxDischargeDepth:=9))
def QjX{N a1 n v3 v4 v5}(ka1:(tL tU) a1)(kv5:(tL XE) v5):PT (Qa9 N a1 n v3 v4 v5) (tL XE):=Qh7 ka1 n _ _ _ kv5
def QhL{N a0 a1}(ka0:X3 a0)(ka1:(tL tU) a1):PT (Qce N a0 a1) (λr=>X3 r.1):=by rw[Qce];refine(WC λy1=>(Wi (Wd ?_) (Wv (Qf0 ?_) λy2 h1=>(WI (Wi (Wd ?_) (WI (Wv (QjX ?_ ?_) λy9 h2=>(Wd ?_))))))));all_goals simp_all (maxDischargeDepth:=9)
def Qhs{N a0 y4 y5 y6 y7 y8 y9}(ka0:X7 a0)(ky4:(λr=>XQ r.1/\(tL tU) r.2.1/\(tL tU) r.2.2.1) y4)(ky5:(tL tU) y5)(ky6:(tL tU) y6)(ky7:(λr=>XK r.1) y7)(ky8:(λr=>X3 r.1) y8)(ky9:(λr=>X3 r.1) y9):∀n v10 v11,(tL YS) v11->PT (QaU N a0 y4 y5 y6 y7 y8 y9 n v10 v11) (tL YS)
 |0,_,_,_=>by rw[QaU];exact Iz
 |n+1,v10,v11,kv11=>by have ih:=Qhs (N:=N) (a0:=a0) (y4:=y4) (y5:=y5) (y6:=y6) (y7:=y7) (y8:=y8) (y9:=y9) ka0 ky4 ky5 ky6 ky7 ky8 ky9 n;rw[QaU];refine(Wi (PT.get (T:=tU) ?_ λp12 h1=>(PT.get (T:=YS) ?_ λp13 h2=>(WI (ih _ _ ?_)))) (Wd ?_));all_goals (clear ih;simp_all (maxDischargeDepth:=9))
def QiG{N a0 y4 y5 y6 y7 y8 y9 n v10 v11}(ka0:X7 a0)(ky4:(λr=>XQ r.1/\(tL tU) r.2.1/\(tL tU) r.2.2.1) y4)(ky5:(tL tU) y5)(ky6:(tL tU) y6)(ky7:(λr=>XK r.1) y7)(ky8:(λr=>X3 r.1) y8)(ky9:(λr=>X3 r.1) y9)(kv11:(tL YS) v11):PT (QaU N a0 y4 y5 y6 y7 y8 y9 n v10 v11) (tL YS):=Qhs ka0 ky4 ky5 ky6 ky7 ky8 ky9 n _ _ kv11
def Qh8{N a0}(ka0:X7 a0):PT (Qba N a0) (λr=>X7 r.1):=by rw[Qba];refine(WC λy1=>(Wi (Wd ?_) (Wv (QkR ?_) λy2 h1=>(Wv (Qf0 ?_) λy3 h2=>(Wv (QjV ?_ ?_ ?_) λy4 h3=>(Wi (Wd ?_) (Wv (QhK ?_) λy5 h4=>(Wv (Qf0 ?_) λy6 h5=>(WI (WI (WI (WI (Wv (Qm1 ?_ ?_) λy7 h6=>(WI (Wv (QhL ?_ ?_) λy8 h7=>(Wv (QhL ?_ ?_) λy9 h8=>(Wv (QiG ?_ ?_ ?_ ?_ ?_ ?_ ?_ ?_) λy14 h9=>(Wd ?_))))))))))))))))));all_goals simp_all (maxDischargeDepth:=9)
def Qht{N a0 y2}(ka0:XZ a0):∀n v4 v5,(tL tU) v5->PT (Qa3 N a0 y2 n v4 v5) (tL tU)
 |0,_,_,_=>by rw[Qa3];exact Iz
 |n+1,v4,v5,kv5=>by have ih:=Qht (N:=N) (a0:=a0) (y2:=y2) ka0 n;rw[Qa3];refine(WI (Wi (PT.get (T:=tU) ?_ λp6 h1=>(Wi (PT.get (T:=tU) ?_ λp7 h2=>(WC λp8=>(Wi (PT.get (T:=tU) ?_ λp9 h3=>(ih _ _ ?_)) (ih _ _ ?_)))) (ih _ _ ?_))) (Wd ?_)));all_goals (clear ih;simp_all (maxDischargeDepth:=9))
def QiH{N a0 y2 n v4 v5}(ka0:XZ a0)(kv5:(tL tU) v5):PT (Qa3 N a0 y2 n v4 v5) (tL tU):=Qht ka0 n _ _ kv5
def Qh9{N a0}(ka0:XZ a0):PT (Qdg N a0) (λr=>XZ r.1):=by rw[Qdg];refine(WC λy1=>(Wi (Wd ?_) (WC λy2=>(Wv (Qf0 ?_) λy3 h1=>(Wv (QiH ?_ ?_) λy10 h2=>(Wv (QhL ?_ ?_) λy11 h3=>(Wd ?_)))))));all_goals simp_all (maxDischargeDepth:=9)
def Qag{N a0}:PT (Qaf N a0) (λr=>X7 r.1/\tU r.2.1):=by rw[Qaf];refine(Wd ?_);all_goals simp_all (maxDischargeDepth:=9)
def Ql9{N a0 a1}(ka0:XQ a0):PT (Qem N a0 a1) (λr=>XQ r.1/\tU r.2.1):=by rw[Qem];refine(WI (WC λy1=>(WC λy2=>(UL (Q:=λk=>∀_,PT (k ()) _) (λ_=>(WC λy5=>(Wi (Wd ?_) (Wi (Wd ?_) (WC λy6=>(WC λp11=>(WC λp12=>(WC λp13=>(Wd ?_))))))))) λj1 hj1=>(Wi (hj1 ()) (WC λp3=>(Wi (hj1 ()) (WC λp4=>(Wi (hj1 ()) (Wi (hj1 ()) (WC λp14=>(WC λp15=>(WC λp16=>(Wd ?_))))))))))))));all_goals simp_all (maxDischargeDepth:=9)
def Qma{N a0 a1 a2}(ka0:XQ a0):PT (Qen N a0 a1 a2) (λr=>XQ r.1/\tU r.2.1):=by rw[Qen];refine(WC λy1=>(Wi (Wd ?_) (WC λy2=>(WC λy3=>(Wi (Wd ?_) (WC λy4=>(Wd ?_)))))));all_goals simp_all (maxDischargeDepth:=9)
def Qm2{N a0 a1 a2}(ka0:XQ a0)(ka1:tU a1)(ka2:YD a2):PT (Qbe N a0 a1 a2) (λr=>XQ r.1):=by rw[Qbe];refine(Wv (Qhn ?_) λy1 h1=>(WC λy2=>(Wi (Wd ?_) (Wi (Wd ?_) (WI (WI (Wv (QgD ?_ ?_ ?_) λy3 h2=>(Wi (Wd ?_) (Wd ?_)))))))));all_goals simp_all (maxDischargeDepth:=9)
def Qi2{N a0 a1}(ka0:XQ a0)(ka1:YD a1):PT (QbW N a0 a1) (λr=>XQ r.1/\tU r.2.1):=by rw[QbW];refine(WC λy1=>(Wi (Wd ?_) (WC λy2=>(Wi (Wd ?_) (WC λy3=>(WC λy4=>(Wv (Ql9 ?_) λy5 h1=>(UL (Q:=λk=>∀x7 x8 x9 x10 x11 x12 x13 x14,tU x7->(tL tU) x11->PT (k x7 x8 x9 x10 x11 x12 x13 x14) _) (λx7 x8 x9 x10 x11 x12 x13 x14 h2 h3=>(Wi (Wd ?_) (Wv (Qm2 ?_ ?_ ?_) λy15 h4=>(Wd ?_)))) λj1 hj1=>(Wi (Wv (Qma ?_) λy6 h5=>(hj1 _ _ _ _ _ _ _ _ ?_ ?_)) (hj1 _ _ _ _ _ _ _ _ ?_ ?_))))))))));all_goals simp_all (maxDischargeDepth:=9)
def Qmb{N a0 a1}(ka0:X7 a0)(ka1:YD a1):PT (QbA N a0 a1) (λr=>X7 r.1/\tU r.2.1):=by rw[QbA];refine(WC λy1=>(Wi (Wd ?_) (Wv (Qi2 ?_ ?_) λy2 h1=>(UL (Q:=λk=>∀x5 x6 x7 x8 x9 x10 x11 x12 x13 x14 x15 x16 x17 x18 x19 x20 x21 x22 x23 x24 x25,tU x5->(tL tU) x9->(tL Yr) x13->(tL XE) x16->(tL XE) x17->(tL YS) x18->(tL tU) x19->(tL tU) x22->PT (k x5 x6 x7 x8 x9 x10 x11 x12 x13 x14 x15 x16 x17 x18 x19 x20 x21 x22 x23 x24 x25) _) (λx5 x6 x7 x8 x9 x10 x11 x12 x13 x14 x15 x16 x17 x18 x19 x20 x21 x22 x23 x24 x25 h2 h3 h4 h5 h6 h7 h8 h9=>(Wi (Wd ?_) (Wd ?_))) λj1 hj1=>(Wi (Wv (Qh8 ?_) λy3 h10=>(Wi (Wd ?_) (Wv (Qi2 ?_ ?_) λy4 h11=>(hj1 _ _ _ _ _ _ _ _ _ _ _ _ _ _ _ _ _ _ _ _ _ ?_ ?_ ?_ ?_ ?_ ?_ ?_ ?_)))) (hj1 _ _ _ _ _ _ _ _ _ _ _ _ _ _ _ _ _ _ _ _ _ ?_ ?_ ?_ ?_ ?_ ?_ ?_ ?_))))));all_goals simp_all (maxDischargeDepth:=9)
def Qhw{N a0 a1 a2}(ka1:tU a1)(ka2:tU a2):PT (Qcy N a0 a1 a2) (λr=>YD r.1):=by rw[Qcy];refine(Wi (Wi (Wd ?_) (Wd ?_)) (Wd ?_));all_goals simp_all (maxDischargeDepth:=9)
def Qia{N a0 a1}(ka0:XK a0)(ka1:tU a1):PT (Qeo N a0 a1) (λr=>XK r.1):=by rw[Qeo];refine(WC λy1=>(Wi (Wd ?_) (Wi (Wd ?_) (Wi (Wd ?_) (WC λp2=>(WC λy3=>(WC λp4=>(Wi (Wd ?_) (Wi (Wd ?_) (WI (WI (WI (WI (Wd ?_))))))))))))));all_goals simp_all (maxDischargeDepth:=9)
def Qgb{N a0}:PT (Qb1 N a0) (λr=>tU r.1):=by rw[Qb1];refine(WC λy1=>(Wi (Wd ?_) (Wd ?_)));all_goals simp_all (maxDischargeDepth:=9) []
def QgE{N a0 a1}(ka0:X7 a0)(ka1:tU a1):PT (Qcz N a0 a1) (λr=>X7 r.1/\tU r.2.1):=by rw[Qcz];refine(Wi (Wd ?_) (Wv (Qia ?_ ?_) λy1 h1=>(Wi (Wv (Qag) λy2 h2=>(Wd ?_)) (Wv (Qgb) λy3 h3=>(Wd ?_)))));all_goals simp_all (maxDischargeDepth:=9)
def QkS{N a0 a1 a2 a3}(ka0:X7 a0)(ka2:tU a2)(ka3:tU a3):PT (QdH N a0 a1 a2 a3) (λr=>X7 r.1/\tU r.2.1):=by rw[QdH];refine(Wi (Wv (Qag) λy1 h1=>(Wd ?_)) (Wv (Qhw ?_ ?_) λy2 h2=>(UL (Q:=λk=>∀_,PT (k ()) _) (λ_=>(Wv (Qag) λy4 h3=>(Wd ?_))) λj1 hj1=>(Wi (hj1 ()) (WC λy3=>(Wi (hj1 ()) (Wv (Qia ?_ ?_) λy5 h4=>(Wi (Wv (Qag) λy6 h5=>(Wd ?_)) (Wv (Qmb ?_ ?_) λy7 h6=>(Wi (Wv (Qag) λy8 h7=>(Wd ?_)) (Wv (QgE ?_ ?_) λy9 h8=>(Wd ?_))))))))))));all_goals simp_all (maxDischargeDepth:=9)
def Qib{N a0 a1 a2}(ka0:XK a0):PT (QeX N a0 a1 a2) (λr=>tU r.1):=by rw[QeX];refine(WC λy1=>(Wi (Wd ?_) (Wi (Wd ?_) (Wi (Wd ?_) (WC λp2=>(Wi (Wd ?_) (Wi (Wd ?_) (PT.get (T:=Yr) ?_ λp3 h1=>(Wi (Wd ?_) (PT.get (T:=Yr) ?_ λp4 h2=>(Wi (Wd ?_) (PT.get (T:=Yr) ?_ λp5 h3=>(Wd ?_)))))))))))));all_goals simp_all (maxDischargeDepth:=9)
def Qgl{N a0 a1 a2}(ka0:X3 a0):PT (QdI N a0 a1 a2) (λr=>tU r.1):=by rw[QdI];refine(WC λy1=>(Wi (Wd ?_) (Wi (Wd ?_) (Wi (Wd ?_) (Wi (Wd ?_) (PT.get (T:=XE) ?_ λp2 h1=>(Wi (Wd ?_) (PT.get (T:=XE) ?_ λp3 h2=>(Wi (Wd ?_) (PT.get (T:=XE) ?_ λp4 h3=>(Wi (Wd ?_) (PT.get (T:=XE) ?_ λp5 h4=>(Wd ?_)))))))))))));all_goals simp_all (maxDischargeDepth:=9)
def QcQ{N a0 a1}(ka0:X7 a0)(ka1:tU a1):PT (Qbu N a0 a1) (λr=>tU r.1):=by rw[Qbu];refine(WC λy1=>(Wi (Wd ?_) (Wi (Wd ?_) (WC λy2=>(Wi (Wd ?_) (Wi (Wv (Qib ?_) λy3 h1=>(Wd ?_)) (Wi (Wv (Qgl ?_) λy4 h2=>(Wd ?_)) (Wv (Qgl ?_) λy5 h3=>(Wd ?_)))))))));all_goals simp_all (maxDischargeDepth:=9)
def QgF{N a0 a1}(ka0:X7 a0)(ka1:tU a1):PT (QdC N a0 a1) (λr=>tU r.1):=by rw[QdC];refine(Wv (QcQ ?_ ?_) λy1 h1=>(Wi (Wi (Wd ?_) (Wd ?_)) (Wd ?_)));all_goals simp_all (maxDischargeDepth:=9)
def Qip{N a0 a1 a2 a3}(ka0:X7 a0)(ka1:tU a1)(ka2:tU a2):PT (Qep N a0 a1 a2 a3) (λr=>tU r.1):=by rw[Qep];refine(Wv (QgF ?_ ?_) λy1 h1=>(Wi (Wd ?_) (Wv (Qh0 ?_ ?_) λy2 h2=>(Wi (Wd ?_) (WC λy3=>(Wi (Wd ?_) (Wd ?_)))))));all_goals simp_all (maxDischargeDepth:=9)
def Qiq{N a0 a1 a2}(ka0:XQ a0)(ka1:tU a1):PT (QbN N a0 a1 a2) (λr=>tU r.1):=by rw[QbN];refine(Wv (Qh0 ?_ ?_) λy1 h1=>(Wi (Wd ?_) (Wi (Wd ?_) (Wi (Wd ?_) (Wv (QeR ?_ ?_) λy2 h2=>(Wd ?_))))));all_goals simp_all (maxDischargeDepth:=9)
def Qjn{N a0 a1 a2 a3}(ka0:XQ a0)(ka1:tU a1)(ka3:tU a3):PT (QbO N a0 a1 a2 a3) (λr=>XQ r.1):=by rw[QbO];refine(Wv (Qiq ?_ ?_) λy1 h1=>(Wi (Wd ?_) (Wv (Qhv ?_ ?_ ?_) λy2 h2=>(Wd ?_))));all_goals simp_all (maxDischargeDepth:=9)
def Qmc{N a0 a1 a2 a3 a4}(ka0:X7 a0)(ka2:tU a2)(ka3:tU a3)(ka4:tU a4):PT (Qeq N a0 a1 a2 a3 a4) (λr=>X7 r.1/\tU r.2.1):=by rw[Qeq];refine(UL (Q:=λk=>∀x3 x4 x5,tU x3->PT (k x3 x4 x5) _) (λx3 x4 x5 h1=>(Wi (Wv (Qag) λy6 h2=>(Wd ?_)) (Wv (Qiq ?_ ?_) λy7 h3=>(Wi (Wd ?_) (Wi (Wv (QgE ?_ ?_) λy8 h4=>(Wd ?_)) (UL (Q:=λk=>∀x11,tU x11->PT (k x11) _) (λx11 h5=>(Wv (Qjn ?_ ?_ ?_) λy12 h6=>(Wd ?_))) λj2 hj2=>(Wi (Wv (QcQ ?_ ?_) λy9 h7=>(Wi (Wv (Qag) λy10 h8=>(Wd ?_)) (hj2 _ ?_))) (hj2 _ ?_)))))))) λj1 hj1=>(Wi (Wv (Qip ?_ ?_ ?_) λy1 h9=>(hj1 _ _ _ ?_)) (Wv (Qip ?_ ?_ ?_) λy2 h10=>(hj1 _ _ _ ?_))));all_goals simp_all (maxDischargeDepth:=9)
def Qmd{N a0 a1 a2 a3}(ka0:X7 a0)(ka2:tU a2)(ka3:tU a3):PT (Qer N a0 a1 a2 a3) (λr=>X7 r.1/\tU r.2.1):=by rw[Qer];refine(UL (Q:=λk=>∀x1,PT (k x1) _) (λx1=>(Wi (Wv (QgF ?_ ?_) λy2 h1=>(Wi (Wv (Qag) λy3 h2=>(Wd ?_)) (Wv (Qh0 ?_ ?_) λy4 h3=>(Wi (Wd ?_) (Wd ?_))))) (Wi (Wv (QcQ ?_ ?_) λy5 h4=>(Wi (Wv (Qag) λy6 h5=>(Wd ?_)) (Wv (QcQ ?_ ?_) λy7 h6=>(Wi (Wv (Qag) λy8 h7=>(Wd ?_)) (Wi (Wd ?_) (Wd ?_)))))) (Wv (QcQ ?_ ?_) λy9 h8=>(Wi (Wv (Qag) λy10 h9=>(Wd ?_)) (Wv (QgE ?_ ?_) λy11 h10=>(Wd ?_))))))) λj1 hj1=>(Wi (hj1 _) (hj1 _)));all_goals simp_all (maxDischargeDepth:=9)
def Qij{N a0 a1}(ka0:X3 a0)(ka1:tU a1):∀n v2,PT (QbH N a0 a1 n v2) (tE (λr=>X3 r.1) (λ_=>True))
 |0,_=>by rw[QbH];exact Iz
 |n+1,v2=>by have ih:=Qij (N:=N) (a0:=a0) (a1:=a1) ka0 ka1 n;rw[QbH];refine(WI (Wi (PT.get (T:=XE) ?_ λp3 h1=>(Wi (PT.get (T:=XE) ?_ λp4 h2=>(Wi (PT.get (T:=XE) ?_ λp5 h3=>(PT.get (T:=XE) ?_ λp6 h4=>(PT.get (T:=XE) ?_ λp7 h5=>(Wd ?_)))) (ih _))) (ih _))) (Wd ?_)));all_goals (clear ih;simp_all (maxDischargeDepth:=9))
def QkT{N a0 a1 n v2}(ka0:X3 a0)(ka1:tU a1):PT (QbH N a0 a1 n v2) (tE (λr=>X3 r.1) (λ_=>True)):=Qij ka0 ka1 n _
def Qic{N a0 a1}(ka0:X3 a0)(ka1:tU a1):PT (QcX N a0 a1) (λr=>X3 r.1):=by rw[QcX];refine(WC λy1=>(Wi (Wd ?_) (WI (I9 (QkT ?_ ?_) (λr h1=>(Wd ?_)) λy8 h2=>(WI (Wi (Wd ?_) (WI (WI (Wd ?_)))))))));all_goals simp_all (maxDischargeDepth:=9)
def QjY{N a0 a1 a2}(ka0:X7 a0)(ka2:tU a2):PT (Qdh N a0 a1 a2) (λr=>X7 r.1/\tU r.2.1):=by rw[Qdh];refine(Wv (QgF ?_ ?_) λy1 h1=>(Wi (Wv (Qag) λy2 h2=>(Wd ?_)) (UL (Q:=λk=>∀x3 x4,(tL XE) x4->PT (k x3 x4) _) (λx3 x4 h3=>(Wv (Qic ?_ ?_) λy5 h4=>(Wi (Wv (Qag) λy6 h5=>(Wd ?_)) (UL (Q:=λk=>∀x7 x8,(tL XE) x7->(tL XE) x8->PT (k x7 x8) _) (λx7 x8 h6 h7=>(Wv (Qgb) λy9 h8=>(Wd ?_))) λj2 hj2=>(Wi (hj2 _ _ ?_ ?_) (hj2 _ _ ?_ ?_)))))) λj1 hj1=>(Wi (hj1 _ _ ?_) (hj1 _ _ ?_)))));all_goals simp_all (maxDischargeDepth:=9)
def Qik{N a0 a1 a2}(ka0:XK a0):PT (QdJ N a0 a1 a2) (λr=>XK r.1):=by rw[QdJ];refine(Wv (Qib ?_) λy1 h1=>(Wi (Wd ?_) (WI (PT.get (T:=Yr) ?_ λp2 h2=>(Wd ?_)))));all_goals simp_all (maxDischargeDepth:=9)
def Qn9{N a0 a1 a2}(ka0:X3 a0)(ka2:XE a2):PT (QgY N a0 a1 a2) X3:=by rw[QgY];refine(WI (PT.get (T:=XE) ?_ λp1 h1=>(Wd ?_)));all_goals simp_all (maxDischargeDepth:=9)
def Qgc{N a0 a1 a2}(ka0:X3 a0):PT (QcB N a0 a1 a2) (λr=>X3 r.1):=by rw[QcB];refine(Wv (Qgl ?_) λy1 h1=>(Wi (Wd ?_) (Wv (Qn9 ?_ ?_) λy2 h2=>(Wd ?_))));all_goals simp_all (maxDischargeDepth:=9)
def QkU{N a0 a1 a2}(ka0:X7 a0)(ka2:tU a2):PT (QdK N a0 a1 a2) (λr=>X7 r.1/\tU r.2.1):=by rw[QdK];refine(Wi (Wv (Qag) λy1 h1=>(Wd ?_)) (Wv (QcQ ?_ ?_) λy2 h2=>(Wi (Wv (Qag) λy3 h3=>(Wd ?_)) (WC λy4=>(UL (Q:=λk=>∀_,PT (k ()) _) (λ_=>(Wi (Wv (Qik ?_) λy6 h4=>(Wd ?_)) (Wi (Wv (Qgc ?_) λy7 h5=>(Wd ?_)) (Wv (Qgc ?_) λy8 h6=>(Wd ?_))))) λj2 hj2=>(UL (Q:=λk=>∀_,PT (k ()) _) (λ_=>(Wv (Qag) λy5 h7=>(Wd ?_))) λj1 hj1=>(Wi (Wi (hj1 ()) (Wi (Wi (hj1 ()) (Wi (Wi (hj1 ()) (hj2 ())) (hj2 ()))) (Wi (Wi (hj1 ()) (hj2 ())) (hj2 ())))) (Wi (Wi (hj1 ()) (Wi (Wi (hj1 ()) (hj2 ())) (hj2 ()))) (Wi (Wi (hj1 ()) (hj2 ())) (hj2 ()))))))))));all_goals simp_all (maxDischargeDepth:=9)
def Qm3{N a0 a1 a2}(ka0:XK a0):PT (Qgs N a0 a1 a2) (λr=>XK r.1):=by rw[Qgs];refine(WC λy1=>(Wi (Wd ?_) (Wi (Wd ?_) (Wi (Wd ?_) (UL (Q:=λk=>∀_,PT (k ()) _) (λ_=>(Wi (Wd ?_) (WI (WI (Wd ?_))))) λj1 hj1=>(Wi (Wi (Wd ?_) (hj1 ())) (hj1 ())))))));all_goals simp_all (maxDischargeDepth:=9)
def QiD{N a0 a1}(ka0:XK a0):PT (Qei N a0 a1) (λr=>XK r.1):=by rw[Qei];refine(Wv (Qm3 ?_) λy1 h1=>(Wd ?_));all_goals simp_all (maxDischargeDepth:=9)
def Qoa{N a0 a1}(ka0:XK a0):PT (QgZ N a0 a1) XK:=by rw[QgZ];refine(WC λp1=>(WI (WI (WI (WI (Wd ?_))))));all_goals simp_all (maxDischargeDepth:=9)
def Qi3{N a0}(ka0:XK a0):PT (QeY N a0) (λr=>XK r.1):=by rw[QeY];refine(WC λy1=>(Wi (Wd ?_) (Wi (Wd ?_) (WC λp2=>(Wi (Wd ?_) (Wv (Qoa ?_) λy3 h1=>(Wd ?_)))))));all_goals simp_all (maxDischargeDepth:=9)
def QkV{N a0 a1 a2}(ka0:X7 a0)(ka2:tU a2):PT (QdL N a0 a1 a2) (λr=>X7 r.1/\tU r.2.1):=by rw[QdL];refine(Wi (Wi (Wv (Qag) λy1 h1=>(Wd ?_)) (Wv (QiD ?_) λy2 h2=>(Wi (Wv (Qag) λy3 h3=>(Wd ?_)) (Wd ?_)))) (Wv (QcQ ?_ ?_) λy4 h4=>(Wi (Wv (Qag) λy5 h5=>(Wd ?_)) (Wv (Qi3 ?_) λy6 h6=>(Wi (Wv (Qag) λy7 h7=>(Wd ?_)) (Wv (QgE ?_ ?_) λy8 h8=>(Wd ?_)))))));all_goals simp_all (maxDischargeDepth:=9)
def Qhx{N a0 a1 a2}(ka0:XQ a0)(ka1:tU a1):PT (QcC N a0 a1 a2) XQ:=by rw[QcC];refine(WI (WC λy1=>(WC λp2=>(WC λp3=>(Wd ?_)))));all_goals simp_all (maxDischargeDepth:=9)
def QjZ{N a0 a1 a2}(ka0:XQ a0)(ka1:(tL YS) a1)(ka2:tU a2):PT (Qcb N a0 a1 a2) (λr=>XQ r.1/\(tL YS) r.2.1):=by rw[Qcb];refine(WC λy1=>(Wi (Wd ?_) (Wi (Wd ?_) (WC λy2=>(Wi (Wd ?_) (WI (PT.get (T:=YS) ?_ λp3 h1=>(PT.get (T:=YS) ?_ λp4 h2=>(PT.get (T:=YS) ?_ λp5 h3=>(Wi (WI (WI (WI (Wv (Qhx ?_ ?_) λy7 h4=>(Wd ?_))))) (Wv (Qhx ?_ ?_) λy8 h5=>(Wd ?_))))))))))));all_goals simp_all (maxDischargeDepth:=9)
def Qob{N a0 a1 a2}(ka0:XQ a0)(ka1:(tL YS) a1)(ka2:tU a2):PT (QdM N a0 a1 a2) (λr=>XQ r.1/\(tL YS) r.2.1/\tU r.2.2.1):=by rw[QdM];refine(WC λy1=>(Wi (Wd ?_) (Wi (Wd ?_) (WC λy2=>(Wi (Wd ?_) (WC λy3=>(UL (Q:=λk=>∀_,PT (k ()) _) (λ_=>(WI (UL (Q:=λk=>∀x11,(tL YS) x11->PT (k x11) _) (λx11 h1=>(Wv (Qhx ?_ ?_) λy12 h2=>(Wd ?_))) λj2 hj2=>(Wi (PT.get (T:=YS) ?_ λp9 h3=>(PT.get (T:=YS) ?_ λp10 h4=>(hj2 _ ?_))) (WI (hj2 _ ?_)))))) λj1 hj1=>(Wi (PT.get (T:=YS) ?_ λp4 h5=>(Wi (Wd ?_) (Wi (Wi (Wd ?_) (WC λy5=>(Wi (Wd ?_) (hj1 ())))) (WC λy6=>(Wi (Wd ?_) (hj1 ())))))) (Wi (Wi (Wd ?_) (WC λy7=>(Wi (Wd ?_) (hj1 ())))) (WC λy8=>(Wi (Wd ?_) (hj1 ()))))))))))));all_goals simp_all (maxDischargeDepth:=9)
def Qm4{N a0 a1 a2}(ka0:X7 a0)(ka2:tU a2):PT (QfH N a0 a1 a2) (λr=>X7 r.1/\tU r.2.1):=by rw[QfH];refine(Wv (QgF ?_ ?_) λy1 h1=>(Wi (Wv (Qag) λy2 h2=>(Wd ?_)) (Wi (Wv (QjZ ?_ ?_ ?_) λy3 h3=>(Wi (Wv (Qag) λy4 h4=>(Wd ?_)) (Wd ?_))) (Wv (Qob ?_ ?_ ?_) λy5 h5=>(Wi (Wv (Qag) λy6 h6=>(Wd ?_)) (Wd ?_))))));all_goals simp_all (maxDischargeDepth:=9)
def Qm5{N a0 a1 a2 a3 a4}(ka0:X7 a0)(ka2:tU a2)(ka3:tU a3)(ka4:tU a4):PT (QeZ N a0 a1 a2 a3 a4) (λr=>X7 r.1/\tU r.2.1):=by rw[QeZ];refine(WC λy1=>(Wi (Wv (Qag) λy2 h1=>(Wd ?_)) (UL (Q:=λk=>∀x4,PT (k x4) _) (λx4=>(Wi (Wv (QkS ?_ ?_ ?_) λy5 h2=>(Wd ?_)) (UL (Q:=λk=>∀x8,PT (k x8) _) (λx8=>(Wi (Wv (Qmc ?_ ?_ ?_ ?_) λy9 h3=>(Wd ?_)) (UL (Q:=λk=>∀x12,PT (k x12) _) (λx12=>(Wi (Wv (Qmd ?_ ?_ ?_) λy13 h4=>(Wd ?_)) (UL (Q:=λk=>∀x14,PT (k x14) _) (λx14=>(Wi (Wv (QjY ?_ ?_) λy15 h5=>(Wd ?_)) (UL (Q:=λk=>∀x17,PT (k x17) _) (λx17=>(Wi (Wv (QkU ?_ ?_) λy18 h6=>(Wd ?_)) (UL (Q:=λk=>∀x19,PT (k x19) _) (λx19=>(Wi (Wv (QkV ?_ ?_) λy20 h7=>(Wd ?_)) (UL (Q:=λk=>∀x21,PT (k x21) _) (λx21=>(Wi (Wv (Qm4 ?_ ?_) λy22 h8=>(Wd ?_)) (Wv (Qag) λy23 h9=>(Wd ?_)))) λj13 hj13=>(Wi (hj13 _) (hj13 _))))) λj12 hj12=>(Wi (hj12 _) (hj12 _))))) λj11 hj11=>(Wi (hj11 _) (UL (Q:=λk=>∀x16,PT (k x16) _) (λx16=>(hj11 _)) λj10 hj10=>(Wi (hj10 _) (hj10 _))))))) λj9 hj9=>(Wi (hj9 _) (hj9 _))))) λj8 hj8=>(Wi (hj8 _) (UL (Q:=λk=>∀x11,PT (k x11) _) (λx11=>(hj8 _)) λj7 hj7=>(Wi (hj7 _) (UL (Q:=λk=>∀x10,PT (k x10) _) (λx10=>(hj7 _)) λj6 hj6=>(Wi (hj6 _) (hj6 _))))))))) λj5 hj5=>(Wi (hj5 _) (UL (Q:=λk=>∀x7,PT (k x7) _) (λx7=>(hj5 _)) λj4 hj4=>(Wi (hj4 _) (UL (Q:=λk=>∀x6,PT (k x6) _) (λx6=>(hj4 _)) λj3 hj3=>(Wi (hj3 _) (hj3 _))))))))) λj2 hj2=>(Wi (hj2 _) (UL (Q:=λk=>∀x3,PT (k x3) _) (λx3=>(hj2 _)) λj1 hj1=>(Wi (hj1 _) (hj1 _)))))));all_goals simp_all (maxDischargeDepth:=9)
def Qj0{N a0 a1 a2 a3 a4}(ka0:X7 a0)(ka1:X7 a1)(ka3:tU a3):PT (QeL N a0 a1 a2 a3 a4) Xhd:=by rw[QeL];refine(UL (Q:=λk=>∀x1,PT (k x1) _) (λx1=>(UL (Q:=λk=>∀x2,PT (k x2) _) (λx2=>(Wi (Wi (Wd ?_) (Wd ?_)) (Wd ?_))) λj2 hj2=>(Wi (hj2 _) (hj2 _)))) λj1 hj1=>(Wi (hj1 _) (Wi (hj1 _) (hj1 _))));all_goals simp_all (maxDischargeDepth:=9)
def QfN{N a0 a1}(ka0:XZ a0)(ka1:tU a1):PT (QaI N a0 a1) (λr=>tU r.1):=by rw[QaI];refine(WC λy1=>(Wi (Wd ?_) (Wi (Wd ?_) (WC λy2=>(Wi (Wd ?_) (Wi (Wv (Qib ?_) λy3 h1=>(Wd ?_)) (Wi (Wv (Qgl ?_) λy4 h2=>(Wd ?_)) (Wv (Qgl ?_) λy5 h3=>(Wd ?_)))))))));all_goals simp_all (maxDischargeDepth:=9)
def QgG{N a0 a1}(ka0:XZ a0)(ka1:tU a1):PT (Qc4 N a0 a1) (λr=>XZ r.1/\tU r.2):=by rw[Qc4];refine(Wi (Wd ?_) (Wv (Qia ?_ ?_) λy1 h1=>(Wv (Qgb) λy2 h2=>(Wd ?_))));all_goals simp_all (maxDischargeDepth:=9)
def Qi4{N a0 a1 a2 a3}(ka0:XZ a0)(ka1:tU a1)(ka3:tU a3):PT (Qfy N a0 a1 a2 a3) XZ:=by rw[Qfy];refine(WI (PT.get (T:=Zo) ?_ λp1 h1=>(WI (PT.get (T:=tU) ?_ λp2 h2=>(PT.get (T:=Zo) ?_ λp3 h3=>(Wd ?_))))));all_goals simp_all (maxDischargeDepth:=9)
def Qj1{N a0 a1 a2}(ka0:XZ a0)(ka2:tU a2):PT (QeM N a0 a1 a2) (λr=>XZ r.1/\tU r.2):=by rw[QeM];refine(UL (Q:=λk=>∀x3 x4 x5 x6 x7,(tL XE) x3->(tL XE) x4->PT (k x3 x4 x5 x6 x7) _) (λx3 x4 x5 x6 x7 h1 h2=>(Wv (Qgb) λy8 h3=>(Wd ?_))) λj1 hj1=>(Wi (Wv (Qic ?_ ?_) λy1 h4=>(hj1 _ _ _ _ _ ?_ ?_)) (Wv (Qic ?_ ?_) λy2 h5=>(hj1 _ _ _ _ _ ?_ ?_))));all_goals simp_all (maxDischargeDepth:=9)
def QkW{N a0 a1}(ka0:XZ a0)(ka1:tU a1):PT (Qfq N a0 a1) XZ:=by rw[Qfq];refine(WC λy1=>(Wi (Wv (Qik ?_) λy2 h1=>(Wd ?_)) (Wi (Wv (Qgc ?_) λy3 h2=>(Wd ?_)) (Wv (Qgc ?_) λy4 h3=>(Wd ?_)))));all_goals simp_all (maxDischargeDepth:=9)
def Qm6{N a0 a1 a2 a3}(ka0:XZ a0)(ka2:tU a2)(ka3:tU a3):PT (QfI N a0 a1 a2 a3) (λr=>XZ r.1/\tU r.2):=by rw[QfI];refine(WC λy1=>(WI (Wi (PT.get (T:=Kc) ?_ λp2 h1=>(PT.get (T:=Kc) ?_ λp3 h2=>(PT.get (T:=Kc) ?_ λp4 h3=>(Wi (WI (WI (WI (Wd ?_)))) (Wd ?_))))) (Wi (PT.get (T:=Kc) ?_ λp7 h4=>(PT.get (T:=Kc) ?_ λp8 h5=>(PT.get (T:=Kc) ?_ λp9 h6=>(Wd ?_)))) (WI (Wd ?_))))));all_goals simp_all (maxDischargeDepth:=9)
def Qm7{N a0 a1 a2 a3 a4 a5}(ka0:XZ a0)(ka2:tU a2)(ka3:tU a3)(ka4:tU a4)(ka5:Xhd a5):PT (QfJ N a0 a1 a2 a3 a4 a5) (λr=>XZ r.1/\tU r.2.1):=by rw[QfJ];refine(WC λy1=>(Wi (Wd ?_) (UL (Q:=λk=>∀x3,tU x3->PT (k x3) _) (λx3 h1=>(UL (Q:=λk=>∀x5,PT (k x5) _) (λx5=>(Wi (UL (Q:=λk=>∀x7 x8 x9 x10 x11 x12 x13 x14 x15 x16,(tL Zo) x9->(tL Yr) x10->(tL XE) x13->(tL XE) x14->(tL Kc) x15->(tL tU) x16->PT (k x7 x8 x9 x10 x11 x12 x13 x14 x15 x16) _) (λx7 x8 x9 x10 x11 x12 x13 x14 x15 x16 h2 h3 h4 h5 h6 h7=>(Wv (Qhw ?_ ?_) λy17 h8=>(WI (WI (WI (WI (Wv (QgG ?_ ?_) λy18 h9=>(Wd ?_)))))))) λj4 hj4=>(Wi (Wv (Qh9 ?_) λy6 h10=>(hj4 _ _ _ _ _ _ _ _ _ _ ?_ ?_ ?_ ?_ ?_ ?_)) (hj4 _ _ _ _ _ _ _ _ _ _ ?_ ?_ ?_ ?_ ?_ ?_))) (Wi (PT.get (T:=Zo) ?_ λp19 h11=>(Wd ?_)) (Wi (PT.get (T:=Zo) ?_ λp20 h12=>(Wd ?_)) (Wi (PT.get (T:=Zo) ?_ λp21 h13=>(PT.get (T:=tU) ?_ λp22 h14=>(Wd ?_))) (Wi (Wv (Qi4 ?_ ?_ ?_) λy23 h15=>(Wd ?_)) (Wi (PT.get (T:=Zo) ?_ λp24 h16=>(PT.get (T:=tU) ?_ λp25 h17=>(Wv (QgG ?_ ?_) λy26 h18=>(Wd ?_)))) (Wi (Wv (QfN ?_ ?_) λy27 h19=>(Wv (Qi4 ?_ ?_ ?_) λy28 h20=>(Wd ?_))) (Wi (Wv (QfN ?_ ?_) λy29 h21=>(Wi (Wd ?_) (Wd ?_))) (Wi (Wv (QgG ?_ ?_) λy30 h22=>(Wd ?_)) (UL (Q:=λk=>∀x31,PT (k x31) _) (λx31=>(Wi (Wv (Qj1 ?_ ?_) λy32 h23=>(Wd ?_)) (UL (Q:=λk=>∀x34,PT (k x34) _) (λx34=>(Wi (Wv (QkW ?_ ?_) λy35 h24=>(Wd ?_)) (Wi (Wv (QiD ?_) λy36 h25=>(Wd ?_)) (Wi (Wv (Qi3 ?_) λy37 h26=>(Wv (QgG ?_ ?_) λy38 h27=>(Wd ?_))) (Wv (Qm6 ?_ ?_ ?_) λy39 h28=>(Wd ?_)))))) λj7 hj7=>(Wi (hj7 _) (UL (Q:=λk=>∀x33,PT (k x33) _) (λx33=>(hj7 _)) λj6 hj6=>(Wi (hj6 _) (hj6 _))))))) λj5 hj5=>(Wi (hj5 _) (hj5 _))))))))))))) λj3 hj3=>(Wi (hj3 _) (UL (Q:=λk=>∀x4,PT (k x4) _) (λx4=>(hj3 _)) λj2 hj2=>(Wi (hj2 _) (hj2 _)))))) λj1 hj1=>(Wi (Wi (Wv (QfN ?_ ?_) λy2 h29=>(hj1 _ ?_)) (hj1 _ ?_)) (hj1 _ ?_)))));all_goals simp_all (maxDischargeDepth:=9)
def QkX{N a0 a1}(ka0:V3 a0)(ka1:Xco a1):PT (Qb2 N a0 a1) (λr=>V3 r.1/\tU r.2.1):=by rw[Qb2];refine(Wi (Wv (Qh8 ?_) λy1 h1=>(UL (Q:=λk=>∀x3 x4 x5 x6 x7 x8 x9 x10 x11 x12 x13 x14 x15 x16 x17 x18 x19 x20 x21 x22 x23 x24 x25,(tL tU) x5->(tL Yr) x9->(tL XE) x12->(tL XE) x13->(tL YS) x14->(tL tU) x15->(tL Zo) x18->(tL Yr) x19->(tL XE) x22->(tL XE) x23->(tL Kc) x24->(tL tU) x25->PT (k x3 x4 x5 x6 x7 x8 x9 x10 x11 x12 x13 x14 x15 x16 x17 x18 x19 x20 x21 x22 x23 x24 x25) _) (λx3 x4 x5 x6 x7 x8 x9 x10 x11 x12 x13 x14 x15 x16 x17 x18 x19 x20 x21 x22 x23 x24 x25 h2 h3 h4 h5 h6 h7 h8 h9 h10 h11 h12 h13=>(Wd ?_)) λj1 hj1=>(Wi (Wv (Qh9 ?_) λy2 h14=>(hj1 _ _ _ _ _ _ _ _ _ _ _ _ _ _ _ _ _ _ _ _ _ _ _ ?_ ?_ ?_ ?_ ?_ ?_ ?_ ?_ ?_ ?_ ?_ ?_)) (hj1 _ _ _ _ _ _ _ _ _ _ _ _ _ _ _ _ _ _ _ _ _ _ _ ?_ ?_ ?_ ?_ ?_ ?_ ?_ ?_ ?_ ?_ ?_ ?_)))) (Wv (Qm5 ?_ ?_ ?_ ?_) λy26 h15=>(Wv (Qj0 ?_ ?_ ?_) λy27 h16=>(Wv (Qm7 ?_ ?_ ?_ ?_ ?_) λy28 h17=>(UL (Q:=λk=>∀x29 x30 x31 x32 x33 x34 x35 x36 x37 x38,(tL Zo) x31->(tL Yr) x32->(tL XE) x35->(tL XE) x36->(tL Kc) x37->(tL tU) x38->PT (k x29 x30 x31 x32 x33 x34 x35 x36 x37 x38) _) (λx29 x30 x31 x32 x33 x34 x35 x36 x37 x38 h18 h19 h20 h21 h22 h23=>(Wi (Wi (WI (WI (Wd ?_))) (Wd ?_)) (Wd ?_))) λj2 hj2=>(Wi (hj2 _ _ _ _ _ _ _ _ _ _ ?_ ?_ ?_ ?_ ?_ ?_) (hj2 _ _ _ _ _ _ _ _ _ _ ?_ ?_ ?_ ?_ ?_ ?_)))))));all_goals simp_all (maxDischargeDepth:=9)
def Qfk{N a0 a1}(ka0:V3 a0):PT (QbP N a0 a1) (λr=>tU r.1):=by rw[QbP];refine(WC λy1=>(Wi (WC λy2=>(PT.get (T:=tU) ?_ λp3 h1=>(Wd ?_))) (Wi (WC λy4=>(PT.get (T:=tU) ?_ λp5 h2=>(WC λy6=>(Wd ?_)))) (UL (Q:=λk=>∀x8,PT (k x8) _) (λx8=>(Wi (WC λy9=>(PT.get (T:=tU) ?_ λp10 h3=>(Wd ?_))) (WC λy11=>(PT.get (T:=tU) ?_ λp12 h4=>(Wd ?_))))) λj2 hj2=>(Wi (hj2 _) (UL (Q:=λk=>∀x7,PT (k x7) _) (λx7=>(hj2 _)) λj1 hj1=>(Wi (hj1 _) (hj1 _))))))));all_goals simp_all (maxDischargeDepth:=9)
def Qjo{N a0 a1}(ka0:V3 a0):PT (Qdq N a0 a1) (λr=>Xco r.1):=by rw[Qdq];refine(WC λy1=>(WC λp2=>(Wi (WC λy3=>(WI (WC λy4=>(Wd ?_)))) (UL (Q:=λk=>∀x5,PT (k x5) _) (λx5=>(Wi (WC λy6=>(WC λy7=>(Wi (WC λy8=>(Wd ?_)) (Wd ?_)))) (Wi (WC λy9=>(Wd ?_)) (Wv (Qfk ?_) λy10 h1=>(WC λy11=>(WC λy12=>(UL (Q:=λk=>∀x16 x17 x18,tU x18->PT (k x16 x17 x18) _) (λx16 x17 x18 h2=>(Wi (Wv (Qfk ?_) λy19 h3=>(Wd ?_)) (Wd ?_))) λj2 hj2=>(Wi (Wv (Qfk ?_) λy14 h4=>(hj2 _ _ _ ?_)) (WC λy13=>(Wi (Wv (Qfk ?_) λy15 h5=>(hj2 _ _ _ ?_)) (hj2 _ _ _ ?_))))))))))) λj1 hj1=>(Wi (hj1 _) (hj1 _))))));all_goals simp_all (maxDischargeDepth:=9)
def QiI{N a0 a1}(ka0:Xcp a0):PT (QcO N a0 a1) (λr=>Xcp r.1):=by rw[QcO];refine(WI (WI (WI (WC λy1=>(WI (WC λy2=>(WC λy3=>(UL (Q:=λk=>∀x4,PT (k x4) _) (λx4=>(Wi (WC λy5=>(PT.get (T:=tU) ?_ λp6 h1=>(PT.get (T:=tU) ?_ λp7 h2=>(Wd ?_)))) (Wi (PT.get (T:=tU) ?_ λp8 h3=>(WC λy9=>(WI (PT.get (T:=tU) ?_ λp10 h4=>(Wd ?_))))) (Wi (WC λy11=>(WC λp12=>(Wd ?_))) (Wi (WC λy13=>(WC λp14=>(Wd ?_))) (Wi (WC λp15=>(WC λy16=>(WC λp17=>(Wd ?_)))) (Wi (WC λy18=>(WC λp19=>(Wd ?_))) (Wi (WC λy20=>(Wd ?_)) (Wi (WI (WC λy21=>(Wd ?_))) (Wi (Wd ?_) (Wi (WI (Wd ?_)) (Wi (WC λy26=>(Wd ?_)) (Wd ?_))))))))))))) λj1 hj1=>(Wi (hj1 _) (hj1 _))))))))));all_goals simp_all (maxDischargeDepth:=9)
def Qoc{N a0 a1}(ka0:X7 a0):PT (Qg0 N a0 a1) (λr=>X7 r.1):=by rw[Qg0];refine(WC λy1=>(Wi (Wv (QiI ?_) λy2 h1=>(Wd ?_)) (Wi (WI (WC λy3=>(WI (Wd ?_)))) (Wi (Wi (WI (WC λy4=>(PT.get (T:=Yr) ?_ λp5 h2=>(WC λy6=>(PT.get (T:=Yr) ?_ λp7 h3=>(Wd ?_)))))) (Wd ?_)) (Wi (WI (WC λy8=>(WC λy9=>(WI (Wd ?_))))) (Wi (WI (WC λy10=>(WC λy11=>(WI (Wd ?_))))) (Wi (WI (WC λy12=>(WC λy13=>(WI (Wd ?_))))) (Wi (WI (WC λy14=>(WC λy15=>(WI (Wd ?_))))) (Wd ?_)))))))));all_goals simp_all (maxDischargeDepth:=9)
def QiJ{N a0 a1}:PT (QcP N a0 a1) (λr=>YD r.1):=by rw[QcP];refine(WC λy1=>(WC λy2=>(WC λy3=>(UL (Q:=λk=>∀x5 x6 x7,PT (k x5 x6 x7) _) (λx5 x6 x7=>(WC λy8=>(Wi (Wd ?_) (Wi (Wd ?_) (WI (WC λy9=>(Wd ?_))))))) λj1 hj1=>(Wi (WC λy4=>(hj1 _ _ _)) (hj1 _ _ _))))));all_goals simp_all (maxDischargeDepth:=9)
def BIG:Nat:=1099511627776
def XbK{ws:List Int}(hl:ws.length<=BIG)(N:Nat)(a k:Int)(hk:-1<=k/\k<=1000000000000000000):Qdv N ws a k =
 some (if 4096<=a/\a<=4096+ws.length then(a-4096,decide (a+k<=4096+ws.length))else(0,false)):=by
 unfold BIG at hl;simp only[Qdv,Uv];rw[Xx (n:=(ws.length:Int)) aa aa,Xx (n:=4096+(ws.length:Int)) aa aa];by_cases h1:a<4096
 .grind
 rw[Wn h1];by_cases h2:a>4096+ws.length
 .grind
 rw[Wn h2,Wq aa,Xx (n:=a-4096) aa aa,Xd (n:=a-4096) aa aa,Xd aa aa];grind
def inW(ws:List Int)(a:Int):Prop:=4096<=a/\a<4096+ws.length
instance(ws:List Int)(a:Int):Decidable (inW ws a):=by unfold inW;infer_instance
def ix(a:Int):Nat:=(a-4096).toNat
def YK{ws:List Int}(hl:ws.length<=BIG)(N:Nat)(a:Int):Qbb N ws a=some (if inW ws a then(ws.getD (ix a) 0,0)else(0,2)):=by
 simp only[Qbb,Qf1,XbK hl N a 1 aa,Xa];by_cases h:4096<=a/\a<=4096+ws.length
 .simp only[Wq h];by_cases h2:inW ws a
  .have h3:a+1<=4096+ws.length:=by unfold inW at h2;omega
   simp only[Wq h2,h3,decide_true,Wo,Wa,Xa];have h4:(a-4096).toNat<ws.length:=by unfold inW at h2;omega
   rw[show((0:Int) != 0)=false from rfl,Wa,Yj aa aa,Xa];simp[ix,List.getD,h4]
  have h3:¬a+1<=4096+ws.length:=by unfold inW at h2;omega
  simp[Wn,h2,h3,decide_false,Uf,Wb,Xa]
 have h2:¬inW ws a:=by unfold inW;omega
 simp[Wn,h,h2,Uf,Wb,Xa]
def ovr(ws l:List Int)(i:Nat):List Int:=ws.take i++l++ws.drop (i+l.length)
def ZE{ws l:List Int}{i:Nat}(h:i+l.length<=ws.length):(ovr ws l i).length=ws.length:=by grind[ovr]
def XeG{ws l:List Int}{i:Nat}(h:i+l.length<=ws.length)(j:Nat):(ovr ws l i)[j]? = if i<=j/\j<i+l.length then l[j-i]? else ws[j]?:=by
 unfold ovr;have hm:(ws.take i).length=i:=by simp only[Wj];omega
 grind
def Xcq{ws l:List Int}{i:Nat}(h:i+l.length<=ws.length)(j:Nat):(ovr ws l i).getD j 0=if i<=j/\j<i+l.length then l.getD (j-i) 0 else ws.getD j 0:=by simp only[Wp,XeG h];grind
def XfS{l:List Int}(y:Int×Bool)(i:Nat)(N:Nat)(ws:List Int)(hi:y.1=i)(h:i+l.length<=ws.length)(hl:ws.length<=BIG):∀(n k:Nat)(v:List Int),k<=l.length->l.length-k<n->v=ovr ws (l.take k) i ->
 QbM N l y n (k:Int) v=some (ovr ws l i)
 |0,k,v,_,hn,_=>by omega
 |n+1,k,v,hk,hn,hv=>by
  unfold BIG at hl;rw[QbM];have hlt:(l.take k).length=k:=by simp;omega
  have hvl:v.length=ws.length:=by rw[hv];exact ZE aa
  by_cases h1:k<l.length
  .have e1:decide ((k:Int)<(l.length:Int))=true:=by simp;omega
   have e2:wI (y.1+(k:Int))=((i+k:Nat):Int):=by rw[hi,Xd aa aa];simp
   have e3:wI ((k:Int)+1)=((k+1:Nat):Int):=by rw[Xd aa aa];simp
   rw[e1,Wb,Yj aa aa,Xa,e2,Yj aa aa,Xa,e3];refine XfS y i N ws hi h (by unfold BIG;omega) n (k+1) _ aa aa ?_;rw[hv];simp only[Int.toNat_natCast];apply List.ext_getElem?;intro j;have hlt2:(l.take (k+1)).length=k+1:=by simp only[Wj];omega
   rw[In,ZE aa,XeG aa,XeG aa,hlt,hlt2];by_cases hj:i+k=j
   .subst hj;rw[Wq rfl,Wq aa,Wq aa,Uk,Wq aa,Ix,Wc h1]
   rw[Wn hj];by_cases hj2:i<=j/\j<i+k
   .rw[Wq hj2,Wq aa,Uk,Uk,Wq aa,Wq aa]
   rw[Wn hj2,Wn aa]
  grind
def Yh(ws:List Int)(a:Int)(k:Nat):Prop:=4096<=a/\a+k<=4096+ws.length
instance(ws:List Int)(a:Int)(k:Nat):Decidable (Yh ws a k):=by unfold Yh;infer_instance
def Zz{ws l:List Int}(hl:ws.length<=BIG)(h2:l.length<=BIG){N:Nat}(hN:l.length<N)(a:Int):Qca N ws a l=some (if Yh ws a l.length then(ovr ws l (ix a),0)else([],2)):=by
 simp only[Qca];rw[XbK hl N a _ (by unfold BIG at h2;omega),Xa];by_cases h:Yh ws a l.length
 .have h3:4096<=a/\a<=4096+ws.length:=by unfold Yh at h;omega
  have h4:a+(l.length:Int)<=4096+ws.length:=by unfold Yh at h;omega
  simp only[Wq h,Wq h3,h4,decide_true,Wo,Wa];rw[Xc (by unfold BIG at hl;omega)];have:=XfS (l:=l) (a-4096,true) (ix a) N ws (by unfold ix;omega) (by unfold ix;omega) hl N 0 ws aa aa (by simp[ovr]);rw[show((0:Nat):Int)=0 from rfl]at this;rw[this,Xa]
 by_cases h3:4096<=a/\a<=4096+ws.length
 .have h4:¬a+(l.length:Int)<=4096+ws.length:=by unfold Yh at h;omega
  simp only[Wn h,Wq h3,h4,decide_false,Uf,Wb]
 grind
def Jv{ws:List Int}(hl:ws.length<=BIG){N:Nat}(hN:1<N)(a v:Int):Qdx N ws a v=some (if inW ws a then(ws.set (ix a) v,0)else([],2)):=by
 simp only[Qdx];rw[Zz (l:=[v]) hl (by unfold BIG;simp) aa,Xa];by_cases h:inW ws a
 .have h1:Yh ws a [v].length:=by unfold inW at h;unfold Yh;simp only[Uo,IE];omega
  simp only[Wq h,Wq h1];unfold ovr;have hlt:ix a<ws.length:=by unfold inW at h;unfold ix;omega
  simp[List.set_eq_take_append_cons_drop,hlt]
 have h1:¬Yh ws a [v].length:=by unfold inW at h;unfold Yh;simp only[Uo,IE];omega
 simp_all
def XbL{ws:List Int}(hl:ws.length<=BIG)(N:Nat)(a:Int)(k:Nat)(hk:k<=1000000000):Qc5 N ws a (k:Int)=some (if Yh ws a k then((ws.drop (ix a)).take k,0)else([],2)):=by
 simp only[Qc5];have e1:decide ((k:Int)<0)=false:=Wh aa;rw[e1,Wa,XbK hl N a _ aa,Xa];unfold BIG at hl;by_cases h:Yh ws a k
 .have h3:4096<=a/\a<=4096+ws.length:=by unfold Yh at h;omega
  have h4:a+(k:Int)<=4096+ws.length:=by unfold Yh at h;omega
  simp only[Wq h,Wq h3,h4,decide_true,Wo,Wa];rw[Xd (n:=a-4096+(k:Int)) aa aa,Xc aa,Xc aa];have e2:(a-4096+(k:Int)).toNat-(a-4096).toNat=k:=aa;rw[e2];rfl
 by_cases h3:4096<=a/\a<=4096+ws.length
 .have h4:¬a+(k:Int)<=4096+ws.length:=by unfold Yh at h;omega
  simp only[Wn h,Wq h3,h4,decide_false,Uf,Wb]
 grind
def Xh8{ws:List Int}(hl:ws.length<=BIG){N:Nat}(to a:Int)(k:Nat)(hk:k<=1000000000)(hN:k<N):QfE N ws to a (k:Int) =
 some (if Yh ws a k/\Yh ws to k then(ovr ws ((ws.drop (ix a)).take k) (ix to),0)else([],2)):=by
 simp only[QfE];rw[XbL hl N a k hk,Xa];by_cases h:Yh ws a k
 .have hlen:((ws.drop (ix a)).take k).length=k:=by unfold Yh at h;simp[ix];omega
  simp only[Wq h];rw[show((0:Int) != 0)=false from rfl,Wa,Zz hl (by unfold BIG;omega) (by rw[hlen];exact hN),Xa,hlen];by_cases h2:Yh ws to k
  .rw[Wq h2,Wq ⟨h,h2⟩]
  rw[Wn h2,Wn (λh3=>h2 h3.2)]
 simp_all
def XI(d:Wy):Bool:=decide (0<=d.k/\d.k<=3/\0<=d.n/\d.n<=255)&&(if d.k=1 then decide (d.n<=32)&&decide (d.Map % 18446744073709551616<2 ^ d.n.toNat)else decide (d.Map=0))
def Y8(N:Nat)(d:Wy):Qc1 N d=some (XI d):=by
 simp only[Qc1,Uv,XI];by_cases h1:d.k<0
 .rw[Wq h1,Wh aa,Ut]
 rw[Wn h1];by_cases h2:d.k>3
 .rw[Wq h2,Wh aa,Ut]
 rw[Wn h2];by_cases h3:d.n<0
 .rw[Wq h3,Wh aa,Ut]
 rw[Wn h3];by_cases h4:d.n>255
 .rw[Wq h4,Wh aa,Ut]
 rw[Wn h4,Wg (p:=0<=d.k/\d.k<=3/\0<=d.n/\d.n<=255) aa,W3];by_cases h5:d.k=1
 .rw[Wq h5,h5,show((1:Int) != 1)=false from rfl,Wa];by_cases h6:d.n<=32
  .rw[Wq h6,Xx (n:=d.n) aa aa,Xc aa,Xlb aa aa,Xbq,Wg h6,W3]
  rw[Wn h6,Wh h6,Ut]
 grind
def XL{d:Wy}(h:XI d=true):0<=d.k/\d.k<=3/\0<=d.n/\d.n<=255:=by unfold XI at h;simp_all
def Xz(d:Wy):Int:=if XI d then d.n+1 else 0
def X1(N:Nat)(d:Wy):QcG N d=some (Xz d):=by
 simp only[QcG,Y8,Xa,Xz];cases h:XI d with
 |false=>rfl
 |true=>have:=XL h;simp[Xd (n:=d.n+1) aa aa]
def Xle(d:Wy):0<=Xz d/\Xz d<=256:=by
 unfold Xz;split
 .rename_i h;have:=XL h;omega
 omega
def J1(d:Wy):Int:=wU (wU (wU (1+wU (4*wU d.k))+wU (16*wU d.n))+ZQ .u64 (wU d.Map) 16)
def Ky(N:Nat)(d:Wy):Qcq N d=some (if XI d then(J1 d,0)else(0,1)):=by simp only[Qcq,Y8,Xa];cases h:XI d<;>rfl
def XbC(w:Int):Wy:=⟨wI (Zc .u64 (YA .u64 w 2) 3),wI (Zc .u64 (YA .u64 w 4) 4095),wW (YA .u64 w 16)⟩
def okH(w:Int):Bool:=XI (XbC w)&&(J1 (XbC w)==w)
def ZF(w:Int):Wy:=if okH w then XbC w else⟨0,0,0⟩
def Kz(N:Nat)(w:Int):Qcr N w=some (ZF w,okH w):=by simp only[Qcr];rw[Ky N (Wy.mk _ _ _),Xa];unfold ZF okH XbC;grind
def ZG(w:Int):XI (ZF w)=true:=by
 unfold ZF;split
 .rename_i h;unfold okH at h;simp_all
 rfl
def XdL(w:Int):Xz (ZF w)=(ZF w).n+1/\1<=Xz (ZF w)/\Xz (ZF w)<=256:=by have h:=ZG w;have:=XL h;unfold Xz;grind
def Ji(d:Wy)(i:Int):Bool:=XI d&&(decide (0<=i/\i<d.n)&&(decide (d.k=2)||(decide (d.k=1)&&(Zc .u32 (YA .u32 d.Map (wU i)) 1==1))))
def VD(N:Nat)(d:Wy)(i:Int):Qb9 N d i=some (Ji d i):=by
 simp only[Qb9,Y8,Xa,Ji,Uv];cases h:XI d with
 |false=>rfl
 |true=>
  simp only[Wo,Wa,W3];by_cases h1:i<0
  .rw[Wq h1,Wh aa,Ut]
  rw[Wn h1];by_cases h2:i>=d.n
  .rw[Wq h2,Wh aa,Ut]
  rw[Wn h2,Wg (p:=0<=i/\i<d.n) aa,W3,Xc (Xcm i).1];grind
def Yz(d:Wy):Nat->Int->List Int
 |0,_=>[]
 |k+1,i=>(if Ji d i then[i]else[])++Yz d k (i+1)
def Zi(d:Wy):List Int:=if XI d then Yz d d.n.toNat 0 else[]
def JO{d:Wy}:∀{k:Nat}{i x:Int},x∈Yz d k i->i<=x/\x<i+k/\Ji d x=true
 |0,i,x,h=>by simp_all[Yz]
 |k+1,i,x,h=>by
  simp only[Yz,WG]at h;rcases h with h|h
  .grind
  have:=JO h;grind
def JP{d:Wy}:∀{k:Nat}{i:Int},(Yz d k i).length<=k
 |0,i=>by simp[Yz]
 |k+1,i=>by have:=JP (d:=d) (k:=k) (i:=i+1);grind[Yz,WQ]
def Vi(N:Nat)(d:Wy)(hv:XI d=true):∀(n:Nat)(i:Int)(v:List Int),0<=i->i<=d.n->(d.n-i).toNat<n->v.length<=1000-(d.n-i).toNat->v.length+(d.n-i).toNat<=1000 ->
 QbV N d n i v=some (v++Yz d (d.n-i).toNat i)
 |0,i,v,_,_,h,_,_=>by omega
 |n+1,i,v,h0,h1,h2,h3,h4=>by
  have hb:=XL hv;rw[QbV];by_cases h:i<d.n
  .obtain⟨k,hk⟩:∃k,(d.n-i).toNat=k+1:=⟨(d.n-i).toNat-1,aa⟩
   have hk2:(d.n-(i+1)).toNat=k:=aa;rw[Wg h,Wb,Y8,Xa,hv,Wb,VD,Xa,hk,Xd (n:=i+1) aa aa];simp only[Yz];cases hp:Ji d i with
   |true=>rw[Wb,Xc aa,Vi N d hv n (i+1) _ aa aa aa (by grind) (by grind),hk2];simp
   |false=>rw[Wa,Vi N d hv n (i+1) _ aa aa aa aa aa,hk2];simp
  rw[Wh h,Wa,show(d.n-i).toNat=0 by omega];simp[Yz]
def XfT{N:Nat}(hN:300<N)(d:Wy):Qfo N d=some (Zi d):=by
 simp only[Qfo,Zi];cases hv:XI d with
 |true=>have hb:=XL hv;rw[Vi N d hv N 0 [] aa aa aa ab (by grind),Xa];simp
 |false=>
  obtain⟨n,rfl⟩:∃n,N=n+1:=⟨N-1,aa⟩
  simp[QbV,Y8,Xa,hv,Wa]
def Vj(w:Int):Bool:=decide (w.tmod 4=2)&&decide (YA .u64 w 2<4294967296)
def Jw(N:Nat)(w:Int):Qcv N w=some (if Vj w then(YA .u64 w 2,true)else(0,false)):=by simp only[Qcv,Vj,Uv];grind
def V4(N:Nat)(a:Int):QcI N a=some (if a>=4294967296 then(0,1)else(wU (wU (4*a)+2),0)):=by simp only[QcI,Uv];grind
def X6(c:WT):Bool:=decide (16<=c.W/\c.W<=64/\c.W % 4=0/\8<=c.p/\c.p<=64)
def Xl{c:WT}:X6 c=true↔16<=c.W/\c.W<=64/\c.W % 4=0/\8<=c.p/\c.p<=64:=by simp[X6]
def Y1(N:Nat)(c:WT):QaM N c=some (X6 c):=by simp only[QaM,Uv,X6];grind
def KA(c:WT):Int:=if X6 c then c.p / 4 else 0
def XaV(N:Nat)(c:WT):Qf2 N c=some (KA c):=by
 simp only[Qf2,Y1,Xa,KA];cases h:X6 c with
 |false=>rfl
 |true=>have:=Xl.1 h;simp;rw[U0 aa,Xd aa aa]
def smC(c:WT):Int:=if X6 c then c.W / 4 else 0
def XfU(N:Nat)(c:WT):QcK N c=some (smC c):=by
 simp only[QcK,Y1,Xa,smC];cases h:X6 c with
 |false=>rfl
 |true=>have:=Xl.1 h;simp;rw[U0 aa,Xd aa aa]
def Xy(c:WT)(w:Int):Int:=
 if X6 c=true/\1<=w then(if w<=c.W / 4 then 0 else if c.W>=w then 1 else if 2*c.W>=w then 2 else if 3*c.W>=w then 3 else if 4*c.W>=w then 4 else -1)else -1
def XbM(N:Nat)(c:WT)(w:Int)(hc:X6 c=true)(k:Int)(hk:1<=k/\k<=4)(n:Nat):QcF N c w (n+1) k=if k*c.W>=w then some (.ret k)else QcF N c w n (k+1):=by
 have h:=Xl.1 hc;have hm:0<=k*c.W/\k*c.W<=256:=by
  constructor
  .exact Int.mul_nonneg aa aa
  have:=Int.mul_le_mul (a:=k) (b:=c.W) (c:=4) (d:=64) aa aa aa aa;omega
 rw[QcF,Wg aa,Wb,Uv,Xd (n:=k*c.W) aa aa,Xd (n:=k+1) aa aa]
def Zp{N:Nat}(hN:10<=N)(c:WT)(w:Int):QeT N c w=some (Xy c w):=by
 simp only[QeT,Y1,XfU,Xa,Xy,smC];cases hc:X6 c with
 |false=>simp
 |true=>
  simp only[Wo,Wa,if_true,Uv];by_cases h1:w<1
  .rw[Wq h1,Wn (show¬(True/\1<=w)fromλh=>aa)]
  rw[Wn h1,Wq (show True/\1<=w from⟨trivial,aa⟩)];by_cases h2:w<=c.W / 4
  .rw[Wq h2,Wq h2]
  rw[Wn h2,Wn h2];obtain⟨n,rfl⟩:∃n,N=n+5:=⟨N-5,aa⟩
  rw[XbM _ c w hc 1 aa,XbM _ c w hc (1+1) aa,XbM _ c w hc (1+1+1) aa,XbM _ c w hc (1+1+1+1) aa];rw[show QcF (n+5) c w (n+1) (1+1+1+1+1)=some (.nxt ()) by rw[QcF,Wh aa,Wa]];simp;by_cases h3:c.W>=w
  .simp only[Wq h3,Xa,XA]
  simp only[Wn h3];by_cases h4:2*c.W>=w
  .simp only[Wq h4,Xa,XA]
  simp only[Wn h4];by_cases h5:3*c.W>=w
  .simp only[Wq h5,Xa,XA]
  simp only[Wn h5];by_cases h6:4*c.W>=w
  .simp only[Wq h6,Xa,XA]
  simp[Wn,h6,Xa,Xm]
def KB(c:WT)(w:Int):-1<=Xy c w/\Xy c w<=4:=by unfold Xy;omega
def XW{c:WT}(hc:X6 c=true){i:Int}(h0:0<=i)(h1:i<c.p):0<=i*c.W/\i*c.W+c.W<=c.p*c.W/\c.p*c.W<=4096:=by
 have h:=Xl.1 hc;refine⟨Int.mul_nonneg h0 aa,?_,?_⟩
 .have:=Ur (a:=i+1) (b:=c.p) (c:=c.W) aa aa;grind
 have:=Int.mul_le_mul (a:=c.p) (b:=c.W) (c:=64) (d:=64) aa aa aa aa;omega
def Xg(c:WT)(p o:Int):Int:=4096+p*c.W+o
def KC(N:Nat)(c:WT)(p o:Int):Qbq N c p o=some (if X6 c=false then(0,1)else if 0<=p/\p<c.p/\0<=o/\o<c.W then(Xg c p o,0)else(0,2)):=by
 simp only[Qbq,Y1,Xa,Uv];cases hc:X6 c with
 |false=>simp
 |true=>
  rw[Wn (show¬(true=false) by simp)];by_cases h1:p<0
  .grind
  rw[Wn h1];by_cases h2:p>=c.p
  .grind
  rw[Wn h2];by_cases h3:o<0
  .grind
  rw[Wn h3];by_cases h4:o>=c.W
  .simp_all
  rw[Wn h4,Wq aa];have hm:=XW hc (i:=p) aa aa;rw[Xd (n:=p*c.W) aa aa,Xd (n:=4096+p*c.W) aa aa,Xd (n:=4096+p*c.W+o) aa aa,Xx aa aa];rfl
def Jx(N:Nat)(c:WT)(a:Int):QcL N c a=some (if X6 c=false then(0,0,1)else if 4096<=a/\a<4096+c.p*c.W then((a-4096) / c.W,(a-4096) % c.W,0)else(0,0,2)):=by
 simp only[QcL,Y1,Xa,Uv];cases hc:X6 c with
 |false=>simp
 |true=>
  have h:=Xl.1 hc;have hm:=XW hc (i:=0) aa aa;simp only[Wo,Wa];rw[Wn (show¬(true=false) by simp)];rw[Xd (n:=c.p*c.W) aa aa,Xd (n:=4096+c.p*c.W) aa aa,Xx (n:=4096+c.p*c.W) aa aa];by_cases h1:a<4096
  .grind
  rw[Wn h1];by_cases h2:a>=4096+c.p*c.W
  .simp_all
  rw[Wn h2,Wq aa,Xc aa,Xc aa];rw[Xx (n:=a-4096) aa aa,Xd (n:=a-4096) aa aa,U0 aa,If aa];have hd:0<=(a-4096) / c.W:=Int.ediv_nonneg aa aa;have hd2:(a-4096) / c.W<=a-4096:=Int.ediv_le_self _ aa;rw[Xd aa aa]
def XeH{c:WT}(hc:X6 c=true){a:Int}(h1:4096<=a)(h2:a<4096+c.p*c.W):
 0<=(a-4096) / c.W/\(a-4096) / c.W<c.p/\0<=(a-4096) % c.W/\(a-4096) % c.W<c.W/\a=Xg c ((a-4096) / c.W) ((a-4096) % c.W):=by have h:=Xl.1 hc;refine⟨Int.ediv_nonneg aa aa,Int.ediv_lt_of_lt_mul aa aa,Int.emod_nonneg _ aa,Int.emod_lt_of_pos _ aa,?_⟩;have:=Int.mul_ediv_add_emod (a-4096) c.W;unfold Xg;grind
def XnX{c:WT}(hc:X6 c=true){p o:Int}(h0:0<=o)(h1:o<c.W):(Xg c p o-4096) / c.W=p/\(Xg c p o-4096) % c.W=o:=by
 have e:Xg c p o-4096=o+c.W*p:=by unfold Xg;rw[Int.mul_comm p];omega
 rw[e,Int.add_mul_ediv_left _ _ aa,Int.add_mul_emod_self_left,Int.ediv_eq_zero_of_lt h0 h1,Int.emod_eq_of_lt h0 h1];omega
def KZ:Wt:=⟨0,0,0,0⟩
def pg(ps:List Wt)(i:Int):Wt:=ps.getD i.toNat KZ
def Yv{ps:List Wt}{i:Int}{p:Wt}(h:Xb ps i=some p):pg ps i=p:=by have:=(VV.1 h).2;simp[pg,this]
def XH{ps:List Wt}{i:Int}(h0:0<=i)(h1:i<ps.length):Xb ps i=some (pg ps i):=by rw[Yj h0 h1];have:i.toNat<ps.length:=aa;simp[pg,List.getD,this]
def XfV(N:Nat)(ps:List Wt)(sp:Int)(hl:ps.length<=BIG):∀(n:Nat)(c i:Int),0<=i->0<=c->c<=BIG*2->i<=BIG*2->(ps.length:Int)+c-i<=BIG*2->(ps.length-i).toNat<n ->
 Ok (Qdm N ps sp n c i) λr=>c<=r/\∀m,0<=m->m<r-c->i+m<ps.length/\(pg ps (i+m)).k=3
 |0,c,i,_,_,_,_,_,h=>by omega
 |n+1,c,i,h0,hc,hc2,hi,hs,hn=>by
  unfold BIG at *;refine Wm (λh=>?_) λh=>We ⟨Int.le_refl _,λm h1 h2=>aa⟩;have h1:i<ps.length:=by simpa using h
  refine Ok.get h0 h1 λp hp=>Wm (λhk=>?_) λhk=>We ⟨Int.le_refl _,λm h1 h2=>aa⟩;refine Ok.get h0 h1 λp' hp'=>Wm (λhk2=>?_) λhk=>We ⟨Int.le_refl _,λm h1 h2=>aa⟩;rw[Xd (n:=c+1) aa aa,Xd (n:=i+1) aa aa];refine(XfV N ps sp ag n (c+1) (i+1) aa aa (by unfold BIG;omega) (by unfold BIG;omega) (by unfold BIG;omega) aa).mono λr hr=>⟨aa,λm h2 h3=>?_⟩
  by_cases hm:m=0
  .simp_all[Int.add_zero,Yv,hp]
  have:=hr.2 (m-1) aa aa;grind
def Xlf{N:Nat}{ps:List Wt}(sp i:Int)(hl:ps.length<N)(hl2:ps.length<=100000000)(h0:0<=i)(hi:i<=100000000):Ok (Qe6 N ps i sp) λr=>0<=r/\∀m,1<=m->m<=r->i+m<ps.length/\(pg ps (i+m)).k=3:=by rw[Qe6,Xd (n:=i+1) aa aa];refine WH (XfV N ps sp (by unfold BIG;omega) N 0 (i+1) aa aa aa (by unfold BIG;omega) (by unfold BIG;omega) aa) λr _ h=>We ⟨h.1,λm h1 h2=>?_⟩;have:=h.2 (m-1) aa aa;grind
def XeI(N:Nat)(n:Int):Qg7 N n=some (decide (0<=n/\n<=2147483647)):=by simp only[Qg7,Uv];grind
structure Ou(h:Wk)(i:Int):Prop where
 kind:0<=(pg h.p i).k/\(pg h.p i).k<=3
 space:0<=(pg h.p i).s/\(pg h.p i).s<=1
 pins:0<=(pg h.p i).P/\(pg h.p i).P<=2147483647
 free:(pg h.p i).k=0->pg h.p i=KZ
 small:(pg h.p i).k=1->0<=(pg h.p i).u/\(pg h.p i).u<=h.c.W
 large:(pg h.p i).k=2->1<=Xy h.c (pg h.p i).u/\∀m,1<=m->m<Xy h.c (pg h.p i).u->i+m<h.p.length/\(pg h.p (i+m)).k=3
structure Us(h:Wk):Prop where
 conf:X6 h.c=true
 words:(h.w.length:Int)=h.c.p*h.c.W
 pages:(h.p.length:Int)=h.c.p
 space:0<=h.s/\h.s<=1
 bump:h.b = -1\/(0<=h.b/\h.b<h.p.length/\(pg h.p h.b).k=1)
 pgs:∀i:Int,0<=i->i<h.p.length->Ou h i
 first:(pg h.p 0).k≠3
def PL(h:Wk)(i:Int):Ex Bool Unit->Prop
 |.ret a=>a=false
 |.nxt _=>(∀j,i<=j->j<h.p.length->Ou h j)/\(i=0->(0:Int)<h.p.length->(pg h.p 0).k≠3)
def XdM{N:Nat}{h:Wk}(hc:X6 h.c=true)(hN:100000<N)(hl:(h.p.length:Int)=h.c.p):∀(n:Nat)(due i:Int),0<=i->0<=due->due<=4->(h.p.length-i).toNat<n->(i=0->due=0) ->
 Ok (QaB N h n due i) (PL h i)
 |0,due,i,_,_,_,hn,_=>by omega
 |n+1,due,i,h0,hd,hd4,hn,hi0=>by
  have hv:=Xl.1 hc;refine Wm (λh1=>?_) λh1=>We ⟨λj hj hj2=>?_,λhi hpos=>?_⟩;rotate_left
  .grind
  .grind
  have hlt:i<h.p.length:=by simpa using h1
  refine Ok.get h0 hlt λp hp=>?_;have hpg:=Yv hp;refine Wm (λ_=>We rfl) λg1=>?_;refine Wm (λ_=>We rfl) λg2=>?_;refine Wm (λ_=>We rfl) λg3=>?_;rw[XeI,Xa];refine Wm (λ_=>We rfl) λg4=>?_;simp at g1 g2 g3 g4;have next:∀(due':Int),0<=due'->due'<=4->Ou h i->Ok (QaB N h n (if 0<wI (due'-1)then wI (due'-1)else 0) (wI (i+1))) (PL h i):=by
   intro due' hd1 hd2 hok;rw[Xd (n:=i+1) aa aa,Xd (n:=due'-1) aa aa];refine(XdM hc hN hl n _ (i+1) aa aa aa aa aa).mono λe he=>?_;cases e with
   |ret a=>exact he
   |nxt b=>
   have⟨k1,k2⟩:=he;refine⟨λj hj hj2=>?_,λhi hpos hk=>?_⟩
   .by_cases hji:j=i
    .subst hji;exact hok
    exact k1 j aa hj2
   simp_all
  refine U6 ?_;refine Wm (λq0=>Wm (λ_=>We rfl) λq1=>?_) λq0=>U6 (Wm (λq1=>Wm (λ_=>We rfl) λq2=>Wm (λ_=>We rfl) λq3=>?_) λq1=>U6 (Wm (λq2=>?_) λq2=>Wm (λq3=>Wm (λ_=>We rfl) λq4=>Wm (λ_=>We rfl) λq5=>?_) λq3=>We rfl))
  .refine next due hd hd4 ?_
   simp at q1;have hz:pg h.p i=KZ:=by rw[hpg];cases p;simp only at q1;obtain⟨rfl,rfl,rfl,rfl⟩:=q1;rfl
   refine⟨by rw[hz];decide,by rw[hz];decide,by rw[hz];decide,λ_=>hz,λe=>?_,λe=>?_⟩
   .rw[hz]at e;cases e
   simp_all
  .refine next due hd hd4 ?_
   exact⟨by simp_all,by simp_all,by simp_all,λe=>by simp_all,λ_=>by simp_all,λe=>by simp_all⟩
  .rw[Zp aa,Xa];refine Wm (λ_=>We rfl) λq3=>?_;refine WH (Xlf (N:=N) (ps:=h.p) p.s i aa aa h0 aa) λt _ ht=>?_;refine Wm (λ_=>We rfl) λq4=>?_;have hr:=KB h.c p.u;have hn1:1<=Xy h.c p.u:=by have:=WL q3;omega
   have hn2:Xy h.c p.u-1<=t:=by have:=WL q4;rw[Xd aa aa]at this;omega
   refine next _ aa aa ?_
   exact⟨by simp_all,by simp_all,by simp_all,λe=>by simp_all,λe=>by simp_all,λ_=>by grind⟩
  refine next due hd hd4 ?_
  exact⟨by simp_all,by simp_all,by simp_all,λe=>by simp_all,λe=>by simp_all,λe=>by simp_all⟩
def YB{N:Nat}(hN:100000<N){h:Wk}(hw:h.w.length<=100000)(hp:h.p.length<=100000):Ok (Qab N h) λb=>b=true->Us h:=by
 rw[Qab,Y1,Xa];refine Wm (λ_=>We λe=>by cases e) λg1=>?_;have hc:X6 h.c=true:=by simpa using g1
 have hv:=Xl.1 hc;have hm:=XW hc (i:=0) aa aa;refine Wm (λ_=>We λe=>by cases e) λg2=>?_;refine Wm (λ_=>We λe=>by cases e) λg3=>?_;refine Wm (λ_=>We λe=>by cases e) λg4=>?_;refine Wm (λ_=>We λe=>by cases e) λg5=>?_;have e2:(h.w.length:Int)=h.c.p*h.c.W:=by
  have:(h.w.length:Int)=wI (h.c.p*h.c.W):=by simpa using g2
  rwa[Xd aa aa]at this
 have e3:(h.p.length:Int)=h.c.p:=by simpa using g3
 have e4:0<=h.s/\h.s<=1:=⟨by simpa using g4,by simpa using g5⟩
 have main:(h.b = -1\/(0<=h.b/\h.b<h.p.length/\(pg h.p h.b).k=1))->Ok (bnd (QaB N h N 0 0) λe=>exK e (λr=>some r) λy12=>some true) λb=>b=true->Us h:=by
  intro hb;refine IH (XdM (N:=N) (h:=h) hc hN e3 N 0 0 aa aa aa aa aa) (λa hq=>?_) λb hq=>We λ_=>?_
  .have ha:a=false:=hq;subst ha;exact We λe=>by cases e
  have⟨k1,k2⟩:=hq;exact⟨hc,e2,e3,e4,hb,k1,k2 rfl aa⟩
 refine U6 (Wm (λb1=>Wm (λ_=>We λe=>by cases e) λb2=>Wm (λ_=>We λe=>by cases e) λb3=>?_) λb1=>main (.inl (by simpa using b1)));have h2:0<=h.b:=by simpa using b2
 have h3:h.b<h.p.length:=by simpa using b3
 refine Ok.get h2 h3 λp hp=>Wm (λ_=>We λe=>by cases e) λb4=>main (.inr ⟨h2,h3,?_⟩);rw[Yv hp];grind
def dlt{a b:Int}(h:decide (a<b)=true):a<b:=Wu h
def ZH{ps:List Wt}{i j:Int}(p:Wt)(hi:0<=i)(hi2:i<ps.length)(hj:0<=j):pg (ps.set i.toNat p) j=if j=i then p else pg ps j:=by unfold pg;grind
def Xcr(N:Nat)(ps:List Wt)(hl:ps.length<=100000000):∀(n:Nat)(c i:Int),0<=i->0<=c->c<=i->i<=ps.length->(ps.length-i).toNat<n->Ok (Qbx N ps n c i) λr=>0<=r/\r<=ps.length
 |0,c,i,_,_,_,_,h=>by omega
 |n+1,c,i,h0,hc,hci,hi,hn=>by
  refine Wm (λh=>?_) λh=>We ⟨hc,aa⟩;have h1:i<ps.length:=dlt h;refine Ok.get h0 h1 λp hp=>?_;rw[Xd (n:=c+1) aa aa,Xd (n:=i+1) aa aa];refine Wm (λ_=>?_) λ_=>?_
  .exact Xcr N ps hl n (c+1) (i+1) aa aa aa aa aa
  exact Xcr N ps hl n c (i+1) aa aa aa aa aa
def Vk{N:Nat}{ps:List Wt}(hl:ps.length<=100000000)(hN:ps.length<N):Ok (Qcx N ps) λr=>0<=r/\r<=ps.length:=
 WH (Xcr N ps hl N 0 0 aa aa aa aa aa) λr _ h=>We h
def RunOK(ps:List Wt)(i k:Int):Prop:=0<=i/\1<=k/\i+k<=ps.length/\∀m,0<=m->m<k->(pg ps (i+m)).k=0
def XbN(N:Nat)(ps:List Wt)(hl:ps.length<=100000000):∀(n:Nat)(i:Int)(rs:List IY),0<=i->i<=ps.length->(ps.length-i).toNat<n->rs.length<=i->(∀r∈rs,RunOK ps r.O r.Len) ->
 Ok (Qbr N ps n i rs) λout=>out.length<=ps.length/\∀r∈out,RunOK ps r.O r.Len
 |0,i,rs,_,_,h,_,_=>by omega
 |n+1,i,rs,h0,hi,hn,hlen,hrs=>by
  refine Wm (λh=>?_) λh=>We ⟨aa,hrs⟩;have h1:i<ps.length:=dlt h;refine Ok.get h0 h1 λp hp=>?_;have hpg:=Yv hp;rw[Xd (n:=i+1) aa aa];refine Wm (λ_=>XbN N ps hl n (i+1) rs aa aa aa aa hrs) λhk=>?_;have new:Ok (grd ((rs.length+1)*16<=140737488355328) (Qbr N ps n (i+1) (rs++[IY.mk i 1]))) λout=>out.length<=ps.length/\∀r∈out,RunOK ps r.O r.Len:=by
   refine WS aa (XbN N ps hl n (i+1) _ aa aa aa (by simp_all) λr hr=>?_);rcases WG.1 hr with hr|hr
   .simp_all
   have:r=IY.mk i 1:=by simpa using hr
   subst this;refine⟨h0,by show(1:Int)<=1;omega,by show i+1<=_;omega,λm h1 h2=>?_⟩;grind
  refine WS aa (U6 (Wm (λhp1=>?_) λ_=>new));have hp1:0<(rs.length:Int):=Wu hp1;rw[Xd (n:=(rs.length:Int)-1) aa aa];refine Ok.get aa aa λq hq=>Ok.get aa aa λq' hq'=>?_;obtain rfl:q=q':=WK (hq.symm.trans hq');have hqm:=hrs q (Yy hq);have hb:=hqm.2.2.1;rw[Xd (n:=q.O+q.Len) (by have:=hqm.1;have:=hqm.2.1;omega) aa];refine Wm (λhe=>?_) λ_=>new;have he:q.O+q.Len=i:=by simpa using he
  refine Ok.get aa aa λq2 hq2=>Ok.get aa aa λq3 hq3=>?_;obtain rfl:q=q2:=WK (hq.symm.trans hq2);obtain rfl:q=q3:=WK (hq.symm.trans hq3);have:=hqm.1;have:=hqm.2.1;rw[Xd (n:=q.Len+1) aa aa];refine XbN N ps hl n (i+1) _ aa aa aa (by grind) λr hr=>?_;rcases Ux hr with hr|hr
  .simp_all
  subst hr;refine⟨hqm.1,by show 1<=q.Len+1;omega,by show q.O+(q.Len+1)<=_;omega,λm h1 h2=>?_⟩;by_cases hm:m<q.Len
  .exact hqm.2.2.2 m h1 hm
  grind
def Xh9{N:Nat}{ps:List Wt}(hl:ps.length<=100000000)(hN:ps.length<N):Ok (Qgq N ps) λout=>out.length<=ps.length/\∀r∈out,RunOK ps r.O r.Len:=
 WH (XbN N ps hl N 0 [] aa aa aa ab ab) λr _ h=>We h
def RunOK.less{ps:List Wt}{i k j:Int}(h:RunOK ps i k)(h1:1<=j)(h2:j<=k):RunOK ps i j:=⟨h.1,h1,by have:=h.2.2.1;omega,λm a b=>h.2.2.2 m a aa⟩
def XfW(N:Nat)(ps:List Wt)(k:Int)(rs:List IY)(hl:rs.length<=100000000)(hrs:∀r∈rs,RunOK ps r.O r.Len):∀(n:Nat)(i:Int),0<=i->i<=rs.length->(rs.length-i).toNat<n ->
 Ok (Qbw N k rs n i) λe=>∀a,e=.ret a->RunOK ps a k
 |0,i,_,_,h=>by omega
 |n+1,i,h0,hi,hn=>by
  refine Wm (λh=>?_) λh=>We λa e=>by grind
  have h1:i<rs.length:=dlt h;rw[Xd (n:=i+1) aa aa];have next:=XfW N ps k rs hl hrs n (i+1) aa aa aa
  refine Wm (λhk=>?_) λ_=>next
  refine Ok.get h0 h1 λp hp=>Wm (λhk2=>?_) λ_=>next
  refine Ok.get h0 h1 λp' hp'=>We λa e=>?_;obtain rfl:p=p':=WK (hp.symm.trans hp');cases e;have hk:1<=k:=Wu hk;have hk2:k<=p.Len:=Wu hk2;exact(hrs p (Yy hp)).less hk hk2
def Y2{N:Nat}{ps:List Wt}(k:Int)(hl:ps.length<=100000000)(hN:ps.length<N):Ok (Qbi N ps k) λi=>i = -1\/RunOK ps i k:=by refine WH (Xh9 hl hN) λrs _ h=>?_;refine IH (XfW N ps k rs aa h.2 N 0 aa aa aa) (λa q=>We (.inr (q a rfl))) λ_ _=>We (.inl rfl)
def Taken(ps out:List Wt)(i k:Int)(first rest:Wt):Prop:=out.length=ps.length/\∀j,0<=j->pg out j=if j=i then first else if i<=j/\j<i+k then rest else pg ps j
def Xia(N:Nat)(ps:List Wt)(i k:Int)(f r:Wt)(hl:ps.length<=100000000)(hi:0<=i)(hk:i+k<=ps.length):∀(n:Nat)(m:Int)(v:List Wt),0<=m->(m<=k\/m=0)->(k-m).toNat<n->v.length=ps.length->(∀j,0<=j->pg v j=if i<=j/\j<i+m then r else pg ps j) ->
 Ok (QdW N i k f r n m v) λe=>(∀o,e=.nxt o->o.length=ps.length/\∀j,0<=j->pg o j=if i<=j/\j<i+k then r else pg ps j)/\(∀o,e=.ret o->o.2=20/\o.1=[])/\((∀j,m<=j->j<k->(pg ps (i+j)).k=0)->∀o,e≠.ret o)
 |0,m,v,_,_,h,_,_=>by omega
 |n+1,m,v,h0,hm,hn,hv,hpg=>by
  refine Wm (λh=>?_) λh=>We ⟨λo e=>?_,λo e=>(by cases e),λ_ o e=>(by cases e)⟩;rotate_left
  .cases e;have:¬m<k:=WL h;refine⟨hv,λj hj=>?_⟩;rw[hpg j hj];by_cases hc:i<=j/\j<i+m
   .rw[Wq hc,Wq aa]
   rw[Wn hc,Wn aa]
  have h1:m<k:=dlt h;rw[Xd (n:=i+m) aa aa,Xd (n:=m+1) aa aa];refine Ok.get aa aa λp hp=>?_;have hpk:p=pg ps (i+m):=by rw[←Yv hp,hpg _ aa,Wn aa]
  refine Wm (λhk2=>We ⟨λo e=>(by cases e),λo e=>(by cases e;exact⟨rfl,rfl⟩),λhall=>?_⟩) λhk2=>?_
  .have:=hall m aa h1;rw[←hpk]at this;simp[this]at hk2
  refine Ok.get aa aa λp' hp'=>?_;refine(Xia N ps i k f r hl hi hk n (m+1) _ aa aa aa (by rw[WR];exact hv) λj hj=>?_).mono λe he=>⟨he.1,he.2.1,λhall=>he.2.2 λj a b=>hall j aa b⟩
  rw[ZH r aa aa hj,hpg j hj];grind
def Xib{N:Nat}{ps:List Wt}(i k:Int)(f r:Wt)(hl:ps.length<=1000000)(hN:1000000<N)(hk1:1<=k)(hk2:k<=1000000):Ok (Qc6 N ps i k f r) λo=>(o.2=0->0<=i/\i+k<=ps.length/\Taken ps o.1 i k f r)/\(o.2≠0->o.1=[])/\(RunOK ps i k->o.2=0):=by
 refine Wm (λh=>We ⟨λe=>aa,λ_=>rfl,λhr=>?_⟩) λh1=>?_
 .have:=Wu h;have:=hr.1;omega
 have h1:¬i<0:=WL h1;refine Wm (λh=>We ⟨λe=>aa,λ_=>rfl,λhr=>?_⟩) λh2=>?_
 .have:=Wu h;have:=hr.2.2.1;omega
 have h2:¬i>=(ps.length:Int):=WL h2;rw[Xd (n:=(ps.length:Int)-i) aa aa];refine Wm (λh=>We ⟨λe=>aa,λ_=>rfl,λhr=>?_⟩) λh3=>?_
 .have:=Wu h;have:=hr.2.2.1;omega
 have h3:¬k>(ps.length:Int)-i:=WL h3;refine WS aa (IH (Xia N ps i k f r aa aa aa N 0 ps aa aa aa rfl λj hj=>(by grind)) (λa q=>?_) λo q=>?_)
 .have⟨e1,e2⟩:=q.2.1 a rfl;refine We ⟨λe=>aa,λ_=>e2,λhr=>?_⟩;exact absurd rfl (q.2.2 (λj a b=>hr.2.2.2 j a b) a)
 have⟨e1,e2⟩:=q.1 o rfl;refine Ok.get aa aa λp hp=>We ⟨λ_=>⟨aa,aa,⟨by simp_all,λj hj=>?_⟩⟩,λe=>absurd rfl e,λ_=>rfl⟩;rw[ZH f aa aa hj,e2 j hj]
def Xcs{N:Nat}{ps:List Wt}(i sp:Int)(hl:ps.length<=1000000)(hN:1000000<N):Ok (Qbz N ps i sp) λo=>(o.2=0->0<=i/\i+1<=ps.length/\Taken ps o.1 i 1 ⟨1,sp,0,0⟩ ⟨0,0,0,0⟩)/\(o.2≠0->o.1=[])/\(RunOK ps i 1->0<=sp->sp<=1->o.2=0):=by
 refine Wm (λh=>We ⟨λe=>aa,λ_=>rfl,λ_ h1 h2=>?_⟩) λh1=>?_
 .grind
 refine Wm (λh=>We ⟨λe=>aa,λ_=>rfl,λ_ h1 h2=>?_⟩) λh2=>?_
 .grind
 refine WH (Xib i 1 ⟨1,sp,0,0⟩ ⟨0,0,0,0⟩ hl hN aa aa) λy _ hy=>We ⟨hy.1,hy.2.1,λhr _ _=>hy.2.2 hr⟩
def Xlg{N:Nat}{ps:List Wt}(c:WT)(i sp w:Int)(hl:ps.length<=1000000)(hN:1000000<N):Ok (QdB N c ps i sp w) λo=>(o.2=0->0<=i/\i+Xy c w<=ps.length/\1<=Xy c w/\Taken ps o.1 i (Xy c w) ⟨2,sp,w,0⟩ ⟨3,sp,0,0⟩)/\(o.2≠0->o.1=[]):=by rw[QdB,Zp aa,Xa];refine Wm (λh=>We ⟨λe=>(by cases e),λ_=>rfl⟩) λh0=>?_;have h0:¬Xy c w<1:=WL h0;refine Wm (λh=>We ⟨λe=>(by cases e),λ_=>rfl⟩) λh1=>?_;refine Wm (λh=>We ⟨λe=>(by cases e),λ_=>rfl⟩) λh2=>?_;have hr:=KB c w;refine WH (Xib i (Xy c w) ⟨2,sp,w,0⟩ ⟨3,sp,0,0⟩ hl hN aa aa) λy _ hy=>We ⟨λe=>?_,hy.2.1⟩;simp_all
def HB(h:Wk):Prop:=h.w.length<=100000/\h.p.length<=100000
def NB(N:Nat):Prop:=10000000<N
def zH:Wk:=⟨⟨0,0⟩,[],[],0,0⟩
def Z5:HB zH:=⟨ae,ae⟩
def wd(ws:List Int)(a:Int):Int:=ws.getD (ix a) 0
def hdA(ws:List Int)(a:Int):Wy:=ZF (wd ws a)
def szA(ws:List Int)(a:Int):Int:=(hdA ws a).n+1
def YT(ws:List Int)(a:Int):Xz (hdA ws a)=szA ws a/\1<=szA ws a/\szA ws a<=256:=by have:=XdL (wd ws a);unfold szA hdA;omega
def pgi(c:WT)(a:Int):Int:=(a-4096) / c.W
def pgo(c:WT)(a:Int):Int:=(a-4096) % c.W
structure IG(h:Wk)(a:Int):Prop where
 rng:4096<=a/\a<4096+h.c.p*h.c.W
 kind:(pg h.p (pgi h.c a)).k=1\/(pg h.p (pgi h.c a)).k=2
 ok:okH (wd h.w a)=true
 used:pgo h.c a<(pg h.p (pgi h.c a)).u
 small:(pg h.p (pgi h.c a)).k=1->pgo h.c a+szA h.w a<=(pg h.p (pgi h.c a)).u
 large:(pg h.p (pgi h.c a)).k=2->pgo h.c a=0/\szA h.w a=(pg h.p (pgi h.c a)).u
def XdN{N:Nat}(hN:NB N){h:Wk}(hb:HB h)(a:Int):Ok (Qam N h a) λr=>r.2=0->Us h/\Qab N h=some true/\IG h a/\r.1=hdA h.w a:=by
 unfold NB at hN;refine WH (YB (N:=N) aa hb.1 hb.2) λb eb hp=>?_;refine Wm (λ_=>We λe=>by cases e) λhb1=>?_;have hbt:b=true:=by simpa using hb1
 subst hbt;have hp:=hp rfl;rw[Jx,Xa,hp.conf,Wn ab];have hv:=Xl.1 hp.conf;by_cases hr:4096<=a/\a<4096+h.c.p*h.c.W;rotate_left
 .rw[Wn hr];exact Wm (λ_=>We λe=>by cases e) λe=>by cases e
 rw[Wq hr,show(a-4096) / h.c.W=pgi h.c a from rfl,show(a-4096) % h.c.W=pgo h.c a from rfl];have hof:=XeH hp.conf hr.1 hr.2;have hl:=hp.pages;have h0:0<=pgi h.c a:=hof.1;have h1:pgi h.c a<h.p.length:=by have:pgi h.c a<h.c.p:=hof.2.1;omega
 refine Ok.get h0 h1 λp hpp=>?_;have hpg:=Yv hpp;have hin:inW h.w a:=by unfold inW;have:=hp.words;omega
 rw[YK (by unfold BIG;have:=hb.1;omega),Xa,Wq hin];show Ok (bnd (Qcr N (wd h.w a)) _) _;rw[Kz,Xa];have hsz:=YT h.w a;have hpo:pgo h.c a<h.c.W:=hof.2.2.2.1;have hpo0:0<=pgo h.c a:=hof.2.2.1;have rest:okH (wd h.w a)=true->(p.k=1\/p.k=2)->pgo h.c a<p.u->Ok (α:=Wy×Int) (bnd (QcG N (ZF (wd h.w a))) λy6=>
  bif (p.k==1)then(bif (decide ((wI (pgo h.c a+y6))>p.u))then some ((Wy.mk 0 0 0),19)
   else bif (p.k==2)then(bif (pgo h.c a != 0)then some ((Wy.mk 0 0 0),19)
    else bif (y6 != p.u)then some ((Wy.mk 0 0 0),19)
    else some (ZF (wd h.w a),0))
   else some (ZF (wd h.w a),0))
  else bif (p.k==2)then(bif (pgo h.c a != 0)then some ((Wy.mk 0 0 0),19)
   else bif (y6 != p.u)then some ((Wy.mk 0 0 0),19)
   else some (ZF (wd h.w a),0))
  else some (ZF (wd h.w a),0)) λr=>r.2=0->Us h/\Qab N h=some true/\IG h a/\r.1=hdA h.w a:=by
  intro ho hk hu
  rw[X1,Xa]
  have e1:Xz (ZF (wd h.w a))=szA h.w a:=hsz.1
  rw[e1,Xd aa aa]
  refine Wm (λk1=>?_) λk1=>?_
  .have k1:p.k=1:=by simpa using k1
   refine Wm (λ_=>We λe=>by cases e) λk2=>?_
   have k2:¬pgo h.c a+szA h.w a>p.u:=WL k2
   refine Wm (λk3=>by rw[k1]at k3;cases k3) λ_=>We λ_=>⟨hp,eb,⟨hr,by rw[hpg];exact hk,ho,by rw[hpg];exact hu,λ_=>by rw[hpg];omega,λe=>by rw[hpg,k1]at e;cases e⟩,rfl⟩
  .have k1:¬p.k=1:=by simpa using k1
   have k2:p.k=2:=aa
   refine Wm (λ_=>?_) λk3=>by rw[k2]at k3;cases k3
   refine Wm (λ_=>We λe=>by cases e) λk3=>?_
   refine Wm (λ_=>We λe=>by cases e) λk4=>We λ_=>⟨hp,eb,⟨hr,by rw[hpg];exact hk,ho,by rw[hpg];exact hu,λe=>by rw[hpg]at e;omega,λ_=>⟨by simpa using k3,by rw[hpg];simpa using k4⟩⟩,rfl⟩
 refine U6 (Wm (λk1=>Wm (λ_=>We λe=>by cases e) λk2=>Wm (λ_=>We λe=>by cases e) λk3=>Wm (λ_=>We λe=>by cases e) λk4=>?_) λk1=>Wm (λ_=>We λe=>by cases e) λk3=>Wm (λ_=>We λe=>by cases e) λk4=>?_)
 .exact rest (by simpa using k4) (.inr (by simpa using k2)) (by have k5:¬(pgo h.c a>=p.u):=WL k3;omega)
 grind
def V5{N:Nat}(hN:NB N){h:Wk}(hb:HB h)(a:Int):Ok (Qb0 N h a) λr=>r.2=0->Us h/\Qab N h=some true/\IG h a/\r.1=hdA h.w a/\r.1.k≠0:=by
 have hN':=hN;unfold NB at hN;refine WH (YB (N:=N) aa hb.1 hb.2) λb eb hp=>?_;refine Wm (λ_=>We λe=>by cases e) λhb1=>?_;refine Wm (λ_=>We λe=>by cases e) λ_=>?_;refine WH (XdN hN' hb a) λy ey hy=>?_;refine Wm (λk1=>Wm (λ_=>We λe=>by cases e) λk2=>We λe=>?_) λk1=>We λe=>?_
 .have⟨q1,q2,q3,q4⟩:=hy e;exact⟨q1,q2,q3,q4,by simpa using k2⟩
 simp_all
def Xct{N:Nat}(hN:NB N){h:Wk}(hb:HB h)(a i:Int):Ok (QbN N h a i) λr=>r.2=0->Us h/\IG h a/\0<=i/\i<(hdA h.w a).n:=by
 refine WH (V5 hN hb a) λy ey hy=>?_;refine Wm (λk=>We λe=>absurd e (by simpa using k)) λk1=>?_;refine Wm (λ_=>We λe=>by cases e) λk2=>?_;refine Wm (λ_=>We λe=>by cases e) λk3=>?_;have⟨q1,q2,q3,q4,q5⟩:=hy (by simpa using k1);rw[YK (by unfold BIG;have:=hb.1;omega),Xa];refine We λ_=>⟨q1,q3,?_,?_⟩
 .have:=WL k2;omega
 simp_all
def XfX{N:Nat}(hN:NB N){h:Wk}(hb:HB h)(a i v:Int):Ok (QbO N h a i v) λr=>HB r.1:=by
 refine WH (Xct hN hb a i) λy ey hy=>?_;refine Wm (λ_=>We Z5) λk1=>?_;have hN':=hN;unfold NB at hN';rw[Jv (by unfold BIG;have:=hb.1;omega) aa,Xa];refine We ?_;split
 .exact⟨by rw[WR];exact hb.1,hb.2⟩
 exact⟨ab,hb.2⟩
def Xjq{N:Nat}(hN:NB N){h:Wk}(hb:HB h)(a:Int):Ok (Qfn N h a) λr=>r.1.length<=256:=by
 refine WH (V5 hN hb a) λy ey hy=>?_;refine Wm (λ_=>We ab) λk1=>?_;have⟨q1,q2,q3,q4,q5⟩:=hy (by simpa using k1);have hsz:=YT h.w a;have hlen:y.1.n=szA h.w a-1:=by rw[q4];unfold szA;omega
 have⟨k,hk⟩:=UB (a:=y.1.n) aa;rw[hk,XbL (by unfold BIG;have:=hb.1;omega) N _ k aa,Xa];refine We ?_;grind
def Xic{N:Nat}(hN:NB N){h:Wk}(hb:HB h)(a:Int)(hd:Wy):Ok (Qbe N h a hd) λr=>HB r.1:=by
 have hN':=hN;unfold NB at hN';rw[Qbe,Ky,Xa];refine WH (YB (N:=N) aa hb.1 hb.2) λb eb hp=>?_;refine Wm (λ_=>We Z5) λ_=>?_;refine Wm (λ_=>We Z5) λk1=>?_;have hv:XI hd=true:=by
  cases hv:XI hd with
  |true=>rfl
  |false=>simp_all
 have hb2:=XL hv;refine WS aa (WS aa ?_);rw[Wq hv,Zz (by unfold BIG;have:=hb.1;omega) (by unfold BIG;grind) (by grind),Xa];split
 .rename_i hin;refine Wm (λe=>by grind) λ_=>We ⟨?_,hb.2⟩;have hb1:=hb.1;rw[ZE]
  .omega
  unfold Yh at hin;unfold ix;omega
 exact Wm (λ_=>We Z5) λe=>by grind
def Xlh(N:Nat)(l:List Int)(v:Int)(hl:l.length<=1000000000):∀(n k:Nat),k<=l.length->l.length-k<n->Qfm N l v n (k:Int)=some (if(l.drop k).contains v then .ret true else .nxt ())
 |0,k,_,h=>by omega
 |n+1,k,hk,hn=>by
  rw[Qfm];by_cases h:k<l.length
  .have e1:decide ((k:Int)<(l.length:Int))=true:=Wg aa;rw[e1,Wb,Xe,Wc h,Xa,Xd aa aa];rw[show((k:Int)+1)=((k+1:Nat):Int) by omega,Xlh N l v hl n (k+1) aa aa];rw[Wr h,List.contains_cons];by_cases h2:l[k]=v
   .subst h2;simp
   rw[show(l[k]==v)=false by simpa using h2,Wa,show(v==l[k])=false by simpa usingλe=>h2 e.symm,U9]
  grind
def YF{N:Nat}{l:List Int}(v:Int)(hl:l.length<=1000000000)(hN:l.length<N):QcT N l v=some (l.contains v):=by have h:=Xlh N l v hl N 0 aa aa;rw[show((0:Nat):Int)=0 from rfl,WX]at h;rw[QcT,h,Xa];grind[Xm,XA]
structure Oe(N:Nat)(h:Wk)(l:List Int):Prop where
 at_:∀a∈l,IG h a
 ev:∀a∈l,Qam N h a=some (hdA h.w a,0)
 pw:l.Pairwise λa b=>a+szA h.w a<=b
def Xhe(h:Wk)(i:Int)(l:List Int):Prop:=∀a∈l,Xg h.c i 0<=a/\pgi h.c a=i
def XdO{c:WT}{i o p:Int}(h:o<=p):Xg c i o<=Xg c i p:=by unfold Xg;omega
def XfY{c:WT}(hc:X6 c=true){p o:Int}(h0:0<=o)(h1:o<c.W):pgi c (Xg c p o)=p/\pgo c (Xg c p o)=o:=XnX hc h0 h1
def Ks{c:WT}(hc:X6 c=true){a:Int}(h:4096<=a/\a<4096+c.p*c.W):a=Xg c (pgi c a) (pgo c a)/\0<=pgi c a/\pgi c a<c.p/\0<=pgo c a/\pgo c a<c.W:=by have:=XeH hc h.1 h.2;exact⟨this.2.2.2.2,this.1,this.2.1,this.2.2.1,this.2.2.2.1⟩
def Xtc(N:Nat)(h:Wk)(i o:Int)(l:List Int):Prop:=Oe N h l/\Xhe h i l/\(∀a∈l,a+szA h.w a<=Xg h.c i o)/\(l.length:Int)<=o
def Oe.snoc{N:Nat}{h:Wk}{l:List Int}{a:Int}(hl:Oe N h l)(ha:IG h a)(hev:Qam N h a=some (hdA h.w a,0))(hle:∀b∈l,b+szA h.w b<=a):Oe N h (l++[a]):=by
 refine⟨λx hx=>?_,λx hx=>?_,?_⟩
 .rcases WG.1 hx with hx|hx
  .exact hl.at_ x hx
  simp_all
 .rcases WG.1 hx with hx|hx
  .exact hl.ev x hx
  simp_all
 rw[IN];refine⟨hl.pw,ab,λb hb c hc=>?_⟩;simp_all
def PageL(N:Nat)(h:Wk)(i:Int)(l:List Int):Prop:=Oe N h l/\Xhe h i l/\(l.length:Int)<=64
def Xrr(N:Nat)(h:Wk)(i:Int):Ex (List Int×Int) (List Int)->Prop
 |.ret r=>r=([],19)
 |.nxt l=>PageL N h i l
def QpP{N:Nat}(hN:NB N){h:Wk}(hb:HB h)(hp:Us h){i:Int}(h0:0<=i)(h1:i<h.p.length)(hk:(pg h.p i).k=1\/(pg h.p i).k=2):∀(n:Nat)(o:Int)(l:List Int),0<=o->(65-o).toNat<n->Xtc N h i o l->((pg h.p i).k=1->o<=(pg h.p i).u)->((pg h.p i).k=2->o=0) ->
 Ok (Qas N h i (pg h.p i) n o l) (Xrr N h i)
 |0,o,l,_,hn,hu,k1,k2=>by omega
 |n+1,o,l,ho0,hn,hu,k1,k2=>by
  have hv:=Xl.1 hp.conf;have hsm:=(hp.pgs i h0 h1).small;have hpl:=hp.pages;have hle64:(l.length:Int)<=64:=by
   have:=hu.2.2.2;rcases hk with hk|hk
   .omega
   omega
  refine Wm (λhlt=>?_) λ_=>We ⟨hu.1,hu.2.1,hle64⟩;have hlt:o<(pg h.p i).u:=Wu hlt;have hopw:o<h.c.W:=by
   rcases hk with hk|hk
   .omega
   omega
  rw[KC,hp.conf,Xa,Wn ab,Wq aa];dsimp only;refine WH (XdN hN hb (Xg h.c i o)) λy ey hy=>?_;refine Wm (λ_=>We rfl) λhy0=>?_;have⟨_,_,hat,hhd⟩:=hy (by simp_all);have hpi:=XfY hp.conf (p:=i) ho0 hopw;have hsz:=YT h.w (Xg h.c i o);have hev:Qam N h (Xg h.c i o)=some (hdA h.w (Xg h.c i o),0):=by rw[ey];congr 1;exact Prod.ext hhd (by simp_all)
  have hobj:Oe N h (l++[Xg h.c i o]):=hu.1.snoc hat hev hu.2.2.1;have hon:Xhe h i (l++[Xg h.c i o]):=by
   intro x hx;rcases WG.1 hx with hx|hx
   .exact hu.2.1 x hx
   have:x=Xg h.c i o:=by simpa using hx
   subst this;exact⟨XdO ho0,hpi.1⟩
  have hlen1:((l++[Xg h.c i o]).length:Int)=l.length+1:=by simp
  have hlo:=hu.2.2.2;refine WS aa (Wm (λkk=>We ⟨hobj,hon,aa⟩) λkk=>?_);have kk:(pg h.p i).k=1:=by
   rcases hk with hk|hk
   .omega
   simp_all
  rw[hhd,X1,Xa];rw[hsz.1];have hs:=hat.small (by simp_all);rw[hpi.1,hpi.2]at hs;rw[Xd aa aa];refine QpP hN hb hp h0 h1 hk n _ _ aa aa ⟨hobj,hon,λx hx=>?_,aa⟩ (λ_=>aa) (λe=>aa);rcases WG.1 hx with hx|hx
  .have:=hu.2.2.1 x hx;have:=XdO (c:=h.c) (i:=i) (o:=o) (p:=o+szA h.w (Xg h.c i o)) aa;omega
  have:x=Xg h.c i o:=by simpa using hx
  subst this;unfold Xg;omega
def PageL.nil(N:Nat)(h:Wk)(i:Int):PageL N h i []:=⟨⟨ab,ab,ab⟩,λa ha=>by simp_all,ab⟩
def QpQ{N:Nat}(hN:NB N){h:Wk}(hb:HB h)(i:Int):Ok (Qal N h i) λr=>(r.2≠0->r.1=[])/\r.1.length<=64/\(Us h->PageL N h i r.1):=by
 have hN':=hN;unfold NB at hN';refine WH (YB (N:=N) aa hb.1 hb.2) λb eb hp=>?_;refine Wm (λ_=>We ⟨λ_=>rfl,ab,λ_=>PageL.nil N h i⟩) λhb1=>?_;have hp:=hp (by simp_all);refine Wm (λ_=>We ⟨λ_=>rfl,ab,λ_=>PageL.nil N h i⟩) λh0=>?_;refine Wm (λ_=>We ⟨λ_=>rfl,ab,λ_=>PageL.nil N h i⟩) λh1=>?_;have h0:0<=i:=by have:=WL h0;omega
 have h1:i<h.p.length:=by have:=WL h1;omega
 refine Ok.get h0 h1 λp hpp=>?_;have hpg:=Yv hpp;subst hpg;refine Wm (λ_=>We ⟨λ_=>rfl,ab,λ_=>PageL.nil N h i⟩) λk0=>?_;refine Wm (λ_=>We ⟨λ_=>rfl,ab,λ_=>PageL.nil N h i⟩) λk3=>?_;have hkk:=(hp.pgs i h0 h1).kind;have k0:¬(pg h.p i).k=0:=by simpa using k0
 have k3:¬(pg h.p i).k=3:=by simpa using k3
 refine IH (QpP hN hb hp h0 h1 aa N 0 [] aa aa ⟨⟨ab,ab,ab⟩,λa ha=>by simp_all,ab,ab⟩ (λk=>((hp.pgs i h0 h1).small k).1) (λ_=>rfl)) (λa q=>?_) λl q=>?_
 .have:a=([],19):=q;subst this;exact We ⟨λ_=>rfl,ab,λ_=>PageL.nil N h i⟩
 exact We ⟨λe=>absurd rfl e,by have:=q.2.2;grind,λ_=>q⟩
def XeJ{c:WT}(hc:X6 c=true){w:Int}(h:1<=Xy c w):w<=Xy c w*c.W:=by unfold Xy at h⊢;grind
def XeK{h:Wk}(hp:Us h){a:Int}(ha:IG h a):∃k,1<=k/\pgi h.c a+k<=h.c.p/\a+szA h.w a<=Xg h.c (pgi h.c a+k) 0/\∀m,1<=m->m<k->(pg h.p (pgi h.c a+m)).k=3:=by
 have⟨e,q0,q1,q2,q3⟩:=Ks hp.conf ha.rng;have hpl:=hp.pages;rcases ha.kind with hk|hk
 .have hs:=ha.small hk;have:=(hp.pgs _ q0 aa).small hk;refine⟨1,aa,aa,?_,λm h1 h2=>aa⟩;have e2:Xg h.c (pgi h.c a+1) 0=4096+pgi h.c a*h.c.W+h.c.W:=by unfold Xg;rw[Ip];omega
  have e3:a=4096+pgi h.c a*h.c.W+pgo h.c a:=e;omega
 have⟨z1,z2⟩:=ha.large hk;have⟨l1,l2⟩:=(hp.pgs _ q0 aa).large hk;have hle:=XeJ hp.conf l1;refine⟨_,l1,?_,?_,λm h1 h2=>(l2 m h1 h2).2⟩
 .by_cases h1:Xy h.c (pg h.p (pgi h.c a)).u=1
  .omega
  have:=(l2 (Xy h.c (pg h.p (pgi h.c a)).u-1) aa aa).1;omega
 have e3:a=4096+pgi h.c a*h.c.W+pgo h.c a:=e;unfold Xg;grind
def K7{h:Wk}(hp:Us h){a:Int}(ha:IG h a):a+szA h.w a<=4096+h.w.length:=by have⟨k,h1,h2,h3,_⟩:=XeK hp ha;have hv:=Xl.1 hp.conf;have:=hp.words;have hm:(pgi h.c a+k)*h.c.W<=h.c.p*h.c.W:=Ur h2 aa;unfold Xg at h3;omega
def Xjr{h:Wk}(hp:Us h){a b:Int}(ha:IG h a)(hb:IG h b)(hlt:pgi h.c a<pgi h.c b):a+szA h.w a<=b:=by
 have⟨k,h1,h2,h3,h4⟩:=XeK hp ha;have⟨e,q0,q1,q2,q3⟩:=Ks hp.conf hb.rng;have hge:pgi h.c a+k<=pgi h.c b:=by
  rcases(by omega:pgi h.c b<pgi h.c a+k\/pgi h.c a+k<=pgi h.c b)with hc|hc
  .have:=h4 (pgi h.c b-pgi h.c a) aa aa;rw[show pgi h.c a+(pgi h.c b-pgi h.c a)=pgi h.c b by omega]at this;rcases hb.kind with hk|hk<;>omega
  omega
 have hm:(pgi h.c a+k)*h.c.W<=pgi h.c b*h.c.W:=Ur hge aa;unfold Xg at h3 e;omega
def Qhy{N:Nat}(hN:NB N){h:Wk}(hb:HB h)(hp:Us h)(i:Int)(h0:0<=i)(h1:i<h.p.length):Ok (Qal N h i) λr=>PageL N h i r.1/\r.1.length<=64:=(QpQ hN hb i).mono λr hr=>⟨hr.2.2 hp,hr.2.1⟩
structure Ia(N:Nat)(h:Wk)(l:List Int):Prop where
 obj:Oe N h l
 page:∀a∈l,∃r,Qal N h (pgi h.c a)=some r/\a∈r.1
 len:l.length<=4096
def Ia.nil(N:Nat)(h:Wk):Ia N h []:=⟨⟨ab,ab,ab⟩,ab,ab⟩
def XdP{N:Nat}(hN:NB N){h:Wk}(hb:HB h)(hp:Us h):∀(n:Nat)(i:Int)(l:List Int),0<=i->i<=h.p.length->(h.p.length-i).toNat<n->Oe N h l->(∀a∈l,∃r,Qal N h (pgi h.c a)=some r/\a∈r.1)->(∀a∈l,pgi h.c a<i)->(l.length:Int)<=64*i ->
 Ok (QaN N h n i l) λe=>match e with|.ret r=>r.1=[]/\r.2≠0|.nxt l=>Ia N h l
 |0,i,l,_,_,hn,_,_,_,_=>by omega
 |n+1,i,l,h0,hi,hn,hl,hpp,hlt,hlen=>by
  have hv:=Xl.1 hp.conf;have hpl:=hp.pages;refine Wm (λhc=>?_) λ_=>We ⟨hl,hpp,aa⟩;have hc:i<h.p.length:=Wu hc;refine WH (Qhy hN hb hp i h0 hc) λy ey hy=>?_;refine Wm (λhk=>We ⟨rfl,by simpa using hk⟩) λhk=>?_;refine WS aa ?_;rw[Xd aa aa];have hon:∀a∈y.1,pgi h.c a=i:=λa ha=>(hy.1.2.1 a ha).2;refine XdP hN hb hp n (i+1) _ aa aa aa ⟨λa ha=>?_,λa ha=>?_,?_⟩ (λa ha=>?_) (λa ha=>?_) (by rw[WQ];omega)
  .rcases WG.1 ha with ha|ha
   .exact hl.at_ a ha
   exact hy.1.1.at_ a ha
  .rcases WG.1 ha with ha|ha
   .exact hl.ev a ha
   exact hy.1.1.ev a ha
  .rw[IN];refine⟨hl.pw,hy.1.1.pw,λa ha b hb'=>?_⟩;exact Xjr hp (hl.at_ a ha) (hy.1.1.at_ b hb') (by rw[hon b hb'];exact hlt a ha)
  .rcases WG.1 ha with ha|ha
   .exact hpp a ha
   exact⟨y,by rw[hon a ha];exact ey,ha⟩
  grind
def VE{N:Nat}(hN:NB N){h:Wk}(hb:HB h):Ok (Qcs N h) λr=>Ia N h r.1/\(r.2=0->Us h)/\(r.2≠0->r.1=[]):=by have hN':=hN;unfold NB at hN';refine WH (YB (N:=N) aa hb.1 hb.2) λb eb hp=>?_;refine Wm (λ_=>We ⟨Ia.nil N h,λe=>aa,λ_=>rfl⟩) λhb1=>?_;have hp:=hp (by simp_all);have hbb:=hb.2;refine IH (XdP hN hb hp N 0 [] aa aa aa ⟨ab,ab,ab⟩ ab ab ab) (λa q=>?_) λl q=>We ⟨q,λ_=>hp,λe=>absurd rfl e⟩;refine We ⟨?_,λe=>absurd e q.2,λ_=>q.1⟩;rw[q.1];exact Ia.nil N h
def Ia.sub{N:Nat}{h:Wk}{l l':List Int}(hs:Ia N h l)(h':l'.Sublist l):Ia N h l':=
 ⟨⟨λa ha=>hs.obj.at_ a (h'.subset ha),λa ha=>hs.obj.ev a (h'.subset ha),hs.obj.pw.sublist h'⟩,λa ha=>hs.page a (h'.subset ha),Um h'.length_le hs.len⟩
def V6{N:Nat}(hN:NB N){h:Wk}(hb:HB h)(y:List Int×Int)(hy:y.1.length<=4096):∀(n k:Nat)(l:List Int),k<=y.1.length->y.1.length-k<n->l.Sublist (y.1.take k)->Ok (QaS N h y n (k:Int) l) λo=>o.Sublist y.1
 |0,k,l,_,hn,_=>by omega
 |n+1,k,l,hk,hn,hs=>by
  have hlen:l.length<=4096:=Um hs.length_le (by rw[Wj];omega);refine Wm (λhc=>?_) λ_=>We (hs.trans (List.take_sublist _ _));have hc:(k:Int)<y.1.length:=Wu hc;have hkl:k<y.1.length:=aa;refine Ok.get aa hc λp hp=>?_;refine WH (XdN hN hb p) λz ez hz=>?_;have e1:wI ((k:Int)+1)=((k+1:Nat):Int):=by rw[Xd aa aa];omega
  rw[e1];refine Wm (λ_=>?_) λ_=>V6 hN hb y hy n (k+1) l aa aa (hs.trans (List.take_sublist_take_left aa));refine Ok.get aa hc λp' hp'=>WS aa (V6 hN hb y hy n (k+1) _ aa aa ?_);have hpe:p'=y.1[k]:=by rw[Xe,Wc hkl]at hp';exact(WK hp').symm
  simp_all[List.take_succ_eq_append_getElem,hkl,hpe]
def ZI{N:Nat}(hN:NB N){h:Wk}(hb:HB h):Ok (Qay N h) λr=>Ia N h r.1/\(r.2=0->Us h)/\(r.1≠[]->Us h):=by refine WH (VE hN hb) λy ey hy=>?_;have hN':=hN;unfold NB at hN';have hl:=hy.1.len;have:=V6 hN hb y hl N 0 [] aa aa ab;refine WH this λo eo ho=>We ⟨hy.1.sub ho,hy.2.1,λhne=>?_⟩;grind
def Xbr{N:Nat}(hN:NB N){h:Wk}(hb:HB h)(a:Int):Ok (Qfp N h a) λb=>b=true->Us h/\IG h a:=by
 have hN':=hN;unfold NB at hN';refine WH (ZI hN hb) λy ey hy=>?_;have hl:=hy.1.len;rw[YF a aa aa,Xa];refine We λe=>?_;have hm:a∈y.1:=by simpa using e
 exact⟨hy.2.2 (List.ne_nil_of_mem hm),hy.1.obj.at_ a hm⟩
def XnY{N:Nat}{h:Wk}(hb:HB h)(i o:Int):Ok (QfA N h i o) λ_=>True:=by rw[QfA,Qg9,KC,Xa,YK (by unfold BIG;have:=hb.1;omega),Xa,Xa];exact We trivial
def Xcu(h:Wk)(i:Int)(l:List Int):Prop:=(pg h.p i).k=1->∀a∈l,szA h.w a<=smC h.c
def XfZ{N:Nat}(hN:NB N){h:Wk}(hb:HB h){i:Int}(h0:0<=i)(h1:i<h.p.length)(l:List Int)(hl:l.length<=4096)(hev:∀a∈l,Qam N h a=some (hdA h.w a,0)/\a≠0):∀(n k:Nat),k<=l.length->l.length-k<n ->
 Ok (Qbv N h i l n (k:Int)) λe=>match e with|.ret r=>r≠0|.nxt _=>(pg h.p i).k=1->∀a∈l.drop k,szA h.w a<=smC h.c
 |0,k,_,hn=>by omega
 |n+1,k,hk,hn=>by
  refine Wm (λhc=>?_) λhc=>We ?_;rotate_left
  .grind
  have hc:(k:Int)<l.length:=Wu hc;have hkl:k<l.length:=aa;refine Ok.get aa hc λp hp=>?_;have hpe:p=l[k]:=by rw[Xe,Wc hkl]at hp;exact(WK hp).symm
  have hpm:p∈l:=Yy hp;rw[(hev p hpm).1,Xa];rw[X1,Xa,XfU,Xa,(YT h.w p).1];have e1:wI ((k:Int)+1)=((k+1:Nat):Int):=by rw[Xd aa aa];omega
  rw[e1];have ret:∀p',Xb l (k:Int)=some p'->p'≠0:=λp' hp'=>(hev p' (Yy hp')).2;have next:((pg h.p i).k=1->szA h.w p<=smC h.c)->Ok (Qbv N h i l n ((k+1:Nat):Int)) λe=>match e with|.ret r=>r≠0|.nxt _=>(pg h.p i).k=1->∀a∈l.drop k,szA h.w a<=smC h.c:=by
   intro hs
   refine(XfZ hN hb h0 h1 l hl hev n (k+1) aa aa).mono λe he=>?_
   cases e with
   |ret r=>omega
   |nxt _=>
    intro hk1 a ha
    rw[Wr hkl]at ha
    grind
  refine Ok.get h0 h1 λq hq=>?_;have hqg:=Yv hq;refine Wm (λk1=>?_) λk1=>?_
  .refine Wm (λ_=>Ok.get aa hc λp' hp'=>We (ret p' hp')) λk2=>?_;have hs:szA h.w p<=smC h.c:=by simpa using k2
   refine Ok.get h0 h1 λq2 hq2=>Wm (λ_=>Wm (λ_=>Ok.get aa hc λp' hp'=>We (ret p' hp')) λ_=>next λ_=>hs) λ_=>next λ_=>hs
  have hs:(pg h.p i).k=1->szA h.w p<=smC h.c:=by intro e;rw[hqg]at e;rw[e]at k1;cases k1
  refine Ok.get h0 h1 λq2 hq2=>Wm (λ_=>Wm (λ_=>Ok.get aa hc λp' hp'=>We (ret p' hp')) λ_=>next hs) λ_=>next hs
def Xli{N:Nat}(hN:NB N){h:Wk}(hb:HB h){i:Int}(h0:0<=i)(h1:i<h.p.length){l:List Int}(hl:l.length<=64)(hev:∀a∈l,Qam N h a=some (hdA h.w a,0)/\a≠0):
 Ok (Qe7 N h i l) λr=>r=0->Xcu h i l:=by have hN':=hN;unfold NB at hN';have:=XfZ hN hb h0 h1 l aa hev N 0 aa aa;refine IH this (λa q=>We λe=>absurd e q) λ_ q=>We λ_=>?_;assumption
def XeL{N:Nat}{h:Wk}(i:Int)(l:List Int)(k:Int)(hk0:0<=k)(hk:k<l.length)(x:Int)(hx:x<=256):∀(n:Nat)(w:Int)(u:List Bool),0<=w->(x-w).toNat<n->u.length<=1000->Ok (QbF N h i l k x n w u) λr=>r.length=u.length
 |0,w,u,_,hn,_=>by omega
 |n+1,w,u,h0,hn,hu=>by
  refine Wm (λhc=>?_) λ_=>We rfl;have hc:w<x:=Wu hc;refine Ok.get hk0 hk λp hp=>?_;rw[Xd (n:=w+1) aa aa];have next:=XeL (N:=N) (h:=h) i l k hk0 hk x hx n (w+1) u aa aa hu
  refine Wm (λh1=>?_) λ_=>next
  refine WS aa (Wm (λh2=>?_) λ_=>next);refine Ok.get (Wu h1) (Wu h2) λq hq=>?_;refine(XeL i l k hk0 hk x hx n (w+1) _ aa aa (by rw[WR];exact hu)).mono λr hr=>?_;simp_all
def Xid{N:Nat}(hN:NB N){h:Wk}(hb:HB h)(i:Int)(l:List Int)(hl:l.length<=100000):∀(n:Nat)(k:Int)(u:List Bool),0<=k->k<=l.length->(l.length-k).toNat<n->u.length<=1000->Ok (Qdf N h i l n k u) λr=>r.length=u.length
 |0,k,u,_,_,hn,_=>by omega
 |n+1,k,u,h0,hk,hn,hu=>by
  refine Wm (λhc=>?_) λ_=>We rfl;have hc:k<l.length:=Wu hc;have hN':=hN;unfold NB at hN';refine Ok.get h0 hc λp hp=>WH (XdN hN hb p) λy ey hy=>?_;rw[X1,Xa];have hs:=Xle y.1;have next:∀x:Int,x<=256->Ok (bnd (QbF N h i l k x N 0 u) λy11=>Qdf N h i l n (wI (k+1)) y11) λr=>r.length=u.length:=by intro x hx;refine WH (XeL i l k h0 hc x hx N 0 u aa aa hu) λr er hr=>?_;rw[Xd (n:=k+1) aa aa];exact(Xid hN hb i l hl n (k+1) r aa aa aa aa).mono λo ho=>by omega
  exact U6 (Wm (λ_=>next 1 aa) λ_=>next _ aa)
def XeM(N:Nat){h:Wk}(hf:(pg h.p 0).k≠3):∀(n:Nat)(i:Int),0<=i->i<h.p.length->h.p.length<=100000->i.toNat<n->Ok (QdV N h n i) λr=>0<=r/\r<h.p.length
 |0,i,_,_,_,hn=>by omega
 |n+1,i,h0,h1,hl,hn=>by
  refine Ok.get h0 h1 λp hp=>Wm (λhk=>?_) λ_=>We ⟨h0,h1⟩;have:i≠0:=by rintro rfl;exact hf (by simp_all[Yv,hp])
  rw[Xd aa aa];exact XeM N hf n (i-1) aa aa hl aa
def Xie{N:Nat}{h:Wk}(hb:HB h)(i:Int)(u:List Bool)(hu:u.length<=1000):∀(n:Nat)(k:Int),0<=k->k<=u.length->(u.length-k).toNat<n->Ok (QcH N h i u n k) λ_=>True
 |0,k,_,_,hn=>by omega
 |n+1,k,h0,hk,hn=>by
  refine Wm (λhc=>?_) λ_=>We trivial;have hc:k<u.length:=Wu hc;rw[Xd (n:=k+1) aa aa];have next:=Xie (N:=N) hb i u hu n (k+1) aa aa aa
  refine Ok.get h0 hc λp hp=>Wm (λ_=>WH (XnY hb i k) λy _ _=>Wm (λ_=>?_) λ_=>next) λ_=>next
  rw[QfP,Xa];exact We trivial
def XnZ{N:Nat}(hN:NB N){h:Wk}(hb:HB h)(hp:Us h){i:Int}(h0:0<=i)(h1:i<h.p.length):Ok (QfB N h i) λ_=>True:=by
 have hN':=hN;unfold NB at hN';have hbb:=hb.2;have hv:=Xl.1 hp.conf;refine WH (WH (XeM N hp.first N i h0 h1 hbb aa) λr _ hr=>We hr) λr _ hr=>?_;refine WH (Qhy hN hb hp r hr.1 hr.2) λy _ hy=>?_;refine WH (Q:=λr=>r.length<=1000) (WS aa (WH (Xid hN hb i y.1 aa N 0 _ aa aa aa (by grind)) λu _ hu=>We ?_)) λu _ hu=>?_
 .grind
 exact IH (Xie hb i u hu N 0 aa aa aa) (λ_ _=>We trivial) λ_ _=>We trivial
def Xlj{N:Nat}(hN:NB N){h:Wk}(hb:HB h)(hp:Us h){i:Int}(h0:0<=i)(h1:i<h.p.length):Ok (QfC N h i) λf=>f.Fault=0->∀r,Qal N h i=some r->Xcu h i r.1/\r.2=0:=by
 have main:Ok (bnd (Qal N h i) λy3=>
  bif (y3.2 != 0)then some (Uc.mk 3 i 0)
  else bnd (Qe7 N h i y3.1) λy4=>
  bif (y4 != 0)then some (Uc.mk 5 i y4)
  else bnd (QfB N h i) λy5=>
  bif (y5 != 0)then some (Uc.mk 4 i y5)
  else some (Uc.mk 0 0 0)) λf=>f.Fault=0->∀r,Qal N h i=some r->Xcu h i r.1/\r.2=0:=by
  refine WH (Qhy hN hb hp i h0 h1) λy ey hy=>?_
  refine Wm (λ_=>We λe=>by grind) λhy0=>?_
  refine WH (Xli hN hb h0 h1 hy.2 λa ha=>⟨hy.1.1.ev a ha,by have:=(hy.1.1.at_ a ha).rng;omega⟩) λc _ hc=>?_
  refine Wm (λ_=>We λe=>by grind) λhc0=>?_
  refine WH (XnZ hN hb hp h0 h1) λd _ _=>?_
  refine Wm (λ_=>We λe=>by grind) λ_=>We λ_ r hr=>?_
  rw[ey]at hr
  exact WK hr▸⟨hc (by simp_all),by simp_all⟩
 refine U6 (Ok.get h0 h1 λp hp=>Wm (λ_=>Ok.get h0 h1 λp hp=>Wm (λ_=>We λe=>by grind) λ_=>main) λ_=>main)
def Xbs{N:Nat}{h:Wk}(y1 y6:List Int×Int)(h1:y1.1.length<=4096)(h6:y6.1.length<=256)(hN:1000000<N)(v:Int)(hv0:0<=v)(hv:v<y1.1.length)(y4:Wy×Int):∀(n:Nat)(k:Int),0<=k->k<=y6.1.length->(y6.1.length-k).toNat<n->Ok (Qav N h y1 y6 v y4 n k) λe=>∀f,e=.ret f->f.Fault=6
 |0,k,_,_,hn=>by omega
 |n+1,k,h0,hk,hn=>by
  refine Wm (λhc=>?_) λ_=>We λf e=>by grind
  have hc:k<y6.1.length:=Wu hc;rw[Xd (n:=k+1) aa aa];have next:=Xbs (N:=N) (h:=h) y1 y6 h1 h6 hN v hv0 hv y4 n (k+1) aa aa aa
  rw[VD,Xa];refine Wm (λ_=>Ok.get h0 hc λp hp=>Wm (λ_=>Ok.get h0 hc λp hp=>?_) λ_=>next) λ_=>next
  rw[YF p aa aa,Xa];refine Wm (λ_=>Ok.get hv0 hv λq hq=>?_) λ_=>next
  rw[Jx,Xa];exact We λf e=>by grind
def Xbt{N:Nat}(hN:NB N){h:Wk}(hb:HB h)(y1:List Int×Int)(h1:y1.1.length<=4096):∀(n:Nat)(k:Int),0<=k->k<=y1.1.length->(y1.1.length-k).toNat<n->Ok (QbU N h y1 n k) λe=>∀f,e=.ret f->f.Fault=6
 |0,k,_,_,hn=>by omega
 |n+1,k,h0,hk,hn=>by
  have hN':=hN;unfold NB at hN';refine Wm (λhc=>?_) λ_=>We λf e=>by cases e
  have hc:k<y1.1.length:=Wu hc;rw[Xd (n:=k+1) aa aa];refine Ok.get h0 hc λp hp=>WH (V5 hN hb p) λy4 _ _=>Ok.get h0 hc λp hp=>WH (Xjq hN hb p) λy6 _ h6=>?_;refine IH (Xbs y1 y6 h1 h6 aa k h0 hc y4 N 0 aa aa aa) (λa q=>We λf e=>?_) λ_ _=>Xbt hN hb y1 h1 n (k+1) aa aa aa;simp_all
def Xf0{N:Nat}(hN:NB N){h:Wk}(hb:HB h):Ok (Qew N h) λ_=>True:=by have hN':=hN;unfold NB at hN';refine WH (ZI hN hb) λy _ hy=>?_;have:=hy.1.len;exact IH (Xbt hN hb y hy.1.len N 0 aa aa aa) (λ_ _=>We trivial) λ_ _=>We trivial
def Xf1{N:Nat}(hN:NB N){h:Wk}(hb:HB h)(hp:Us h):∀(n:Nat)(i:Int),0<=i->i<=h.p.length->(h.p.length-i).toNat<n->Ok (QbK N h n i) λe=>match e with|.ret f=>f.Fault≠0|.nxt _=>∀j,i<=j->j<h.p.length->∀r,Qal N h j=some r->Xcu h j r.1/\r.2=0
 |0,i,_,_,hn=>by omega
 |n+1,i,h0,hi,hn=>by
  have hbb:=hb.2;refine Wm (λhc=>?_) λhc=>We λj h1 h2=>?_;rotate_left
  .grind
  have hc:i<h.p.length:=Wu hc;refine WH (Xlj hN hb hp h0 hc) λf _ hf=>Wm (λhk=>We (by simp_all)) λhk=>?_;rw[Xd aa aa];refine(Xf1 hN hb hp n (i+1) aa aa aa).mono λe he=>?_;cases e with
  |ret f=>omega
  |nxt _=>
   intro j h1 h2;by_cases hj:j=i
   .grind
   exact he j aa h2
def Xf2{N:Nat}{h:Wk}(hl:h.p.length<=100000):∀(n:Nat)(c i:Int),0<=i->i<=h.p.length->(h.p.length-i).toNat<n->Ok (QbL N h n c i) λ_=>True
 |0,c,i,_,_,hn=>by omega
 |n+1,c,i,h0,hi,hn=>by
  refine Wm (λhc=>?_) λ_=>We trivial;have hc:i<h.p.length:=Wu hc;rw[Xd (n:=i+1) aa aa];have next:=λc'=>Xf2 (N:=N) hl n c' (i+1) aa aa aa
  exact Ok.get h0 hc λp hp=>Wm (λ_=>Ok.get h0 hc λp hp=>Wm (λ_=>next _) λ_=>next _) λ_=>next _
structure Oa(N:Nat)(h:Wk):Prop where
 prop:Us h
 small:∀j:Int,0<=j->j<h.p.length->∀r,Qal N h j=some r->Xcu h j r.1/\r.2=0
def Kf{N:Nat}(hN:NB N){h:Wk}(hb:HB h):Ok (Qbm N h) λb=>b=true->Oa N h:=by
 have hN':=hN;unfold NB at hN';have hbb:=hb.2;refine WH (Q:=λf=>f.Fault=0->Oa N h) (WH (YB (N:=N) aa hb.1 hb.2) λb eb hp=>Wm (λ_=>We λe=>by cases e) λhb1=>?_) λf _ hf=>We λe=>?_
 .have hp:=hp (by simpa using hb1);refine IH (Xf1 hN hb hp N 0 aa aa aa) (λa q=>We λe=>absurd e q) λ_ q=>?_;have hg:Oa N h:=⟨hp,q⟩
  refine WH (Xf0 hN hb) λf _ _=>Wm (λ_=>We λ_=>hg) λ_=>?_;exact WH (Xf2 hbb N 0 0 aa aa aa) λc _ _=>Wm (λ_=>We λ_=>hg) λ_=>We λ_=>hg
 simp_all
def Oa.sz{N:Nat}{h:Wk}(hg:Oa N h){l:List Int}(hl:Ia N h l){a:Int}(ha:a∈l)(hk:(pg h.p (pgi h.c a)).k=1):szA h.w a<=h.c.W / 4:=by have⟨r,hr,hm⟩:=hl.page a ha;have hat:=hl.obj.at_ a ha;have⟨_,q0,q1,_⟩:=Ks hg.prop.conf hat.rng;have:=(hg.small _ q0 (by have:=hg.prop.pages;omega) r hr).1 hk a hm;unfold smC at this;omega
def XdQ{N:Nat}(l:List Int)(hl:l.length<=100000000)(y:List Int×Int)(hy:y.1.length<=4096)(hN:1000000<N):∀(n:Nat)(k:Int),0<=k->k<=l.length->(l.length-k).toNat<n->Ok (QaC N l y n k) λ_=>True
 |0,k,_,_,hn=>by omega
 |n+1,k,h0,hk,hn=>by
  refine Wm (λhc=>?_) λ_=>We trivial;have hc:k<l.length:=Wu hc;rw[Xd (n:=k+1) aa aa];have next:=XdQ (N:=N) l hl y hy hN n (k+1) aa aa aa
  refine Ok.get h0 hc λp hp=>Wm (λ_=>Ok.get h0 hc λp hp=>?_) λ_=>next
  rw[YF p aa aa,Xa];exact Wm (λ_=>We trivial) λ_=>next
def Jy{N:Nat}(hN:NB N){h:Wk}(hb:HB h){l:List Int}(hl:l.length<=1000000):Ok (Qbc N h l) λb=>b=true->Oa N h:=by have hN':=hN;unfold NB at hN';refine WH (Kf hN hb) λb _ hb1=>Wm (λ_=>We λe=>by grind) λhb2=>?_;have hg:=hb1 (by simp_all);refine WH (ZI hN hb) λy _ hy=>?_;exact IH (XdQ l aa y hy.1.len aa N 0 aa aa aa) (λ_ _=>We λ_=>hg) λ_ _=>We λ_=>hg
def Xlk(d:Wy):J1 d % 4=1:=by have e:ZQ .u64 (wU d.Map) 16=wU (wU d.Map*65536):=rfl;unfold J1;grind[Xbq]
def Xn0(ws:List Int)(a:Int)(h:wd ws a % 4=2):szA ws a=1:=by
 have:okH (wd ws a)=false:=by
  unfold okH;have h1:=Xlk (XbC (wd ws a));have:(J1 (XbC (wd ws a))==wd ws a)=false:=by rw[beq_eq_false_iff_ne];intro e;rw[e]at h1;omega
  rw[this,Bool.and_false]
 unfold szA hdA ZF;simp_all
structure I4(h0:Wk)(l:List Int)(w:WD)(O:Int->Prop)(s:Int->Int):Prop where
 old:∀a∈l,O a/\s a=szA h0.w a
 queue:∀a∈w.q,O a
 fit:∀a,O a->4096<=a/\1<=s a/\a+s a<=4096+w.h.w.length/\szA w.h.w a<=s a
 apart:∀a b,O a->O b->a≠b->a+s a<=b\/b+s b<=a
 taken:∀a,O a->∀j∈w.t,a+s a<=Xg h0.c j (pg w.h.p j).u\/Xg h0.c (j+1) 0<=a
 free:∀a,O a->∀j:Int,0<=j->j<w.h.p.length->(pg w.h.p j).k=0->a+s a<=Xg h0.c j 0\/Xg h0.c (j+1) 0<=a
structure CI(h0:Wk)(l:List Int)(w:WD):Prop where
 conf:w.h.c=h0.c
 wlen:w.h.w.length=h0.w.length
 plen:w.h.p.length=h0.p.length
 spc:w.h.s=h0.s
 old:w.o.Sublist l
 tk:∀j∈w.t,0<=j/\j<w.h.p.length/\(pg w.h.p j).k=1/\0<=(pg w.h.p j).u/\(pg w.h.p j).u<=h0.c.W
 tnd:w.t.Nodup
 knd:∀a∈l,(pg w.h.p (pgi h0.c a)).k=(pg h0.p (pgi h0.c a)).k
 qnd:w.q.Nodup
 obj:∃O s,I4 h0 l w O s
def Xar:∀(n:Nat)(a:Int)(l:List Int),l.Nodup->(∀x∈l,a<=x/\x<a+n)->l.length<=n
 |0,a,l,_,h=>by
  cases l with
  |nil=>simp
  |cons x l=>have:=h x ab;omega
 |n+1,a,l,hn,h=>by
  by_cases hm:a+(n:Int)∈l
  .have h1:=Xar n a (l.erase (a+(n:Int))) (hn.erase _) λx hx=>by have h2:=(List.Nodup.mem_erase_iff hn).1 hx;have h3:=h x h2.2;omega
   simp_all
  have h1:=Xar n a l hn λx hx=>by grind
  omega
section
variable {N:Nat}{h0:Wk}{l:List Int}
def CI.ql{w:WD}(hb:HB h0)(hc:CI h0 l w):w.q.length<=100000:=by
 have⟨O,s,ho⟩:=hc.obj;have:=Xar w.h.w.length 4096 w.q hc.qnd λx hx=>by have:=ho.fit x (ho.queue x hx);omega
 have:=hb.1;have:=hc.wlen;omega
def CI.tl{w:WD}(hb:HB h0)(hc:CI h0 l w):w.t.length<=100000:=by
 have:=Xar w.h.p.length 0 w.t hc.tnd λx hx=>by have:=hc.tk x hx;omega
 have:=hb.2;have:=hc.plen;omega
def XdR{w:WD}(hl:w.t.length<=100000)(i:Int):∀(n:Nat)(k:Int),0<=k->k<=w.t.length->(w.t.length-k).toNat<n->Ok (QcV N w i n k) λ_=>True
 |0,k,_,_,hn=>by omega
 |n+1,k,h0,hk,hn=>by refine Wm (λhc=>?_) λ_=>We trivial;have hc:k<w.t.length:=Wu hc;rw[Xd (n:=k+1) aa aa];exact Ok.get h0 hc λp hp=>Wm (λ_=>We trivial) λ_=>XdR hl i n (k+1) aa aa aa
def Xbu(hN:NB N){w:WD}(hl:w.t.length<=100000)(i:Int):Ok (QcW N w i) λb=>b=true->0<=i/\i<w.h.p.length:=by
 unfold NB at hN;refine Wm (λ_=>We λe=>by grind) λh1=>Wm (λ_=>We λe=>by grind) λh2=>?_;have h1:0<=i:=by have:=WL h1;omega
 have h2:i<w.h.p.length:=by have:=WL h2;omega
 refine Ok.get h1 h2 λp hp=>Wm (λ_=>Wm (λ_=>WH (Q:=λ_=>True) ?_ λy _ _=>We λ_=>⟨h1,h2⟩) λ_=>We λe=>aa) λ_=>We λe=>by omega
 exact IH (XdR hl i N 0 aa aa aa) (λ_ _=>We trivial) λ_ _=>We trivial
structure Od(h0:Wk)(w:WD)(n:Int)(w':WD)(at_:Int)(j u:Int):Prop where
 rng:0<=j/\j<w.h.p.length
 fit:0<=u/\u+n<=h0.c.W
 addr:at_=Xg h0.c j u
 conf:w'.h.c=w.h.c
 words:w'.h.w=w.h.w
 space:w'.h.s=w.h.s
 old:w'.o=w.o
 queue:w'.q=w.q
 scanned:w'.d=w.d
 plen:w'.h.p.length=w.h.p.length
 other:∀i,0<=i->i≠j->pg w'.h.p i=pg w.h.p i
 this:(pg w'.h.p j).k=1/\(pg w'.h.p j).u=u+n
 sp:((pg w'.h.p j).s=(pg w.h.p j).s/\(pg w'.h.p j).P=(pg w.h.p j).P)\/((pg w'.h.p j).s=1-w.h.s/\(pg w'.h.p j).P=0)
 way:(j∈w.t/\w'.t=w.t/\u=(pg w.h.p j).u)\/((pg w.h.p j).k=0/\w'.t=w.t++[j]/\u=0)
def Xf3(hN:NB N)(hb:HB h0)(hp:Us h0){w:WD}(hc:CI h0 l w){n:Int}(hn:1<=n)(hn2:n<=h0.c.W):Ok (Qcw N w n) λr=>r.2.2=true->∃j u,Od h0 w n r.1 r.2.1 j u:=by
 have hN':=hN;unfold NB at hN';have hpl:=hc.plen;have hv:=Xl.1 hp.conf;have htl:=hc.tl hb;have hpp:=hp.pages;have new:Ok (bnd (Qbi N w.h.p 1) λy4=>
  bif (decide (y4<0))then some ((WD.mk (Wk.mk (WT.mk 0 0) [] [] 0 0) [] [] [] 0 (WM.mk 0 0 0 0 0 0)),0,false)
  else bnd (Qbz N w.h.p y4 (wI (1-w.h.s))) λy5=>
  grd (w.t.length*8<=140737488355328) <|
  grd ((w.t.length+1)*8<=140737488355328) <|
  bnd (Xb y5.1 y4) λp13=>
  bnd (Xb y5.1 y4) λp14=>
  bnd (Xb y5.1 y4) λp15=>
  some ((WD.mk (Wk.mk w.h.c w.h.w (y5.1.set y4.toNat (Wt.mk p15.k p15.s (wI (p14.u+n)) p15.P)) w.h.s w.h.b) w.o (w.t++[y4]) w.q w.d w.r),(wU (wI ((wI (4096+(wI (y4*w.h.c.W))))+p13.u))),true)) λr=>r.2.2=true->∃j u,Od h0 w n r.1 r.2.1 j u:=by
  refine WH (Y2 1 aa aa) λj _ hj=>Wm (λ_=>We λe=>by grind) λhj0=>?_
  have hr:RunOK w.h.p j 1:=by
   rcases hj with rfl|hj
   .grind
   .omega
  have hsp:=hp.space
  have hws:=hc.spc
  rw[Xd (n:=1-w.h.s) aa aa]
  refine WH (Xcs j (1-w.h.s) aa aa) λy _ hy=>?_
  have hy0:=hy.2.2 hr aa aa
  obtain⟨q0,q1,q2,q3⟩:=hy.1 hy0
  have hk:=hr.2.2.2 0 aa aa
  rw[Int.add_zero]at hk
  have hjl:j<y.1.length:=aa
  refine WS aa (WS aa (Ok.get q0 hjl λp1 hp1=>Ok.get q0 hjl λp2 hp2=>Ok.get q0 hjl λp3 hp3=>We λ_=>?_))
  have g1:=Yv hp1
  have g2:=Yv hp2
  have g3:=Yv hp3
  rw[q3 j q0,Wq rfl]at g1 g2 g3
  subst g1;subst g2;subst g3
  have hm:=XW hp.conf (i:=j) q0 aa
  refine⟨j,0,⟨⟨q0,aa⟩,⟨aa,aa⟩,?_,rfl,rfl,rfl,rfl,rfl,rfl,?_,λi hi hij=>?_,?_,.inr ?_,.inr ⟨hk,rfl,rfl⟩⟩⟩
  .show wU (wI (wI (4096+wI (j*w.h.c.W))+0))=_
   rw[hc.conf,Xd (n:=j*h0.c.W) aa aa,Xd (n:=4096+j*h0.c.W) aa aa,Xd aa aa,Xx aa aa]
   rfl
  .simp_all
  .show pg (y.1.set _ _) i=_
   rw[ZH _ q0 hjl hi,Wn hij,q3 i hi,Wn hij,Wn aa]
  .show(pg (y.1.set _ _) j).k=1/\(pg (y.1.set _ _) j).u=_
   rw[ZH _ q0 hjl q0,Wq rfl]
   refine⟨rfl,?_⟩
   show wI (0+n)=0+n
   rw[Xd aa aa]
  .show(pg (y.1.set _ _) j).s=_/\(pg (y.1.set _ _) j).P=_
   rw[ZH _ q0 hjl q0,Wq rfl]
   simp
 refine WS aa (U6 (Wm (λht=>?_) λ_=>new));have ht:0<(w.t.length:Int):=Wu ht;rw[Xd (n:=(w.t.length:Int)-1) aa aa];refine Ok.get aa aa λj hj=>?_;have hjm:=Yy hj;have⟨t0,t1,t2,t3,t4⟩:=hc.tk j hjm;refine Ok.get t0 t1 λp hp2=>?_;have g:=Yv hp2;subst g;rw[Xd (n:=(pg w.h.p j).u+n) aa aa];refine Wm (λhle=>?_) λ_=>new;have hle:(pg w.h.p j).u+n<=w.h.c.W:=Wu hle;rw[hc.conf]at hle;refine Ok.get aa aa λj' hj'=>?_;obtain rfl:j=j':=WK (hj.symm.trans hj');refine Ok.get t0 t1 λp1 hp1=>Ok.get t0 t1 λp2 hp2=>Ok.get t0 t1 λp3 hp3=>We λ_=>?_;have g1:=Yv hp1;have g2:=Yv hp2;have g3:=Yv hp3;subst g1;subst g2;subst g3;have hm:=XW hp.conf (i:=j) t0 aa;refine⟨j,(pg w.h.p j).u,⟨⟨t0,t1⟩,⟨t3,hle⟩,?_,rfl,rfl,rfl,rfl,rfl,rfl,?_,λi hi hij=>?_,?_,.inl ?_,.inl ⟨hjm,rfl,rfl⟩⟩⟩
 .show wU (wI (wI (4096+wI (j*w.h.c.W))+_))=_;rw[hc.conf,Xd (n:=j*h0.c.W) aa aa,Xd (n:=4096+j*h0.c.W) aa aa,Xd aa aa,Xx aa aa];rfl
 .simp
 .simp[ZH,t0,t1,hi,Wn,hij]
 .rw[ZH _ t0 t1 t0,Wq rfl];refine⟨t2,?_⟩;rw[Xd aa aa]
 rw[ZH _ t0 t1 t0,Wq rfl];simp
end
def Xp6{a b:Int}(ha:4096<=a)(hb:4096<=b)(h:ix a=ix b):a=b:=by unfold ix at h;omega
def Xhf{ws:List Int}{x a v:Int}(hx:inW ws x)(ha:4096<=a):wd (ws.set (ix x) v) a=if a=x then v else wd ws a:=by
 unfold wd;have hlt:ix x<ws.length:=by unfold inW at hx;unfold ix;omega
 rw[Wp,Wp,In];by_cases h:a=x
 .simp_all
 rw[Wn h,Wn];intro e;exact h (Xp6 ha hx.1 e.symm)
def Xn1{ws:List Int}{to a x:Int}{k:Nat}(h1:Yh ws a k)(h2:Yh ws to k)(hx:4096<=x):wd (ovr ws ((ws.drop (ix a)).take k) (ix to)) x=if to<=x/\x<to+k then wd ws (a+(x-to))else wd ws x:=by
 have hlen:((ws.drop (ix a)).take k).length=k:=by unfold Yh at h1;simp[ix];omega
 unfold wd;rw[Xcq (by rw[hlen];unfold Yh at h2;unfold ix;omega),hlen];unfold Yh at h1 h2;by_cases h:to<=x/\x<to+k
 .rw[Wq h,Wq (by unfold ix;omega),Wp,Uk,Wq (by unfold ix;omega),UF,←Wp];congr 1;unfold ix;omega
 rw[Wn h,Wn (by unfold ix;omega)]
def XbO{ws:List Int}{to a:Int}{k:Nat}(h1:Yh ws a k)(h2:Yh ws to k):(ovr ws ((ws.drop (ix a)).take k) (ix to)).length=ws.length:=by
 have hlen:((ws.drop (ix a)).take k).length=k:=by unfold Yh at h1;simp[ix];omega
 exact ZE (by rw[hlen];unfold Yh at h2;unfold ix;omega)
def Xas{c:WT}(hc:X6 c=true){i j o p:Int}(h:i<j)(h1:o<=c.W)(h2:0<=p):Xg c i o<=Xg c j p:=by
 have hv:=Xl.1 hc;have:(i+1)*c.W<=j*c.W:=Ur aa aa;have e:(i+1)*c.W=i*c.W+c.W:=by rw[Ip,IP]
 unfold Xg;omega
section
variable {N:Nat}{h0:Wk}{l:List Int}
structure Og(h0:Wk)(l:List Int)(w w':WD)(O:Int->Prop)(s:Int->Int):Prop where
 ci:CI h0 l w'
 ob:∃O' s',I4 h0 l w' O' s'/\∀a,O a->O' a/\s' a=s a
 sc:w'.d=w.d
 ql:w.q.length<=w'.q.length
def SameK(ps qs:List Wt):Prop:=qs.length=ps.length/\∀i,0<=i->(pg qs i).k=(pg ps i).k/\(pg qs i).u=(pg ps i).u
def SameK.refl(ps:List Wt):SameK ps ps:=⟨rfl,λ_ _=>⟨rfl,rfl⟩⟩
def SameK.set{ps qs:List Wt}(h:SameK ps qs){i:Int}(h0:0<=i)(h1:i<qs.length)(sp pins:Int):SameK ps (qs.set i.toNat ⟨(pg qs i).k,sp,(pg qs i).u,pins⟩):=by
 refine⟨by rw[WR];exact h.1,λj hj=>?_⟩;rw[ZH _ h0 h1 hj];split
 .rename_i e;subst e;exact h.2 j hj
 exact h.2 j hj
def Xhg(w:WD)(a:Int){ps:List Wt}(hl:ps.length<=100000):∀(n:Nat)(i:Int)(qs:List Wt),0<=i->i<=ps.length->(ps.length-i).toNat<n->SameK ps qs->Ok (QaH N w a n i qs) λr=>SameK ps r
 |0,i,qs,_,_,hn,_=>by omega
 |n+1,i,qs,h0,hi,hn,hs=>by have hq:=hs.1;refine WS aa (Wm (λhc=>?_) λ_=>We hs);have hc:i<qs.length:=Wu hc;rw[Xd (n:=i+1) aa aa];refine Ok.get h0 hc λp hp=>Wm (λ_=>Ok.get h0 hc λp hp=>?_) λ_=>We hs;have hg:=Yv hp;subst hg;exact Xhg w a hl n (i+1) _ aa aa aa (hs.set h0 hc _ _)
def CI.pages{w:WD}(hc:CI h0 l w){qs:List Wt}(h:SameK w.h.p qs):CI h0 l {w with h:={w.h with p:=qs}}:=by
 have⟨O,s,ho⟩:=hc.obj;refine⟨hc.conf,hc.wlen,h.1.trans hc.plen,hc.spc,hc.old,λj hj=>?_,hc.tnd,λa ha=>?_,hc.qnd,?_⟩
 .have:=hc.tk j hj;have h2:=h.2 j this.1;rw[h2.1,h2.2,h.1];omega
 .have hk:=hc.knd a ha;by_cases hp:0<=pgi h0.c a
  .rw[(h.2 _ hp).1];omega
  have e1:∀ps:List Wt,pg ps (pgi h0.c a)=pg ps 0:=λps=>by unfold pg;grind
  rw[e1,(h.2 0 aa).1,←e1,hk]
 refine⟨O,s,ho.old,ho.queue,ho.fit,ho.apart,λa ha j hj=>?_,λa ha j h1 h2 h3=>?_⟩
 .rw[(h.2 j (hc.tk j hj).1).2];exact ho.taken a ha j hj
 rw[(h.2 j h1).1]at h3;exact ho.free a ha j h1 (by rw[←h.1];omega) h3
def I4.pages{w:WD}{O:Int->Prop}{s:Int->Int}(hc:CI h0 l w)(ho:I4 h0 l w O s){qs:List Wt}(h:SameK w.h.p qs):I4 h0 l {w with h:={w.h with p:=qs}} O s:=by
 refine⟨ho.old,ho.queue,ho.fit,ho.apart,λa ha j hj=>?_,λa ha j h1 h2 h3=>?_⟩
 .rw[(h.2 j (hc.tk j hj).1).2];exact ho.taken a ha j hj
 rw[(h.2 j h1).1]at h3;exact ho.free a ha j h1 (by rw[←h.1];omega) h3
def CI.push{w:WD}{O:Int->Prop}{s:Int->Int}(hc:CI h0 l w)(ho:I4 h0 l w O s){a:Int}(ha:O a)(hq:a∉w.q)(rp:WM):Og h0 l w {w with q:=w.q++[a],r:=rp} O s:=by
 have ho2:I4 h0 l {w with q:=w.q++[a],r:=rp} O s:=by
  refine⟨ho.old,λx hx=>?_,ho.fit,ho.apart,ho.taken,ho.free⟩;rcases WG.1 hx with hx|hx
  .exact ho.queue x hx
  rw[UK.1 hx];exact ha
 refine⟨⟨hc.conf,hc.wlen,hc.plen,hc.spc,hc.old,hc.tk,hc.tnd,hc.knd,?_,⟨O,s,ho2⟩⟩,⟨O,s,ho2,λa h=>⟨h,rfl⟩⟩,rfl,?_⟩
 .rw[Io];refine⟨hc.qnd,ab,λx hx y hy=>?_⟩;rw[UK.1 hy];rintro rfl;exact hq hx
 simp
end
section
variable {N:Nat}{h0:Wk}{l:List Int}
def Xll(hp:Us h0){w w':WD}{O:Int->Prop}{s:Int->Int}(hc:CI h0 l w)(ho:I4 h0 l w O s){a n at_ j u:Int}(hal:a∈l)(hn:n=szA w.h.w a)(hn1:1<=n)(pq:Od h0 w n w' at_ j u)(v:Int):
 Yh w.h.w a n.toNat/\Yh w.h.w at_ n.toNat/\(∀x,O x->x+s x<=at_\/Xg h0.c (j+1) 0<=x)/\¬O at_/\(∀x,O x->x+s x<=at_\/at_+n<=x)/\(∀x,4096<=x->wd ((ovr w.h.w ((w.h.w.drop (ix a)).take n.toNat) (ix at_)).set (ix a) v) x=if x=a then v else if at_<=x/\x<at_+n then wd w.h.w (a+(x-at_))else wd w.h.w x):=by
 have⟨hOa,hsa⟩:=ho.old a hal;have⟨fa1,fa2,fa3,fa4⟩:=ho.fit a hOa;have hwl:=hc.wlen;have hw0:=hp.words;have hpl:=hc.plen;have hpl0:=hp.pages;have⟨r1,r2⟩:=pq.rng;have hm:=XW hp.conf (i:=j) r1 aa;have⟨u0,u1⟩:=pq.fit;have hat:at_=Xg h0.c j u:=pq.addr;have hat1:at_=4096+j*h0.c.W+u:=hat;have hend2:at_+n<=Xg h0.c (j+1) 0:=by
  have e:(j+1)*h0.c.W=j*h0.c.W+h0.c.W:=by rw[Ip,IP]
  unfold Xg;omega
 have i1:Yh w.h.w a n.toNat:=by unfold Yh;omega
 have i2:Yh w.h.w at_ n.toNat:=by unfold Yh;omega
 have away:∀x,O x->x+s x<=at_\/Xg h0.c (j+1) 0<=x:=by
  intro x hx;rcases pq.way with⟨g1,g2,g3⟩|⟨g1,g2,g3⟩
  .have:=ho.taken x hx j g1;rw[←g3,←hat]at this;exact this
  have:=ho.free x hx j r1 r2 g1;rw[g3]at hat;rw[hat];exact this
 have fresh:¬O at_:=by intro hx;have:=away at_ hx;have:=(ho.fit at_ hx).2.1;omega
 have aw2:∀x,O x->x+s x<=at_\/at_+n<=x:=λx hx=>by have:=away x hx;omega
 have hlen:(ovr w.h.w ((w.h.w.drop (ix a)).take n.toNat) (ix at_)).length=w.h.w.length:=XbO i1 i2;have hwd:∀x,4096<=x->wd ((ovr w.h.w ((w.h.w.drop (ix a)).take n.toNat) (ix at_)).set (ix a) v) x=if x=a then v else if at_<=x/\x<at_+n then wd w.h.w (a+(x-at_))else wd w.h.w x:=by intro x hx;rw[Xhf (by unfold inW;omega) hx,Xn1 i1 i2 hx];have:(n.toNat:Int)=n:=aa;rw[this]
 simp_all
def Xlm(hp:Us h0)(hk12:∀a∈l,(pg h0.p (pgi h0.c a)).k=1\/(pg h0.p (pgi h0.c a)).k=2)(hpr:∀a∈l,0<=pgi h0.c a){w w':WD}{O:Int->Prop}{s:Int->Int}(hc:CI h0 l w)(ho:I4 h0 l w O s){a n at_ j u:Int}(hal:a∈l)(hn:n=szA w.h.w a)(hn1:1<=n)(pq:Od h0 w n w' at_ j u)(v:Int)(hv:v % 4=2)(rp:WM):
 Yh w.h.w a n.toNat/\Yh w.h.w at_ n.toNat/\4096<=at_/\at_<=200000/\Og h0 l w {w' with h:={w'.h with w:=(ovr w.h.w ((w.h.w.drop (ix a)).take n.toNat) (ix at_)).set (ix a) v},q:=w'.q++[at_],r:=rp} O s:=by
 have⟨hOa,hsa⟩:=ho.old a hal;have⟨fa1,fa2,fa3,fa4⟩:=ho.fit a hOa;have hwl:=hc.wlen;have hw0:=hp.words;have hpl:=hc.plen;have hpl0:=hp.pages;have⟨r1,r2⟩:=pq.rng;have hm:=XW hp.conf (i:=j) r1 aa;have⟨u0,u1⟩:=pq.fit;have hat:at_=Xg h0.c j u:=pq.addr;have hat1:at_=4096+j*h0.c.W+u:=hat;have hend:at_+n=Xg h0.c j (u+n):=by rw[hat];unfold Xg;omega
 have⟨i1,i2,away,fresh,aw2,hwd⟩:=Xll hp hc ho hal hn hn1 pq v;have hne:a≠at_:=λe=>fresh (e▸hOa);have hlen:(ovr w.h.w ((w.h.w.drop (ix a)).take n.toNat) (ix at_)).length=w.h.w.length:=XbO i1 i2;have hlen2:((ovr w.h.w ((w.h.w.drop (ix a)).take n.toNat) (ix at_)).set (ix a) v).length=w.h.w.length:=by rw[WR,hlen]
 have hsz:∀x,O x->szA ((ovr w.h.w ((w.h.w.drop (ix a)).take n.toNat) (ix at_)).set (ix a) v) x<=s x:=by
  intro x hx;have hf:=ho.fit x hx;by_cases hxa:x=a
  .have:szA ((ovr w.h.w ((w.h.w.drop (ix a)).take n.toNat) (ix at_)).set (ix a) v) x=1:=by apply Xn0;rw[hwd x hf.1,Wq hxa];exact hv
   omega
  have:szA ((ovr w.h.w ((w.h.w.drop (ix a)).take n.toNat) (ix at_)).set (ix a) v) x=szA w.h.w x:=by unfold szA hdA;rw[hwd x hf.1,Wn hxa,Wn];have:=aw2 x hx;omega
  omega
 have hszat:szA ((ovr w.h.w ((w.h.w.drop (ix a)).take n.toNat) (ix at_)).set (ix a) v) at_=n:=by refine Eq.trans ?_ hn.symm;unfold szA hdA;rw[hwd at_ aa,Wn (λe=>hne e.symm),Wq aa];rw[show a+(at_-at_)=a by omega]
 have hjk:=pq.this;have hk0:∀i,0<=i->(pg w'.h.p i).k=0->i≠j/\(pg w.h.p i).k=0:=by
  intro i hi hk;have hij:i≠j:=by rintro rfl;rw[hjk.1]at hk;cases hk
  rw[pq.other i hi hij]at hk;exact⟨hij,hk⟩
 have htk:∀i∈w'.t,i=j\/(i∈w.t/\i≠j):=by
  intro i hi;by_cases hij:i=j
  .exact .inl hij
  right;refine⟨?_,hij⟩;rcases pq.way with⟨_,g2,_⟩|⟨_,g2,_⟩
  .rwa[g2]at hi
  rw[g2]at hi;rcases WG.1 hi with hi|hi
  .exact hi
  exact absurd (UK.1 hi) hij
 have hqe:w'.q=w.q:=pq.queue;refine⟨i1,i2,aa,aa,?_⟩;have hO:I4 h0 l {w' with h:={w'.h with w:=(ovr w.h.w ((w.h.w.drop (ix a)).take n.toNat) (ix at_)).set (ix a) v},q:=w'.q++[at_],r:=rp} (λx=>O x\/x=at_) (λx=>if x=at_ then n else s x):=by
  have ne:∀x,O x->x≠at_:=λx hx e=>fresh (e▸hx);refine⟨λx hx=>?_,λx hx=>?_,λx hx=>?_,λx y hx hy hxy=>?_,λx hx i hi=>?_,λx hx i g1 g2 g3=>?_⟩
  .have⟨q1,q2⟩:=ho.old x hx;exact⟨.inl q1,by rw[Wn (ne x q1)];exact q2⟩
  .rcases WG.1 hx with hx|hx
   .rw[hqe]at hx;exact .inl (ho.queue x hx)
   exact .inr (UK.1 hx)
  .rw[hlen2];rcases hx with hx|rfl
   .rw[Wn (ne x hx)];have⟨f1,f2,f3,f4⟩:=ho.fit x hx;exact⟨f1,f2,f3,hsz x hx⟩
   rw[Wq rfl,hszat];omega
  .rcases hx with hx|rfl
   .rcases hy with hy|rfl
    .rw[Wn (ne x hx),Wn (ne y hy)];exact ho.apart x y hx hy hxy
    have:=aw2 x hx;omega
   rcases hy with hy|rfl
   .have:=aw2 y hy;omega
   exact absurd rfl hxy
  .rcases htk i hi with rfl|⟨hi1,hi2⟩
   .rw[hjk.2];rcases hx with hx|rfl
    .have:=away x hx;omega
    omega
   have⟨t1,t2,t3,t4,t5⟩:=hc.tk i hi1;rw[pq.other i t1 hi2];rcases hx with hx|rfl
   .rw[Wn (ne x hx)];exact ho.taken x hx i hi1
   by_cases hlt:i<j
   .have:=Xas hp.conf (o:=h0.c.W) (p:=u) hlt aa u0;have e:Xg h0.c (i+1) 0=Xg h0.c i h0.c.W:=by unfold Xg;rw[Ip,IP];omega
    omega
   have:=Xas hp.conf (i:=j) (j:=i) (o:=u+n) (p:=(pg w.h.p i).u) aa aa t4;omega
  have⟨k1,k2⟩:=hk0 i g1 g3;rcases hx with hx|rfl
  .rw[Wn (ne x hx)];exact ho.free x hx i g1 (by rw[←pq.plen];exact g2) k2
  by_cases hlt:i<j
  .right;have:=Xas hp.conf (o:=h0.c.W) (p:=u) hlt aa u0;have e:Xg h0.c (i+1) 0=Xg h0.c i h0.c.W:=by unfold Xg;rw[Ip,IP];omega
   omega
  left;have:=Xas hp.conf (i:=j) (j:=i) (o:=u+n) (p:=0) aa aa aa;omega
 refine⟨⟨?_,?_,?_,?_,?_,λi hi=>?_,?_,λx hx=>?_,?_,⟨_,_,hO⟩⟩,⟨_,_,hO,λx hx=>⟨.inl hx,?_⟩⟩,pq.scanned,?_⟩
 .exact pq.conf.trans hc.conf
 .exact hlen2.trans hc.wlen
 .exact pq.plen.trans hc.plen
 .exact pq.space.trans hc.spc
 .exact(by show w'.o.Sublist l;rw[pq.old];exact hc.old)
 .show 0<=i/\i<w'.h.p.length/\(pg w'.h.p i).k=1/\0<=(pg w'.h.p i).u/\(pg w'.h.p i).u<=h0.c.W;rw[pq.plen];rcases htk i hi with rfl|⟨hi1,hi2⟩
  .rw[hjk.1,hjk.2];omega
  have:=hc.tk i hi1;rw[pq.other i this.1 hi2];exact this
 .show w'.t.Nodup;rcases pq.way with⟨_,g2,_⟩|⟨g1,g2,_⟩
  .rw[g2];exact hc.tnd
  rw[g2,Io];refine⟨hc.tnd,ab,λx hx y hy=>?_⟩;rw[UK.1 hy];rintro rfl;rw[(hc.tk x hx).2.2.1]at g1;cases g1
 .show(pg w'.h.p _).k=_;have hkx:=hc.knd x hx;have h12:=hk12 x hx;by_cases hij:pgi h0.c x=j
  .rw[hij]at hkx h12⊢;rw[hjk.1];rcases pq.way with⟨g1,_,_⟩|⟨g1,_,_⟩
   .rw[(hc.tk j g1).2.2.1]at hkx;exact hkx
   rw[g1]at hkx;rw[←hkx]at h12;rcases h12 with h|h<;>cases h
  rw[pq.other _ (hpr x hx) hij];exact hkx
 .show(w'.q++[at_]).Nodup;rw[hqe,Io];refine⟨hc.qnd,ab,λx hx y hy=>?_⟩;rw[UK.1 hy];rintro rfl;exact fresh (ho.queue x hx)
 .show(if x=at_ then n else s x)=s x;exact Wn (λe=>fresh (by rw[←e];exact hx))
 simp_all
structure Start(N:Nat)(h0:Wk)(l:List Int):Prop where
 hb:HB h0
 good:l≠[]->Oa N h0
 prop:l≠[]->Us h0
 st:Ia N h0 l
def Xf4(a:Int)(h0:0<=a)(h1:a<4294967296):wU (wU (4*a)+2) % 4=2:=by rw[Xx (n:=4*a) aa aa,Xx aa aa];omega
def ZX{l:List Int}{a:Int}(h:l.contains a=false):a∉l:=by simp_all
def Y9{l:List Int}{a:Int}(h:l.contains a=true):a∈l:=by simp_all
def CI.wl{w:WD}(hb:HB h0)(hc:CI h0 l w):w.h.w.length<=BIG:=by have:=hb.1;have:=hc.wlen;unfold BIG;omega
def Xcv(hN:NB N)(hs:Start N h0 l){w:WD}{O:Int->Prop}{s:Int->Int}(hc:CI h0 l w)(ho:I4 h0 l w O s)(a:Int):Ok (QaZ N w a) λr=>r.2.2=0->Og h0 l w r.1 O s:=by
 have hN':=hN;unfold NB at hN';have hb:=hs.hb;have hql:=hc.ql hb;have hwl:=hc.wl hb;have hww:=hc.wlen;have hpl:=hc.plen;have same:Og h0 l w w O s:=⟨hc,⟨O,s,ho,λ_ h=>⟨h,rfl⟩⟩,rfl,Un _⟩
 refine Wm (λ_=>We λ_=>same) λ_=>?_;rw[YF a aa aa,Xa];refine Wm (λ_=>We λ_=>same) λhq=>?_;have hq:=ZX hq;have hol:=hc.old.length_le;have hsl:=hs.st.len;rw[YF a aa aa,Xa];refine Wm (λ_=>We λe=>by grind) λhal=>?_;have hal:a∈l:=hc.old.subset (Y9 (by simp_all));have hne:l≠[]:=List.ne_nil_of_mem hal;have hp:=hs.prop hne;have hg:=hs.good hne;have hat:=hs.st.obj.at_ a hal;have hwd0:=hp.words;have hpg0:=hp.pages;have hvc:=Xl.1 hp.conf;have hrng:=hat.rng;have⟨_,q0,q1,_⟩:=Ks hp.conf hrng;have hin:inW w.h.w a:=by unfold inW;omega
 rw[YK hwl,Xa,Wq hin,Jw,Xa];have hof:QcL N w.h.c a=some (pgi h0.c a,pgo h0.c a,0):=by rw[Jx,hc.conf,hp.conf,Wn ab,Wq hrng];rfl
 rw[hof,Xa];refine Wm (λ_=>We λ_=>same) λ_=>?_;refine Wm (λ_=>We λe=>by grind) λ_=>?_;refine Wm (λ_=>We λe=>by grind) λ_=>?_;refine WH (Xbu hN (hc.tl hb) _) λb _ _=>Wm (λ_=>?_) λ_=>?_
 .rw[Qdw,Xc aa,Xc aa,Xa];exact We λ_=>hc.push ho (ho.old a hal).1 hq _
 refine Ok.get q0 aa λp hpp=>Wm (λ_=>?_) λhk2=>?_
 .refine WS aa (Ok.get q0 aa λp hpp=>?_);have hgp:=Yv hpp;subst hgp;rw[Xd (n:=pgi h0.c a+1) aa aa];refine WH (Xhg w a (ps:=w.h.p) aa N (pgi h0.c a+1) _ aa aa aa ((SameK.refl _).set q0 aa _ _)) λqs _ hqs=>?_;rw[Qdw,Xc (by grind),Xc (by grind),Xa];refine We λ_=>?_;have q:=λrp=>(hc.pages hqs).push (ho.pages hc hqs) (ho.old a hal).1 hq rp;exact⟨(q _).ci,(q _).ob,(q w.r).sc,(q w.r).ql⟩
 have hgp:=Yv hpp;have hk12:∀x∈l,(pg h0.p (pgi h0.c x)).k=1\/(pg h0.p (pgi h0.c x)).k=2:=λx hx=>(hs.st.obj.at_ x hx).kind;have hpr:∀x∈l,0<=pgi h0.c x:=λx hx=>(Ks hp.conf (hs.st.obj.at_ x hx).rng).2.1;have hk1:(pg h0.p (pgi h0.c a)).k=1:=by
  rcases hk12 a hal with h|h
  .omega
  exfalso;rw[←hc.knd a hal,hgp]at h;grind
 have hsz:=hg.sz hs.st hal hk1;have hso:=(ho.old a hal).2;have hfit:=ho.fit a (ho.old a hal).1;have hsw:=YT w.h.w a;rw[Kz,Xa,X1,Xa];have e1:Xz (ZF (w.h.w.getD (ix a) 0))=szA w.h.w a:=hsw.1;rw[e1];refine WH (Xf3 hN hb hp hc (n:=szA w.h.w a) hsw.2.1 aa) λy _ hy=>Wm (λ_=>We λe=>by grind) λhy2=>?_;have⟨j,u,pq⟩:=hy (by grind);have q:=λv hv rp=>Xlm (n:=szA w.h.w a) hp hk12 hpr hc ho hal rfl hsw.2.1 pq v hv rp;have⟨i1,i2,a1,a2,_⟩:=q 2 rfl y.1.r;rw[pq.words];have en:szA w.h.w a=(((szA w.h.w a).toNat:Nat):Int):=aa;have hmv:=Xh8 (N:=N) hwl y.2.1 a (szA w.h.w a).toNat aa aa;rw[←en,Wq ⟨i1,i2⟩]at hmv;rw[hmv,Xa,V4,Xa,Wn aa];have ol:=XbO i1 i2;rw[Jv (by grind) aa,Xa];have hin2:inW (ovr w.h.w ((w.h.w.drop (ix a)).take (szA w.h.w a).toNat) (ix y.2.1)) a:=by unfold inW;rw[ol];exact hin
 rw[Wq hin2];have hqe:=pq.queue;refine WS (by grind) (WS (by grind) (We λ_=>?_));exact(q _ (Xf4 y.2.1 aa aa) _).2.2.2.2
end
section
variable {N:Nat}{h0:Wk}{l:List Int}
def Xat(h:Wk)(y:List Int×Int)(hl:h.p.length<=100000):∀(n:Nat)(i:Int)(qs:List Wt),0<=i->i<=h.p.length->(h.p.length-i).toNat<n->SameK h.p qs->Ok (Qcd N h y n i qs) λr=>SameK h.p r
 |0,i,qs,_,_,hn,_=>by omega
 |n+1,i,qs,h0,hi,hn,hs=>by
  have hq:=hs.1;refine WS aa (Wm (λhc=>?_) λ_=>We hs);have hc:i<qs.length:=Wu hc;rw[Xd (n:=i+1) aa aa];have next:=Xat h y hl n (i+1) qs aa aa aa hs
  refine Ok.get h0 hc λp hp=>Wm (λ_=>Wm (λ_=>Ok.get h0 hc λp hp=>?_) λ_=>next) λ_=>next
  have hg:=Yv hp;subst hg;exact Xat h y hl n (i+1) _ aa aa aa (hs.set h0 hc _ _)
def Xhh{h:Wk}(hp:Us h){a:Int}(ha:IG h a){j:Int}(h1:0<=j)(hk:(pg h.p j).k=0):a+szA h.w a<=Xg h.c j 0\/Xg h.c (j+1) 0<=a:=by
 have⟨k,k1,k2,k3,k4⟩:=XeK hp ha;have⟨q1,q2,q3,q4,q5⟩:=Ks hp.conf ha.rng;have hkk:=ha.kind;by_cases hlt:j<pgi h.c a
 .have:=Xas hp.conf (o:=h.c.W) (p:=pgo h.c a) hlt aa q4;have e:Xg h.c (j+1) 0=Xg h.c j h.c.W:=by unfold Xg;rw[Ip,IP];omega
  omega
 by_cases he:j=pgi h.c a
 .grind
 by_cases hlt2:j<pgi h.c a+k
 .have:=k4 (j-pgi h.c a) aa aa;grind
 have:(pgi h.c a+k)*h.c.W<=j*h.c.W:=Ur aa aa;have e1:Xg h.c (pgi h.c a+k) 0=4096+(pgi h.c a+k)*h.c.W+0:=rfl;have e2:Xg h.c j 0=4096+j*h.c.W+0:=rfl;omega
def Xcw{h:Wk}(hb:HB h)(hp:Us h){l:List Int}(hs:Ia N h l){w:WD}(e1:w.h.c=h.c)(e2:w.h.w=h.w)(e3:w.h.s=h.s)(hk:SameK h.p w.h.p)(e4:w.o.Sublist l)(e5:w.t=[])(e6:w.q=[]):CI h l w:=by
 have ho:I4 h l w (λa=>a∈l) (szA h.w):=by
  refine⟨λa ha=>⟨ha,rfl⟩,λa ha=>(by simp_all),λa ha=>?_,λa b ha hb' hab=>?_,λa ha j hj=>(by simp_all),λa ha j h1 h2 h3=>?_⟩
  .rw[e2];have h1:=hs.obj.at_ a ha;exact⟨h1.rng.1,(YT h.w a).2.1,K7 hp h1,Int.le_refl _⟩
  .have hpw:=hs.obj.pw;rw[UI]at hpw;have⟨i,hi,ei⟩:=WN ha;have⟨j,hj,ej⟩:=WN hb';grind
  rw[(hk.2 j h1).1]at h3;exact Xhh hp (hs.obj.at_ a ha) h1 h3
 refine⟨e1,by grind,hk.1,e3,e4,λj hj=>(by simp_all),by simp_all,λa ha=>?_,by simp_all,⟨_,_,ho⟩⟩;exact(hk.2 _ (Ks hp.conf (hs.obj.at_ a ha).rng).2.1).1
def zW:WD:=⟨zH,[],[],[],0,⟨0,0,0,0,0,0⟩⟩
def Xln(N:Nat):Start N zH []:=⟨Z5,λh=>absurd rfl h,λh=>absurd rfl h,Ia.nil N zH⟩
def Xrs:CI zH [] zW:=by refine⟨rfl,rfl,rfl,rfl,.refl _,λj hj=>(by cases hj),List.nodup_nil,λa ha=>(by rfl),List.nodup_nil,⟨λ_=>False,λ_=>0,?_⟩⟩;exact⟨λa ha=>(by grind),λa ha=>(by cases ha),λa ha=>ha.elim,λa b ha=>ha.elim,λa ha=>ha.elim,λa ha=>ha.elim⟩
structure Ov(N:Nat)(h:Wk)(l:List Int)(w:WD):Prop where
 st:Start N h l
 ci:CI h l w
 sc:w.d=0
 pr:Us h\/h.p=[]
def Xlo(hN:NB N){h:Wk}(hb:HB h):Ok (Qc2 N h) λr=>∃h' l,Ov N h' l r.1:=by
 have hN':=hN;unfold NB at hN';have hb2:=hb.2;have zero:∃h' l,Ov N h' l zW:=⟨zH,[],Xln N,Xrs,rfl,.inr rfl⟩
 refine WH (YB (N:=N) aa hb.1 hb.2) λb eb hp=>Wm (λ_=>We zero) λhb1=>?_;have hp:=hp (by simp_all);refine WH (Kf hN hb) λb _ hg=>Wm (λ_=>We zero) λhb2=>?_;have hg:=hg (by simp_all);refine WH (ZI hN hb) λy _ hy=>WS aa ?_;refine WH (Xat h y aa N 0 h.p aa aa aa (SameK.refl _)) λqs _ hqs=>We ?_;exact⟨h,y.1,⟨hb,λ_=>hg,λ_=>hp,hy.1⟩,Xcw hb hp hy.1 rfl rfl rfl hqs (.refl _) rfl rfl,rfl,.inl hp⟩
def Xf5(hN:NB N)(hs:Start N h0 l)(rs:List Int)(hl:rs.length<=1000000):∀(n:Nat)(i:Int)(w:WD)(out:List Int),0<=i->i<=rs.length->(rs.length-i).toNat<n->CI h0 l w->(out.length:Int)=i ->
 Ok (Qa7 N rs n i w.h.c.W w.h.c.p w.h.w w.h.p w.h.s w.h.b w.o w.t w.q w.d w.r.j w.r.K w.r.F w.r.E w.r.f w.r.y out) λe=>match e with
  |.ret r=>r.2.2≠0
  |.nxt t=>∃(w':WD) (out':List Int),CI h0 l w'/\w'.d=w.d/\out'.length=rs.length/\t=(w'.h.c.W,w'.h.c.p,w'.h.w,w'.h.p,w'.h.s,w'.h.b,w'.o,w'.t,w'.q,w'.d,w'.r.j,w'.r.K,w'.r.F,w'.r.E,w'.r.f,w'.r.y,out')
 |0,i,w,out,_,_,hn,_,_=>by omega
 |n+1,i,w,out,g0,hi,hn,hc,ho=>by
  refine Wm (λh1=>?_) λh1=>We ⟨w,out,hc,rfl,by grind,rfl⟩;have h1:i<rs.length:=Wu h1;rw[Xd (n:=i+1) aa aa];have⟨O,s,hob⟩:=hc.obj;refine Ok.get g0 h1 λp hp=>WH (Xcv hN hs hc hob p) λy _ hy=>Wm (λhe=>We (by simp_all)) λhe=>?_;have q:=hy (by simp_all);refine WS aa ((Xf5 hN hs rs hl n (i+1) y.1 (out++[y.2.1]) aa aa aa q.ci (by simp_all)).mono λe he=>?_);cases e with
  |ret r=>omega
  |nxt t=>have⟨w',o',c1,c2,c3,c4⟩:=he;exact⟨w',o',c1,c2.trans q.sc,c3,c4⟩
def Xf6(hN:NB N)(hs:Start N h0 l){rs:List Int}(hl:rs.length<=1000000){w:WD}(hc:CI h0 l w):Ok (Qdy N w rs) λr=>r.2.2=0->CI h0 l r.1/\r.1.d=w.d/\r.2.1.length=rs.length:=by have hN':=hN;unfold NB at hN';refine IH (Xf5 hN hs rs hl N 0 w [] aa aa aa hc rfl) (λa q=>We λe=>absurd e q) λb q=>We λ_=>?_;obtain⟨w',o',c1,c2,c3,rfl⟩:=q;exact⟨c1,c2,c3⟩
end
def XdS{d:Wy}{x:Int}(h:x∈Zi d):0<=x/\x<d.n:=by
 unfold Zi at h;by_cases hv:XI d=true
 .rw[Wq hv]at h;have:=JO h;omega
 simp_all
def XdT(d:Wy):(Zi d).length<=255:=by
 unfold Zi;by_cases hv:XI d=true
 .rw[Wq hv];have:=JP (d:=d) (k:=d.n.toNat) (i:=0);have:=XL hv;omega
 simp_all
section
variable {N:Nat}{h0:Wk}{l:List Int}
def Xif{w:WD}{O:Int->Prop}{s:Int->Int}(hc:CI h0 l w)(ho:I4 h0 l w O s){p x:Int}(hp:O p)(h1:p<x)(h2:x<p+s p)(v:Int):
 inW w.h.w x/\CI h0 l {w with h:={w.h with w:=w.h.w.set (ix x) v}}/\I4 h0 l {w with h:={w.h with w:=w.h.w.set (ix x) v}} O s:=by
 have hf:=ho.fit p hp;have hin:inW w.h.w x:=by unfold inW;omega
 have ho2:I4 h0 l {w with h:={w.h with w:=w.h.w.set (ix x) v}} O s:=by
  refine⟨ho.old,ho.queue,λa ha=>?_,ho.apart,ho.taken,ho.free⟩;show 4096<=a/\1<=s a/\a+s a<=4096+(w.h.w.set (ix x) v).length/\szA (w.h.w.set (ix x) v) a<=s a;obtain⟨f1,f2,f3,f4⟩:=ho.fit a ha;rw[WR];refine⟨f1,f2,f3,?_⟩;have:a≠x:=by
   rintro rfl;by_cases he:a=p
   .omega
   have:=ho.apart a p ha hp he;omega
  unfold szA hdA at *;rw[Xhf hin f1,Wn this];exact f4
 refine⟨hin,⟨hc.conf,?_,hc.plen,hc.spc,hc.old,hc.tk,hc.tnd,hc.knd,hc.qnd,⟨O,s,ho2⟩⟩,ho2⟩;rw[WR];exact hc.wlen
def Xig(hN:NB N)(hs:Start N h0 l){p:Int}{ks:List Int}(hkl:ks.length<=255):∀(n:Nat)(i:Int)(w:WD)(O:Int->Prop)(s:Int->Int),0<=i->i<=ks.length->(ks.length-i).toNat<n->CI h0 l w->I4 h0 l w O s->O p->(∀k∈ks,0<=k/\k<255/\k+1<s p) ->
 Ok (Qbs N p ks n i w.h.c.W w.h.c.p w.h.w w.h.p w.h.s w.h.b w.o w.t w.q w.d w.r.j w.r.K w.r.F w.r.E w.r.f w.r.y) λe=>match e with
  |.ret r=>r.2.2≠0
  |.nxt t=>∃(w':WD),CI h0 l w'/\w'.d=w.d/\w.q.length<=w'.q.length/\t=(w'.h.c.W,w'.h.c.p,w'.h.w,w'.h.p,w'.h.s,w'.h.b,w'.o,w'.t,w'.q,w'.d,w'.r.j,w'.r.K,w'.r.F,w'.r.E,w'.r.f,w'.r.y)
 |0,i,w,O,s,_,_,hn,_,_,_,_=>by omega
 |n+1,i,w,O,s,g0,hi,hn,hc,ho,hp,hk=>by
  have hN':=hN;unfold NB at hN';have hb1:=hs.hb.1;refine Wm (λh1=>?_) λh1=>We ⟨w,hc,rfl,Un _,rfl⟩;have h1:i<ks.length:=Wu h1;rw[Xd (n:=i+1) aa aa];refine Ok.get g0 h1 λk hk2=>?_;have hkm:=Yy hk2;have⟨k0,k1,k2⟩:=hk k hkm;have hf:=ho.fit p hp;have hwl:=hc.wlen;rw[Xx (n:=p+1) aa aa,Xx (n:=k) aa aa,Xx (n:=p+1+k) aa aa];rw[YK (hc.wl hs.hb),Xa];refine WH (Xcv hN hs hc ho _) λy _ hy=>Wm (λhe=>We (by simp_all)) λhe=>?_;have q:=hy (by simp_all);have⟨O',s',ho',hx⟩:=q.ob;have⟨hp',hs'⟩:=hx p hp;have st:=Xif q.ci ho' hp' (x:=p+1+k) aa aa y.2.1;rw[Jv (q.ci.wl hs.hb) aa,Xa,Wq st.1];refine(Xig hN hs hkl n (i+1) _ O' s' aa aa aa st.2.1 st.2.2 hp' (λk' hk'=>by simp_all)).mono λe he=>?_;cases e with
  |ret r=>omega
  |nxt t=>have⟨w',c1,c2,c3,c4⟩:=he;exact⟨w',c1,c2.trans q.sc,Um q.ql c3,c4⟩
def Xn2(hN:NB N)(hs:Start N h0 l){w:WD}(hc:CI h0 l w)(h0s:0<=w.d)(h1s:w.d<=w.q.length):Ok (QfF N w) λr=>r.2.2=0->CI h0 l r.1/\0<=r.1.d/\r.1.d<=r.1.q.length/\(r.2.1=true->r.1.d=w.d+1):=by
 have hN':=hN;unfold NB at hN';have hb:=hs.hb;have hql:=hc.ql hb;refine Wm (λ_=>We λ_=>⟨hc,h0s,h1s,λe=>by grind⟩) λhlt=>?_;have hlt:w.d<w.q.length:=by have:=WL hlt;omega
 refine Ok.get h0s hlt λp hp=>?_;have hpm:=Yy hp;have⟨O,s,ho⟩:=hc.obj;have hOp:=ho.queue p hpm;have hf:=ho.fit p hOp;have hin:inW w.h.w p:=by unfold inW;omega
 rw[Qek,YK (hc.wl hb),Xa,Wq hin,Kz,Xa,Xa,XfT aa,Xa];have hkl:=XdT (hdA w.h.w p);have hvl:=XL (ZG (wd w.h.w p));refine IH (Xig hN hs (p:=p) (ks:=Zi (hdA w.h.w p)) hkl N 0 w O s aa aa aa hc ho hOp λk hk=>?_) (λa q=>We λe=>absurd e q) λt q=>We λ_=>?_
 .have h1:=XdS hk;have h2:szA w.h.w p=(hdA w.h.w p).n+1:=rfl;have h3:(hdA w.h.w p).n<=255:=hvl.2.2.2;omega
 obtain⟨w',c1,c2,c3,rfl⟩:=q;have e:wI (w'.d+1)=w.d+1:=by rw[c2,Xd aa aa]
 refine⟨⟨c1.conf,c1.wlen,c1.plen,c1.spc,c1.old,c1.tk,c1.tnd,c1.knd,c1.qnd,?_⟩,?_,?_,λ_=>e⟩
 .have⟨O,s,h⟩:=c1.obj;exact⟨O,s,⟨h.old,h.queue,h.fit,h.apart,h.taken,h.free⟩⟩
 .show 0<=wI (w'.d+1);omega
 grind
def Xlp(hN:NB N)(hs:Start N h0 l):∀(n:Nat)(w:WD),CI h0 l w->0<=w.d->w.d<=w.q.length->(100001-w.d).toNat<n ->
 Ok (QbG N n w.h.c.W w.h.c.p w.h.w w.h.p w.h.s w.h.b w.o w.t w.q w.d w.r.j w.r.K w.r.F w.r.E w.r.f w.r.y) λr=>r.2=0->CI h0 l r.1
 |0,w,_,_,_,hn=>by omega
 |n+1,w,hc,g0,g1,hn=>by refine WH (Xn2 hN hs hc g0 g1) λy _ hy=>Wm (λhe=>We λe=>absurd e (by simp_all)) λhe=>?_;have⟨q1,q2,q3,q4⟩:=hy (by simp_all);refine Wm (λ_=>We λ_=>q1) λhb=>?_;have q4:y.1.d=w.d+1:=q4 (by simp_all);have:=q1.ql hs.hb;exact Xlp hN hs n y.1 q1 q2 q3 aa
def Xlq(hN:NB N)(hs:Start N h0 l){w:WD}(hc:CI h0 l w)(g0:0<=w.d)(g1:w.d<=w.q.length):Ok (QeU N w) λr=>r.2=0->CI h0 l r.1:=by have hN':=hN;unfold NB at hN';exact WH (Xlp hN hs N w hc g0 g1 aa) λy _ hy=>We hy
def Xlr(hN:NB N)(hs:Start N h0 l){w:WD}(hq:w.q.length<=100000)(hw:w.h.w.length<=BIG)(a:Int):Ok (Qdz N w a) λ_=>True:=by have hN':=hN;unfold NB at hN';rw[Qdz,YF a aa aa,Xa];refine Wm (λ_=>We trivial) λ_=>?_;rw[YK hw,Xa,Jw,Xa];exact We trivial
def XeN(hN:NB N){w:WD}(hb:HB h0)(hc:CI h0 l w){s:Int->Int}(hll:w.o.length<=4096)(hpw:w.o.Pairwise λa b=>a+s a<=b)(hfit:∀a∈w.o,4096<=a/\1<=s a/\a+s a<=4096+h0.w.length):∀(n k:Nat)(v:List Int)(c:Int),k<=w.o.length->w.o.length-k<n->v.length=h0.w.length->(∀a∈w.o.drop k,szA v a<=s a) ->
 Ok (QaT N w n (k:Int) v c) λr=>r.1.length=h0.w.length
 |0,k,v,c,_,hn,_,_=>by omega
 |n+1,k,v,c,hk,hn,hv,hs=>by
  have hN':=hN;unfold NB at hN';have hb1:=hb.1;have hql:=hc.ql hb;have htl:=hc.tl hb;refine Wm (λh1=>?_) λ_=>We hv;have h1:k<w.o.length:=by have:=Wu h1;omega
  have hkl:(k:Int)<w.o.length:=aa;have hdr:=Wr h1;rw[Xd (n:=(k:Int)+1) aa aa,show((k:Int)+1)=((k+1:Nat):Int) by omega];have gp:∀p,Xb w.o (k:Int)=some p->p=w.o[k]:=by intro p hp;rw[Xe,Wc h1]at hp;exact(WK hp).symm
  have next:Ok (QaT N w n ((k+1:Nat):Int) v c) λr=>r.1.length=h0.w.length:=
   XeN hN hb hc hll hpw hfit n (k+1) v c aa aa hv λa ha=>hs a (by rw[hdr];exact Ul _ ha)
  refine Ok.get aa hkl λp hp=>?_;rw[Jx,Xa];refine WH (Xbu hN (w:={w with h:={w.h with w:=v},r:=⟨_,_,_,_,_,_⟩}) htl _) λb _ _=>Wm (λ_=>next) λ_=>?_;refine Ok.get aa hkl λp hp=>?_;rw[YF p aa aa,Xa];refine Wm (λ_=>next) λ_=>Ok.get aa hkl λp hp=>?_;have hpe:=gp p hp;have hpm:p∈w.o:=by rw[hpe];exact WO h1
  have⟨f1,f2,f3⟩:=hfit p hpm;have hsp:=hs p (by rw[hdr,←hpe];exact List.mem_cons_self);have hin:inW v p:=by unfold inW;omega
  have hsz:=YT v p;rw[Qek,YK (by show v.length<=BIG;unfold BIG;omega),Xa,Wq hin,Kz,Xa,Xa,Ky,Xa];refine Ok.get aa hkl λp' hp'=>?_;obtain rfl:p=p':=hpe.trans (gp p' hp').symm;have e1:szA v p=(hdA v p).n+1:=rfl;have e2:(ZF (v.getD (ix p) 0)).n=(hdA v p).n:=rfl;refine WS (by rw[e2];omega) (WS (by rw[e2];omega) ?_);have hlen:∀x:Int,([x]++List.replicate (ZF (v.getD (ix p) 0)).n.toNat (0:Int)).length=(szA v p).toNat:=by intro x;rw[WQ,WU,e2];simp only[Uo,IE];omega
  rw[Zz (by unfold BIG;omega) (by rw[hlen];unfold BIG;omega) (by rw[hlen];omega),Xa,hlen,Wq (by unfold Yh;omega)];have hlo:∀x:Int,(ovr v ([x]++List.replicate (ZF (v.getD (ix p) 0)).n.toNat (0:Int)) (ix p)).length=v.length:=by intro x;apply ZE;rw[hlen];unfold ix;omega
  refine XeN hN hb hc hll hpw hfit n (k+1) _ _ aa aa ((hlo _).trans hv) λa ha=>?_;have ham:a∈w.o:=WP ha;have hle:p+s p<=a:=by have hp2:=hpw.drop (i:=k);rw[hdr,ID]at hp2;rw[hpe];exact hp2.1 a ha
  have:∀x:Int,szA (ovr v ([x]++List.replicate (ZF (v.getD (ix p) 0)).n.toNat (0:Int)) (ix p)) a=szA v a:=by intro x;unfold szA hdA wd;rw[Xcq (by rw[hlen];unfold ix;omega),hlen,Wn];unfold ix;have:p+szA v p<=a:=aa;omega
  grind
def Xih(hN:NB N)(hs:Start N h0 l){w:WD}(hc:CI h0 l w):Ok (QeV N w) λr=>r.h.c=h0.c/\r.h.w.length=h0.w.length/\r.h.p=w.h.p/\r.h.p.length=h0.p.length/\r.t.length<=100000:=by
 have hN':=hN;unfold NB at hN';have hb:=hs.hb;have⟨O,s,ho⟩:=hc.obj;have hpw:w.o.Pairwise λa b=>a+s a<=b:=by refine List.Pairwise.imp_of_mem ?_ (hs.st.obj.pw.sublist hc.old);intro a b ha _ h;rw[(ho.old a (hc.old.subset ha)).2];exact h
 have hol:=Um hc.old.length_le hs.st.len;have hwl:=hc.wlen;have:=XeN hN (w:=w) hb hc (s:=s) hol hpw (λa ha=>by have:=ho.fit a (ho.old a (hc.old.subset ha)).1;omega) N 0 w.h.w w.r.F aa aa hwl λa ha=>(ho.fit a (ho.old a (hc.old.subset (WP ha))).1).2.2.2;have htl:w.t.length<=100000:=hc.tl hb;refine WH this λr _ hr=>We ⟨hc.conf,hr,rfl,hc.plen,htl⟩
def Xii{w:WD}(v4:List Wt)(p5:Wt)(i c:Int)(hp:Us h0)(hc:w.h.c=h0.c)(g0:0<=i)(g1:i<h0.c.p):∀(n:Nat)(k:Int)(v:List Int),0<=k->(65-k).toNat<n->v.length=h0.w.length->Ok (Qbt N w v4 p5 i c n k v) λr=>r.length=h0.w.length
 |0,k,v,_,hn,_=>by omega
 |n+1,k,v,k0,hn,hv=>by have hvc:=Xl.1 hp.conf;have hm:=XW hp.conf g0 g1;have hw:=hp.words;rw[Qbt,hc];refine Wm (λh1=>?_) λ_=>We hv;have h1:k<h0.c.W:=Wu h1;rw[Xd (n:=k+1) aa aa,Xd (n:=i*h0.c.W) aa aa,Xd (n:=i*h0.c.W+k) aa aa];refine Ok.get aa aa λp _=>Xii v4 p5 i c hp hc g0 g1 n (k+1) _ aa aa (by simp_all)
def XbP(hN:NB N){w:WD}(hb:HB h0)(hp:Us h0\/h0.p=[])(hc:w.h.c=h0.c):∀(n:Nat)(i c:Int)(v:List Int)(ps:List Wt),0<=i->i<=h0.p.length->(h0.p.length-i).toNat<n->v.length=h0.w.length->ps.length=h0.p.length->Ok (Qa0 N w n i c v ps) λr=>r.2.1.length=h0.w.length/\r.2.2.length=h0.p.length
 |0,i,c,v,ps,_,_,hn,_,_=>by omega
 |n+1,i,c,v,ps,g0,gi,hn,hv,hps=>by
  have hN':=hN;unfold NB at hN';have hb2:=hb.2;refine WS aa (Wm (λh1=>?_) λ_=>We ⟨hv,hps⟩);have h1:i<ps.length:=Wu h1;rw[Xd (n:=i+1) aa aa];have next:=XbP hN (w:=w) hb hp hc n (i+1) c v ps aa aa aa hv hps
  refine Ok.get g0 h1 λp _=>Wm (λ_=>next) λ_=>Wm (λ_=>next) λ_=>Ok.get g0 h1 λp6 _=>?_;rcases hp with hp|hp
  .have hpp:=hp.pages;refine WH (Xii ps p i c hp hc g0 aa N 0 v aa aa hv) λr _ hr=>?_;exact XbP hN hb (.inl hp) hc n (i+1) _ r _ aa aa aa hr (by rw[WR];exact hps)
  grind
def Xn3(hN:NB N){w:WD}(hb:HB h0)(hp:Us h0\/h0.p=[])(hc:w.h.c=h0.c)(hw:w.h.w.length=h0.w.length)(hpl:w.h.p.length=h0.p.length):Ok (Qeh N w) λr=>HB r.h/\r.t=w.t:=by
 have hN':=hN;unfold NB at hN';have hb1:=hb.1;have hb2:=hb.2;refine WS aa (WS aa (WH (XbP hN hb hp hc N 0 _ _ _ aa aa aa hw hpl) λr _ hr=>We ⟨⟨?_,?_⟩,rfl⟩))
 .show r.2.1.length<=_;omega
 simp_all
def XeO(hN:NB N)(hs:Start N h0 l)(ws:List Int)(hl:ws.length<=1000000)(y5:WD×List Int×Int)(y6:WD×Int)(hc:CI h0 l y6.1):∀(n:Nat)(i c:Int)(out:List Int),0<=i->i<=ws.length->(ws.length-i).toNat<n->(out.length:Int)=i->Ok (Qa2 N ws y5 y6 n i c out) λr=>r.2.length=ws.length
 |0,i,c,out,_,_,hn,_=>by omega
 |n+1,i,c,out,g0,gi,hn,ho=>by
  refine Wm (λh1=>?_) λh1=>We (by grind);have h1:i<ws.length:=Wu h1;rw[Xd (n:=i+1) aa aa];have next:=λc' x=>XeO hN hs ws hl y5 y6 hc n (i+1) c' (out++[x]) aa aa aa (by simp_all)
  refine Ok.get g0 h1 λp _=>U6 (Wm (λ_=>Ok.get g0 h1 λp _=>?_) λ_=>WS aa (next _ _));refine WH (Xlr hN hs (w:=⟨_,_,_,_,_,_⟩) (hc.ql hs.hb) (hc.wl hs.hb) p) λy _ _=>U6 (Wm (λ_=>WS aa (next _ _)) λ_=>WS aa (next _ _))
structure Oo(rs ws:List Int)(r:Wk×List Int×List Int×WM×Int):Prop where
 hb:HB r.1
 len:r.2.2.2.2=0->r.2.1.length=rs.length/\r.2.2.1.length=ws.length
 no:r.2.2.2.2≠0->r.2.1=[]/\r.2.2.1=[]
def QkY(hN:NB N){h:Wk}(hb:HB h){rs ws:List Int}(hr:rs.length<=1000000)(hw:ws.length<=1000000):Ok (QcJ N h rs ws) (Oo rs ws):=by
 have hN':=hN;unfold NB at hN';have bad:∀e:Int,e≠0->Oo rs ws (zH,[],[],⟨0,0,0,0,0,0⟩,e):=λe he=>⟨Z5,λh=>absurd h he,λ_=>⟨rfl,rfl⟩⟩
 refine WH (YB (N:=N) aa hb.1 hb.2) λb _ _=>Wm (λ_=>We (bad 1 ae)) λ_=>U6 ?_;refine WH (Jy hN hb hr) λb _ _=>Wm (λ_=>We (bad 19 ae)) λ_=>?_;refine WH (Jy hN hb hw) λb _ _=>Wm (λ_=>We (bad 19 ae)) λ_=>?_;refine WH (Xlo hN hb) λy4 _ hy4=>?_;have⟨h',l,bq⟩:=hy4;have hs:=bq.st;refine WH (Xf6 hN hs hr bq.ci) λy5 _ hy5=>Wm (λhe=>We (bad _ (by simp_all))) λhe=>?_;have⟨c1,c2,c3⟩:=hy5 (by simp_all);have hsc:=bq.sc;refine WH (Xlq hN hs c1 aa aa) λy6 _ hy6=>Wm (λhe=>We (bad _ (by simp_all))) λhe=>?_;have d1:=hy6 (by simp_all);refine WH (XeO hN hs ws hw y5 y6 d1 N 0 _ [] aa aa aa rfl) λy16 _ hy16=>?_;have d2:CI h' l (WD.mk y6.1.h y6.1.o y6.1.t y6.1.q y6.1.d (WM.mk y6.1.r.j y6.1.r.K y6.1.r.F y6.1.r.E y16.1 y6.1.r.y)):=by obtain⟨O,s,ho⟩:=d1.obj;exact⟨d1.conf,d1.wlen,d1.plen,d1.spc,d1.old,d1.tk,d1.tnd,d1.knd,d1.qnd,⟨O,s,⟨ho.old,ho.queue,ho.fit,ho.apart,ho.taken,ho.free⟩⟩⟩
 refine WH (Xih hN hs d2) λy17 _ ⟨f1,f2,f3,f4,f5⟩=>?_;refine WH (Xn3 hN (h0:=h') hs.hb bq.pr f1 f2 f4) λy18 _ ⟨g1,g2⟩=>?_;have fin:∀x:Int,Oo rs ws ((Wk.mk y18.h.c y18.h.w y18.h.p (wI (1-y18.h.s)) x),y5.2.1,y16.2,y18.r,0):=λx=>⟨g1,λ_=>⟨c3,hy16⟩,λh=>absurd rfl h⟩
 refine U6 (Wm (λht=>?_) λ_=>We (fin _));have ht:0<(y18.t.length:Int):=Wu ht;rw[g2]at ht⊢;rw[Xd aa aa];exact Ok.get aa aa λp _=>We (fin _)
end
def Zq{α σ:Type}(q:σ->Nat->α->Bool)(nxp:σ->α->σ):σ->Nat->List α->Bool
 |_,_,[]=>true
 |s,k,x::l=>q s k x&&Zq q nxp (nxp s x) (k+1) l
def ZL{α:Type}(q:α->Bool):∀(k:Nat)(l:List α),Zq (λ(_:Unit) _ x=>q x) (λs _=>s) () k l=l.all q
 |_,[]=>rfl
 |k,x::l=>by rw[Zq,ZL q (k+1) l,List.all_cons]
def Jz{α σ:Type}{l:List α}{F:Nat->σ->Int->Option (Ex Bool Unit)}{q:σ->Nat->α->Bool}{nxp:σ->α->σ}{I:σ->Prop}(hstep:∀(n:Nat)(s:σ)(k:Nat)(p:α),I s->l[k]? = some p->F (n+1) s (k:Int)=bif q s k p then F n (nxp s p) ((k+1:Nat):Int)else some (.ret false))(hstop:∀(n:Nat)(s:σ),F (n+1) s (l.length:Int)=some (.nxt ()))(hI:∀s k p,I s->l[k]? = some p->q s k p=true->I (nxp s p)):∀(n:Nat)(s:σ)(k:Nat),I s->k<=l.length->l.length-k<n->F n s (k:Int)=some (bif Zq q nxp s k (l.drop k)then .nxt ()else .ret false)
 |0,s,k,_,_,hn=>by omega
 |n+1,s,k,hs,hk,hn=>by
  by_cases h:k<l.length
  .have e:=Wc h;rw[hstep n s k _ hs e,Wr h,Zq];cases hq:q s k l[k]with
   |false=>rfl
   |true=>exact Jz hstep hstop hI n _ (k+1) (hI s k _ hs e hq) aa aa
  obtain rfl:k=l.length:=aa;rw[hstop,UE (Un _)];rfl
def K8{α:Type}{l:List α}{F:Nat->Int->Option (Ex Bool Unit)}{q:Nat->α->Bool}(hstep:∀(n:Nat)(k:Nat)(p:α),l[k]? = some p->F (n+1) (k:Int)=bif q k p then F n ((k+1:Nat):Int)else some (.ret false))(hstop:∀(n:Nat),F (n+1) (l.length:Int)=some (.nxt ())){n:Nat}(hn:l.length<n):F n 0=some (bif Zq (λ(_:Unit)=>q) (λs _=>s) () 0 l then .nxt ()else .ret false):=by have h:=Jz (F:=λn (_:Unit) i=>F n i) (q:=λ_=>q) (nxp:=λs _=>s) (I:=λ_=>True) (l:=l) (λn s k p _ e=>hstep n k p e) (λn _=>hstop n) (λ_ _ _ _ _ _=>trivial) n () 0 trivial aa aa;assumption
def Xk{k:Nat}{n:Nat}(h:k<n):decide ((k:Int)<(n:Int))=true:=Wg aa
def Xw(n:Nat):decide ((n:Int)<(n:Int))=false:=Wh aa
def XC{α:Type}{l:List α}{k:Nat}{p:α}(h:l[k]? = some p):k<l.length:=(Ii.1 h).1
def Xf{k:Nat}(h:k<=140737488355328):wI ((k:Int)+1)=((k+1:Nat):Int):=by rw[Xd aa aa];omega
def Xbv(e:W8):Bool:=!decide (e.G<1)&&(!decide (e.G>4294967295)&&(e.V||!(e.a != 0)))
def YZ(l:List W8):Bool:=l.all Xbv&&decide (l.length<=64)
def XT(l:List W8):List Int:=(l.filter (·.V)).map (·.a)
def Zd{N:Nat}{t:WE}(hl:t.e.length<=1000000)(hN:1000000<N):Qb7 N t=some (YZ t.e):=by
 have h:=K8 (l:=t.e) (F:=QcR N t) (q:=λ_=>Xbv) (λn k p e=>?_) (λn=>?_) (n:=N) aa
 .rw[Qb7,h,Xa,ZL,YZ];cases t.e.all Xbv
  .rw[Wa,XA];rfl
  rw[Wb,Xm,W3];congr 1;exact decide_eq_decide.2 aa
 .have hk:=XC e;rw[QcR,Xk hk,Wb,Xe,e,Xa,Xf aa];unfold Xbv;cases decide (p.G<1)<;>cases decide (p.G>4294967295)<;>cases p.V<;>cases (p.a != 0)<;>rfl
 simp[QcR,Xw,Wa]
def Xcx{N:Nat}{t:WE}(hl:t.e.length<=1000000)(hN:1000000<N)(hv:YZ t.e=true):∀(n k:Nat)(v:List Int),k<=t.e.length->t.e.length-k<n->v.length<=k ->
 Qbo N t n (k:Int) v=some (v++XT (t.e.drop k))
 |0,k,v,_,hn,_=>by omega
 |n+1,k,v,hk,hn,hlv=>by
  rw[Qbo];by_cases h:k<t.e.length
  .rw[Xk h,Wb,Zd hl hN,Xa,hv,Wb,Xe,Wc h,Xa,Xa,Xf aa,Wr h,XT];cases hL:t.e[k].V
   .rw[Wa,Xcx hl hN hv n (k+1) v aa aa aa,UQ (by simp_all)];rfl
   rw[Wb,Xc aa,Xcx hl hN hv n (k+1) _ aa aa (by simp_all),Uw aa];simp[XT]
  obtain rfl:k=t.e.length:=aa;simp[XT]
def Yk{N:Nat}{t:WE}(hl:t.e.length<=1000000)(hN:1000000<N):Qbl N t=some (bif YZ t.e then XT t.e else[]):=by
 rw[Qbl];cases hv:YZ t.e
 .obtain⟨m,rfl⟩:∃m,N=m+1:=⟨N-1,aa⟩
  rw[Qbo,Zd hl hN,hv];by_cases h:0<t.e.length
  .rw[show decide ((0:Int)<(t.e.length:Int))=true from Wg aa,Wb,Xa,Wa,Xa];rfl
  rw[show decide ((0:Int)<(t.e.length:Int))=false from Wh aa,Wa,Xa];rfl
 have h:=Xcx hl hN hv N 0 [] aa aa ab;rw[show((0:Nat):Int)=0 from rfl,WX,Uh]at h;simp[h,Xa]
def VF(l:List W8):(XT l).length<=l.length:=by unfold XT;grind
def Vl{l:List W8}(h:YZ l=true):l.length<=64:=by unfold YZ at h;simp_all
def Xls{l:List W8}(h:YZ l=true){e:W8}(he:e∈l):1<=e.G/\e.G<=4294967295/\(e.V=false->e.a=0):=by unfold YZ at h;rw[W6,Ud]at h;have:=h.1 e he;unfold Xbv at this;grind
def Zu(l:List W8)(i g:Int):Int×Int:=
 if YZ l=false then(0,1)else if i<0\/(l.length:Int)<=i\/g<1 then(0,6)else
 match l[i.toNat]? with
 |none=>(0,6)
 |some e=>if g>e.G then(0,6)else if g<e.G then(0,8)else if e.V then(e.a,0)else(0,8)
def Xau{N:Nat}{t:WE}(hl:t.e.length<=1000000)(hN:1000000<N)(i g:Int):QdI N t i g=some (Zu t.e i g):=by
 rw[QdI,Zd hl hN,Xa,Zu];cases hv:YZ t.e
 .rfl
 simp only[Wo,Wa,Uv,Bool.true_eq_false,if_false];by_cases h0:i<0
 .simp_all
 by_cases h1:i>=(t.e.length:Int)
 .simp_all
 by_cases h2:g<1
 .simp_all
 have hlt:i.toNat<t.e.length:=aa;rw[Wn h2,Wn aa,Yj aa aa,Xa,Wc hlt];simp only[Xa];grind
def K9{α σ:Type}{q:σ->Nat->α->Bool}{nxp:σ->α->σ}:∀(l:List α)(s:σ)(k:Nat),Zq q nxp s k l=true↔∀i p,l[i]? = some p->q ((l.take i).foldl nxp s) (k+i) p=true
 |[],s,k=>by simp[Zq]
 |x::l,s,k=>by
  rw[Zq,W6,K9 l (nxp s x) (k+1)];constructor
  .rintro⟨h1,h2⟩ i p hp;cases i with
   |zero=>simp_all
   |succ i=>grind
  intro h;refine⟨h 0 x rfl,λi p hp=>?_⟩;have:=h (i+1) p (by exact hp);grind
def Xn4(l:List Int):Bool:=l.all λp=>!decide (p<0)&&!decide (p>4095)
def stQ(iss:List Int)(s:Int)(i:Nat)(p:UM):Bool:=!decide (p.J<=s)&&(!decide (p.J>(iss.length:Int))&&(!((iss.getD (p.J-1).toNat 0) != (i:Int))&&(p.V==(p.a != 0))))
def stB(iss:List Int)(l:List UM):Bool:=Zq (stQ iss) (λ_ p=>p.J) 0 0 l
def neQ(n:Nat)(s:Int)(i:Nat)(p:UU):Bool:=(!((i:Int)==0)||(!(p.O != 0)&&p.B0))&&(!decide (p.O<s)&&(!decide (p.O>(n:Int))&&(!decide (p.C0<0)&&!decide (p.C0>64))))
def neB(n:Nat)(l:List UU):Bool:=Zq (neQ n) (λ_ p=>p.O) 0 0 l
def Ja(l:List UM)(f t:Nat):Nat:=((l.drop f).take (t-f)).countP (·.V)
def toL(a:Ww)(i:Nat):Int:=match a.x[i+1]? with|some p=>p.O|none=>a.S.length
def Xlt(a:Ww)(_:Unit)(i:Nat)(p:UU):Bool:=!decide (((Ja a.S p.O.toNat (toL a i).toNat:Nat):Int)>p.C0)
def Xhi(a:Ww):Bool:=Zq (Xlt a) (λs _=>s) () 0 a.x
def Y3(a:Ww):Bool:=!decide ((a.i.length:Int)>4096)&&(!decide ((a.x.length:Int)>64)&&((!((a.x.length:Int)==0)||!decide ((a.S.length:Int)>0))&&(Xn4 a.i&&(stB a.i a.S&&(neB a.S.length a.x&&Xhi a)))))
def LBp(a:Ww):Prop:=a.S.length<=1000000/\a.x.length<=1000000/\a.i.length<=1000000
def Vm{n:Nat}{l:List UU}(h:neB n l=true){i:Nat}{p:UU}(hp:l[i]? = some p):0<=p.O/\p.O<=n/\0<=p.C0/\p.C0<=64/\(i=0->p.O=0/\p.B0=true)/\∀p',l[i+1]? = some p'->p.O<=p'.O:=by
 have hi:=(K9 l (0:Int) 0).1 h;have inv:∀(k:Nat)(p:UU),l[k]? = some p->0<=p.O:=by
  intro k;induction k with
  |zero=>intro p hp;have:=hi 0 p hp;unfold neQ at this;simp_all
  |succ k ih=>
   intro p hp;have hk:k<l.length:=by have:=XC hp;omega
   have e:=Wc hk;have h1:=ih _ e;have h2:=hi (k+1) p hp;rw[List.take_add_one,e]at h2;simp only[List.foldl_append,Option.toList,Ik,List.foldl_nil]at h2;unfold neQ at h2;grind
 have h0:=hi i p hp;unfold neQ at h0;simp at h0;refine⟨inv i p hp,aa,aa,aa,λhz=>?_,λp' hp'=>?_⟩
 .simp_all
 have h2:=hi (i+1) p' hp';rw[List.take_add_one,hp]at h2;unfold neQ at h2;simp_all
def XdU{iss:List Int}{l:List UM}(h:stB iss l=true){i:Nat}{p:UM}(hp:l[i]? = some p):(i:Int)+1<=p.J/\p.J<=iss.length/\iss.getD (p.J-1).toNat 0=i/\(p.V=true↔p.a≠0):=by
 have hi:=(K9 l (0:Int) 0).1 h;have inv:∀(k:Nat)(p:UM),l[k]? = some p->(k:Int)+1<=p.J:=by
  intro k;induction k with
  |zero=>intro p hp;have:=hi 0 p hp;unfold stQ at this;simp at this;have:=WL this.1;omega
  |succ k ih=>
   intro p hp;have hk:k<l.length:=by have:=XC hp;omega
   have e:=Wc hk;have h1:=ih _ e;have h2:=hi (k+1) p hp;rw[List.take_add_one,e]at h2;simp only[List.foldl_append,Option.toList,Ik,List.foldl_nil]at h2;unfold stQ at h2;simp at h2;omega
 have h0:=hi i p hp;unfold stQ at h0;simp_all
structure Oq(a:Ww):Prop where
 iss:a.i.length<=4096
 sc:a.x.length<=64
 none:a.x.length=0->a.S.length=0
 issr:∀x∈a.i,0<=x/\x<=4095
 st:stB a.i a.S=true
 ne:neB a.S.length a.x=true
 cap:Xhi a=true
def Zj{a:Ww}:Y3 a=true↔Oq a:=by
 unfold Y3 Xn4;simp only[W6,IL,Iy,Ij,Ud,beq_eq_false_iff_ne];constructor
 .rintro⟨h1,h2,h3,h4,h5,h6,h7⟩;exact⟨aa,aa,λe=>aa,λx hx=>by simp_all,h5,h6,h7⟩
 intro h;exact⟨by have:=h.iss;omega,by have:=h.sc;omega,by have:=h.none;omega,λx hx=>by have:=h.issr x hx;omega,h.st,h.ne,h.cap⟩
def Oq.slots{a:Ww}(h:Oq a):a.S.length<=a.i.length:=by
 by_cases hz:a.S.length=0
 .omega
 have e:=Wc (show a.S.length-1<a.S.length by omega);have:=XdU h.st e;omega
def XeP{N:Nat}{a:Ww}(hl:a.S.length<=1000000)(t:Nat)(ht:t<=a.S.length):∀(n f c:Nat),t-f<n->c<=f->f<=1000000->QdU N a (t:Int) n (c:Int) (f:Int)=some (((c+Ja a.S f t:Nat):Int))
 |0,f,c,hn,_,_=>by omega
 |n+1,f,c,hn,hc,hf=>by
  rw[QdU];by_cases h:f<t
  .have hlt:f<a.S.length:=aa;rw[show decide ((f:Int)<(t:Int))=true from Wg aa,Wb,Xe,Wc hlt,Xa,Xf aa,Xf aa];have e:Ja a.S f t=(if a.S[f].V then 1 else 0)+Ja a.S (f+1) t:=by unfold Ja;rw[Wr hlt,show t-f=(t-(f+1))+1 by omega,List.take_succ_cons,List.countP_cons];omega
   cases hL:a.S[f].V
   .rw[Wa,XeP hl t ht n (f+1) c aa aa aa,e,hL];simp
   rw[Wb,XeP hl t ht n (f+1) (c+1) aa aa aa,e,hL];grind
  rw[show decide ((f:Int)<(t:Int))=false from Wh aa,Wa];unfold Ja;simp_all
def Xij{N:Nat}{a:Ww}(hl:a.S.length<=1000000)(hN:1000000<N){f t:Int}(f0:0<=f)(f1:f<=1000000)(t0:0<=t)(t1:t<=a.S.length):Qgp N a f t=some ((Ja a.S f.toNat t.toNat:Nat):Int):=by obtain⟨f,rfl⟩:=UB f0;obtain⟨t,rfl⟩:=UB t0;rw[Qgp];have:=XeP (N:=N) hl t aa N f 0 aa aa aa;rw[show((0:Nat):Int)=0 from rfl]at this;simp[this,Xa]
def Xrt{N:Nat}{a:Ww}{i:Nat}(hi:i<=1000000):QhV N a (i:Int)=some (toL a i):=by
 rw[QhV,Xf aa,toL];by_cases h:i+1<a.x.length
 .rw[Xk h,Wb,Xe,Wc h,Xa]
 grind
def Xru{a:Ww}(h:neB a.S.length a.x=true)(i:Nat):0<=toL a i/\toL a i<=a.S.length:=by
 unfold toL;cases e:a.x[i+1]? with
 |none=>simp
 |some p=>have:=Vm h e;simp_all
def ZB{N:Nat}{a:Ww}(hl:LBp a)(hN:1000000<N):Qb8 N a=some (Y3 a):=by
 have⟨hl1,hl2,hl3⟩:=hl;have h1:=K8 (l:=a.i) (F:=Qdl N a) (q:=λ_ p=>!decide (p<0)&&!decide (p>4095)) (λn k p e=>by
  have hk:=XC e
  rw[Qdl,Xk hk,Wb,Xe,e,Xa,Xa,Xf aa]
  cases decide (p<0)<;>cases decide (p>4095)<;>rfl) (λn=>by rw[Qdl,Xw,Wa]) (n:=N) aa
 have h2:=Jz (l:=a.S) (F:=λn s i=>Qao N a n s i) (q:=stQ a.i) (nxp:=λ_ p=>p.J) (I:=λs=>0<=s) (λn s k p hs e=>by
  have hk:=XC e
  show Qao N a (n+1) s (k:Int)=_
  rw[Qao,Xk hk,Wb,Xe,e,Xa,Xf aa]
  unfold stQ
  cases g1:decide (p.J<=s)
  .cases g2:decide (p.J>(a.i.length:Int))
   .have g1:=WL g1
    have g2:=WL g2
    rw[Wa,Wa,Xd aa aa,Yj aa aa,Xa]
    have ge:a.i[(p.J-1).toNat]'aa=a.i.getD (p.J-1).toNat 0:=by
     rw[Wp,Wc aa];rfl
    rw[ge]
    cases (a.i.getD (p.J-1).toNat 0 != (k:Int))<;>cases (p.V==(p.a != 0))<;>rfl
   .rfl
  .rfl) (λn s=>by show Qao N a (n+1) s _=_;rw[Qao,Xw,Wa]) (λs k p hs e hq=>by
   unfold stQ at hq
   simp only[W6,IL,Iy]at hq
   have:=hq.1
   omega) N 0 0 aa aa aa
 have h3:=Jz (l:=a.x) (F:=λn s i=>Qan N a n s i) (q:=neQ a.S.length) (nxp:=λ_ p=>p.O) (I:=λ_=>True) (λn s k p hs e=>by
  have hk:=XC e
  show Qan N a (n+1) s (k:Int)=_
  rw[Qan,Xk hk,Wb,Xe,e,Xa,Xf aa]
  unfold neQ
  cases ((k:Int)==0)<;>cases (p.O != 0)<;>cases p.B0<;>cases decide (p.O<s)<;>cases decide (p.O>(a.S.length:Int))<;>cases decide (p.C0<0)<;>cases decide (p.C0>64)<;>rfl) (λn s=>by show Qan N a (n+1) s _=_;rw[Qan,Xw,Wa]) (λ_ _ _ _ _ _=>trivial) N 0 0 trivial aa aa
 rw[ZL]at h1;rw[Qb8,XF,h1,Xa];have e2:Qao N a N 0 0=some (bif stB a.i a.S then .nxt ()else .ret false):=h2;have e3:Qan N a N 0 0=some (bif neB a.S.length a.x then .nxt ()else .ret false):=h3;unfold Y3 Xn4;have main:(exK (bif (a.i.all λp=>!decide (p<0)&&!decide (p>4095))then Ex.nxt ()else Ex.ret false) (λr=>some r) λy4=>
  bnd (Qao N a N 0 0) λe=>exK e (λr=>some r) λy9=>
  bnd (Qan N a N 0 0) λe=>exK e (λr=>some r) λy13=>
  bnd (QcS N a N 0) λe=>exK e (λr=>some r) λy19=>some true)=some ((a.i.all λp=>!decide (p<0)&&!decide (p>4095))&&(stB a.i a.S&&(neB a.S.length a.x&&Xhi a))):=by
  cases (a.i.all λp=>!decide (p<0)&&!decide (p>4095))
  .rw[Wa,XA];rfl
  rw[Wb,Xm,W3,e2,Xa]
  cases stB a.i a.S
  .rw[Wa,XA];rfl
  rw[Wb,Xm,W3,e3,Xa]
  cases hne:neB a.S.length a.x
  .rw[Wa,XA];rfl
  rw[Wb,Xm,W3]
  have h4:=K8 (l:=a.x) (F:=QcS N a) (q:=Xlt a ()) (λn k p e=>by
   have hk:=XC e
   have hf:=Vm hne e
   have ht:=Xru hne k
   rw[QcS,Xk hk,Wb,Xe,e,Xa,Xrt aa,Xa,Xij hl1 hN hf.1 aa ht.1 ht.2,Xa,Xa,Xf aa]
   unfold Xlt
   cases decide (((Ja a.S p.O.toNat (toL a k).toNat:Nat):Int)>p.C0)<;>rfl) (λn=>by rw[QcS,Xw,Wa]) (n:=N) aa
  rw[h4,Xa]
  show exK (bif Xhi a then Ex.nxt ()else Ex.ret false) _ _=_
  cases Xhi a
  .rw[Wa,XA]
  .rw[Wb,Xm]
 grind
def zL:Ww:=⟨[],[],[]⟩
def X8(l:List UM):List Int:=(l.filter (·.V)).map (·.a)
def XaW(l:List UM):(X8 l).length<=l.length:=by unfold X8;grind
section
variable {N:Nat}{a:Ww}
def Xcy(hl:LBp a)(hN:1000000<N)(hv:Y3 a=true):∀(n k:Nat)(v:List Int),k<=a.S.length->a.S.length-k<n->v.length<=k ->
 Qbp N a n (k:Int) v=some (v++X8 (a.S.drop k))
 |0,k,v,_,hn,_=>by omega
 |n+1,k,v,hk,hn,hlv=>by
  have hl1:=hl.1;rw[Qbp];by_cases h:k<a.S.length
  .rw[Xk h,Wb,ZB hl hN,Xa,hv,Wb,Xe,Wc h,Xa,Xa,Xf aa,Wr h,X8];cases hL:a.S[k].V
   .rw[Wa,Xcy hl hN hv n (k+1) v aa aa aa,UQ (by simp_all)];rfl
   rw[Wb,Xc aa,Xcy hl hN hv n (k+1) _ aa aa (by simp_all),Uw aa];simp[X8]
  obtain rfl:k=a.S.length:=aa;simp[X8]
def Zk(hl:LBp a)(hN:1000000<N):QcE N a=some (bif Y3 a then X8 a.S else[]):=by
 rw[QcE];cases hv:Y3 a
 .obtain⟨m,rfl⟩:∃m,N=m+1:=⟨N-1,aa⟩
  rw[Qbp,ZB hl hN,hv];by_cases h:0<a.S.length
  .rw[show decide ((0:Int)<(a.S.length:Int))=true from Wg aa,Wb,Xa,Wa,Xa];rfl
  rw[show decide ((0:Int)<(a.S.length:Int))=false from Wh aa,Wa,Xa];rfl
 have h:=Xcy hl hN hv N 0 [] aa (by have:=hl.1;omega) ab;rw[show((0:Nat):Int)=0 from rfl,WX,Uh]at h;simp[h,Xa]
def V7(a:Ww):UU:=a.x.getD (a.x.length-1) ⟨0,0,false⟩
def Xcz(h:a.x.length≠0)(hl:a.x.length<=1000000):Xb a.x (wI ((a.x.length:Int)-1))=some (V7 a):=by rw[Xd aa aa,show(a.x.length:Int)-1=((a.x.length-1:Nat):Int) by omega,Xe,V7,Wp,Wc aa];rfl
def V8(a:Ww)(id:Int):Ww×Int×Int×Int:=
 if Y3 a=false then(zL,0,0,1)else if id=0 then(zL,0,0,1)else if a.x.length=0 then(zL,0,0,9)
 else if(V7 a).C0<=((Ja a.S (V7 a).O.toNat a.S.length:Nat):Int)then(zL,0,0,10)
 else if a.i.length=4096 then(zL,0,0,18)
 else(⟨a.S++[⟨(a.i.length:Int)+1,id,true⟩],a.x,a.i++[(a.S.length:Int)]⟩,(a.S.length:Int),(a.i.length:Int)+1,0)
def Xf7(hv:Y3 a=true)(h:a.x.length≠0):0<=(V7 a).O/\(V7 a).O<=a.S.length:=by
 have hf:=Zj.1 hv;have e:=Wc (show a.x.length-1<a.x.length by omega);have:=Vm hf.ne e;have e2:V7 a=a.x[a.x.length-1]:=by unfold V7;rw[Wp,e];rfl
 simp_all
def Xav(hl:LBp a)(hN:1000000<N)(id:Int):Qeo N a id=some (V8 a id):=by
 have⟨hl1,hl2,hl3⟩:=hl;rw[Qeo,ZB ⟨hl1,hl2,hl3⟩ hN,Xa,V8];cases hv:Y3 a
 .rfl
 rw[Wo,Wa,Wn ab];by_cases h1:id=0
 .subst h1;rfl
 rw[Wn h1,show(id==0)=false by simp_all,Wa];by_cases h2:a.x.length=0
 .rw[Wq h2,h2];rfl
 rw[Wn h2,show((a.x.length:Int)==0)=false by simp_all,Wa,Xcz h2 hl2,Xa];have ht:=Xf7 hv h2;rw[Xij hl1 hN ht.1 aa aa aa,Xa,Xa,Int.toNat_natCast];by_cases h3:(V7 a).C0<=((Ja a.S (V7 a).O.toNat a.S.length:Nat):Int)
 .rw[Wq h3,Wg (show((Ja a.S (V7 a).O.toNat a.S.length:Nat):Int)>=_ from h3),Wb];rfl
 rw[Wn h3,Wh (show¬((Ja a.S (V7 a).O.toNat a.S.length:Nat):Int)>=_ from h3),Wa];by_cases h4:a.i.length=4096
 .rw[Wq h4,h4];rfl
 rw[Wn h4,show((a.i.length:Int)==4096)=false by grind,Wa,Xc aa,Xc aa,Xc aa,Xc aa,Xd aa aa]
def ZA:LBp zL:=⟨by simp[zL],by simp[zL],by simp[zL]⟩
def Xik(hl:LBp a)(id:Int):LBp (V8 a id).1:=by
 have⟨hl1,hl2,hl3⟩:=hl;unfold V8;cases hv:Y3 a
 .exact ZA
 have hf:=Zj.1 hv;have hs:=hf.slots;have hi:=hf.iss;split
 .exact ZA
 split
 .exact ZA
 split
 .exact ZA
 split
 .exact ZA
 split
 .exact ZA
 refine⟨?_,hl2,?_⟩
 .simp;omega
 grind
def ZJ(a:Ww)(i g:Int):Int×Int:=
 if Y3 a=false then(0,1)else if g<1\/(a.i.length:Int)<g then(0,6)else
 if a.i.getD (g-1).toNat 0≠i then(0,6)else if(a.S.length:Int)<=i then(0,7)else
 match a.S[i.toNat]? with
 |none=>(0,7)
 |some p=>if p.J≠g then(0,7)else if p.V then(p.a,0)else(0,8)
def XeQ(hl:LBp a)(hN:1000000<N)(i g:Int):QeX N a i g=some (ZJ a i g):=by
 have hl':=hl;have⟨hl1,hl2,hl3⟩:=hl;rw[QeX,ZB hl' hN,Xa,ZJ];cases hv:Y3 a
 .rfl
 have hf:=Zj.1 hv;rw[Wo,Wa,Wn ab];by_cases h1:g<1
 .rw[Wg h1,Wb,Wq (.inl h1)]
 rw[Wh h1,Wa];by_cases h2:g>(a.i.length:Int)
 .rw[Wg h2,Wb,Wq (.inr h2)]
 have hlt:(g-1).toNat<a.i.length:=aa;rw[Wh h2,Wa,Wn aa,Xd aa aa,Yj aa aa,Xa];have ge:a.i[(g-1).toNat]=a.i.getD (g-1).toNat 0:=by rw[Wp,Wc hlt];rfl
 have hm:=hf.issr _ (WO hlt);rw[ge]at hm⊢;by_cases h3:a.i.getD (g-1).toNat 0=i
 .rw[h3]at hm⊢;rw[show(i != i)=false by simp,Wa,Wn ab];by_cases h4:i>=(a.S.length:Int)
  .rw[Wg h4,Wb,Wq h4]
  have hlt2:i.toNat<a.S.length:=aa;rw[Wh h4,Wa,Wn aa,Yj aa aa,Xa,Wc hlt2];simp only[Xa];by_cases h5:a.S[i.toNat].J=g
  .rw[h5,show(g != g)=false by simp,Wa,Wn ab];cases a.S[i.toNat].V<;>rfl
  rw[show(a.S[i.toNat].J != g)=true by simpa using h5,Wb,Wq h5]
 grind
def XdV{i g:Int}(h:(ZJ a i g).2=0):Y3 a=true/\0<=i/\∃p,a.S[i.toNat]? = some p/\p.J=g/\p.V=true/\(ZJ a i g).1=p.a:=by
 unfold ZJ at h⊢;cases hv:Y3 a
 .rw[hv]at h;cases h
 have hf:=Zj.1 hv;rw[hv]at h;by_cases h1:g<1\/(a.i.length:Int)<g
 .rw[Wq h1]at h;cases h
 rw[Wn h1]at h⊢;have hlt:(g-1).toNat<a.i.length:=aa;have ge:a.i[(g-1).toNat]=a.i.getD (g-1).toNat 0:=by rw[Wp,Wc hlt];rfl
 have hm:=hf.issr _ (WO hlt);by_cases h2:a.i.getD (g-1).toNat 0≠i
 .rw[Wq h2]at h;cases h
 rw[Wn h2]at h⊢;by_cases h3:(a.S.length:Int)<=i
 .rw[Wq h3]at h;cases h
 rw[Wn h3]at h⊢;have hi:0<=i:=by have:a.i.getD (g-1).toNat 0=i:=Classical.not_not.1 h2;omega
 have e:=Wc (show i.toNat<a.S.length by omega);rw[e]at h⊢;simp only at h⊢;by_cases h4:a.S[i.toNat].J≠g
 .rw[Wq h4]at h;cases h
 rw[Wn h4]at h⊢;cases hL:a.S[i.toNat].V
 .rw[hL]at h;cases h
 simp_all
def XaX(a:Ww)(i g:Int):Ww×Int:=
 if(ZJ a i g).2≠0 then(zL,(ZJ a i g).2)else(⟨a.S.set i.toNat ⟨g,0,false⟩,a.x,a.i⟩,0)
def XeR(hl:LBp a)(hN:1000000<N)(i g:Int):QdJ N a i g=some (XaX a i g):=by
 rw[QdJ,XeQ hl hN,Xa,XaX];by_cases h:(ZJ a i g).2=0
 .have⟨_,h0,p,hp,_⟩:=XdV h;have:=XC hp;have hl1:=hl.1;rw[h,show((0:Int) != 0)=false from rfl,Wa,Wn ab,Xc aa,Yj h0 aa,Xa]
 rw[show((ZJ a i g).2 != 0)=true by simp_all,Wb,Wq h];rfl
def Xil(hl:LBp a)(i g:Int):LBp (XaX a i g).1:=by
 unfold XaX;split
 .exact ZA
 exact⟨by rw[WR];exact hl.1,hl.2⟩
def JQ(a:Ww)(c:Int):Ww×Int:=
 if Y3 a=false\/c<0\/64<c then(zL,1)else if a.x.length=0 then(zL,9)else if a.x.length=64 then(zL,17)else(⟨a.S,a.x++[⟨(a.S.length:Int),c,false⟩],a.i⟩,0)
def Xaw(hl:LBp a)(hN:1000000<N)(c:Int):Qei N a c=some (JQ a c):=by
 have hl2:=hl.2.1;rw[Qei,Qgs,ZB hl hN,Xa,JQ];cases hv:Y3 a
 .rw[Uf,Wb,Xa,Wq (.inl rfl)];rfl
 rw[Wo,Wa];by_cases h1:c<0
 .rw[Wg h1,Wb,Xa,Wq (.inr (.inl h1))];rfl
 by_cases h2:c>64
 .rw[Wh h1,Wa,Wg h2,Wb,Xa,Wq (.inr (.inr h2))];rfl
 rw[Wh h1,Wa,Wh h2,Wa,XF,Uf,Wb,Wn (by simp_all)];by_cases h3:a.x.length=0
 .rw[Wq h3,h3];rw[show(((0:Nat):Int)==0)=true from rfl,Wb,Xa];rfl
 rw[Wn h3,show((a.x.length:Int)==0)=false by simp_all,Wa];by_cases h4:a.x.length=64
 .rw[Wq h4,h4];rw[show(((64:Nat):Int)==64)=true from rfl,Wb,Xa];rfl
 rw[Wn h4,show((a.x.length:Int)==64)=false by grind,Wa,Xc aa,Xc aa,Xa]
def Xf8(hl:LBp a)(c:Int):LBp (JQ a c).1:=by
 unfold JQ;cases hv:Y3 a
 .exact ZA
 have:=(Zj.1 hv).sc;split
 .exact ZA
 split
 .exact ZA
 split
 .exact ZA
 exact⟨hl.1,by grind,hl.2.2⟩
def ZY(a:Ww):Ww×Int:=
 if Y3 a=false then(zL,1)else if a.x.length=0 then(zL,9)else if(V7 a).B0 then(zL,9)else(⟨a.S.take (V7 a).O.toNat,a.x.take (a.x.length-1),a.i⟩,0)
def XbQ(hl:LBp a)(hN:1000000<N):QeY N a=some (ZY a):=by
 have⟨hl1,hl2,hl3⟩:=hl;rw[QeY,ZB ⟨hl1,hl2,hl3⟩ hN,Xa,ZY];cases hv:Y3 a
 .rfl
 by_cases h2:a.x.length=0
 .rw[Wq h2,h2];rfl
 have ht:=Xf7 hv h2;rw[Wn h2,show((a.x.length:Int)==0)=false by simpa using h2,Wa,Xcz h2 hl2,Xa];cases hB:(V7 a).B0
 .rw[Wa,QgZ,Xcz h2 hl2,Xa,Xd aa aa,Xc aa,Xc aa,Xc aa,Xc aa,Xa];rw[show((a.x.length:Int)-1).toNat=a.x.length-1 by omega];rfl
 rfl
def XbR(hl:LBp a):LBp (ZY a).1:=by
 unfold ZY;split
 .exact ZA
 split
 .exact ZA
 split
 .exact ZA
 have⟨hl1,hl2,hl3⟩:=hl;exact⟨by grind,by grind,hl3⟩
def XcA(rs:List Int)(hl:a.S.length<=1000000):∀(n k:Nat)(c:Int)(v:List UM),k<=a.S.length->a.S.length-k<n->v.length=a.S.length->v.drop k=a.S.drop k->0<=c->c+(X8 (a.S.drop k)).length=rs.length->rs.length<=1000000 ->
 Ok (Qa8 N a rs n c (k:Int) v) λe=>match e with|.ret r=>r=(zL,1)|.nxt v=>v.length=a.S.length
 |0,k,c,v,_,hn,_,_,_,_,_=>by omega
 |n+1,k,c,v,hk,hn,hv,hd,hc,hr,hrl=>by
  refine WS aa (Wm (λh=>?_) λh=>We hv);have h:k<a.S.length:=by have:=Wu h;omega
  have hkv:(k:Int)<v.length:=aa;rw[Xf aa];have hdv:=Wr (show k<v.length by omega);have hda:=Wr h;rw[hd,hda]at hdv;have e1:a.S[k]=v[k]:=(IU hdv).1;have e2:a.S.drop (k+1)=v.drop (k+1):=(IU hdv).2;refine Ok.get aa hkv λp hp=>?_;have hpe:p=a.S[k]:=by rw[Xe,Wc aa,←e1]at hp;exact(WK hp).symm
  rw[hda]at hr;refine Wm (λhL=>?_) λhL=>?_
  .refine XcA rs hl n (k+1) c v aa aa hv e2.symm hc ?_ hrl;rw[←hr];unfold X8;grind
  have hL:a.S[k].V=true:=by rw[←hpe];simpa using hL
  have hr2:c+1+(X8 (a.S.drop (k+1))).length=rs.length:=by rw[←hr];unfold X8;rw[Uw (by rw[hL]),Ug,Uo];omega
  refine Ok.get hc aa λq _=>Wm (λ_=>We rfl) λ_=>Ok.get hc aa λq _=>Ok.get aa hkv λp' _=>?_;rw[Xd (n:=c+1) aa aa];refine XcA rs hl n (k+1) (c+1) _ aa aa (by rw[WR];exact hv) ?_ aa hr2 hrl;rw[Iv aa];simp_all
def Xlu(hl:LBp a)(hN:1000000<N){rs:List Int}(hr:rs.length<=1000000):Ok (QdA N a rs) λr=>LBp r.1:=by
 have hl':=hl;have⟨hl1,hl2,hl3⟩:=hl;rw[QdA,ZB hl' hN,Xa];refine Wm (λ_=>We ZA) λhv=>?_;have hv:Y3 a=true:=by simpa using hv
 rw[Zk hl' hN,Xa,hv,Wb];refine Wm (λ_=>We ZA) λhe=>WS aa ?_;have he:(rs.length:Int)=(((X8 a.S).length:Nat):Int):=by simpa using he
 refine IH (XcA rs hl1 N 0 0 a.S aa aa rfl rfl aa (by rw[WX];omega) hr) (λr q=>We (by rw[q];exact ZA)) λv q=>We ⟨?_,hl2,hl3⟩;simp_all
end
def TB(t:WE):Prop:=t.e.length<=1000000
def zT:WE:=⟨[]⟩
def XcB:TB zT:=by simp[TB,zT]
section
variable {N:Nat}{t:WE}
def Xlv(l:List W8):Option Nat:=l.findIdx? λe=>!e.V&&decide (e.G<4294967295)
def Vn(t:WE)(id:Int):WE×Int×Int×Int:=
 if YZ t.e=false then(zT,0,0,1)else
 match Xlv t.e with
 |some k=>(⟨t.e.set k ⟨(t.e.getD k ⟨0,0,false⟩).G+1,id,true⟩⟩,(k:Int),(t.e.getD k ⟨0,0,false⟩).G+1,0)
 |none=>if t.e.length=64 then(zT,0,0,18)else(⟨t.e++[⟨1,id,true⟩]⟩,(t.e.length:Int),1,0)
def Xim(hl:TB t)(hv:YZ t.e=true)(id:Int):∀(n k:Nat),k<=t.e.length->t.e.length-k<n->QbH N t id n (k:Int)=some (match (t.e.drop k).findIdx? (λe=>!e.V&&decide (e.G<4294967295))with
 |some j=>.ret (⟨t.e.set (k+j) ⟨(t.e.getD (k+j) ⟨0,0,false⟩).G+1,id,true⟩⟩,((k+j:Nat):Int),(t.e.getD (k+j) ⟨0,0,false⟩).G+1,0)
 |none=>.nxt ())
 |0,k,_,hn=>by omega
 |n+1,k,hk,hn=>by
  unfold TB at hl;rw[QbH,Xc aa];by_cases h:k<t.e.length
  .have e:=Wc h;have gd:t.e.getD k ⟨0,0,false⟩=t.e[k]:=by rw[Wp,e];rfl
   have hg:=Xls hv (WO h);rw[Xk h,Wb,Xe,e];simp only[Xa];rw[Xf aa,Wr h,List.findIdx?_cons];have next:=Xim hl hv id n (k+1) aa aa
   have go:QbH N t id n ((k+1:Nat):Int)=some (match Option.map (λi=>i+1) ((t.e.drop (k+1)).findIdx? (λe=>!e.V&&decide (e.G<4294967295)))with
    |some j=>.ret (⟨t.e.set (k+j) ⟨(t.e.getD (k+j) ⟨0,0,false⟩).G+1,id,true⟩⟩,((k+j:Nat):Int),(t.e.getD (k+j) ⟨0,0,false⟩).G+1,0)
    |none=>.nxt ()):=by
    rw[next]
    cases (t.e.drop (k+1)).findIdx? (λe=>!e.V&&decide (e.G<4294967295))with
    |none=>rfl
    |some j=>simp only[IF];rw[show k+1+j=k+(j+1) by omega]
   cases hL:t.e[k].V
   .cases hG:decide (t.e[k].G<4294967295)
    .exact go
    rw[Uf,Wb,Wb,Bool.and_true,Wq rfl];have hk2:(k:Int).toNat=k:=aa;rw[Xd aa aa,hk2,Xe,In,Wq rfl,Wq h,Xa];simp only[IB];rw[gd]
   exact go
  grind
def Jb(hl:TB t)(hN:1000000<N)(id:Int):QcX N t id=some (Vn t id):=by
 have hl':=hl;unfold TB at hl;rw[QcX,Zd hl hN,Xa,Vn];cases hv:YZ t.e
 .rfl
 have h1:=Xim (N:=N) hl' hv id N 0 aa aa;rw[show((0:Nat):Int)=0 from rfl,WX]at h1;rw[Wo,Wa,Xc aa,h1,Xa,Wn ab,Xlv];cases t.e.findIdx? (λe=>!e.V&&decide (e.G<4294967295))with
 |some j=>simp[XA,Uy]
 |none=>
  simp only[Xm];rw[Xc aa];by_cases h:t.e.length=64
  .rw[Wq h,h];rfl
  rw[Wn h,show((t.e.length:Int)==64)=false by grind,Wa,Xc aa,Xc aa]
def Xin(hl:TB t)(id:Int):TB (Vn t id).1:=by
 unfold Vn;cases hv:YZ t.e
 .exact XcB
 have:=Vl hv;rw[Wn ab];cases Xlv t.e with
 |some k=>show(t.e.set _ _).length<=_;grind
 |none=>
  simp only;split
  .exact XcB
  show(t.e++[_]).length<=_;grind
def XdW{i g:Int}(h:(Zu t.e i g).2=0):YZ t.e=true/\0<=i/\∃p,t.e[i.toNat]? = some p/\p.G=g/\p.V=true/\(Zu t.e i g).1=p.a:=by unfold Zu at h⊢;grind
def Vo(t:WE)(i g:Int):WE×Int:=
 if(Zu t.e i g).2≠0 then(zT,(Zu t.e i g).2)else(⟨t.e.set i.toNat ⟨g,0,false⟩⟩,0)
def VG(hl:TB t)(hN:1000000<N)(i g:Int):QcB N t i g=some (Vo t i g):=by
 unfold TB at hl;rw[QcB,Xau hl hN,Xa,Vo];by_cases h:(Zu t.e i g).2=0
 .have⟨_,h0,p,hp,_⟩:=XdW h;have:=XC hp;rw[h,show((0:Int) != 0)=false from rfl,Wa,Wn ab,QgY,Xc aa,Yj h0 aa,Xa,Xa]
 rw[show((Zu t.e i g).2 != 0)=true by simp_all,Wb,Wq h];rfl
def Xio(hl:TB t)(i g:Int):TB (Vo t i g).1:=by
 unfold Vo;split
 .exact XcB
 show(t.e.set _ _).length<=_;rw[WR];exact hl
def XcC(rs:List Int)(hl:t.e.length<=1000000):∀(n k:Nat)(c:Int)(v:List W8),k<=t.e.length->t.e.length-k<n->v.length=t.e.length->v.drop k=t.e.drop k->0<=c->c+(XT (t.e.drop k)).length=rs.length->rs.length<=1000000 ->
 Ok (Qa9 N rs n c (k:Int) v) λv=>v.length=t.e.length
 |0,k,c,v,_,hn,_,_,_,_,_=>by omega
 |n+1,k,c,v,hk,hn,hv,hd,hc,hr,hrl=>by
  refine WS aa (Wm (λh=>?_) λh=>We hv);have h:k<t.e.length:=by have:=Wu h;omega
  have hkv:(k:Int)<v.length:=aa;rw[Xf aa];have hdv:=Wr (show k<v.length by omega);have hda:=Wr h;rw[hd,hda]at hdv;have e1:t.e[k]=v[k]:=(IU hdv).1;have e2:t.e.drop (k+1)=v.drop (k+1):=(IU hdv).2;refine Ok.get aa hkv λp hp=>?_;have hpe:p=t.e[k]:=by rw[Xe,Wc aa,←e1]at hp;exact(WK hp).symm
  rw[hda]at hr;refine Wm (λhL=>?_) λhL=>?_
  .have hL:t.e[k].V=true:=by rw[←hpe];exact hL
   have hr2:c+1+(XT (t.e.drop (k+1))).length=rs.length:=by rw[←hr];unfold XT;rw[Uw (by rw[hL]),Ug,Uo];omega
   refine Ok.get hc aa λq _=>Ok.get aa hkv λp' _=>?_;rw[Xd (n:=c+1) aa aa];refine XcC rs hl n (k+1) (c+1) _ aa aa (by rw[WR];exact hv) ?_ aa hr2 hrl;rw[Iv aa];simp_all
  refine XcC rs hl n (k+1) c v aa aa hv e2.symm hc ?_ hrl;rw[←hr];unfold XT;grind
def XdX(hl:TB t)(hN:1000000<N){rs:List Int}(hr:rs.length<=1000000):Ok (Qce N t rs) λr=>r.1.e.length<=t.e.length:=by
 unfold TB at hl;rw[Qce,Zd hl hN,Xa];refine Wm (λ_=>We ab) λhv=>?_;have hv:YZ t.e=true:=by simpa using hv
 have hll:=VF t.e;rw[Yk hl hN,Xa,hv,Wb];refine WS aa (Wm (λ_=>We ab) λhe=>WS aa ?_);have he:(rs.length:Int)=(((XT t.e).length:Nat):Int):=by simpa using he
 refine WH (XcC rs hl N 0 0 t.e aa aa rfl rfl aa (by rw[WX];omega) hr) λv _ q=>We ?_;simp_all
def Xf9(hl:TB t)(hN:1000000<N){rs:List Int}(hr:rs.length<=1000000):Ok (Qce N t rs) λr=>TB r.1:=(XdX hl hN hr).mono λr h=>Um h hl
def XcD{k:Nat}(hl:t.e.length<=1000+k)(id:Int):(Vn t id).1.e.length<=1000+k:=by
 unfold Vn;cases hv:YZ t.e
 .simp[zT]
 have:=Vl hv;grind[WR,zT,WQ]
def Xga{k:Nat}(hl:t.e.length<=1000+k)(i g:Int):(Vo t i g).1.e.length<=1000+k:=by unfold Vo;grind[zT,WR]
end
section
variable {N:Nat}
def Zr(h:IA):Ok (Qb1 N h) λ_=>True:=by refine WH (Q:=λ_=>True) ?_ λb _ _=>Wm (λ_=>We trivial) λ_=>We trivial;exact Wm (λ_=>Wm (λ_=>Wm (λ_=>Wm (λ_=>Wm (λ_=>We trivial) λ_=>We trivial) λ_=>We trivial) λ_=>We trivial) λ_=>We trivial) λ_=>We trivial
def XaY(a:Int):Ok (QcA N a) λ_=>True:=by exact Wm (λ_=>We trivial) λ_=>WH (Zr _) λ_ _ _=>Wm (λ_=>We trivial) λ_=>Wm (λ_=>We trivial) λ_=>We trivial
def Xpf{l:List UH}(r:Int)(hl:l.length<=1000000):∀(n:Nat)(k:Int),0<=k->k<=l.length->(l.length-k).toNat<n->Ok (Qe8 N l r n k) λe=>∀i,e=.ret i->0<=i/\i<l.length/\∃p∈l,p.a=r
 |0,k,_,_,hn=>by omega
 |n+1,k,h0,hk,hn=>by
  refine Wm (λhc=>?_) λ_=>We λi e=>by grind
  have hc:k<l.length:=Wu hc;rw[Xd (n:=k+1) aa aa];refine Ok.get h0 hc λp hp=>Wm (λh=>We λi e=>?_) λ_=>Xpf r hl n (k+1) aa aa aa;cases e;exact⟨h0,hc,p,Yy hp,by simp_all⟩
def XcE{l:List UH}(r:Int)(hl:l.length<=1000000)(hN:1000000<N):Ok (QgV N l r) λi=>i = -1\/(0<=i/\i<l.length/\∃p∈l,p.a=r):=by exact IH (Xpf r hl N 0 aa aa aa) (λi q=>We (.inr (q i rfl))) λ_ _=>We (.inl rfl)
def XbS{h:Wk}(hp:Us h){a:Int}(ha:IG h a):QfD N h a=some (pgi h.c a)/\0<=pgi h.c a/\pgi h.c a<h.p.length:=by have⟨_,q0,q1,_⟩:=Ks hp.conf ha.rng;have:=hp.pages;refine⟨?_,q0,aa⟩;rw[QfD,Jx,Xa,hp.conf,Wn ab,Wq ha.rng];rfl
def Xgb{h:Wk}{pins:List UH}(hN:NB N)(hp:Us h)(y:List Int×Int)(hy:Ia N h y.1)(hl:pins.length<=64)(hb:HB h):∀(n:Nat)(k:Int)(v:List Int),0<=k->k<=pins.length->(pins.length-k).toNat<n->v.length=h.p.length->Ok (Qcc N h pins y n k v) λe=>match e with|.ret b=>b=false|.nxt v=>v.length=h.p.length/\∀i,k<=i->∀p,Xb pins i=some p->IG h p.a
 |0,k,v,_,_,hn,_=>by omega
 |n+1,k,v,h0,hk,hn,hv=>by
  have hN':=hN;unfold NB at hN';have hyl:=hy.len;refine Wm (λhc=>?_) λhc=>We ⟨hv,λi hi p hp=>?_⟩;rotate_left
  .have:=WL hc;rw[Xjo aa]at hp;cases hp
  have hc:k<pins.length:=Wu hc;rw[Xd (n:=k+1) aa aa];have a1:0<=k+1:=aa;have a2:k+1<=pins.length:=aa;have a3:(pins.length-(k+1)).toNat<n:=aa;refine Ok.get h0 hc λp hp1=>?_;have same:∀q,Xb pins k=some q->q=p:=λq hq=>WK (hq.symm.trans hp1);rw[YF p.a aa aa,Xa];refine Wm (λ_=>We rfl) λhh=>?_;have hm:p.a∈y.1:=Y9 (by simpa using hh);have hat:=hy.obj.at_ _ hm;refine Ok.get h0 hc λq hq=>?_;refine WH (XcE _ aa aa) λ_ _ _=>Wm (λ_=>We rfl) λ_=>Ok.get h0 hc λ_ _=>Wm (λ_=>We rfl) λ_=>Ok.get h0 hc λ_ _=>Wm (λ_=>We rfl) λ_=>Ok.get h0 hc λq hq=>?_;obtain rfl:=same q hq;have⟨e,q0,q1⟩:=XbS (N:=N) hp hat;rw[e,Xa];refine Ok.get q0 aa λ_ _=>Ok.get h0 hc λ_ _=>Ok.get q0 aa λ_ _=>?_;refine(Xgb hN hp y hy hl hb n (k+1) _ a1 a2 a3 (by rw[WR];exact hv)).mono λe he=>?_;grind
def Xgc{h:Wk}(hb:HB h)(v:List Int)(hv:v.length=h.p.length):∀(n:Nat)(k:Int),0<=k->k<=h.p.length->(h.p.length-k).toNat<n->Ok (QcU N h v n k) λe=>∀b,e=.ret b->b=false
 |0,k,_,_,hn=>by omega
 |n+1,k,h0,hk,hn=>by
  have:=hb.2;refine Wm (λhc=>?_) λ_=>We λb e=>by grind
  have hc:k<h.p.length:=Wu hc;rw[Xd (n:=k+1) aa aa];exact Ok.get h0 hc λ_ _=>Ok.get h0 aa λ_ _=>Wm (λ_=>We λb e=>by simp_all) λ_=>Xgc hb v hv n (k+1) aa aa aa
structure Ol(N:Nat)(h:Wk)(pins:List UH):Prop where
 good:Oa N h
 len:pins.length<=64
 at_:∀p∈pins,IG h p.a
def JA(hN:NB N){h:Wk}(hb:HB h){pins:List UH}(hl:pins.length<=1000000):Ok (Qct N h pins) λb=>b=true->Ol N h pins:=by
 have hN':=hN;unfold NB at hN';have hb2:=hb.2;refine WH (Kf hN hb) λb _ hg=>Wm (λ_=>We λe=>by grind) λhb1=>?_;have hg:=hg (by simp_all);refine Wm (λ_=>We λe=>by grind) λh64=>?_;have h64:=WL h64;refine WH (ZI hN hb) λy _ hy=>WS aa ?_;refine IH (Xgb hN hg.prop y hy.1 aa hb N 0 _ aa aa aa ab) (λb q=>We λe=>?_) λv q=>?_
 .simp_all
 refine IH (Xgc hb v q.1 N 0 aa aa aa) (λb q=>We λe=>?_) λ_ _=>We λ_=>⟨hg,aa,λp hp=>?_⟩
 .simp_all
 have⟨i,hi,e⟩:=WN hp;exact q.2 (i:Int) aa p (by rw[Xe,Wc hi,e])
def Xgd{h:Wk}(hb:HB h)(hp:Us h){a:Int}(ha:IG h a)(d:Int):Ok (QcC N h a d) HB:=by have hb2:=hb.2;have⟨e,q0,q1⟩:=XbS (N:=N) hp ha;rw[QcC,Xc aa,e,Xa];exact Ok.get q0 q1 λ_ _=>Ok.get q0 q1 λ_ _=>We ⟨hb.1,by simp_all⟩
def Xhj(hN:NB N){h:Wk}(hb:HB h){pins:List UH}(hl:pins.length<=1000000)(a:Int):Ok (Qcb N h pins a) λr=>HB r.1/\r.2.1.length<=1000000:=by
 have hN':=hN;unfold NB at hN';have zero:HB zH/\([]:List UH).length<=1000000:=⟨Z5,ab⟩
 refine WH (JA hN hb hl) λb _ hm=>Wm (λ_=>We zero) λhb1=>?_;have hm:=hm (by simpa using hb1);refine Wm (λ_=>We zero) λ_=>WH (XcE _ hl aa) λi _ hi=>Wm (λ_=>We zero) λh0=>?_;have h0:=WL h0;obtain⟨i0,i1,p,hpm,hpr⟩:0<=i/\i<pins.length/\∃p∈pins,p.a=a:=by
  rcases hi with h|h
  .omega
  exact h
 have hat:=hm.at_ p hpm;rw[hpr]at hat;have hc:=Xgd (N:=N) hb hm.good.prop hat (-1);refine WS aa (Ok.get i0 i1 λ_ _=>Ok.get i0 i1 λ_ _=>Ok.get i0 (by rw[WR];exact i1) λ_ _=>?_);rw[Xd (n:=i+1) aa aa];refine Wm (λ_=>WS aa (WS aa (WS aa (WH hc λy _ hy=>We ⟨hy,?_⟩)))) λ_=>WH hc λy _ hy=>We ⟨hy,?_⟩
 .simp;omega
 simp_all
def XcF{h:Wk}(hb:HB h)(a:Int):∀(n:Nat)(c k:Int),0<=k->k<=h.p.length->(h.p.length-k).toNat<n->Ok (QcN N h a n c k) λ_=>True
 |0,c,k,_,_,hn=>by omega
 |n+1,c,k,h0,hk,hn=>by
  have:=hb.2;refine Wm (λhc=>?_) λ_=>We trivial;have hc:k<h.p.length:=Wu hc;rw[Xd (n:=k+1) aa aa];have next:=λc'=>XcF hb a n c' (k+1) aa aa aa
  exact Ok.get h0 hc λ_ _=>Wm (λ_=>Ok.get h0 hc λ_ _=>Wm (λ_=>next _) λ_=>next _) λ_=>next _
def JR(hN:NB N){h:Wk}(hb:HB h)(a:Int):Ok (QdY N h a) λ_=>True:=by have hN':=hN;unfold NB at hN';have hb2:=hb.2;refine WH (Kf hN hb) λb _ hg=>Wm (λ_=>We trivial) λhb1=>?_;refine WH (Xbr hN hb a) λb _ ho=>Wm (λ_=>We trivial) λhb1=>?_;have⟨hp,hat⟩:=ho (by simp_all);have⟨e,q0,q1⟩:=XbS (N:=N) hp hat;refine WH (XcF hb a N 0 0 aa aa aa) λc _ _=>?_;rw[e,Xa];exact Ok.get q0 q1 λ_ _=>Wm (λ_=>Wm (λ_=>We trivial) λ_=>We trivial) λ_=>We trivial
def Xjs(hN:NB N){h:Wk}(hb:HB h){pins:List UH}(hl:pins.length<=1000000)(a:Int):Ok (QdM N h pins a) λr=>HB r.1/\r.2.1.length<=1000000:=by
 have hN':=hN;unfold NB at hN';have zero:HB zH/\([]:List UH).length<=1000000:=⟨Z5,ab⟩
 refine WH (JA hN hb hl) λb _ hm=>Wm (λ_=>We zero) λhb1=>?_;have hm:=hm (by simp_all);refine Wm (λ_=>We zero) λ_=>WH (Xbr hN hb a) λb _ ho=>Wm (λ_=>We zero) λhb1=>?_;have⟨hp,hat⟩:=ho (by simp_all);have hc:=Xgd (N:=N) hb hm.good.prop hat 1;have h64:=hm.len;refine WH (XcE _ hl aa) λi _ hi=>?_
 have rest:Ok (α:=Wk×List UH×Int×Int) (grd (pins.length*16<=140737488355328) <|
  jn (λ(x11:List UH)=>
   bnd (QcC N h a 1) λy12=>
   some (y12,x11,(wU (a+1)),0)) λj2=>
  bif (decide (i>=0))then(bnd (Xb pins i) λp9=>
   bnd (Xb pins i) λp10=>
   j2 (pins.set i.toNat (UH.mk p10.a (wI (p9.M+1)))))
  else grd ((pins.length+1)*16<=140737488355328) <|
  j2 (pins++[(UH.mk a 1)])) λr=>HB r.1/\r.2.1.length<=1000000:=by
  refine WS aa (U6 (Wm (λh0=>?_) λ_=>WS aa (WH hc λy _ hy=>We ⟨hy,?_⟩)))
  .have h0:0<=i:=Wu h0
   have i1:i<pins.length:=by rcases hi with h|h;omega;exact h.2.1
   exact Ok.get h0 i1 λ_ _=>Ok.get h0 i1 λ_ _=>WH hc λy _ hy=>We ⟨hy,by simp_all⟩
  .grind
 refine U6 (Wm (λh0=>?_) λ_=>Wm (λ_=>Wm (λ_=>We zero) λ_=>WH (JR hN hb a) λ_ _ _=>Wm (λ_=>We zero) λ_=>rest) λ_=>WH (JR hN hb a) λ_ _ _=>Wm (λ_=>We zero) λ_=>rest);have h0:0<=i:=Wu h0;have i1:i<pins.length:=by rcases hi with h|h;omega;exact h.2.1
 exact Ok.get h0 i1 λ_ _=>Wm (λ_=>We zero) λ_=>Wm (λ_=>Wm (λ_=>We zero) λ_=>WH (JR hN hb a) λ_ _ _=>Wm (λ_=>We zero) λ_=>rest) λ_=>WH (JR hN hb a) λ_ _ _=>Wm (λ_=>We zero) λ_=>rest
end
section
variable {N:Nat}
def XeS(hN:NB N)(c:WT)(d:Wy):Ok (Qcf N c d) λb=>b=true->XI d=true/\d.k≠0/\Xy c (Xz d)≠-1:=by
 have hN':=hN;unfold NB at hN';rw[Qcf,Y8,Xa];refine Wm (λhv=>Wm (λhk=>?_) λ_=>We λe=>by grind) λ_=>We λe=>by grind
 rw[X1,Xa,Zp aa,Xa];exact We λe=>⟨hv,by simp_all,by simp_all⟩
def Xge(hN:NB N){h:Wk}(hb:HB h)(hp:Us h)(n:Int):Ok (Qem N h n) λr=>HB r.1:=by
 have hN':=hN;unfold NB at hN';have hb2:=hb.2;have setP:∀(ps:List Wt)(i:Nat)(p:Wt)(s b:Int),ps.length<=100000->HB ⟨h.c,h.w,ps.set i p,s,b⟩:=λps i p s b hl=>⟨hb.1,by simp_all⟩
 refine WS aa ?_;rw[XaV,Xa];refine WH (Vk aa aa) λu _ _=>?_;have fresh:Ok (α:=Wk×Int×Bool) (bnd (Qbi N h.p 1) λy5=>
  bif (decide (y5<0))then some ((Wk.mk (WT.mk 0 0) [] [] 0 0),0,false)
  else bif (decide (u>=KA h.c))then some ((Wk.mk (WT.mk 0 0) [] [] 0 0),0,false)
  else bnd (Qbz N h.p y5 h.s) λy6=>
  bnd (Xb y6.1 y5) λp11=>
  bnd (Xb y6.1 y5) λp12=>
  bnd (Xb y6.1 y5) λp13=>
  some ((Wk.mk h.c h.w (y6.1.set y5.toNat (Wt.mk p13.k p13.s (wI (p12.u+n)) p13.P)) h.s y5),(wU (wI ((wI (4096+(wI (y5*h.c.W))))+p11.u))),true)) λr=>HB r.1:=by
  refine WH (Y2 1 aa aa) λj _ hj=>Wm (λ_=>We Z5) λhj0=>Wm (λ_=>We Z5) λ_=>?_
  have hr:RunOK h.p j 1:=by
   rcases hj with rfl|hj
   .grind
   .omega
  have hsp:=hp.space
  refine WH (Xcs j h.s aa aa) λy _ hy=>?_
  obtain⟨q0,q1,q2,q3⟩:=hy.1 (hy.2.2 hr aa aa)
  have hjl:j<y.1.length:=aa
  exact Ok.get q0 hjl λ_ _=>Ok.get q0 hjl λ_ _=>Ok.get q0 hjl λ_ _=>We (setP _ _ _ _ _ aa)
 refine U6 (Wm (λ_=>fresh) λh0=>?_);have h0:=WL h0;have hbu:=hp.bump;have h1:h.b<h.p.length:=by rcases hbu with h|h;omega;exact h.2.1
 have h0:0<=h.b:=aa;exact Ok.get h0 h1 λ_ _=>Wm (λ_=>fresh) λ_=>Ok.get h0 h1 λ_ _=>Wm (λ_=>fresh) λ_=>Wm (λ_=>fresh) λ_=>Ok.get h0 h1 λ_ _=>Ok.get h0 h1 λ_ _=>Ok.get h0 h1 λ_ _=>We (setP _ _ _ _ _ hb2)
def Xgf(hN:NB N){h:Wk}(hb:HB h)(hp:Us h)(w k:Int):Ok (Qen N h w k) λr=>HB r.1:=by
 have hN':=hN;unfold NB at hN';have hb2:=hb.2;refine WH (Y2 k aa aa) λj _ hj=>Wm (λ_=>We Z5) λhj0=>WH (Vk aa aa) λu _ _=>?_;rw[XaV,Xa];refine Wm (λ_=>We Z5) λ_=>WH (Xlg h.c j h.s w aa aa) λy _ hy=>We ⟨hb.1,?_⟩;show y.1.length<=_;by_cases he:y.2=0
 .have:=(hy.1 he).2.2.2.1;omega
 simp_all
def XbT(hN:NB N){h:Wk}(hb:HB h)(d:Wy):Ok (QbW N h d) λr=>HB r.1:=by
 have hN':=hN;unfold NB at hN';refine WH (YB (N:=N) aa hb.1 hb.2) λb _ hp=>Wm (λ_=>We Z5) λhb1=>?_;have hp:=hp (by simp_all);refine WH (XeS hN _ _) λb _ _=>Wm (λ_=>We Z5) λ_=>?_;rw[X1,Xa,Zp aa,Xa];refine WH (Xge hN hb hp _) λy5 _ h5=>U6 (Wm (λ_=>WH (Xgf hN hb hp _ _) λy6 _ h6=>?_) λ_=>?_)
 .exact Wm (λ_=>We Z5) λ_=>WH (Xic hN (h:=y6.1) h6 _ d) λy15 _ h15=>We h15
 exact Wm (λ_=>We Z5) λ_=>WH (Xic hN (h:=y5.1) h5 _ d) λy15 _ h15=>We h15
end
structure EB(x:W9):Prop where
 heap:HB x.h
 loc:LBp x.l
 glo:TB x.g
 wea:TB x.v
 pins:x.P.length<=1000000
 roots:x.R.length<=100000
def zE:W9:=⟨zH,zL,zT,zT,[],[]⟩
def XcG:EB zE:=⟨Z5,ZA,XcB,XcB,by simp[zE],by simp[zE]⟩
section
variable {N:Nat}{x:W9}
def Za{a:Ww}(h:LBp a):(bif Y3 a then X8 a.S else[]).length<=4096:=by
 cases hv:Y3 a
 .simp
 have hf:=Zj.1 hv;have:=hf.slots;have:=hf.iss;have:=XaW a.S;grind
def Ym(l:List W8):(bif YZ l then XT l else[]).length<=64:=by
 cases hv:YZ l
 .simp
 have:=Vl hv;have:=VF l;grind
structure EV(N:Nat)(x:W9):Prop where
 mat:Ol N x.h x.P
 loc:Y3 x.l=true
 glo:YZ x.g.e=true
 wea:YZ x.v.e=true
def ZM(hN:NB N)(hx:EB x):Ok (Qcu N x) λb=>b=true->EV N x:=by have hN':=hN;unfold NB at hN';have hr:=hx.roots;refine WH (JA hN hx.heap hx.pins) λb _ hm=>Wm (λ_=>We λe=>by grind) λhb1=>?_;have hm:=hm (by simp_all);rw[ZB hx.loc aa,Xa];refine Wm (λ_=>We λe=>by grind) λh1=>?_;rw[Zd hx.glo aa,Xa];refine Wm (λ_=>We λe=>by grind) λh2=>?_;rw[Zd hx.wea aa,Xa];refine Wm (λ_=>We λe=>by grind) λh3=>?_;rw[Yk hx.glo aa,Xa];have l1:=Za hx.loc;have l2:=Ym x.g.e;have l3:=Ym x.v.e;rw[YF _ aa aa,Xa];refine Wm (λ_=>We λe=>by grind) λ_=>WS aa ?_;rw[Zk hx.loc aa,Xa];refine WS aa (WS aa ?_);rw[Yk hx.wea aa,Xa];refine WS aa (WH (Jy hN hx.heap (by grind)) λb _ _=>We λ_=>⟨hm,by simp_all,by simp_all,by simp_all⟩)
def XcH(hp:x.P.length<=1000000):∀(n:Nat)(k:Int)(v:List Int),0<=k->k<=x.P.length->(x.P.length-k).toNat<n->v.length<=1000000+k->Ok (Qbd N x n k v) λr=>(r.length:Int)=v.length+(x.P.length-k)
 |0,k,v,_,_,hn,_=>by omega
 |n+1,k,v,h0,hk,hn,hv=>by refine Wm (λhc=>?_) λhc=>We (by have:=WL hc;omega);have hc:k<x.P.length:=Wu hc;rw[Xd (n:=k+1) aa aa];refine Ok.get h0 hc λp _=>WS aa ?_;refine(XcH hp n (k+1) _ aa aa aa ah).mono λr hr=>?_;grind
def XcI(hN:NB N)(hx:EB x):Ok (QdG N x) λr=>r.length=x.R.length+(bif Y3 x.l then X8 x.l.S else[]).length+(bif YZ x.g.e then XT x.g.e else[]).length+x.P.length:=by have hN':=hN;unfold NB at hN';have hr:=hx.roots;have hp:=hx.pins;have l1:=Za hx.loc;have l2:=Ym x.g.e;refine WS aa ?_;rw[Zk hx.loc aa,Xa];refine WS aa ?_;rw[Yk hx.glo aa,Xa];refine WS aa (WH (XcH hp N 0 _ aa aa aa ah) λr _ hr=>We ?_);grind
def Xip(y4:Wk×List Int×List Int×WM×Int)(y5 y6:List Int)(y7:Ww×Int)(y8 y9:WE×Int)(hp:x.P.length<=1000000)(hr:x.R.length<=100000)(h5:y5.length<=4096)(h6:y6.length<=64)(h4:y4.2.1.length=x.R.length+y5.length+y6.length+x.P.length):∀(n:Nat)(k:Int)(v:List UH),0<=k->k<=x.P.length->(x.P.length-k).toNat<n->(v.length:Int)=k->Ok (QaU N x y4 y5 y6 y7 y8 y9 n k v) λr=>r.length=x.P.length
 |0,k,v,_,_,hn,_=>by omega
 |n+1,k,v,h0,hk,hn,hv=>by refine Wm (λhc=>?_) λhc=>We (by grind);have hc:k<x.P.length:=Wu hc;rw[Xd (n:=k+1) aa aa,Xd (n:=(x.R.length:Int)+(y5.length:Int)) aa aa,Xd (n:=(x.R.length:Int)+(y5.length:Int)+(y6.length:Int)) aa aa,Xd (n:=(x.R.length:Int)+(y5.length:Int)+(y6.length:Int)+k) aa aa];refine Ok.get aa aa λ_ _=>Ok.get h0 hc λp _=>WS aa ?_;exact Xip y4 y5 y6 y7 y8 y9 hp hr h5 h6 h4 n (k+1) _ aa aa aa (by simp_all)
def Jc(hN:NB N)(hx:EB x):Ok (Qba N x) λr=>EB r.1:=by
 have hN':=hN;unfold NB at hN';have hr:=hx.roots;have hp:=hx.pins;refine WH (ZM hN hx) λb _ hv=>Wm (λ_=>We XcG) λhb1=>?_;have hv:=hv (by simpa using hb1);have h64:=hv.mat.len;have l1:=Za hx.loc;have l2:=Ym x.g.e;have l3:=Ym x.v.e;refine WH (XcI hN hx) λy2 _ h2=>?_;rw[hv.loc,hv.glo]at h2;rw[hv.loc]at l1;rw[hv.glo]at l2;rw[Yk hx.wea aa,Xa];simp at h2 l1 l2 l3⊢;refine WH (QkY hN hx.heap aa aa) λy4 _ h4=>Wm (λ_=>We XcG) λhe=>?_;have⟨g1,g2⟩:=h4.len (by simpa using he);rw[Zk hx.loc aa,Xa,Yk hx.glo aa,Xa,hv.loc,hv.glo];simp;have e1:=Xd (n:=(x.R.length:Int)+(((X8 x.l.S).length:Nat):Int)) aa aa;have e2:=Xd (n:=(x.R.length:Int)+(((X8 x.l.S).length:Nat):Int)+(((XT x.g.e).length:Nat):Int)) aa aa;refine WS aa (WS aa (WS aa (WS aa ?_)));refine WH (Xlu hx.loc aa (by rw[Wj,Wl];omega)) λy7 _ h7=>WS (by rw[e1,e2];omega) ?_;refine WH (Xf9 hx.glo aa (by rw[Wj,Wl];omega)) λy8 _ h8=>?_;refine WH (Xf9 hx.wea aa aa) λy9 _ h9=>?_;refine WH (Xip y4 (X8 x.l.S) (XT x.g.e) y7 y8 y9 hp hr l1 l2 aa N 0 [] aa aa aa rfl) λy14 _ h14=>We ⟨h4.hb,h7,h8,h9,?_,?_⟩
 .show y14.length<=_;omega
 grind
def XaZ(hN:NB N)(hx:EB x)(d:Wy):Ok (QbA N x d) λr=>EB r.1:=by
 refine WH (ZM hN hx) λb _ hv=>Wm (λ_=>We XcG) λhb1=>?_;refine WH (XbT hN hx.heap d) λy2 _ h2=>U6 (Wm (λ_=>WH (Jc hN hx) λy3 _ h3=>Wm (λ_=>We XcG) λ_=>WH (XbT hN h3.heap d) λy4 _ h4=>?_) λ_=>?_)
 .exact Wm (λ_=>We XcG) λ_=>We ⟨h4,h3.loc,h3.glo,h3.wea,h3.pins,h3.roots⟩
 exact Wm (λ_=>We XcG) λ_=>We ⟨h2,hx.loc,hx.glo,hx.wea,hx.pins,hx.roots⟩
def Zl(hN:NB N)(hx:EB x)(v:Int):Ok (Qbu N x v) λr=>True:=by
 have hN':=hN;unfold NB at hN';refine WH (ZM hN hx) λb _ hv=>Wm (λ_=>We trivial) λhb1=>Wm (λ_=>We trivial) λ_=>?_;refine WH (XaY v) λy _ _=>Wm (λ_=>We trivial) λ_=>Wm (λ_=>?_) λ_=>Wm (λ_=>?_) λ_=>?_
 .rw[XeQ hx.loc aa,Xa];exact We trivial
 .rw[Xau hx.glo aa,Xa];exact We trivial
 rw[Xau hx.wea aa,Xa];exact We trivial
end
end Go.Sx
