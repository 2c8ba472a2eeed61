import Derived.KernelRfl
import Derived.Test.YtokkmapiallffaaGreatWC
set_option linter.all false
namespace Go.Sx
def Ok{α:Type}(o:Option α)(P:α->Prop):Prop:=∃r,o=some r/\P r
section
variable {α β γ:Type}{P:β->Prop}
def Xa(x:α)(f:α->Option β):bnd (some x) f=f x:=by unfold bnd;rfl
def Kv(f:α->Option β):bnd none f=none:=by unfold bnd;rfl
def Xb{p:Prop}[Decidable p](h:p)(x:Option α):grd p x=x:=by unfold grd;simp_all
theorem XF{κ:Type}(k:κ)(f:κ->γ):jn k f=f k:=by unfold jn;rfl
theorem Xy(a:α)(f:α->γ)(k:β->γ):exK (.ret a) f k=f a:=by unfold exK;rfl
theorem Xo(b:β)(f:α->γ)(k:β->γ):exK (.nxt b) f k=k b:=by unfold exK;rfl
def Xf(l:List α)(k:Nat):Xd l (k:Int)=l[k]?:=by unfold Xd;simp
def Yi{l:List α}{i:Int}(e:0<=i)(f:i<l.length):Xd l i=some (l[i.toNat]'ab):=by unfold Xd;simp_all
def KD{l:List α}{i:Int}{p:α}:Xd l i=some p↔0<=i/\l[i.toNat]? = some p:=by unfold Xd;simp
def YC{l:List α}{i:Int}{p:α}(h:Xd l i=some p):p∈l:=W7 (KD.1 h).2
def XkX{l:List α}{i:Int}(h:¬(0<=i/\i<l.length)):Xd l i=none:=by unfold Xd;simp_all
def Wd{x:β}(h:P x):Ok (some x) P:=⟨x,rfl,h⟩
def WJ{o:Option α}{f:α->Option β}{Q:α->Prop}(h:Ok o Q)(k:∀y,o=.some y->Q y->Ok (f y) P):Ok (Sx.bnd o f) P:=by obtain⟨y,rfl,e⟩:=h;simp_all[Xa]
def Ub{p:Prop}[Decidable p]{x:Option β}(h:p)(k:Ok x P):Ok (Sx.grd p x) P:=by simp_all[Xb,h]
def Ir{κ:Type}{k:κ}{f:κ->Option β}(h:Ok (f k) P):Ok (Sx.jn k f) P:=by simp_all[XF]
def Wp{b:Bool}{x y:Option β}(e:b=true->Ok x P)(f:b=false->Ok y P):Ok (bif b then x else y) P:=by grind
def Ok.get{l:List α}{i:Int}{f:α->Option β}(e:0<=i)(g:i<l.length)(k:∀p,Xd l i=.some p->Ok (f p) P):Ok (Sx.bnd (Xd l i) f) P:=by simp_all[Yi,e,g,Xa]
def Ok.mono{o:Option β}{Q:β->Prop}(h:Ok o Q)(k:∀x,Q x->P x):Ok o P:=by obtain⟨y,rfl,e⟩:=h;exact⟨y,rfl,k y e⟩
def Ok.get_eq{o:Option β}{x:β}(h:Ok o P)(e:o=.some x):P x:=by have⟨y,f,g⟩:=h;simp_all
def Ok.isSome{o:Option β}(h:Ok o P):o≠none:=by obtain⟨y,rfl,_⟩:=h;simp
def IT{α':Type}{o:Option (Ex α' α)}{f:α'->Option β}{k:α->Option β}{Q:Ex α' α->Prop}(h:Ok o Q)(g:∀a,Q (.ret a)->Ok (f a) P)(j:∀b,Q (.nxt b)->Ok (k b) P):Ok (Sx.bnd o λe=>exK e f k) P:=by
 obtain⟨y,rfl,p⟩:=h;rw[Xa];cases y with
 |ret a=>simp_all[Xy]
 |nxt b=>simp_all[Xo]
end
def Xe{n:Int}(h:-9223372036854775808<=n)(j:n<=9223372036854775807):wI n=n:=by
 have e:wI n=if n % 18446744073709551616>=9223372036854775808 then n % 18446744073709551616-18446744073709551616 else n % 18446744073709551616:=by have f:IntKind.bits .i64=64:=rfl;have g:IntKind.signed .i64=true:=rfl;simp[wI,IntKind.wrap,f,g]
 omega
theorem Xcg(n:Int):wU n=n % 18446744073709551616:=by rfl
def XE{n:Int}(e:0<=n)(f:n<=18446744073709551615):wU n=n:=by grind[Xcg]
def VW(n:Int):0<=wU n/\wU n<=18446744073709551615:=by grind[Xcg]
theorem XmM(n:Int):wW n=n % 4294967296:=by rfl
def XqQ{n:Int}(e:0<=n)(f:n<=4294967295):wW n=n:=by grind[XmM]
def XmN{n:Int}(g:0<=n)(j:n<=63):Kj .u64 1 n=2 ^ n.toNat:=by
 have e:IntKind.bits .u64=64:=rfl;have h:min n.toNat 64=n.toNat:=ab;have hp:(2:Int) ^ n.toNat<=2 ^ 63:=by have:2 ^ n.toNat<=2 ^ 63:=Od ab ab;exact_mod_cast this
 have f:(0:Int)<=2 ^ n.toNat:=Int.pow_nonneg ag;show IntKind.wrap .u64 (1*2 ^ min n.toNat (IntKind.bits .u64))=_;rw[e,h,Oe];exact XE f ab
def Y8(a:Int)(k:Nat)(e:k<=64)(f:0<=a):YL .u64 a k=a / 2 ^ k:=by have g:IntKind.bits .u64=64:=rfl;show a.fdiv (2 ^ min (k:Int).toNat (IntKind.bits .u64))=_;grind
def Y9(a:Int)(k:Nat)(f:k<=63)(g:0<=a)(h:a<=18446744073709551615):Zu .u64 a (2 ^ k-1)=a % 2 ^ k:=by
 obtain⟨n,rfl⟩:=UP g;have hb:IntKind.u64.bits=64:=rfl;show IntKind.u64.wrap ((BitVec.ofInt IntKind.u64.bits n &&& BitVec.ofInt IntKind.u64.bits (2 ^ k-1)).toNat:Int)=_;rw[hb];have e:(2:Int) ^ k-1=((2 ^ k-1:Nat):Int):=by
  have h:=Nat.one_le_two_pow (n:=k);have j:(2:Int) ^ k=((2 ^ k:Nat):Int):=by simp
  rw[j];omega
 have o:BitVec.ofInt 64 (n:Int)=BitVec.ofNat 64 n:=by simp
 have p:BitVec.ofInt 64 ((2 ^ k-1:Nat):Int)=BitVec.ofNat 64 (2 ^ k-1):=by simp
 rw[e,o,p,BitVec.toNat_and,II,II];have q:n % 2 ^ 64=n:=Oj ab;have hp:2 ^ k<=2 ^ 63:=Od ab f;have r:(2 ^ k-1) % 2 ^ 64=2 ^ k-1:=Oj ab;rw[q,r,Nat.and_two_pow_sub_one_eq_mod];show wU _=_;rw[XE ab ab];simp
def PT{α:Type}(o:Option α)(P:α->Prop):Prop:=∀r,o=some r->P r
def tU(n:Int):Prop:=0<=n/\n<=18446744073709551615
def tW(n:Int):Prop:=0<=n/\n<=4294967295
def tL{α:Type}(T:α->Prop)(l:List α):Prop:=∀x∈l,T x
def tE{α β:Type}(A:α->Prop)(B:β->Prop):Ex α β->Prop
 |.ret a=>A a
 |.nxt b=>B b
section
variable {α β γ:Type}{P:β->Prop}{T:α->Prop}
def WH{x:β}(h:P x):PT (some x) P:=λr e=>WE e▸h
def I9:PT none P:=λr e=>by grind
def OT{o:Option α}{f:α->Option β}{Q:α->Prop}(h:PT o Q)(k:∀y,Q y->PT (f y) P):PT (Sx.bnd o f) P:=by
 cases o with
 |none=>rw[Kv];exact I9
 |some y=>rw[Xa];exact k y (h y rfl)
def UN{o:Option α}{f:α->Option β}(k:∀y,PT (f y) P):PT (Sx.bnd o f) P:=by
 cases o with
 |none=>rw[Kv];exact I9
 |some y=>simp_all[Xa]
def Oa{p:Prop}[Decidable p]{x:Option β}(k:PT x P):PT (Sx.grd p x) P:=by
 unfold Sx.grd;split
 .omega
 exact I9
def U0{κ:Type}{k:κ}{f:κ->Option β}{Q:κ->Prop}(h:Q k)(g:∀j,Q j->PT (f j) P):PT (Sx.jn k f) P:=by simp_all[XF]
def WC{b:Bool}{x y:Option β}(e:PT x P)(f:PT y P):PT (bif b then x else y) P:=by grind
def PT.get{l:List α}{i:Int}{f:α->Option β}(h:tL T l)(k:∀p,T p->PT (f p) P):PT (Sx.bnd (Xd l i) f) P:=
 OT (Q:=T) (λr e=>h r (YC e)) k
def O9{α':Type}{o:Option (Ex α' α)}{f:α'->Option β}{k:α->Option β}{A:α'->Prop}(h:PT o (tE A T))(j:∀a,A a->PT (f a) P)(p:∀b,T b->PT (k b) P):PT (Sx.bnd o λe=>exK e f k) P:=by
 refine OT h λy g=>?_;cases y with
 |ret a=>rw[Xy];exact j a g
 |nxt b=>rw[Xo];exact p b g
def Sk{o:Option β}{r:β}(h:PT o P)(e:o=.some r):P r:=h r e
end
@[simp] def Xt8{α β:Type}(A:α->Prop)(B:β->Prop)(a:α):tE A B (.ret a)=A a:=rfl
@[simp] def Xt9{α β:Type}(A:α->Prop)(B:β->Prop)(b:β):tE A B (.nxt b)=B b:=rfl
@[simp] def Xua(n:Nat):tU (no_index (OfNat.ofNat n):Int)=((OfNat.ofNat n:Nat)<=18446744073709551615):=by have:(no_index (OfNat.ofNat n):Int)=(n:Int):=rfl;simp only[eq_iff_iff];show(0:Int)<=n/\(n:Int)<=18446744073709551615↔n<=18446744073709551615;omega
@[simp] def Xub(n:Nat):tW (no_index (OfNat.ofNat n):Int)=((OfNat.ofNat n:Nat)<=4294967295):=by have:(no_index (OfNat.ofNat n):Int)=(n:Int):=rfl;simp only[eq_iff_iff];show(0:Int)<=n/\(n:Int)<=4294967295↔n<=4294967295;omega
@[simp] def XuR(n:Int):tU (wU n):=VW n
@[simp] def XsR(n:Int):tW (wW n):=by unfold tW;rw[XmM];omega
def Xbf(n:Int):tU (IntKind.wrap .u64 n):=VW n
def XmO(n:Int):tW (IntKind.wrap .u32 n):=XsR n
@[simp] def XtS(a b:Int):tU (Zu .u64 a b):=Xbf _
@[simp] def Xuc(a b:Int):tU (bOr .u64 a b):=Xbf _
@[simp] def XtT(a b:Int):tU (Xq8 .u64 a b):=Xbf _
@[simp] def XtU(a b:Int):tU (Kj .u64 a b):=Xbf _
@[simp] def XtV(a b:Int):tW (Zu .u32 a b):=XmO _
def XqR{a b:Int}(h:0<=a)(k:IntKind):0<=YL k a b/\YL k a b<=a:=by show 0<=a.fdiv _/\a.fdiv _<=a;have hp:(0:Int)<2 ^ min b.toNat (IntKind.bits k):=Int.pow_pos ag;rw[Int.fdiv_eq_ediv_of_nonneg _ ab];exact⟨Int.ediv_nonneg h ab,Int.ediv_le_self _ h⟩
@[simp] def XtW{a b:Int}(h:tU a):tU (YL .u64 a b):=by have:=XqR (b:=b) h.1 .u64;unfold tU at *;omega
@[simp] def XtX{a b:Int}(h:tW a):tW (YL .u32 a b):=by have:=XqR (b:=b) h.1 .u32;unfold tW at *;omega
@[simp] def XtY{a b:Int}(h:tU a):tU (a.tmod b):=by
 unfold tU at *;rw[IJ h.1];by_cases hb:b=0
 .subst hb;rw[Int.emod_zero];exact h
 have h1:=Int.emod_nonneg a hb;have h2:a % b<=a:=by
  obtain⟨n,rfl⟩:=UP h.1;rcases Int.natAbs_eq b with e|e
  .rw[e,←Int.natCast_emod];have:=Nat.mod_le n b.natAbs;omega
  rw[e,Int.emod_neg,←Int.natCast_emod];have:=Nat.mod_le n b.natAbs;omega
 omega
section
variable {α:Type}{T:α->Prop}
@[simp] def Xud:tL T ([]:List α):=λx h=>by grind
@[simp] def XtZ{x:α}{l:List α}:tL T (x::l)↔T x/\tL T l:=by unfold tL;simp
@[simp] def Xso{a b:List α}:tL T (a++b)↔tL T a/\tL T b:=by unfold tL;simp;exact⟨λh=>⟨λx hx=>h x (.inl hx),λx hx=>h x (.inr hx)⟩,λh x hx=>hx.elim (h.1 x) (h.2 x)⟩
@[simp] def Xdg{l:List α}{i:Nat}{x:α}(h:tL T l)(hx:T x):tL T (l.set i x):=λy hy=>by
 rcases WZ hy with h1|h1
 .exact h y h1
 simp_all
@[simp] def Xt0{l:List α}{i:Nat}(h:tL T l):tL T (l.take i):=λy hy=>h y (WS hy)
@[simp] def Xt1{l:List α}{i:Nat}(h:tL T l):tL T (l.drop i):=λy hy=>h y (WT hy)
@[simp] def Xue{n:Nat}{x:α}(h:T x):tL T (List.replicate n x):=λy hy=>by simp_all
end
@[simp] def Xuf{p:Prop}[Decidable p]{a b:Int}(ha:tU a)(hb:tU b):tU (if p then a else b):=by split;exact ha;exact hb
set_option maxHeartbeats 1000000
class TY{α:Type}(o:Option α)(H:outParam Prop)(P:outParam (α->Prop)):Prop where
 h:H->PT o P
class TE(α:Type)(T:outParam (α->Prop)):Prop where
 e:True
section
variable {α β:Type}{P:β->Prop}{T:α->Prop}{o:Option α}{H:Prop}{Q:α->Prop}
def Uv{f:α->Option β}[c:TY o H Q](h:H)(k:∀y,Q y->PT (f y) P):PT (Sx.bnd o f) P:=OT (c.h h) k
def Sd{α':Type}{o:Option (Ex α' α)}{f:α'->Option β}{k:α->Option β}{A:α'->Prop}[c:TY o H (tE A T)](h:H)(g:∀a,A a->PT (f a) P)(j:∀b,T b->PT (k b) P):PT (Sx.bnd o λe=>exK e f k) P:=O9 (c.h h) g j
def Se{l:List α}{i:Int}{f:α->Option β}[TE α T](h:tL T l)(k:∀p,T p->PT (f p) P):PT (Sx.bnd (Xd l i) f) P:=PT.get h k
end
def X6(s:Wh):Prop:=(tL tU) s.w
def KS(s:UI):Prop:=tU s.a
def XY(s:Ws):Prop:=(tL KS) s.S
def Yu(s:W8):Prop:=tU s.a
def YA(s:WG):Prop:=(tL Yu) s.e
def KJ(s:UE):Prop:=tU s.a
def YD(s:Um):Prop:=X6 s.h/\XY s.l/\YA s.g/\YA s.v/\(tL KJ) s.P/\(tL tU) s.R
def Za(s:Wx):Prop:=tW s.Map
def ZY(s:In):Prop:=Za s.H/\(tL tU) s.D
def VY(s:IA):Prop:=tU s.I/\tU s.B0
def X1(s:WQ):Prop:=(tL ZY) s.T/\XY s.l/\YA s.g/\YA s.v/\(tL VY) s.m/\(tL tU) s.R
def KT(s:Io):Prop:=YD s.N/\X1 s.z/\(tL tU) s.w
def VZ(s:Ou):Prop:=tU s.A/\tU s.B/\tU s.C
def Xfx(s:OA):Prop:=tU s.B0
def XgT(s:IM):Prop:=XY s.l
def Yv(s:Wu):Prop:=X6 s.h/\(tL tU) s.o/\(tL tU) s.q
def XeG(s:Us):Prop:=tU s.Addr
def Xjn(s:UV):Prop:=tU s.addr/\Za s.hd
def Xjo(s:Ih):Prop:=tU s.Value
@[simp] def XpI{l:List UI}{i:Nat}{x:UI}(h:tL KS l)(hx:tU x.a):tL KS (l.set i x):=Xdg h hx
@[simp] def XoE{l:List W8}{i:Nat}{x:W8}(h:tL Yu l)(hx:tU x.a):tL Yu (l.set i x):=Xdg h hx
@[simp] def XqS{l:List UE}{i:Nat}{x:UE}(h:tL KJ l)(hx:tU x.a):tL KJ (l.set i x):=Xdg h hx
@[simp] def XpJ{l:List IA}{i:Nat}{x:IA}(h:tL VY l)(hx:tU x.I/\tU x.B0):tL VY (l.set i x):=Xdg h hx
@[simp] def XoF{l:List In}{i:Nat}{x:In}(h:tL ZY l)(hx:tW x.H.Map/\(tL tU) x.D):tL ZY (l.set i x):=Xdg h hx
instance teTHeap:TE Wh X6:=⟨trivial⟩
instance teTSlot:TE UI KS:=⟨trivial⟩
instance teTLocals:TE Ws XY:=⟨trivial⟩
instance teTEntry:TE W8 Yu:=⟨trivial⟩
instance teTTable:TE WG YA:=⟨trivial⟩
instance teTPin:TE UE KJ:=⟨trivial⟩
instance teTEnv:TE Um YD:=⟨trivial⟩
instance teTHeader:TE Wx Za:=⟨trivial⟩
instance teTThing:TE In ZY:=⟨trivial⟩
instance teTMark:TE IA VY:=⟨trivial⟩
instance teTWorld:TE WQ X1:=⟨trivial⟩
instance teTPair:TE Io KT:=⟨trivial⟩
instance teTDeed:TE Ou VZ:=⟨trivial⟩
instance teTFact:TE OA Xfx:=⟨trivial⟩
instance teTframes:TE IM XgT:=⟨trivial⟩
instance teTWork:TE Wu Yv:=⟨trivial⟩
instance teTFinding:TE Us XeG:=⟨trivial⟩
instance teTfound:TE UV Xjn:=⟨trivial⟩
instance teTField:TE Ih Xjo:=⟨trivial⟩
attribute [local simp] X6 KS XY Yu YA KJ YD Za ZY VY X1 KT VZ Xfx XgT Yv XeG Xjn Xjo
def W4{p:Prop}(h:p:=by
 repeat' first
  |exact I9
  |refine WH ?_
  |refine Oa ?_
  |refine WC ?_ ?_
  |refine Sd ?_ (λ_ _=>?_) λ_ _=>?_
  |refine Uv ?_ λ_ _=>?_
  |refine TY.h ?_
  |refine Se ?_ λ_ _=>?_
  |(refine PT.get (T:=tU) ?_ λ_ _=>?_;.first|assumption|simp_all (maxDischargeDepth:=9))
  |refine UN λ_=>?_
 all_goals ((try clear e);simp_all (maxDischargeDepth:=9))):p:=h
instance Qo7{N e}:TY (QfV N e) (True) (λr=>X6 r.1):=⟨λh=>by
 rw[QfV]
 exact W4⟩
instance Qo8{N e}:TY (QeJ N e) (True) (λr=>YD r.1):=⟨λh=>by
 rw[QeJ]
 exact W4⟩
instance Qo9{N e}:TY (QfW N e) (True) (λr=>X1 r.1):=⟨λh=>by
 rw[QfW]
 exact W4⟩
instance QnP{N e}:TY (Qbh N e) (True) (λr=>KT r.1):=⟨λh=>by
 rw[Qbh]
 exact W4⟩
instance Qis{N e}:∀n g f,TY (QbL N e n g f) (YA e/\(tL tU) f) (tL tU)
 |0,_,_=>⟨λh=>by rw[QbL];exact I9⟩
 |n+1,g,f=>⟨λh=>by
  have j:=@Qis N e n
  rw[QbL]
  exact W4⟩
instance QoM{N e}:TY (Qa7 N e) (YA e) (tL tU):=⟨λh=>by
 rw[Qa7]
 exact W4⟩
instance Qit{N e}:∀n g f,TY (QbM N e n g f) (XY e/\(tL tU) f) (tL tU)
 |0,_,_=>⟨λh=>by rw[QbM];exact I9⟩
 |n+1,g,f=>⟨λh=>by
  have j:=@Qit N e n
  rw[QbM]
  exact W4⟩
instance QoN{N e}:TY (QcG N e) (XY e) (tL tU):=⟨λh=>by
 rw[QcG]
 exact W4⟩
instance QhM{N e}:∀n g f,TY (QbE N e n g f) (YD e/\(tL tU) f) (tL tU)
 |0,_,_=>⟨λh=>by rw[QbE];exact I9⟩
 |n+1,g,f=>⟨λh=>by
  have j:=@QhM N e n
  rw[QbE]
  exact W4⟩
instance Qob{N e}:TY (Qc5 N e) (YD e) (tL tU):=⟨λh=>by
 rw[Qc5]
 exact W4⟩
instance QoO{N e f}:TY (Qbi N e f) ((tL tU) e/\tU f) (λr=>tU r.1):=⟨λh=>by
 rw[Qbi]
 exact W4⟩
instance Qoc{N e}:TY (Qcv N e) (Za e) (λr=>tU r.1):=⟨λh=>by
 rw[Qcv]
 exact W4⟩
instance Qod{N e}:TY (Qcw N e) (tU e) (λr=>Za r.1):=⟨λh=>by
 rw[Qcw]
 exact W4⟩
instance Qpq{N f g}:TY (Qao N f g) (X6 f/\tU g) (λr=>Za r.1):=⟨λh=>by
 rw[Qao]
 refine(UN λj=>(WC (WH ?_) (UN λp=>(WC (WH ?_) (UN λq=>(Uv ?_ λs u=>(Uv ?_ λv w=>(U0 (Q:=λk=>∀(_:Unit),PT (k ()) _) (λ_=>(UN λx=>(WC (WC (WH ?_) (WC (WC (WH ?_) (WC (WH ?_) (WH ?_))) (WH ?_))) (WC (WC (WH ?_) (WC (WH ?_) (WH ?_))) (WH ?_))))) λy e=>(WC (WC (WH ?_) (WC (WH ?_) (WC (WH ?_) (e ())))) (WC (WH ?_) (WC (WH ?_) (e ()))))))))))))
 all_goals ((try clear z);simp_all (maxDischargeDepth:=9))⟩
instance QnY{N e f g}:TY (Qbv N e f g) (True) (λr=>tU r.1):=⟨λh=>by
 rw[Qbv]
 exact W4⟩
instance Qiu{N e g j}:∀n k f,TY (Qah N e g j n k f) (X6 e/\(tL tU) f) (tE (λr=>(tL tU) r.1) (tL tU))
 |0,_,_=>⟨λh=>by rw[Qah];exact I9⟩
 |n+1,k,f=>⟨λh=>by
  have p:=@Qiu N e g j n
  rw[Qah]
  exact W4⟩
instance QoP{N e f}:TY (Qaf N e f) (X6 e) (λr=>(tL tU) r.1):=⟨λh=>by
 rw[Qaf]
 exact W4⟩
instance QhN{N e}:∀n g f,TY (QaG N e n g f) (X6 e/\(tL tU) f) (tE (λr=>(tL tU) r.1) (tL tU))
 |0,_,_=>⟨λh=>by rw[QaG];exact I9⟩
 |n+1,g,f=>⟨λh=>by
  have j:=@QhN N e n
  rw[QaG]
  exact W4⟩
instance Qoe{N e}:TY (Qby N e) (X6 e) (λr=>(tL tU) r.1):=⟨λh=>by
 rw[Qby]
 exact W4⟩
instance Qht{N e f}:∀n j g,TY (Qa6 N e f n j g) (X6 e/\(λr=>(tL tU) r.1) f/\(tL tU) g) (tL tU)
 |0,_,_=>⟨λh=>by rw[Qa6];exact I9⟩
 |n+1,j,g=>⟨λh=>by
  have k:=@Qht N e f n
  rw[Qa6]
  exact W4⟩
instance QnZ{N e}:TY (Qal N e) (X6 e) (λr=>(tL tU) r.1):=⟨λh=>by
 rw[Qal]
 exact W4⟩
instance Qpa{N e f}:TY (Qb7 N e f) (X6 e/\tU f) (λr=>Za r.1):=⟨λh=>by
 rw[Qb7]
 exact W4⟩
instance QoQ{N e f g}:TY (Qc6 N e f g) ((tL tU) e/\tU f) (λr=>(tL tU) r.1):=⟨λh=>by
 rw[Qc6]
 exact W4⟩
instance Qos{N e}:TY (QcX N e) (X6 e) (λr=>Yv r.1):=⟨λh=>by
 rw[QcX]
 exact W4⟩
instance Qof{N e}:TY (Qcx N e) (tU e) (λr=>tU r.1):=⟨λh=>by
 rw[Qcx]
 exact W4⟩
instance Qh4{N e g}:∀n j f,TY (Qch N e g n j f) ((tL tU) e/\(tL tU) f) (tL tU)
 |0,_,_=>⟨λh=>by rw[Qch];exact I9⟩
 |n+1,j,f=>⟨λh=>by
  have k:=@Qh4 N e g n
  rw[Qch]
  exact W4⟩
instance Qot{N e f g}:TY (Qcf N e f g) ((tL tU) e/\tU f/\(tL tU) g) (λr=>(tL tU) r.1):=⟨λh=>by
 rw[Qcf]
 exact W4⟩
instance Qou{N e f g}:TY (QdD N e f g) ((tL tU) e/\tU f/\tU g) (λr=>(tL tU) r.1):=⟨λh=>by
 rw[QdD]
 exact W4⟩
instance QoR{N e f}:TY (QcL N e f) (Yv e/\tU f) Yv:=⟨λh=>by
 rw[QcL]
 exact W4⟩
instance Qov{N f g}:TY (Qcy N f g) (Yv f) (λr=>Yv r.1/\tU r.2.1):=⟨λh=>by
 rw[Qcy]
 refine(Oa (U0 (Q:=λk=>∀(_:Unit),PT (k ()) _) (λ_=>(UN λw=>(WC (WH ?_) (UN λx=>(Oa (Oa (UN λj=>(UN λp=>(UN λq=>(WH ?_)))))))))) λy e=>(WC (UN λz=>(UN λA=>(WC (UN λB=>(UN λs=>(UN λu=>(UN λv=>(WH ?_))))) (e ())))) (e ()))))
 all_goals ((try clear D);simp_all (maxDischargeDepth:=9))⟩
instance QoS{N e f g j}:TY (Qfp N e f g j) ((tL tU) e/\tU f/\tU g) (λr=>(tL tU) r.1):=⟨λh=>by
 rw[Qfp]
 exact W4⟩
instance Qn0{N e}:TY (QcM N e) (tU e) (λr=>tU r.1):=⟨λh=>by
 rw[QcM]
 exact W4⟩
instance Qn1{N e f}:TY (QaD N e f) (Yv e/\tU f) (λr=>Yv r.1/\tU r.2.1):=⟨λh=>by
 rw[QaD]
 exact W4⟩
instance Qh5{N j}:∀n p q s k u v6 v7 v8 v9 v10 v11 e v13 f v15 g v17 v18,TY (Qa3 N j n p q s k u v6 v7 v8 v9 v10 v11 e v13 f v15 g v17 v18) ((tL tU) j/\(tL tU) k/\(tL tU) v8/\(tL tU) v10/\(tL tU) v18) (tE (λr=>Yv r.1/\(tL tU) r.2.1) (λr=>(tL tU) r.2.2.1/\(tL tU) r.2.2.2.2.2.2.1/\(tL tU) r.2.2.2.2.2.2.2.2.1/\(tL tU) r.2.2.2.2.2.2.2.2.2.2.2.2.2.2.2.2))
 |0,_,_,_,_,_,_,_,_,_,_,_,_,_,_,_,_,_,_=>⟨λh=>by rw[Qa3];exact I9⟩
 |n+1,p,q,s,k,u,v6,v7,v8,v9,v10,v11,e,v13,f,v15,g,v17,v18=>⟨λh=>by
  have v:=@Qh5 N j n
  rw[Qa3]
  exact W4⟩
instance Qow{N e f}:TY (QcY N e f) (Yv e/\(tL tU) f) (λr=>Yv r.1/\(tL tU) r.2.1):=⟨λh=>by
 rw[QcY]
 exact W4⟩
instance Qpb{N e f}:TY (Qdi N e f) (Yv e/\tU f) Za:=⟨λh=>by
 rw[Qdi]
 exact W4⟩
instance Qiv{N j k}:∀n p q v6 v7 v8 v9 v10 v11 e v13 f v15 g v17 v18 v19 v20,TY (Qbd N j k n p q v6 v7 v8 v9 v10 v11 e v13 f v15 g v17 v18 v19 v20) (tU j/\(tL tU) v7/\(tL tU) v11/\(tL tU) v13) (tE (λr=>Yv r.1) (λr=>(tL tU) r.2.2.1/\(tL tU) r.2.2.2.2.2.2.1/\(tL tU) r.2.2.2.2.2.2.2.2.1))
 |0,_,_,_,_,_,_,_,_,_,_,_,_,_,_,_,_,_=>⟨λh=>by rw[Qbd];exact I9⟩
 |n+1,p,q,v6,v7,v8,v9,v10,v11,e,v13,f,v15,g,v17,v18,v19,v20=>⟨λh=>by
  have s:=@Qiv N j k n
  rw[Qbd]
  exact W4⟩
instance QoT{N e}:TY (Qea N e) (Yv e) (λr=>Yv r.1):=⟨λh=>by
 rw[Qea]
 exact W4⟩
instance Qjs{N}:∀n k p j q s v6 v7 v8 v9 v10 v11 e v13 f v15 g,TY (QbP N n k p j q s v6 v7 v8 v9 v10 v11 e v13 f v15 g) ((tL tU) j/\(tL tU) v7/\(tL tU) v9) (λr=>Yv r.1)
 |0,_,_,_,_,_,_,_,_,_,_,_,_,_,_,_,_=>⟨λh=>by rw[QbP];exact I9⟩
 |n+1,k,p,j,q,s,v6,v7,v8,v9,v10,v11,e,v13,f,v15,g=>⟨λh=>by
  have u:=@Qjs N n
  rw[QbP]
  exact W4⟩
instance Qpc{N e}:TY (Qeh N e) (Yv e) (λr=>Yv r.1):=⟨λh=>by
 rw[Qeh]
 exact W4⟩
instance Qox{N e f}:TY (Qcz N e f) (Yv e/\tU f) tU:=⟨λh=>by
 rw[Qcz]
 exact W4⟩
instance Qiw{N e f g j k}:∀n v7 v8,TY (Qbe N e f g j k n v7 v8) (Yv e/\(tL tU) v8) (tL tU)
 |0,_,_=>⟨λh=>by rw[Qbe];exact I9⟩
 |n+1,v7,v8=>⟨λh=>by
  have p:=@Qiw N e f g j k n
  rw[Qbe]
  exact W4⟩
instance Qix{N e}:∀n g j f k,TY (QaL N e n g j f k) (Yv e/\(tL tU) f) (λr=>(tL tU) r.2.1)
 |0,_,_,_,_=>⟨λh=>by rw[QaL];exact I9⟩
 |n+1,g,j,f,k=>⟨λh=>by
  have p:=@Qix N e n
  rw[QaL]
  exact W4⟩
instance QoU{N e}:TY (Qeb N e) (Yv e) Yv:=⟨λh=>by
 rw[Qeb]
 exact W4⟩
instance Qiy{N e}:∀n g f j,TY (QaB N e n g f j) (Yv e/\(tL tU) f) (λr=>(tL tU) r.1)
 |0,_,_,_=>⟨λh=>by rw[QaB];exact I9⟩
 |n+1,g,f,j=>⟨λh=>by
  have k:=@Qiy N e n
  rw[QaB]
  exact W4⟩
instance QoV{N e}:TY (Qec N e) (Yv e) Yv:=⟨λh=>by
 rw[Qec]
 exact W4⟩
instance Qhu{N q s u}:∀n v7 v8 v9,TY (QaI N q s u n v7 v8 v9) ((tL tU) q/\(λr=>Yv r.1/\(tL tU) r.2.1) s/\(λr=>Yv r.1) u/\(tL tU) v9) (λr=>(tL tU) r.2)
 |0,_,_,_=>⟨λh=>by rw[QaI];exact I9⟩
 |n+1,v7,v8,v9=>⟨λh=>by
  have v:=@Qhu N q s u n
  rw[QaI]
  refine(WC (PT.get (T:=tU) ?_ λw z=>(U0 (Q:=λk=>∀(e f:Int),tU e->PT (k e f) _) (λe f A=>(Oa (TY.h ?_))) λB g=>(WC (PT.get (T:=tU) ?_ λx D=>(Uv ?_ λy E=>(U0 (Q:=λk=>∀(j:Int),PT (k j) _) (λj=>(g _ _ ?_)) λG p=>(WC (p _) (p _))))) (g _ _ ?_)))) (WH ?_))
  all_goals ((try clear v);simp_all (maxDischargeDepth:=9))⟩
instance Qn2{N j p q}:TY (Qcg N j p q) (X6 j/\(tL tU) p/\(tL tU) q) (λr=>X6 r.1/\(tL tU) r.2.1/\(tL tU) r.2.2.1):=⟨λh=>by
 rw[Qcg]
 refine(UN λx=>(WC (WH ?_) (U0 (Q:=λk=>∀(_:Unit),PT (k ()) _) (λ_=>(WH ?_)) λy e=>(UN λz=>(WC (e ()) (UN λA=>(WC (e ()) (Uv ?_ λB D=>(Uv ?_ λE G=>(WC (WH ?_) (Uv ?_ λI J=>(WC (WH ?_) (Uv ?_ λs K=>(Uv ?_ λu L=>(Uv ?_ λv M=>(U0 (Q:=λk=>∀(f:Int),PT (k f) _) (λf=>(WH ?_)) λO g=>(WC (UN λw=>(g _)) (g _))))))))))))))))))
 all_goals ((try clear R);simp_all (maxDischargeDepth:=9))⟩
instance Qiz{N e f}:∀n j k g,TY (Qbf N e f n j k g) (XY e/\(tL tU) f/\(tL KS) g) (tE (λr=>XY r.1) (tL KS))
 |0,_,_,_=>⟨λh=>by rw[Qbf];exact I9⟩
 |n+1,j,k,g=>⟨λh=>by
  have p:=@Qiz N e f n
  rw[Qbf]
  exact W4⟩
instance QoW{N e f}:TY (Qc7 N e f) (XY e/\(tL tU) f) (λr=>XY r.1):=⟨λh=>by
 rw[Qc7]
 exact W4⟩
instance QiA{N e}:∀n g j f,TY (Qbg N e n g j f) ((tL tU) e/\(tL Yu) f) (tL Yu)
 |0,_,_,_=>⟨λh=>by rw[Qbg];exact I9⟩
 |n+1,g,j,f=>⟨λh=>by
  have k:=@QiA N e n
  rw[Qbg]
  exact W4⟩
instance QoX{N e f}:TY (Qb5 N e f) (YA e/\(tL tU) f) (λr=>YA r.1):=⟨λh=>by
 rw[Qb5]
 exact W4⟩
instance Qhv{N e f g j k p q}:∀n v10 v11,TY (QaX N e f g j k p q n v10 v11) (YD e/\(λr=>X6 r.1/\(tL tU) r.2.1/\(tL tU) r.2.2.1) f/\(tL tU) g/\(tL tU) j/\(λr=>XY r.1) k/\(λr=>YA r.1) p/\(λr=>YA r.1) q/\(tL KJ) v11) (tL KJ)
 |0,_,_=>⟨λh=>by rw[QaX];exact I9⟩
 |n+1,v10,v11=>⟨λh=>by
  have s:=@Qhv N e f g j k p q n
  rw[QaX]
  exact W4⟩
instance Qn3{N e}:TY (Qbx N e) (YD e) (λr=>YD r.1):=⟨λh=>by
 rw[Qbx]
 exact W4⟩
instance Qhw{N e g}:∀n j f,TY (Qbo N e g n j f) (X1 e/\(tL tU) f) (tL tU)
 |0,_,_=>⟨λh=>by rw[Qbo];exact I9⟩
 |n+1,j,f=>⟨λh=>by
  have k:=@Qhw N e g n
  rw[Qbo]
  exact W4⟩
instance Qn4{N e}:TY (Qdj N e) (X1 e) (λr=>X1 r.1):=⟨λh=>by
 rw[Qdj]
 exact W4⟩
instance Qog{N e}:TY (Qab N e) (True) (λr=>YD r.1/\tU r.2.1):=⟨λh=>by
 rw[Qab]
 exact W4⟩
instance Qoy{N g e f}:TY (QcA N g e f) (tU e/\tU f) (λr=>Za r.1):=⟨λh=>by
 rw[QcA]
 exact W4⟩
instance Qpd{N e f}:TY (Qej N e f) (XY e/\tU f) (λr=>XY r.1):=⟨λh=>by
 rw[Qej]
 exact W4⟩
instance Qoz{N f g}:TY (Qek N f g) (X6 f) (λr=>X6 r.1/\tU r.2.1):=⟨λh=>by
 rw[Qek]
 refine(Oa (UN λw=>(UN λx=>(U0 (Q:=λk=>∀(_:Unit),PT (k ()) _) (λ_=>(UN λy=>(WC (WH ?_) (WC (WH ?_) (UN λz=>(UN λj=>(UN λp=>(UN λq=>(WH ?_))))))))) λA e=>(WC (e ()) (UN λB=>(WC (e ()) (UN λD=>(WC (e ()) (WC (e ()) (UN λs=>(UN λu=>(UN λv=>(WH ?_))))))))))))))
 all_goals ((try clear E);simp_all (maxDischargeDepth:=9))⟩
instance QoA{N e f g}:TY (QeZ N e f g) (X6 e) (λr=>X6 r.1/\tU r.2.1):=⟨λh=>by
 rw[QeZ]
 exact W4⟩
instance QoY{N e f g}:TY (QbJ N e f g) (X6 e/\tU f/\Za g) (λr=>X6 r.1):=⟨λh=>by
 rw[QbJ]
 exact W4⟩
instance Qpe{N u v}:TY (QeN N u v) (X6 u/\Za v) (λr=>X6 r.1/\tU r.2.1):=⟨λh=>by
 rw[QeN]
 refine(UN λz=>(WC (WH ?_) (UN λA=>(WC (WH ?_) (UN λB=>(UN λD=>(Uv ?_ λE G=>(U0 (Q:=λk=>∀(s:Int) (w:Bool) (x f:Int) (e:List Int) (g:List Wr) (j p:Int),tU s->(tL tU) e->PT (k s w x f e g j p) _) (λs w x f e g j p I J=>(WC (WH ?_) (Uv ?_ λy K=>(WH ?_)))) λL q=>(WC (Uv ?_ λM O=>(q _ _ _ _ _ _ _ _ ?_ ?_)) (q _ _ _ _ _ _ _ _ ?_ ?_))))))))))
 all_goals ((try clear R);simp_all (maxDischargeDepth:=9))⟩
instance QoB{N J K}:TY (Qel N J K) (YD J/\Za K) (λr=>YD r.1/\tU r.2.1):=⟨λh=>by
 rw[Qel]
 refine(UN λU=>(WC (WH ?_) (Uv ?_ λV W=>(U0 (Q:=λk=>∀(G L M O:Int) (I:List Int) (s:List Wr) (u v:Int) (e:List UI) (w:List UU) (x:List Int) (f g:List W8) (j:List UE) (p:List Int) (y z:Int) (q:List Int) (A:List Wr) (B D:Int),tU G->(tL tU) I->(tL KS) e->(tL Yu) f->(tL Yu) g->(tL KJ) j->(tL tU) p->(tL tU) q->PT (k G L M O I s u v e w x f g j p y z q A B D) _) (λG L M O I s u v e w x f g j p y z q A B D Y Z h4 h5 h6 h7 h8 h9=>(WC (WH ?_) (WH ?_))) λj1 E=>(WC (Uv ?_ λy3 R=>(WC (WH ?_) (Uv ?_ λy4 S=>(E _ _ _ _ _ _ _ _ _ _ _ _ _ _ _ _ _ _ _ _ _ ?_ ?_ ?_ ?_ ?_ ?_ ?_ ?_)))) (E _ _ _ _ _ _ _ _ _ _ _ _ _ _ _ _ _ _ _ _ _ ?_ ?_ ?_ ?_ ?_ ?_ ?_ ?_))))))
 all_goals ((try clear ih);simp_all (maxDischargeDepth:=9))⟩
instance Qoh{N e}:TY (Qb8 N e) (True) (λr=>tU r.1):=⟨λh=>by
 rw[Qb8]
 exact W4⟩
instance QoC{N e f}:TY (QcB N e f) (YD e/\tU f) (λr=>YD r.1/\tU r.2.1):=⟨λh=>by
 rw[QcB]
 exact W4⟩
instance Qoi{N f p g j}:TY (QdH N f p g j) (YD f/\tU g/\tU j) (λr=>YD r.1/\tU r.2.1):=⟨λh=>by
 rw[QdH]
 refine(WC (Uv ?_ λq s=>(WH ?_)) (Uv ?_ λu v=>(U0 (Q:=λk=>∀(_:Unit),PT (k ()) _) (λ_=>(Uv ?_ λw x=>(WH ?_))) λy e=>(WC (e ()) (UN λz=>(WC (e ()) (Uv ?_ λA B=>(WC (Uv ?_ λD E=>(WH ?_)) (Uv ?_ λG I=>(WC (Uv ?_ λJ K=>(WH ?_)) (Uv ?_ λL M=>(WH ?_))))))))))))
 all_goals ((try clear O);simp_all (maxDischargeDepth:=9))⟩
instance Qpf{N e f g}:TY (QeO N e f g) (XY e) (λr=>tU r.1):=⟨λh=>by
 rw[QeO]
 exact W4⟩
instance Qpg{N e f g}:TY (QdI N e f g) (YA e) (λr=>tU r.1):=⟨λh=>by
 rw[QdI]
 exact W4⟩
instance Qn5{N e f}:TY (QaY N e f) (YD e/\tU f) (λr=>tU r.1):=⟨λh=>by
 rw[QaY]
 exact W4⟩
instance QoD{N e f}:TY (QbV N e f) (YD e/\tU f) (λr=>tU r.1):=⟨λh=>by
 rw[QbV]
 exact W4⟩
instance QoE{N e f g j}:TY (Qc0 N e f g j) (YD e/\tU f/\tU g) (λr=>tU r.1):=⟨λh=>by
 rw[Qc0]
 exact W4⟩
instance QoF{N e f g}:TY (Qc1 N e f g) (X6 e/\tU f) (λr=>tU r.1):=⟨λh=>by
 rw[Qc1]
 exact W4⟩
instance QnU{N e f j g}:TY (Qci N e f j g) (X6 e/\tU f/\tU g) (λr=>X6 r.1):=⟨λh=>by
 rw[Qci]
 exact W4⟩
instance QoG{N p x q s u}:TY (Qc2 N p x q s u) (YD p/\tU q/\tU s/\tU u) (λr=>YD r.1/\tU r.2.1):=⟨λh=>by
 rw[Qc2]
 refine(U0 (Q:=λk=>∀(j v w:Int),tU j->PT (k j v w) _) (λj v w B=>(WC (Uv ?_ λD E=>(WH ?_)) (Uv ?_ λG I=>(WC (WH ?_) (WC (Uv ?_ λJ K=>(WH ?_)) (U0 (Q:=λk=>∀(e:Int),tU e->PT (k e) _) (λe L=>(Uv ?_ λy M=>(WH ?_))) λO f=>(WC (Uv ?_ λR S=>(WC (Uv ?_ λz U=>(WH ?_)) (f _ ?_))) (f _ ?_)))))))) λV g=>(WC (Uv ?_ λW Y=>(g _ _ _ ?_)) (Uv ?_ λZ A=>(g _ _ _ ?_))))
 all_goals ((try clear ih);simp_all (maxDischargeDepth:=9))⟩
instance QoH{N f q g j}:TY (QcD N f q g j) (YD f/\tU g/\tU j) (λr=>YD r.1/\tU r.2.1):=⟨λh=>by
 rw[QcD]
 refine(U0 (Q:=λk=>∀(p:Bool),PT (k p) _) (λp=>(WC (Uv ?_ λw x=>(WC (Uv ?_ λy z=>(WH ?_)) (Uv ?_ λA B=>(WC (WH ?_) (WH ?_))))) (WC (Uv ?_ λD E=>(WC (Uv ?_ λG I=>(WH ?_)) (Uv ?_ λJ K=>(WC (Uv ?_ λL M=>(WH ?_)) (WC (WH ?_) (WH ?_)))))) (Uv ?_ λO R=>(WC (Uv ?_ λs S=>(WH ?_)) (Uv ?_ λu v=>(WH ?_))))))) λU e=>(WC (e _) (e _)))
 all_goals ((try clear V);simp_all (maxDischargeDepth:=9))⟩
instance Qjt{N e f}:∀n g,TY (Qb9 N e f n g) (YA e/\tU f) (tE (λr=>YA r.1) (λ_=>True))
 |0,_=>⟨λh=>by rw[Qb9];exact I9⟩
 |n+1,g=>⟨λh=>by
  have j:=@Qjt N e f n
  rw[Qb9]
  exact W4⟩
instance Qph{N e f}:TY (QcS N e f) (YA e/\tU f) (λr=>YA r.1):=⟨λh=>by
 rw[QcS]
 exact W4⟩
instance Qn6{N q v s}:TY (Qdk N q v s) (YD q/\tU s) (λr=>YD r.1/\tU r.2.1):=⟨λh=>by
 rw[Qdk]
 refine(Uv ?_ λw x=>(WC (Uv ?_ λy z=>(WH ?_)) (U0 (Q:=λk=>∀(u:Int) (g:List W8),(tL Yu) g->PT (k u g) _) (λu g A=>(Uv ?_ λB D=>(WC (Uv ?_ λE G=>(WH ?_)) (U0 (Q:=λk=>∀(j p:List W8),(tL Yu) j->(tL Yu) p->PT (k j p) _) (λj p I J=>(Uv ?_ λK L=>(WH ?_))) λM e=>(WC (e _ _ ?_ ?_) (e _ _ ?_ ?_)))))) λO f=>(WC (f _ _ ?_) (f _ _ ?_)))))
 all_goals ((try clear R);simp_all (maxDischargeDepth:=9))⟩
instance Qoj{N e f g}:TY (QdJ N e f g) (XY e) (λr=>XY r.1):=⟨λh=>by
 rw[QdJ]
 exact W4⟩
instance Qpi{N e g f}:TY (Qgz N e g f) (YA e/\Yu f) YA:=⟨λh=>by
 rw[Qgz]
 exact W4⟩
instance Qok{N e f g}:TY (QcE N e f g) (YA e) (λr=>YA r.1):=⟨λh=>by
 rw[QcE]
 exact W4⟩
instance Qol{N g p j}:TY (QdK N g p j) (YD g/\tU j) (λr=>YD r.1/\tU r.2.1):=⟨λh=>by
 rw[QdK]
 refine(WC (Uv ?_ λq s=>(WH ?_)) (Uv ?_ λu v=>(WC (Uv ?_ λw x=>(WH ?_)) (UN λy=>(U0 (Q:=λk=>∀(_:Unit),PT (k ()) _) (λ_=>(WC (Uv ?_ λz A=>(WH ?_)) (WC (Uv ?_ λB D=>(WH ?_)) (Uv ?_ λE G=>(WH ?_))))) λI e=>(U0 (Q:=λk=>∀(_:Unit),PT (k ()) _) (λ_=>(Uv ?_ λJ K=>(WH ?_))) λL f=>(WC (WC (f ()) (WC (WC (f ()) (WC (WC (f ()) (e ())) (e ()))) (WC (WC (f ()) (e ())) (e ())))) (WC (WC (f ()) (WC (WC (f ()) (e ())) (e ()))) (WC (WC (f ()) (e ())) (e ()))))))))))
 all_goals ((try clear M);simp_all (maxDischargeDepth:=9))⟩
instance QoZ{N f g j}:TY (Qga N f g j) (XY f) (λr=>XY r.1):=⟨λh=>by
 rw[Qga]
 refine(UN λp=>(WC (WH ?_) (WC (WH ?_) (WC (WH ?_) (U0 (Q:=λk=>∀(_:Unit),PT (k ()) _) (λ_=>(WC (WH ?_) (Oa (Oa (WH ?_))))) λq e=>(WC (WC (WH ?_) (e ())) (e ())))))))
 all_goals ((try clear s);simp_all (maxDischargeDepth:=9))⟩
instance Qo0{N e f}:TY (Qed N e f) (XY e) (λr=>XY r.1):=⟨λh=>by
 rw[Qed]
 exact W4⟩
instance Qpj{N e f}:TY (QgA N e f) (XY e) XY:=⟨λh=>by
 rw[QgA]
 exact W4⟩
instance Qpk{N e}:TY (QeP N e) (XY e) (λr=>XY r.1):=⟨λh=>by
 rw[QeP]
 exact W4⟩
instance Qom{N e g f}:TY (QdL N e g f) (YD e/\tU f) (λr=>YD r.1/\tU r.2.1):=⟨λh=>by
 rw[QdL]
 exact W4⟩
instance QoI{N e f g}:TY (QbW N e f g) (X6 e/\tU f) X6:=⟨λh=>by
 rw[QbW]
 exact W4⟩
instance Qn7{N e f g}:TY (Qdl N e f g) (X6 e/\(tL KJ) f/\tU g) (λr=>X6 r.1/\(tL KJ) r.2.1):=⟨λh=>by
 rw[Qdl]
 exact W4⟩
instance Qpl{N j p q}:TY (Qfl N j p q) (X6 j/\(tL KJ) p/\tU q) (λr=>X6 r.1/\(tL KJ) r.2.1/\tU r.2.2.1):=⟨λh=>by
 rw[Qfl]
 refine(UN λv=>(WC (WH ?_) (WC (WH ?_) (UN λw=>(WC (WH ?_) (UN λx=>(U0 (Q:=λk=>∀(_:Unit),PT (k ()) _) (λ_=>(Oa (U0 (Q:=λk=>∀(f:List UE),(tL KJ) f->PT (k f) _) (λf y=>(Uv ?_ λs z=>(WH ?_))) λA g=>(WC (PT.get (T:=KJ) ?_ λB D=>(PT.get (T:=KJ) ?_ λu E=>(g _ ?_))) (Oa (g _ ?_)))))) λG e=>(WC (PT.get (T:=KJ) ?_ λI J=>(WC (WH ?_) (WC (WC (WH ?_) (UN λK=>(WC (WH ?_) (e ())))) (UN λL=>(WC (WH ?_) (e ())))))) (WC (WC (WH ?_) (UN λM=>(WC (WH ?_) (e ())))) (UN λO=>(WC (WH ?_) (e ()))))))))))))
 all_goals ((try clear R);simp_all (maxDischargeDepth:=9))⟩
instance Qo1{N e g f}:TY (QeQ N e g f) (YD e/\tU f) (λr=>YD r.1/\tU r.2.1):=⟨λh=>by
 rw[QeQ]
 exact W4⟩
instance Qo2{N L Z M O R}:TY (Qag N L Z M O R) (YD L/\tU M/\tU O/\tU R) (λr=>YD r.1/\tU r.2.1):=⟨λh=>by
 rw[Qag]
 refine(UN λy1=>(WC (Uv ?_ λy2 h1=>(WH ?_)) (U0 (Q:=λk=>∀(S:Bool),PT (k S) _) (λS=>(WC (Uv ?_ λy5 h2=>(WH ?_)) (U0 (Q:=λk=>∀(U:Bool),PT (k U) _) (λU=>(WC (Uv ?_ λy9 h3=>(WH ?_)) (U0 (Q:=λk=>∀(p:Bool),PT (k p) _) (λp=>(WC (Uv ?_ λy13 h4=>(WH ?_)) (U0 (Q:=λk=>∀(q:Bool),PT (k q) _) (λq=>(WC (Uv ?_ λy15 h5=>(WH ?_)) (U0 (Q:=λk=>∀(s:Bool),PT (k s) _) (λs=>(WC (Uv ?_ λy18 h6=>(WH ?_)) (U0 (Q:=λk=>∀(u:Bool),PT (k u) _) (λu=>(WC (Uv ?_ λy20 h7=>(WH ?_)) (U0 (Q:=λk=>∀(v:Bool),PT (k v) _) (λv=>(WC (Uv ?_ λy22 h8=>(WH ?_)) (Uv ?_ λy23 h9=>(WH ?_)))) λj13 e=>(WC (e _) (e _))))) λj12 f=>(WC (f _) (f _))))) λj11 g=>(WC (g _) (U0 (Q:=λk=>∀(w:Bool),PT (k w) _) (λw=>(g _)) λj10 j=>(WC (j _) (j _))))))) λj9 x=>(WC (x _) (x _))))) λj8 y=>(WC (y _) (U0 (Q:=λk=>∀(z:Bool),PT (k z) _) (λz=>(y _)) λj7 A=>(WC (A _) (U0 (Q:=λk=>∀(B:Bool),PT (k B) _) (λB=>(A _)) λj6 D=>(WC (D _) (D _))))))))) λj5 E=>(WC (E _) (U0 (Q:=λk=>∀(V:Bool),PT (k V) _) (λV=>(E _)) λj4 G=>(WC (G _) (U0 (Q:=λk=>∀(W:Bool),PT (k W) _) (λW=>(G _)) λj3 I=>(WC (I _) (I _))))))))) λj2 J=>(WC (J _) (U0 (Q:=λk=>∀(Y:Bool),PT (k Y) _) (λY=>(J _)) λj1 K=>(WC (K _) (K _)))))))
 all_goals ((try clear ih);simp_all (maxDischargeDepth:=9))⟩
instance Qn8{N g j s p u}:TY (QeE N g j s p u) (YD g/\YD j/\tU p) Xfx:=⟨λh=>by
 rw[QeE]
 refine(U0 (Q:=λk=>∀(q:Bool),PT (k q) _) (λq=>(U0 (Q:=λk=>∀(r:Bool),PT (k r) _) (λr=>(WC (WC (WH ?_) (WH ?_)) (WH ?_))) λv f=>(WC (f _) (f _)))) λw e=>(WC (e _) (WC (e _) (e _))))
 all_goals ((try clear x);simp_all (maxDischargeDepth:=9))⟩
instance Qn9{N e f}:TY (QaE N e f) (X1 e/\tU f) (λr=>tU r.1):=⟨λh=>by
 rw[QaE]
 exact W4⟩
instance QoJ{N e f}:TY (Qc4 N e f) (X1 e/\tU f) (λr=>X1 r.1/\tU r.2):=⟨λh=>by
 rw[Qc4]
 exact W4⟩
instance Qpm{N e f j g}:TY (Qfm N e f j g) (X1 e/\tU f/\tU g) X1:=⟨λh=>by
 rw[Qfm]
 exact W4⟩
instance Qoa{N j v p}:TY (QeF N j v p) (X1 j/\tU p) (λr=>X1 r.1/\tU r.2):=⟨λh=>by
 rw[QeF]
 refine(U0 (Q:=λk=>∀(f g:List W8) (q s u:Int),(tL Yu) f->(tL Yu) g->PT (k f g q s u) _) (λf g q s u w x=>(Uv ?_ λy z=>(WH ?_))) λA e=>(WC (Uv ?_ λB D=>(e _ _ _ _ _ ?_ ?_)) (Uv ?_ λE G=>(e _ _ _ _ _ ?_ ?_))))
 all_goals ((try clear I);simp_all (maxDischargeDepth:=9))⟩
instance Qon{N e f}:TY (Qfe N e f) (X1 e/\tU f) X1:=⟨λh=>by
 rw[Qfe]
 exact W4⟩
instance Qo3{N e j f g}:TY (Qfr N e j f g) (X1 e/\tU f/\tU g) (λr=>X1 r.1/\tU r.2):=⟨λh=>by
 rw[Qfr]
 exact W4⟩
instance Qo4{N J W K L M O}:TY (Qfs N J W K L M O) (X1 J/\tU K/\tU L/\tU M/\Xfx O) (λr=>X1 r.1/\tU r.2.1):=⟨λh=>by
 rw[Qfs]
 refine(UN λy1=>(WC (WH ?_) (U0 (Q:=λk=>∀(G:Int),tU G->PT (k G) _) (λG h1=>(U0 (Q:=λk=>∀(R:Bool),PT (k R) _) (λR=>(WC (U0 (Q:=λk=>∀(S U:Int) (I:List In) (e:List UI) (s:List UU) (u:List Int) (f g:List W8) (j:List IA) (p:List Int),(tL ZY) I->(tL KS) e->(tL Yu) f->(tL Yu) g->(tL VY) j->(tL tU) p->PT (k S U I e s u f g j p) _) (λS U I e s u f g j p h2 h3 h4 h5 h6 h7=>(Uv ?_ λY h8=>(Oa (Oa (Oa (Oa (Uv ?_ λZ h9=>(WH ?_)))))))) λj4 v=>(WC (Uv ?_ λy6 h10=>(v _ _ _ _ _ _ _ _ _ _ ?_ ?_ ?_ ?_ ?_ ?_)) (v _ _ _ _ _ _ _ _ _ _ ?_ ?_ ?_ ?_ ?_ ?_))) (WC (PT.get (T:=ZY) ?_ λp19 h11=>(WH ?_)) (WC (PT.get (T:=ZY) ?_ λp20 h12=>(WH ?_)) (WC (PT.get (T:=ZY) ?_ λp21 h13=>(PT.get (T:=tU) ?_ λp22 h14=>(WH ?_))) (WC (Uv ?_ λy23 h15=>(WH ?_)) (WC (PT.get (T:=ZY) ?_ λp24 h16=>(PT.get (T:=tU) ?_ λp25 h17=>(Uv ?_ λy26 h18=>(WH ?_)))) (WC (Uv ?_ λy27 h19=>(Uv ?_ λy28 h20=>(WH ?_))) (WC (Uv ?_ λy29 h21=>(WC (WH ?_) (WH ?_))) (WC (Uv ?_ λy30 h22=>(WH ?_)) (U0 (Q:=λk=>∀(w:Bool),PT (k w) _) (λw=>(WC (Uv ?_ λy32 h23=>(WH ?_)) (U0 (Q:=λk=>∀(x:Bool),PT (k x) _) (λx=>(WC (Uv ?_ λy35 h24=>(WH ?_)) (WC (Uv ?_ λy36 h25=>(WH ?_)) (WC (Uv ?_ λy37 h26=>(Uv ?_ λy38 h27=>(WH ?_))) (Uv ?_ λy39 h28=>(WH ?_)))))) λj7 y=>(WC (y _) (U0 (Q:=λk=>∀(z:Bool),PT (k z) _) (λz=>(y _)) λj6 A=>(WC (A _) (A _))))))) λj5 B=>(WC (B _) (B _))))))))))))) λj3 D=>(WC (D _) (U0 (Q:=λk=>∀(V:Bool),PT (k V) _) (λV=>(D _)) λj2 E=>(WC (E _) (E _)))))) λj1 q=>(WC (WC (Uv ?_ λy2 h29=>(q _ ?_)) (q _ ?_)) (q _ ?_)))))
 all_goals ((try clear ih);simp_all (maxDischargeDepth:=9))⟩
instance Qoo{N Z a1}:TY (QbQ N Z a1) (KT Z/\VZ a1) (λr=>KT r.1/\tU r.2.1):=⟨λh=>by
 rw[QbQ]
 refine(WC (Uv ?_ λy1 h1=>(U0 (Q:=λk=>∀(x3 x4:Int) (W:List Int) (x6:List Wr) (x7 x8:Int) (Y:List UI) (E:List UU) (G:List Int) (e f:List W8) (g:List UE) (j:List Int) (I J:Int) (p:List In) (q:List UI) (K:List UU) (L:List Int) (s u:List W8) (v:List IA) (w:List Int),(tL tU) W->(tL KS) Y->(tL Yu) e->(tL Yu) f->(tL KJ) g->(tL tU) j->(tL ZY) p->(tL KS) q->(tL Yu) s->(tL Yu) u->(tL VY) v->(tL tU) w->PT (k x3 x4 W x6 x7 x8 Y E G e f g j I J p q K L s u v w) _) (λx3 x4 W x6 x7 x8 Y E G e f g j I J p q K L s u v w h2 h3 h4 h5 h6 h7 h8 h9 h10 h11 h12 h13=>(WH ?_)) λj1 M=>(WC (Uv ?_ λy2 h14=>(M _ _ _ _ _ _ _ _ _ _ _ _ _ _ _ _ _ _ _ _ _ _ _ ?_ ?_ ?_ ?_ ?_ ?_ ?_ ?_ ?_ ?_ ?_ ?_)) (M _ _ _ _ _ _ _ _ _ _ _ _ _ _ _ _ _ _ _ _ _ _ _ ?_ ?_ ?_ ?_ ?_ ?_ ?_ ?_ ?_ ?_ ?_ ?_)))) (Uv ?_ λy26 h15=>(Uv ?_ λy27 h16=>(Uv ?_ λy28 h17=>(U0 (Q:=λk=>∀(O R:Int) (x:List In) (y:List UI) (S:List UU) (U:List Int) (z A:List W8) (B:List IA) (D:List Int),(tL ZY) x->(tL KS) y->(tL Yu) z->(tL Yu) A->(tL VY) B->(tL tU) D->PT (k O R x y S U z A B D) _) (λO R x y S U z A B D h18 h19 h20 h21 h22 h23=>(WC (WC (Oa (Oa (WH ?_))) (WH ?_)) (WH ?_))) λj2 V=>(WC (V _ _ _ _ _ _ _ _ _ _ ?_ ?_ ?_ ?_ ?_ ?_) (V _ _ _ _ _ _ _ _ _ _ ?_ ?_ ?_ ?_ ?_ ?_)))))))
 all_goals ((try clear ih);simp_all (maxDischargeDepth:=9))⟩
instance QnV{N g q}:TY (QbX N g q) (KT g) (λr=>tU r.1):=⟨λh=>by
 rw[QbX]
 refine(UN λw=>(WC (UN λx=>(PT.get (T:=tU) ?_ λy z=>(WH ?_))) (WC (UN λA=>(PT.get (T:=tU) ?_ λB D=>(UN λE=>(WH ?_)))) (U0 (Q:=λk=>∀(j:Bool),PT (k j) _) (λj=>(WC (UN λG=>(PT.get (T:=tU) ?_ λs I=>(WH ?_))) (UN λu=>(PT.get (T:=tU) ?_ λv J=>(WH ?_))))) λK e=>(WC (e _) (U0 (Q:=λk=>∀(p:Bool),PT (k p) _) (λp=>(e _)) λL f=>(WC (f _) (f _))))))))
 all_goals ((try clear M);simp_all (maxDischargeDepth:=9))⟩
instance QnW{N q u}:TY (QcT N q u) (KT q) (λr=>VZ r.1):=⟨λh=>by
 rw[QcT]
 refine(UN λD=>(UN λE=>(WC (UN λG=>(Oa (UN λI=>(WH ?_)))) (U0 (Q:=λk=>∀(s:Bool),PT (k s) _) (λs=>(WC (UN λJ=>(UN λK=>(WC (UN λL=>(WH ?_)) (WH ?_)))) (WC (UN λM=>(WH ?_)) (Uv ?_ λv O=>(UN λw=>(UN λx=>(U0 (Q:=λk=>∀(g:List Int) (j e:Int),tU e->PT (k g j e) _) (λg j e R=>(WC (Uv ?_ λy S=>(WH ?_)) (WH ?_))) λU f=>(WC (Uv ?_ λz V=>(f _ _ _ ?_)) (UN λA=>(WC (Uv ?_ λB W=>(f _ _ _ ?_)) (f _ _ _ ?_))))))))))) λY p=>(WC (p _) (p _))))))
 all_goals ((try clear Z);simp_all (maxDischargeDepth:=9))⟩
def Qh6{N f g}(e:KT f):PT (QcT N f g) (λr=>VZ r.1):=TY.h e
def QiB{N g j}(e:X1 g)(f:tU j):PT (QaE N g j) (λr=>tU r.1):=TY.h ⟨e,f⟩
def QhO{N e}:PT (Qbh N e) (λr=>KT r.1):=TY.h trivial
def Qju{N g j}(e:KT g)(f:VZ j):PT (QbQ N g j) (λr=>KT r.1/\tU r.2.1):=TY.h ⟨e,f⟩
def BIG:Nat:=1099511627776
def XcB{ws:List Int}(e:ws.length<=BIG)(N:Nat)(a k:Int)(h:-1<=k/\k<=1000000000000000000):QdC N ws a k =
 some (if 4096<=a/\a<=4096+ws.length then(a-4096,decide (a+k<=4096+ws.length))else(0,false)):=by
 unfold BIG at e;simp only[QdC,UL];rw[XE (n:=(ws.length:Int)) ab ab,XE (n:=4096+(ws.length:Int)) ab ab];by_cases f:a<4096
 .grind
 rw[Wk f];by_cases g:a>4096+ws.length
 .grind
 rw[Wk g,Wn ab,XE (n:=a-4096) ab ab,Xe (n:=a-4096) ab ab,Xe ab ab];grind
def inW(ws:List Int)(a:Int):Prop:=4096<=a/\a<4096+ws.length
instance(ws:List Int)(a:Int):Decidable (inW ws a):=by unfold inW;infer_instance
def ix(a:Int):Nat:=(a-4096).toNat
def Yp{ws:List Int}(g:ws.length<=BIG)(N:Nat)(a:Int):Qbi N ws a=some (if inW ws a then(ws.getD (ix a) 0,0)else(0,2)):=by
 simp only[Qbi,QfK,XcB g N a 1 ab,Xa];by_cases h:4096<=a/\a<=4096+ws.length
 .simp only[Wn h];by_cases e:inW ws a
  .have f:a+1<=4096+ws.length:=by unfold inW at e;omega
   simp only[Wn e,f,decide_true,Wi,Wa,Xa];have j:(a-4096).toNat<ws.length:=by unfold inW at e;omega
   rw[show((0:Int) != 0)=false from rfl,Wa,Yi ab ab,Xa];simp[ix,List.getD,j]
  have f:¬a+1<=4096+ws.length:=by unfold inW at e;omega
  simp[Wk,e,f,decide_false,Ui,Wc,Xa]
 have e:¬inW ws a:=by unfold inW;omega
 simp[Wk,h,e,Ui,Wc,Xa]
def ovr(ws l:List Int)(i:Nat):List Int:=ws.take i++l++ws.drop (i+l.length)
def ZC{ws l:List Int}{i:Nat}(h:i+l.length<=ws.length):(ovr ws l i).length=ws.length:=by grind[ovr]
def Xfy{ws l:List Int}{i:Nat}(h:i+l.length<=ws.length)(j:Nat):(ovr ws l i)[j]? = if i<=j/\j<i+l.length then l[j-i]? else ws[j]?:=by
 unfold ovr;have e:(ws.take i).length=i:=by simp only[Wl];omega
 grind
def V0{ws l:List Int}{i:Nat}(h:i+l.length<=ws.length)(j:Nat):(ovr ws l i).getD j 0=if i<=j/\j<i+l.length then l.getD (j-i) 0 else ws.getD j 0:=by simp only[Wj,Xfy h];grind
def XgU{l:List Int}(y:Int×Bool)(i N:Nat)(ws:List Int)(p:y.1=i)(h:i+l.length<=ws.length)(s:ws.length<=BIG):∀(n k:Nat) (v:List Int),k<=l.length->l.length-k<n->v=ovr ws (l.take k) i ->
 Qch N l y n (k:Int) v=some (ovr ws l i)
 |0,k,v,_,u,_=>by omega
 |n+1,k,v,B,u,q=>by
  unfold BIG at s;rw[Qch];have g:(l.take k).length=k:=by simp;omega
  have w:v.length=ws.length:=by rw[q];exact ZC ab
  by_cases x:k<l.length
  .have z:decide ((k:Int)<(l.length:Int))=true:=by simp;omega
   have A:wI (y.1+(k:Int))=((i+k:Nat):Int):=by rw[p,Xe ab ab];simp
   have e3:wI ((k:Int)+1)=((k+1:Nat):Int):=by rw[Xe ab ab];simp
   rw[z,Wc,Yi ab ab,Xa,A,Yi ab ab,Xa,e3];refine XgU y i N ws p h (by unfold BIG;omega) n (k+1) _ ab ab ?_;rw[q];simp only[Int.toNat_natCast];apply List.ext_getElem?;intro j;have e:(l.take (k+1)).length=k+1:=by simp only[Wl];omega
   rw[U1,ZC ab,Xfy ab,Xfy ab,g,e];by_cases r:i+k=j
   .subst r;rw[Wn rfl,Wn ab,Wn ab,Ut,Wn ab,IV,Wb x]
   rw[Wk r];by_cases f:i<=j/\j<i+k
   .rw[Wn f,Wn ab,Ut,Ut,Wn ab,Wn ab]
   rw[Wk f,Wk ab]
  grind
def YE(ws:List Int)(a:Int)(k:Nat):Prop:=4096<=a/\a+k<=4096+ws.length
instance(ws:List Int)(a:Int)(k:Nat):Decidable (YE ws a k):=by unfold YE;infer_instance
def ZU{ws l:List Int}(e:ws.length<=BIG)(j:l.length<=BIG){N:Nat}(hN:l.length<N)(a:Int):Qcf N ws a l=some (if YE ws a l.length then(ovr ws l (ix a),0)else([],2)):=by
 simp only[Qcf];rw[XcB e N a _ (by unfold BIG at j;omega),Xa];by_cases h:YE ws a l.length
 .have f:4096<=a/\a<=4096+ws.length:=by unfold YE at h;omega
  have g:a+(l.length:Int)<=4096+ws.length:=by unfold YE at h;omega
  simp only[Wn h,Wn f,g,decide_true,Wi,Wa];rw[Xb (by unfold BIG at e;omega)];have:=XgU (l:=l) (a-4096,true) (ix a) N ws (by unfold ix;omega) (by unfold ix;omega) e N 0 ws ab ab (by simp[ovr]);rw[show((0:Nat):Int)=0 from rfl]at this;rw[this,Xa]
 by_cases f:4096<=a/\a<=4096+ws.length
 .have g:¬a+(l.length:Int)<=4096+ws.length:=by unfold YE at h;omega
  simp only[Wk h,Wn f,g,decide_false,Ui,Wc]
 grind
def KK{ws:List Int}(g:ws.length<=BIG){N:Nat}(hN:1<N)(a v:Int):QdD N ws a v=some (if inW ws a then(ws.set (ix a) v,0)else([],2)):=by
 simp only[QdD];rw[ZU (l:=[v]) g (by unfold BIG;simp) ab,Xa];by_cases h:inW ws a
 .have f:YE ws a [v].length:=by unfold inW at h;unfold YE;simp only[Uu,IL];omega
  simp only[Wn h,Wn f];unfold ovr;have e:ix a<ws.length:=by unfold inW at h;unfold ix;omega
  simp[List.set_eq_take_append_cons_drop,e]
 have f:¬YE ws a [v].length:=by unfold inW at h;unfold YE;simp only[Uu,IL];omega
 simp_all
def XcC{ws:List Int}(g:ws.length<=BIG)(N:Nat)(a:Int)(k:Nat)(q:k<=1000000000):Qc6 N ws a (k:Int)=some (if YE ws a k then((ws.drop (ix a)).take k,0)else([],2)):=by
 simp only[Qc6];have j:decide ((k:Int)<0)=false:=We ab;rw[j,Wa,XcB g N a _ ab,Xa];unfold BIG at g;by_cases h:YE ws a k
 .have e:4096<=a/\a<=4096+ws.length:=by unfold YE at h;omega
  have f:a+(k:Int)<=4096+ws.length:=by unfold YE at h;omega
  simp only[Wn h,Wn e,f,decide_true,Wi,Wa];rw[Xe (n:=a-4096+(k:Int)) ab ab,Xb ab,Xb ab];have p:(a-4096+(k:Int)).toNat-(a-4096).toNat=k:=ab;rw[p];rfl
 by_cases e:4096<=a/\a<=4096+ws.length
 .have f:¬a+(k:Int)<=4096+ws.length:=by unfold YE at h;omega
  simp only[Wk h,Wn e,f,decide_false,Ui,Wc]
 grind
def Xfz{ws:List Int}(j:ws.length<=BIG){N:Nat}(f a:Int)(k:Nat)(p:k<=1000000000)(hN:k<N):Qfp N ws f a (k:Int) =
 some (if YE ws a k/\YE ws f k then(ovr ws ((ws.drop (ix a)).take k) (ix f),0)else([],2)):=by
 simp only[Qfp];rw[XcC j N a k p,Xa];by_cases h:YE ws a k
 .have e:((ws.drop (ix a)).take k).length=k:=by unfold YE at h;simp[ix];omega
  simp only[Wn h];rw[show((0:Int) != 0)=false from rfl,Wa,ZU j (by unfold BIG;omega) (by rw[e];exact hN),Xa,e];by_cases g:YE ws f k
  .rw[Wn g,Wn ⟨h,g⟩]
  rw[Wk g,Wk (λq=>g q.2)]
 simp_all
def XN(d:Wx):Bool:=decide (0<=d.k/\d.k<=3/\0<=d.n/\d.n<=255)&&(if d.k=1 then decide (d.n<=32)&&decide (d.Map % 18446744073709551616<2 ^ d.n.toNat)else decide (d.Map=0))
def ZM(N:Nat)(d:Wx):QcW N d=some (XN d):=by
 simp only[QcW,UL,XN];by_cases f:d.k<0
 .rw[Wn f,We ab,UJ]
 rw[Wk f];by_cases g:d.k>3
 .rw[Wn g,We ab,UJ]
 rw[Wk g];by_cases h:d.n<0
 .rw[Wn h,We ab,UJ]
 rw[Wk h];by_cases j:d.n>255
 .rw[Wn j,We ab,UJ]
 rw[Wk j,Wg (p:=0<=d.k/\d.k<=3/\0<=d.n/\d.n<=255) ab,Uc];by_cases q:d.k=1
 .rw[Wn q,q,show((1:Int) != 1)=false from rfl,Wa];by_cases e:d.n<=32
  .rw[Wn e,XE (n:=d.n) ab ab,Xb ab,XmN ab ab,Xcg,Wg e,Uc]
  rw[Wk e,We e,UJ]
 grind
def XQ{d:Wx}(h:XN d=true):0<=d.k/\d.k<=3/\0<=d.n/\d.n<=255:=by unfold XN at h;simp_all
def XM(d:Wx):Int:=if XN d then d.n+1 else 0
def X4(N:Nat)(d:Wx):QcI N d=some (XM d):=by
 simp only[QcI,ZM,Xa,XM];cases h:XN d with
 |false=>rfl
 |true=>have:=XQ h;simp[Xe (n:=d.n+1) ab ab]
def XmP(d:Wx):0<=XM d/\XM d<=256:=by
 unfold XM;split
 .rename_i h;have:=XQ h;omega
 omega
def ZD(d:Wx):Int:=wU (wU (wU (1+wU (4*wU d.k))+wU (16*wU d.n))+Kj .u64 (wU d.Map) 16)
def K0(N:Nat)(d:Wx):Qcv N d=some (if XN d then(ZD d,0)else(0,1)):=by simp only[Qcv,ZM,Xa];cases h:XN d<;>rfl
def XbN(w:Int):Wx:=⟨wI (Zu .u64 (YL .u64 w 2) 3),wI (Zu .u64 (YL .u64 w 4) 4095),wW (YL .u64 w 16)⟩
def okH(w:Int):Bool:=XN (XbN w)&&(ZD (XbN w)==w)
def Zj(w:Int):Wx:=if okH w then XbN w else⟨0,0,0⟩
def ZN(N:Nat)(w:Int):Qcw N w=some (Zj w,okH w):=by simp only[Qcw];rw[K0 N (Wx.mk _ _ _),Xa];unfold Zj okH XbN;grind
def Z1(w:Int):XN (Zj w)=true:=by
 unfold Zj;split
 .rename_i h;unfold okH at h;simp_all
 rfl
def XeH(w:Int):XM (Zj w)=(Zj w).n+1/\1<=XM (Zj w)/\XM (Zj w)<=256:=by have h:=Z1 w;have:=XQ h;unfold XM;grind
def Jt(d:Wx)(i:Int):Bool:=XN d&&(decide (0<=i/\i<d.n)&&(decide (d.k=2)||(decide (d.k=1)&&(Zu .u32 (YL .u32 d.Map (wU i)) 1==1))))
def JC(N:Nat)(d:Wx)(i:Int):QbO N d i=some (Jt d i):=by
 simp only[QbO,ZM,Xa,Jt,UL];cases h:XN d with
 |false=>rfl
 |true=>
  simp only[Wi,Wa,Uc];by_cases e:i<0
  .rw[Wn e,We ab,UJ]
  rw[Wk e];by_cases f:i>=d.n
  .rw[Wn f,We ab,UJ]
  rw[Wk f,Wg (p:=0<=i/\i<d.n) ab,Uc,Xb (VW i).1];grind
def Ye(d:Wx):Nat->Int->List Int
 |0,_=>[]
 |k+1,i=>(if Jt d i then[i]else[])++Ye d k (i+1)
def XW(d:Wx):List Int:=if XN d then Ye d d.n.toNat 0 else[]
def K1{d:Wx}:∀{k:Nat} {i x:Int},x∈Ye d k i->i<=x/\x<i+k/\Jt d x=true
 |0,i,x,h=>by simp_all[Ye]
 |k+1,i,x,h=>by
  simp only[Ye,Wt]at h;rcases h with h|h
  .grind
  have:=K1 h;grind
def Vs{d:Wx}:∀{k:Nat} {i:Int},(Ye d k i).length<=k
 |0,i=>by simp[Ye]
 |k+1,i=>by have:=Vs (d:=d) (k:=k) (i:=i+1);grind[Ye,WM]
def V1(N:Nat)(d:Wx)(f:XN d=true):∀(n:Nat) (i:Int) (v:List Int),0<=i->i<=d.n->(d.n-i).toNat<n->v.length<=1000-(d.n-i).toNat->v.length+(d.n-i).toNat<=1000 ->
 Qb2 N d n i v=some (v++Ye d (d.n-i).toNat i)
 |0,i,v,_,_,h,_,_=>by omega
 |n+1,i,v,j,p,q,r,s=>by
  have hb:=XQ f;rw[Qb2];by_cases h:i<d.n
  .obtain⟨k,g⟩:∃k,(d.n-i).toNat=k+1:=⟨(d.n-i).toNat-1,ab⟩
   have e:(d.n-(i+1)).toNat=k:=ab;rw[Wg h,Wc,ZM,Xa,f,Wc,JC,Xa,g,Xe (n:=i+1) ab ab];simp only[Ye];cases hp:Jt d i with
   |true=>rw[Wc,Xb ab,V1 N d f n (i+1) _ ab ab ab (by grind) (by grind),e];simp
   |false=>rw[Wa,V1 N d f n (i+1) _ ab ab ab ab ab,e];simp
  rw[We h,Wa,show(d.n-i).toNat=0 by omega];simp[Ye]
def Xdh{N:Nat}(hN:300<N)(d:Wx):Qfd N d=some (XW d):=by
 simp only[Qfd,XW];cases e:XN d with
 |true=>have hb:=XQ e;rw[V1 N d e N 0 [] ab ab ab ac (by grind),Xa];simp
 |false=>
  obtain⟨n,rfl⟩:∃n,N=n+1:=⟨N-1,ab⟩
  simp[Qb2,ZM,Xa,e,Wa]
def Xbg(w:Int):Bool:=decide (w.tmod 4=2)&&decide (YL .u64 w 2<4294967296)
def Kw(N:Nat)(w:Int):Qcx N w=some (if Xbg w then(YL .u64 w 2,true)else(0,false)):=by simp only[Qcx,Xbg,UL];grind
def Vt(N:Nat)(a:Int):QcM N a=some (if a>=4294967296 then(0,1)else(wU (wU (4*a)+2),0)):=by simp only[QcM,UL];grind
def X8(c:WR):Bool:=decide (16<=c.W/\c.W<=64/\c.W % 4=0/\8<=c.p/\c.p<=64)
theorem Xh{c:WR}:X8 c=true↔16<=c.W/\c.W<=64/\c.W % 4=0/\8<=c.p/\c.p<=64:=by simp[X8]
def Zm(N:Nat)(c:WR):QaQ N c=some (X8 c):=by simp only[QaQ,UL,X8];grind
def XbO(c:WR):Int:=if X8 c then c.p / 4 else 0
def XfA(N:Nat)(c:WR):QfL N c=some (XbO c):=by
 simp only[QfL,Zm,Xa,XbO];cases h:X8 c with
 |false=>rfl
 |true=>have:=Xh.1 h;simp;rw[UT ab,Xe ab ab]
def smC(c:WR):Int:=if X8 c then c.W / 4 else 0
def XgV(N:Nat)(c:WR):Qdq N c=some (smC c):=by
 simp only[Qdq,Zm,Xa,smC];cases h:X8 c with
 |false=>rfl
 |true=>have:=Xh.1 h;simp;rw[UT ab,Xe ab ab]
def XH(c:WR)(w:Int):Int:=
 if X8 c=true/\1<=w then(if w<=c.W / 4 then 0 else if c.W>=w then 1 else if 2*c.W>=w then 2 else if 3*c.W>=w then 3 else if 4*c.W>=w then 4 else -1)else -1
def XcD(N:Nat)(c:WR)(w:Int)(e:X8 c=true)(k:Int)(f:1<=k/\k<=4)(n:Nat):QcH N c w (n+1) k=if k*c.W>=w then some (.ret k)else QcH N c w n (k+1):=by
 have h:=Xh.1 e;have g:0<=k*c.W/\k*c.W<=256:=by
  constructor
  .exact Int.mul_nonneg ab ab
  have:=Int.mul_le_mul (a:=k) (b:=c.W) (c:=4) (d:=64) ab ab ab ab;omega
 rw[QcH,Wg ab,Wc,UL,Xe (n:=k*c.W) ab ab,Xe (n:=k+1) ab ab]
def K2{N:Nat}(hN:10<=N)(c:WR)(w:Int):QeK N c w=some (XH c w):=by
 simp only[QeK,Zm,XgV,Xa,XH,smC];cases e:X8 c with
 |false=>simp
 |true=>
  simp only[Wi,Wa,if_true,UL];by_cases g:w<1
  .rw[Wn g,Wk (show¬(True/\1<=w)fromλh=>ab)]
  rw[Wk g,Wn (show True/\1<=w from⟨trivial,ab⟩)];by_cases f:w<=c.W / 4
  .rw[Wn f,Wn f]
  rw[Wk f,Wk f];obtain⟨n,rfl⟩:∃n,N=n+5:=⟨N-5,ab⟩
  rw[XcD _ c w e 1 ab,XcD _ c w e (1+1) ab,XcD _ c w e (1+1+1) ab,XcD _ c w e (1+1+1+1) ab];rw[show QcH (n+5) c w (n+1) (1+1+1+1+1)=some (.nxt ()) by rw[QcH,We ab,Wa]];simp;by_cases j:c.W>=w
  .simp only[Wn j,Xa,Xy]
  simp only[Wk j];by_cases k:2*c.W>=w
  .simp only[Wn k,Xa,Xy]
  simp only[Wk k];by_cases p:3*c.W>=w
  .simp only[Wn p,Xa,Xy]
  simp only[Wk p];by_cases q:4*c.W>=w
  .simp only[Wn q,Xa,Xy]
  simp[Wk,q,Xa,Xo]
def Xbh(c:WR)(w:Int):-1<=XH c w/\XH c w<=4:=by unfold XH;omega
def XO{c:WR}(e:X8 c=true){i:Int}(f:0<=i)(g:i<c.p):0<=i*c.W/\i*c.W+c.W<=c.p*c.W/\c.p*c.W<=4096:=by
 have h:=Xh.1 e;refine⟨Int.mul_nonneg f ab,?_,?_⟩
 .have:=WX (a:=i+1) (b:=c.p) (c:=c.W) ab ab;grind
 have:=Int.mul_le_mul (a:=c.p) (b:=c.W) (c:=64) (d:=64) ab ab ab ab;omega
def Xc(c:WR)(p o:Int):Int:=4096+p*c.W+o
def Kb(N:Nat)(c:WR)(p o:Int):Qbv N c p o=some (if X8 c=false then(0,1)else if 0<=p/\p<c.p/\0<=o/\o<c.W then(Xc c p o,0)else(0,2)):=by
 simp only[Qbv,Zm,Xa,UL];cases e:X8 c with
 |false=>simp
 |true=>
  rw[Wk (show¬(true=false) by simp)];by_cases f:p<0
  .grind
  rw[Wk f];by_cases g:p>=c.p
  .grind
  rw[Wk g];by_cases h:o<0
  .grind
  rw[Wk h];by_cases j:o>=c.W
  .simp_all
  rw[Wk j,Wn ab];have k:=XO e (i:=p) ab ab;rw[Xe (n:=p*c.W) ab ab,Xe (n:=4096+p*c.W) ab ab,Xe (n:=4096+p*c.W+o) ab ab,XE ab ab];rfl
def KX(N:Nat)(c:WR)(a:Int):Qb6 N c a=some (if X8 c=false then(0,0,1)else if 4096<=a/\a<4096+c.p*c.W then((a-4096) / c.W,(a-4096) % c.W,0)else(0,0,2)):=by
 simp only[Qb6,Zm,Xa,UL];cases e:X8 c with
 |false=>simp
 |true=>
  have h:=Xh.1 e;have k:=XO e (i:=0) ab ab;simp only[Wi,Wa];rw[Wk (show¬(true=false) by simp)];rw[Xe (n:=c.p*c.W) ab ab,Xe (n:=4096+c.p*c.W) ab ab,XE (n:=4096+c.p*c.W) ab ab];by_cases f:a<4096
  .grind
  rw[Wk f];by_cases g:a>=4096+c.p*c.W
  .simp_all
  rw[Wk g,Wn ab,Xb ab,Xb ab];rw[XE (n:=a-4096) ab ab,Xe (n:=a-4096) ab ab,UT ab,IJ ab];have hd:0<=(a-4096) / c.W:=Int.ediv_nonneg ab ab;have j:(a-4096) / c.W<=a-4096:=Int.ediv_le_self _ ab;rw[Xe ab ab]
def XfB{c:WR}(e:X8 c=true){a:Int}(f:4096<=a)(g:a<4096+c.p*c.W):
 0<=(a-4096) / c.W/\(a-4096) / c.W<c.p/\0<=(a-4096) % c.W/\(a-4096) % c.W<c.W/\a=Xc c ((a-4096) / c.W) ((a-4096) % c.W):=by have h:=Xh.1 e;refine⟨Int.ediv_nonneg ab ab,Int.ediv_lt_of_lt_mul ab ab,Int.emod_nonneg _ ab,Int.emod_lt_of_pos _ ab,?_⟩;have:=Int.mul_ediv_add_emod (a-4096) c.W;unfold Xc;grind
def XpK{c:WR}(h:X8 c=true){p o:Int}(f:0<=o)(g:o<c.W):(Xc c p o-4096) / c.W=p/\(Xc c p o-4096) % c.W=o:=by
 have e:Xc c p o-4096=o+c.W*p:=by unfold Xc;rw[Int.mul_comm p];omega
 rw[e,Int.add_mul_ediv_left _ _ ab,Int.add_mul_emod_self_left,Int.ediv_eq_zero_of_lt f g,Int.emod_eq_of_lt f g];omega
def Zb:Wr:=⟨0,0,0,0⟩
def pg(ps:List Wr)(i:Int):Wr:=ps.getD i.toNat Zb
def YG{ps:List Wr}{i:Int}{p:Wr}(h:Xd ps i=some p):pg ps i=p:=by have:=(KD.1 h).2;simp[pg,this]
def Xq{ps:List Wr}{i:Int}(e:0<=i)(f:i<ps.length):Xd ps i=some (pg ps i):=by rw[Yi e f];have:i.toNat<ps.length:=ab;simp[pg,List.getD,this]
def XgW(N:Nat)(ps:List Wr)(sp:Int)(w:ps.length<=BIG):∀(n:Nat) (c i:Int),0<=i->0<=c->c<=BIG*2->i<=BIG*2->(ps.length:Int)+c-i<=BIG*2->(ps.length-i).toNat<n ->
 Ok (Qdr N ps sp n c i) λr=>c<=r/\∀m,0<=m->m<r-c->i+m<ps.length/\(pg ps (i+m)).k=3
 |0,c,i,_,_,_,_,_,h=>by omega
 |n+1,c,i,g,x,q,y,z,A=>by
  unfold BIG at *;refine Wp (λh=>?_) λh=>Wd ⟨Ux _,λm e f=>ab⟩;have e:i<ps.length:=by simpa using h
  refine Ok.get g e λp hp=>Wp (λj=>?_) λj=>Wd ⟨Ux _,λm e f=>ab⟩;refine Ok.get g e λB s=>Wp (λu=>?_) λj=>Wd ⟨Ux _,λm e f=>ab⟩;rw[Xe (n:=c+1) ab ab,Xe (n:=i+1) ab ab];refine(XgW N ps sp ah n (c+1) (i+1) ab ab (by unfold BIG;omega) (by unfold BIG;omega) (by unfold BIG;omega) ab).mono λr v=>⟨ab,λm f D=>?_⟩
  by_cases E:m=0
  .simp_all[Int.add_zero,YG,hp]
  have:=v.2 (m-1) ab ab;grind
def XmQ{N:Nat}{ps:List Wr}(sp i:Int)(f:ps.length<N)(e:ps.length<=100000000)(g:0<=i)(j:i<=100000000):Ok (QeV N ps i sp) λr=>0<=r/\∀m,1<=m->m<=r->i+m<ps.length/\(pg ps (i+m)).k=3:=by rw[QeV,Xe (n:=i+1) ab ab];refine WJ (XgW N ps sp (by unfold BIG;omega) N 0 (i+1) ab ab ab (by unfold BIG;omega) (by unfold BIG;omega) ab) λr _ h=>Wd ⟨h.1,λm p q=>?_⟩;have:=h.2 (m-1) ab ab;grind
def XfC(N:Nat)(n:Int):QgG N n=some (decide (0<=n/\n<=2147483647)):=by simp only[QgG,UL];grind
structure O6(h:Wh)(i:Int):Prop where
 kind:0<=(pg h.p i).k/\(pg h.p i).k<=3
 space:0<=(pg h.p i).s/\(pg h.p i).s<=1
 pins:0<=(pg h.p i).P/\(pg h.p i).P<=2147483647
 free:(pg h.p i).k=0->pg h.p i=Zb
 small:(pg h.p i).k=1->0<=(pg h.p i).u/\(pg h.p i).u<=h.c.W
 large:(pg h.p i).k=2->1<=XH h.c (pg h.p i).u/\∀m,1<=m->m<XH h.c (pg h.p i).u->i+m<h.p.length/\(pg h.p (i+m)).k=3
structure Uy(h:Wh):Prop where
 conf:X8 h.c=true
 words:(h.w.length:Int)=h.c.p*h.c.W
 pages:(h.p.length:Int)=h.c.p
 space:0<=h.s/\h.s<=1
 bump:h.b = -1\/(0<=h.b/\h.b<h.p.length/\(pg h.p h.b).k=1)
 pgs:∀i:Int,0<=i->i<h.p.length->O6 h i
 first:(pg h.p 0).k≠3
def PL(h:Wh)(i:Int):Ex Bool Unit->Prop
 |.ret a=>a=false
 |.nxt _=>(∀j,i<=j->j<h.p.length->O6 h j)/\(i=0->(0:Int)<h.p.length->(pg h.p 0).k≠3)
def XeI{N:Nat}{h:Wh}(B:X8 h.c=true)(hN:100000<N)(K:(h.p.length:Int)=h.c.p):∀(n:Nat) (due i:Int),0<=i->0<=due->due<=4->(h.p.length-i).toNat<n->(i=0->due=0) ->
 Ok (Qaz N h n due i) (PL h i)
 |0,due,i,_,_,_,L,_=>by omega
 |n+1,due,i,D,hd,g,L,M=>by
  have Z:=Xh.1 B;refine Wp (λE=>?_) λE=>Wd ⟨λj O k=>?_,λR q=>?_⟩;rotate_left
  .grind
  .grind
  have x:i<h.p.length:=by simpa using E
  refine Ok.get D x λp hp=>?_;have y:=YG hp;refine Wp (λ_=>Wd rfl) λg1=>?_;refine Wp (λ_=>Wd rfl) λg2=>?_;refine Wp (λ_=>Wd rfl) λg3=>?_;rw[XfC,Xa];refine Wp (λ_=>Wd rfl) λg4=>?_;simp at g1 g2 g3 g4;have next:∀(f:Int),0<=f->f<=4->O6 h i->Ok (Qaz N h n (if 0<wI (f-1)then wI (f-1)else 0) (wI (i+1))) (PL h i):=by
   intro f S U z;rw[Xe (n:=i+1) ab ab,Xe (n:=f-1) ab ab];refine(XeI B hN K n _ (i+1) ab ab ab ab ab).mono λe G=>?_;cases e with
   |ret a=>exact G
   |nxt b=>
   have⟨k1,k2⟩:=G;refine⟨λj O k=>?_,λR q hk=>?_⟩
   .by_cases A:j=i
    .subst A;exact z
    exact k1 j ab k
   simp_all
  refine Ir ?_;refine Wp (λV=>Wp (λ_=>Wd rfl) λr=>?_) λV=>Ir (Wp (λr=>Wp (λ_=>Wd rfl) λI=>Wp (λ_=>Wd rfl) λw=>?_) λr=>Ir (Wp (λI=>?_) λI=>Wp (λw=>Wp (λ_=>Wd rfl) λJ=>Wp (λ_=>Wd rfl) λq5=>?_) λw=>Wd rfl))
  .refine next due hd g ?_
   simp at r;have v:pg h.p i=Zb:=by rw[y];cases p;simp only at r;obtain⟨rfl,rfl,rfl,rfl⟩:=r;rfl
   refine⟨by rw[v];decide,by rw[v];decide,by rw[v];decide,λ_=>v,λe=>?_,λe=>?_⟩
   .rw[v]at e;cases e
   simp_all
  .refine next due hd g ?_
   exact⟨by simp_all,by simp_all,by simp_all,λe=>by simp_all,λ_=>by simp_all,λe=>by simp_all⟩
  .rw[K2 ab,Xa];refine Wp (λ_=>Wd rfl) λw=>?_;refine WJ (XmQ (N:=N) (ps:=h.p) p.s i ab ab D ab) λt _ ht=>?_;refine Wp (λ_=>Wd rfl) λJ=>?_;have hr:=Xbh h.c p.u;have W:1<=XH h.c p.u:=by have:=WN w;omega
   have Y:XH h.c p.u-1<=t:=by have:=WN J;rw[Xe ab ab]at this;omega
   refine next _ ab ab ?_
   exact⟨by simp_all,by simp_all,by simp_all,λe=>by simp_all,λe=>by simp_all,λ_=>by grind⟩
  refine next due hd g ?_
  exact⟨by simp_all,by simp_all,by simp_all,λe=>by simp_all,λe=>by simp_all,λe=>by simp_all⟩
def YS{N:Nat}(hN:100000<N){h:Wh}(hw:h.w.length<=100000)(hp:h.p.length<=100000):Ok (Qaa N h) λb=>b=true->Uy h:=by
 rw[Qaa,Zm,Xa];refine Wp (λ_=>Wd λe=>by cases e) λg1=>?_;have f:X8 h.c=true:=by simpa using g1
 have A:=Xh.1 f;have B:=XO f (i:=0) ab ab;refine Wp (λ_=>Wd λe=>by cases e) λg2=>?_;refine Wp (λ_=>Wd λe=>by cases e) λg3=>?_;refine Wp (λ_=>Wd λe=>by cases e) λg4=>?_;refine Wp (λ_=>Wd λe=>by cases e) λg5=>?_;have v:(h.w.length:Int)=h.c.p*h.c.W:=by
  have:(h.w.length:Int)=wI (h.c.p*h.c.W):=by simpa using g2
  rwa[Xe ab ab]at this
 have e3:(h.p.length:Int)=h.c.p:=by simpa using g3
 have e4:0<=h.s/\h.s<=1:=⟨by simpa using g4,by simpa using g5⟩
 have main:(h.b = -1\/(0<=h.b/\h.b<h.p.length/\(pg h.p h.b).k=1))->Ok (bnd (Qaz N h N 0 0) λe=>exK e (λr=>some r) λx=>some true) λb=>b=true->Uy h:=by
  intro hb;refine IT (XeI (N:=N) (h:=h) f hN e3 N 0 0 ab ab ab ab ab) (λa g=>?_) λb g=>Wd λ_=>?_
  .have y:a=false:=g;subst y;exact Wd λe=>by cases e
  have⟨k1,k2⟩:=g;exact⟨f,v,e3,e4,hb,k1,k2 rfl ab⟩
 refine Ir (Wp (λj=>Wp (λ_=>Wd λe=>by cases e) λb2=>Wp (λ_=>Wd λe=>by cases e) λz=>?_) λj=>main (.inl (by simpa using j)));have q:0<=h.b:=by simpa using b2
 have u:h.b<h.p.length:=by simpa using z
 refine Ok.get q u λp hp=>Wp (λ_=>Wd λe=>by cases e) λD=>main (.inr ⟨q,u,?_⟩);rw[YG hp];grind
def dlt{a b:Int}(h:decide (a<b)=true):a<b:=Wv h
def Y0{ps:List Wr}{i j:Int}(p:Wr)(f:0<=i)(e:i<ps.length)(g:0<=j):pg (ps.set i.toNat p) j=if j=i then p else pg ps j:=by unfold pg;grind
def Xdi(N:Nat)(ps:List Wr)(e:ps.length<=100000000):∀(n:Nat) (c i:Int),0<=i->0<=c->c<=i->i<=ps.length->(ps.length-i).toNat<n->Ok (QbD N ps n c i) λr=>0<=r/\r<=ps.length
 |0,c,i,_,_,_,_,h=>by omega
 |n+1,c,i,f,g,j,q,s=>by
  refine Wp (λh=>?_) λh=>Wd ⟨g,ab⟩;have k:i<ps.length:=dlt h;refine Ok.get f k λp hp=>?_;rw[Xe (n:=c+1) ab ab,Xe (n:=i+1) ab ab];refine Wp (λ_=>?_) λ_=>?_
  .exact Xdi N ps e n (c+1) (i+1) ab ab ab ab ab
  exact Xdi N ps e n c (i+1) ab ab ab ab ab
def Xdj{N:Nat}{ps:List Wr}(e:ps.length<=100000000)(hN:ps.length<N):Ok (QcZ N ps) λr=>0<=r/\r<=ps.length:=
 WJ (Xdi N ps e N 0 0 ab ab ab ab ab) λr _ h=>Wd h
def RunOK(ps:List Wr)(i k:Int):Prop:=0<=i/\1<=k/\i+k<=ps.length/\∀m,0<=m->m<k->(pg ps (i+m)).k=0
def XcE(N:Nat)(ps:List Wr)(x:ps.length<=100000000):∀(n:Nat) (i:Int) (rs:List Ox),0<=i->i<=ps.length->(ps.length-i).toNat<n->rs.length<=i->(∀r∈rs,RunOK ps r.O r.Len) ->
 Ok (Qbw N ps n i rs) λout=>out.length<=ps.length/\(∀r∈out,RunOK ps r.O r.Len)/\(out=[]->rs=[]/\∀j,i<=j->j<ps.length->(pg ps j).k≠0)
 |0,i,rs,_,_,h,_,_=>by omega
 |n+1,i,rs,B,M,R,D,s=>by
  refine Wp (λh=>?_) λh=>Wd ⟨ab,s,λe=>⟨e,λj _ _=>by have:=WN h;omega⟩⟩;have v:i<ps.length:=dlt h;refine Ok.get B v λp hp=>?_;have G:=YG hp;rw[Xe (n:=i+1) ab ab];refine Wp (λI=>(XcE N ps x n (i+1) rs ab ab ab ab s).mono λout ⟨a,b,c⟩=>⟨a,b,λe=>⟨(c e).1,λj S J=>by by_cases U:j=i;{grind};exact(c e).2 j ab J⟩⟩) λI=>?_;have new:Ok (grd ((rs.length+1)*16<=140737488355328) (Qbw N ps n (i+1) (rs++[Ox.mk i 1]))) λout=>out.length<=ps.length/\(∀r∈out,RunOK ps r.O r.Len)/\(out=[]->rs=[]/\∀j,i<=j->j<ps.length->(pg ps j).k≠0):=by
   refine Ub ab ((XcE N ps x n (i+1) _ ab ab ab (by simp_all) λr g=>?_).mono λout ⟨a,b,c⟩=>⟨a,b,λe=>by have:=(c e).1;simp at this⟩);rcases Wt.1 g with g|g
   .simp_all
   have:r=Ox.mk i 1:=by simpa using g
   subst this;refine⟨B,by show(1:Int)<=1;omega,by show i+1<=_;omega,λm v K=>?_⟩;grind
  refine Ub ab (Ir (Wp (λu=>?_) λ_=>new));have u:0<(rs.length:Int):=Wv u;rw[Xe (n:=(rs.length:Int)-1) ab ab];refine Ok.get ab ab λq w=>Ok.get ab ab λq' y=>?_;obtain rfl:q=q':=WE (w.symm.trans y);have f:=s q (YC w);have hb:=f.2.2.1;rw[Xe (n:=q.O+q.Len) (by have:=f.1;have:=f.2.1;omega) ab];refine Wp (λE=>?_) λ_=>new;have E:q.O+q.Len=i:=by simpa using E
  refine Ok.get ab ab λq2 z=>Ok.get ab ab λq3 A=>?_;obtain rfl:q=q2:=WE (w.symm.trans z);obtain rfl:q=q3:=WE (w.symm.trans A);have:=f.1;have:=f.2.1;rw[Xe (n:=q.Len+1) ab ab];refine(XcE N ps x n (i+1) _ ab ab ab (by grind) λr g=>?_).mono λout ⟨a,b,c⟩=>⟨a,b,λe=>by have:=congrArg List.length (c e).1;simp at this;simp_all⟩
  rcases WZ g with g|g
  .simp_all
  subst g;refine⟨f.1,by show 1<=q.Len+1;omega,by show q.O+(q.Len+1)<=_;omega,λm v K=>?_⟩;by_cases L:m<q.Len
  .exact f.2.2.2 m v L
  grind
def Xjp{N:Nat}{ps:List Wr}(f:ps.length<=100000000)(hN:ps.length<N):Ok (Qf8 N ps) λout=>out.length<=ps.length/\(∀r∈out,RunOK ps r.O r.Len)/\(out=[]->∀j:Int,0<=j->j<ps.length->(pg ps j).k≠0):=
 WJ (XcE N ps f N 0 [] ab ab ab ac ac) λr _ h=>Wd ⟨h.1,h.2.1,λe=>(h.2.2 e).2⟩
def RunOK.less{ps:List Wr}{i k j:Int}(h:RunOK ps i k)(e:1<=j)(f:j<=k):RunOK ps i j:=⟨h.1,e,by have:=h.2.2.1;omega,λm a b=>h.2.2.2 m a ab⟩
def XgX(N:Nat)(ps:List Wr)(k:Int)(rs:List Ox)(w:rs.length<=100000000)(g:∀r∈rs,RunOK ps r.O r.Len):∀(n:Nat) (i:Int),0<=i->i<=rs.length->(rs.length-i).toNat<n ->
 Ok (QbC N k rs n i) λe=>(∀a,e=.ret a->RunOK ps a k)/\(∀u,e=.nxt u->k=1->i=rs.length)
 |0,i,_,_,h=>by omega
 |n+1,i,s,x,y=>by
  refine Wp (λh=>?_) λh=>Wd ⟨λa e=>by grind,λ_ _ _=>by have:=WN h;omega⟩;have v:i<rs.length:=dlt h;rw[Xe (n:=i+1) ab ab];have next:=XgX N ps k rs w g n (i+1) ab ab ab
  refine Wp (λj=>?_) λj=>next.mono λe h=>⟨h.1,λ_ _ _=>by have:=WN j;omega⟩
  refine Ok.get s v λp hp=>Wp (λf=>?_) λf=>next.mono λe h=>⟨h.1,λ_ _ _=>by have:=WN f;have:=(g p (YC hp)).2.1;omega⟩
  refine Ok.get s v λp' q=>Wd ⟨λa e=>?_,λ_ e=>by cases e⟩;obtain rfl:p=p':=WE (hp.symm.trans q);cases e;have j:1<=k:=Wv j;have f:k<=p.Len:=Wv f;exact(g p (YC hp)).less j f
def XeJ{N:Nat}{ps:List Wr}(k:Int)(f:ps.length<=100000000)(hN:ps.length<N):Ok (Qbn N ps k) λi=>i = -1/\(k=1->∀j:Int,0<=j->j<ps.length->(pg ps j).k≠0)\/RunOK ps i k:=by refine WJ (Xjp f hN) λrs _ h=>?_;refine IT (XgX N ps k rs ab h.2.1 N 0 ab ab ab) (λa q=>Wd (.inr (q.1 a rfl))) λ_ q=>Wd (.inl ⟨rfl,λe=>h.2.2 ?_⟩);have:=q.2 _ rfl e;exact WK ab
def KL{N:Nat}{ps:List Wr}(k:Int)(e:ps.length<=100000000)(hN:ps.length<N):Ok (Qbn N ps k) λi=>i = -1\/RunOK ps i k:=(XeJ k e hN).mono λ_ h=>h.imp And.left id
def Taken(ps out:List Wr)(i k:Int)(first rest:Wr):Prop:=out.length=ps.length/\∀j,0<=j->pg out j=if j=i then first else if i<=j/\j<i+k then rest else pg ps j
def Xjq(N:Nat)(ps:List Wr)(i k:Int)(f r:Wr)(A:ps.length<=100000000)(B:0<=i)(D:i+k<=ps.length):∀(n:Nat) (m:Int) (v:List Wr),0<=m->(m<=k\/m=0)->(k-m).toNat<n->v.length=ps.length->(∀j,0<=j->pg v j=if i<=j/\j<i+m then r else pg ps j) ->
 Ok (QdU N i k f r n m v) λe=>(∀o,e=.nxt o->o.length=ps.length/\∀j,0<=j->pg o j=if i<=j/\j<i+k then r else pg ps j)/\(∀o,e=.ret o->o.2=20/\o.1=[])/\((∀j,m<=j->j<k->(pg ps (i+j)).k=0)->∀o,e≠.ret o)
 |0,m,v,_,_,h,_,_=>by omega
 |n+1,m,v,I,J,K,y,q=>by
  refine Wp (λh=>?_) λh=>Wd ⟨λo e=>?_,λo e=>(by cases e),λ_ o e=>(by cases e)⟩;rotate_left
  .cases e;have:¬m<k:=WN h;refine⟨y,λj u=>?_⟩;rw[q j u];by_cases z:i<=j/\j<i+m
   .rw[Wn z,Wn ab]
   rw[Wk z,Wk ab]
  have E:m<k:=dlt h;rw[Xe (n:=i+m) ab ab,Xe (n:=m+1) ab ab];refine Ok.get ab ab λp hp=>?_;have w:p=pg ps (i+m):=by rw[←YG hp,q _ ab,Wk ab]
  refine Wp (λs=>Wd ⟨λo e=>(by cases e),λo e=>(by cases e;exact⟨rfl,rfl⟩),λg=>?_⟩) λs=>?_
  .have:=g m ab E;rw[←w]at this;simp[this]at s
  refine Ok.get ab ab λL G=>?_;refine(Xjq N ps i k f r A B D n (m+1) _ ab ab ab (by rw[WL];exact y) λj u=>?_).mono λe x=>⟨x.1,x.2.1,λg=>x.2.2 λj a b=>g j ab b⟩
  rw[Y0 r ab ab u,q j u];grind
def Xjr{N:Nat}{ps:List Wr}(i k:Int)(f r:Wr)(B:ps.length<=1000000)(hN:1000000<N)(y:1<=k)(z:k<=1000000):Ok (QdE N ps i k f r) λo=>(o.2=0->0<=i/\i+k<=ps.length/\Taken ps o.1 i k f r)/\(o.2≠0->o.1=[])/\(RunOK ps i k->o.2=0):=by
 refine Wp (λh=>Wd ⟨λe=>ab,λ_=>rfl,λg=>?_⟩) λv=>?_
 .have:=Wv h;have:=g.1;omega
 have v:¬i<0:=WN v;refine Wp (λh=>Wd ⟨λe=>ab,λ_=>rfl,λg=>?_⟩) λw=>?_
 .have:=Wv h;have:=g.2.2.1;omega
 have w:¬i>=(ps.length:Int):=WN w;rw[Xe (n:=(ps.length:Int)-i) ab ab];refine Wp (λh=>Wd ⟨λe=>ab,λ_=>rfl,λg=>?_⟩) λx=>?_
 .have:=Wv h;have:=g.2.2.1;omega
 have x:¬k>(ps.length:Int)-i:=WN x;refine Ub ab (IT (Xjq N ps i k f r ab ab ab N 0 ps ab ab ab rfl λj s=>(by grind)) (λa q=>?_) λo q=>?_)
 .have⟨A,u⟩:=q.2.1 a rfl;refine Wd ⟨λe=>ab,λ_=>u,λg=>?_⟩;exact absurd rfl (q.2.2 (λj a b=>g.2.2.2 j a b) a)
 have⟨A,u⟩:=q.1 o rfl;refine Ok.get ab ab λp hp=>Wd ⟨λ_=>⟨ab,ab,⟨by simp_all,λj s=>?_⟩⟩,λe=>absurd rfl e,λ_=>rfl⟩;rw[Y0 f ab ab s,u j s]
def Xdk{N:Nat}{ps:List Wr}(i sp:Int)(k:ps.length<=1000000)(hN:1000000<N):Ok (QbU N ps i sp) λo=>(o.2=0->0<=i/\i+1<=ps.length/\Taken ps o.1 i 1 ⟨1,sp,0,0⟩ ⟨0,0,0,0⟩)/\(o.2≠0->o.1=[])/\(RunOK ps i 1->0<=sp->sp<=1->o.2=0):=by
 refine Wp (λh=>Wd ⟨λe=>ab,λ_=>rfl,λ_ g j=>?_⟩) λg=>?_
 .grind
 refine Wp (λh=>Wd ⟨λe=>ab,λ_=>rfl,λ_ g j=>?_⟩) λj=>?_
 .grind
 refine WJ (Xjr i 1 ⟨1,sp,0,0⟩ ⟨0,0,0,0⟩ k hN ab ab) λy _ f=>Wd ⟨f.1,f.2.1,λp _ _=>f.2.2 p⟩
def XmR{N:Nat}{ps:List Wr}(c:WR)(i sp w:Int)(g:ps.length<=1000000)(hN:1000000<N):Ok (QeY N c ps i sp w) λo=>(o.2=0->0<=i/\i+XH c w<=ps.length/\1<=XH c w/\Taken ps o.1 i (XH c w) ⟨2,sp,w,0⟩ ⟨3,sp,0,0⟩)/\(o.2≠0->o.1=[]):=by rw[QeY,K2 ab,Xa];refine Wp (λh=>Wd ⟨λe=>(by cases e),λ_=>rfl⟩) λf=>?_;have f:¬XH c w<1:=WN f;refine Wp (λh=>Wd ⟨λe=>(by cases e),λ_=>rfl⟩) λk=>?_;refine Wp (λh=>Wd ⟨λe=>(by cases e),λ_=>rfl⟩) λp=>?_;have q:=Xbh c w;refine WJ (Xjr i (XH c w) ⟨2,sp,w,0⟩ ⟨3,sp,0,0⟩ g hN ab ab) λy _ j=>Wd ⟨λe=>?_,j.2.1⟩;simp_all
def HB(h:Wh):Prop:=h.w.length<=100000/\h.p.length<=100000
def NB(N:Nat):Prop:=10000000<N
def zH:Wh:=⟨⟨0,0⟩,[],[],0,0⟩
def Ko:HB zH:=⟨ag,ag⟩
def wd(ws:List Int)(a:Int):Int:=ws.getD (ix a) 0
def hdA(ws:List Int)(a:Int):Wx:=Zj (wd ws a)
def szA(ws:List Int)(a:Int):Int:=(hdA ws a).n+1
def XI(ws:List Int)(a:Int):XM (hdA ws a)=szA ws a/\1<=szA ws a/\szA ws a<=256:=by have:=XeH (wd ws a);unfold szA hdA;omega
def pgi(c:WR)(a:Int):Int:=(a-4096) / c.W
def pgo(c:WR)(a:Int):Int:=(a-4096) % c.W
structure IE(h:Wh)(a:Int):Prop where
 rng:4096<=a/\a<4096+h.c.p*h.c.W
 kind:(pg h.p (pgi h.c a)).k=1\/(pg h.p (pgi h.c a)).k=2
 ok:okH (wd h.w a)=true
 used:pgo h.c a<(pg h.p (pgi h.c a)).u
 small:(pg h.p (pgi h.c a)).k=1->pgo h.c a+szA h.w a<=(pg h.p (pgi h.c a)).u
 large:(pg h.p (pgi h.c a)).k=2->pgo h.c a=0/\szA h.w a=(pg h.p (pgi h.c a)).u
def Xch{N:Nat}(hN:NB N){h:Wh}(hb:HB h)(a:Int):Ok (Qao N h a) λr=>r.2=0->Uy h/\Qaa N h=some true/\IE h a/\r.1=hdA h.w a:=by
 unfold NB at hN;refine WJ (YS (N:=N) ab hb.1 hb.2) λb eb hp=>?_;refine Wp (λ_=>Wd λe=>by cases e) λv=>?_;have x:b=true:=by simpa using v
 subst x;have hp:=hp rfl;rw[KX,Xa,hp.conf,Wk ac];have O:=Xh.1 hp.conf;by_cases q:4096<=a/\a<4096+h.c.p*h.c.W;rotate_left
 .rw[Wk q];exact Wp (λ_=>Wd λe=>by cases e) λe=>by cases e
 rw[Wn q,show(a-4096) / h.c.W=pgi h.c a from rfl,show(a-4096) % h.c.W=pgo h.c a from rfl];have j:=XfB hp.conf q.1 q.2;have R:=hp.pages;have J:0<=pgi h.c a:=j.1;have K:pgi h.c a<h.p.length:=by have:pgi h.c a<h.c.p:=j.2.1;omega
 refine Ok.get J K λp y=>?_;have f:=YG y;have z:inW h.w a:=by unfold inW;have:=hp.words;omega
 rw[Yp (by unfold BIG;have:=hb.1;omega),Xa,Wn z];show Ok (bnd (Qcw N (wd h.w a)) _) _;rw[ZN,Xa];have A:=XI h.w a;have L:pgo h.c a<h.c.W:=j.2.2.2.1;have D:0<=pgo h.c a:=j.2.2.1;have rest:okH (wd h.w a)=true->(p.k=1\/p.k=2)->pgo h.c a<p.u->Ok (α:=Wx×Int) (bnd (QcI N (Zj (wd h.w a))) λB=>
  bif (p.k==1)then(bif (decide ((wI (pgo h.c a+B))>p.u))then some ((Wx.mk 0 0 0),19)
   else bif (p.k==2)then(bif (pgo h.c a != 0)then some ((Wx.mk 0 0 0),19)
    else bif (B != p.u)then some ((Wx.mk 0 0 0),19)
    else some (Zj (wd h.w a),0))
   else some (Zj (wd h.w a),0))
  else bif (p.k==2)then(bif (pgo h.c a != 0)then some ((Wx.mk 0 0 0),19)
   else bif (B != p.u)then some ((Wx.mk 0 0 0),19)
   else some (Zj (wd h.w a),0))
  else some (Zj (wd h.w a),0)) λr=>r.2=0->Uy h/\Qaa N h=some true/\IE h a/\r.1=hdA h.w a:=by
  intro E G I
  rw[X4,Xa]
  have M:XM (Zj (wd h.w a))=szA h.w a:=A.1
  rw[M,Xe ab ab]
  refine Wp (λk1=>?_) λk1=>?_
  .have k1:p.k=1:=by simpa using k1
   refine Wp (λ_=>Wd λe=>by cases e) λk2=>?_
   have k2:¬pgo h.c a+szA h.w a>p.u:=WN k2
   refine Wp (λg=>by rw[k1]at g;cases g) λ_=>Wd λ_=>⟨hp,eb,⟨q,by rw[f];exact G,E,by rw[f];exact I,λ_=>by rw[f];omega,λe=>by rw[f,k1]at e;cases e⟩,rfl⟩
  .have k1:¬p.k=1:=by simpa using k1
   have k2:p.k=2:=ab
   refine Wp (λ_=>?_) λg=>by rw[k2]at g;cases g
   refine Wp (λ_=>Wd λe=>by cases e) λg=>?_
   refine Wp (λ_=>Wd λe=>by cases e) λs=>Wd λ_=>⟨hp,eb,⟨q,by rw[f];exact G,E,by rw[f];exact I,λe=>by rw[f]at e;omega,λ_=>⟨by simpa using g,by rw[f];simpa using s⟩⟩,rfl⟩
 refine Ir (Wp (λk1=>Wp (λ_=>Wd λe=>by cases e) λk2=>Wp (λ_=>Wd λe=>by cases e) λg=>Wp (λ_=>Wd λe=>by cases e) λs=>?_) λk1=>Wp (λ_=>Wd λe=>by cases e) λg=>Wp (λ_=>Wd λe=>by cases e) λs=>?_)
 .exact rest (by simpa using s) (.inr (by simpa using k2)) (by have S:¬(pgo h.c a>=p.u):=WN g;omega)
 grind
def Xdl{N:Nat}(hN:NB N){h:Wh}(hb:HB h)(a:Int):Ok (Qb7 N h a) λr=>r.2=0->Uy h/\Qaa N h=some true/\IE h a/\r.1=hdA h.w a/\r.1.k≠0:=by
 have f:=hN;unfold NB at hN;refine WJ (YS (N:=N) ab hb.1 hb.2) λb eb hp=>?_;refine Wp (λ_=>Wd λe=>by cases e) λg=>?_;refine Wp (λ_=>Wd λe=>by cases e) λ_=>?_;refine WJ (Xch f hb a) λy v j=>?_;refine Wp (λk1=>Wp (λ_=>Wd λe=>by cases e) λk2=>Wd λe=>?_) λk1=>Wd λe=>?_
 .have⟨p,q,s,u⟩:=j e;exact⟨p,q,s,u,by simpa using k2⟩
 simp_all
def XgY{N:Nat}(hN:NB N){h:Wh}(hb:HB h)(a i:Int):Ok (Qc1 N h a i) λr=>r.2=0->Uy h/\IE h a/\0<=i/\i<(hdA h.w a).n:=by
 refine WJ (Xdl hN hb a) λy p f=>?_;refine Wp (λk=>Wd λe=>absurd e (by simpa using k)) λk1=>?_;refine Wp (λ_=>Wd λe=>by cases e) λk2=>?_;refine Wp (λ_=>Wd λe=>by cases e) λq=>?_;have⟨g,s,j,u,v⟩:=f (by simpa using k1);rw[Yp (by unfold BIG;have:=hb.1;omega),Xa];refine Wd λ_=>⟨g,j,?_,?_⟩
 .have:=WN k2;omega
 simp_all
def XgZ{N:Nat}(hN:NB N){h:Wh}(hb:HB h)(a i v:Int):Ok (Qci N h a i v) λr=>HB r.1:=by
 refine WJ (XgY hN hb a i) λy f g=>?_;refine Wp (λ_=>Wd Ko) λk1=>?_;have e:=hN;unfold NB at e;rw[KK (by unfold BIG;have:=hb.1;omega) ab,Xa];refine Wd ?_;split
 .exact⟨by rw[WL];exact hb.1,hb.2⟩
 exact⟨ac,hb.2⟩
def XkY{N:Nat}(hN:NB N){h:Wh}(hb:HB h)(a:Int):Ok (Qeu N h a) λr=>r.1.length<=256:=by
 refine WJ (Xdl hN hb a) λy q f=>?_;refine Wp (λ_=>Wd ac) λk1=>?_;have⟨s,u,v,g,x⟩:=f (by simpa using k1);have j:=XI h.w a;have e:y.1.n=szA h.w a-1:=by rw[g];unfold szA;omega
 have⟨k,p⟩:=UP (a:=y.1.n) ab;rw[p,XcC (by unfold BIG;have:=hb.1;omega) N _ k ab,Xa];refine Wd ?_;grind
def Xjs{N:Nat}(hN:NB N){h:Wh}(hb:HB h)(a:Int)(hd:Wx):Ok (QbJ N h a hd) λr=>HB r.1:=by
 have f:=hN;unfold NB at f;rw[QbJ,K0,Xa];refine WJ (YS (N:=N) ab hb.1 hb.2) λb eb hp=>?_;refine Wp (λ_=>Wd Ko) λ_=>?_;refine Wp (λ_=>Wd Ko) λk1=>?_;have g:XN hd=true:=by
  cases g:XN hd with
  |true=>rfl
  |false=>simp_all
 have k:=XQ g;refine Ub ab (Ub ab ?_);rw[Wn g,ZU (by unfold BIG;have:=hb.1;omega) (by unfold BIG;grind) (by grind),Xa];split
 .rename_i j;refine Wp (λe=>by grind) λ_=>Wd ⟨?_,hb.2⟩;have p:=hb.1;rw[ZC]
  .omega
  unfold YE at j;unfold ix;omega
 exact Wp (λ_=>Wd Ko) λe=>by grind
def XmS(N:Nat)(l:List Int)(v:Int)(g:l.length<=1000000000):∀(n k:Nat),k<=l.length->l.length-k<n->Qfc N l v n (k:Int)=some (if(l.drop k).contains v then .ret true else .nxt ())
 |0,k,_,h=>by omega
 |n+1,k,p,q=>by
  rw[Qfc];by_cases h:k<l.length
  .have j:decide ((k:Int)<(l.length:Int))=true:=Wg ab;rw[j,Wc,Xf,Wb h,Xa,Xe ab ab];rw[show((k:Int)+1)=((k+1:Nat):Int) by omega,XmS N l v g n (k+1) ab ab];rw[Wm h,List.contains_cons];by_cases f:l[k]=v
   .subst f;simp
   rw[show(l[k]==v)=false by simpa using f,Wa,show(v==l[k])=false by simpa usingλe=>f e.symm,Is]
  grind
def Yb{N:Nat}{l:List Int}(v:Int)(e:l.length<=1000000000)(hN:l.length<N):Qbs N l v=some (l.contains v):=by have h:=XmS N l v e N 0 ab ab;rw[show((0:Nat):Int)=0 from rfl,W3]at h;rw[Qbs,h,Xa];grind[Xo,Xy]
structure ON(N:Nat)(h:Wh)(l:List Int):Prop where
 at_:∀a∈l,IE h a
 ev:∀a∈l,Qao N h a=some (hdA h.w a,0)
 pw:l.Pairwise λa b=>a+szA h.w a<=b
def Xit(h:Wh)(i:Int)(l:List Int):Prop:=∀a∈l,Xc h.c i 0<=a/\pgi h.c a=i
def XeK{c:WR}{i o p:Int}(h:o<=p):Xc c i o<=Xc c i p:=by unfold Xc;omega
def Ym{c:WR}(e:X8 c=true){p o:Int}(f:0<=o)(g:o<c.W):pgi c (Xc c p o)=p/\pgo c (Xc c p o)=o:=XpK e f g
def XZ{c:WR}(e:X8 c=true){a:Int}(h:4096<=a/\a<4096+c.p*c.W):a=Xc c (pgi c a) (pgo c a)/\0<=pgi c a/\pgi c a<c.p/\0<=pgo c a/\pgo c a<c.W:=by have:=XfB e h.1 h.2;exact⟨this.2.2.2.2,this.1,this.2.1,this.2.2.1,this.2.2.2.1⟩
def Xug(N:Nat)(h:Wh)(i o:Int)(l:List Int):Prop:=ON N h l/\Xit h i l/\(∀a∈l,a+szA h.w a<=Xc h.c i o)/\(l.length:Int)<=o
def ON.snoc{N:Nat}{h:Wh}{l:List Int}{a:Int}(f:ON N h l)(k:IE h a)(g:Qao N h a=some (hdA h.w a,0))(j:∀b∈l,b+szA h.w b<=a):ON N h (l++[a]):=by
 refine⟨λx e=>?_,λx e=>?_,?_⟩
 .rcases Wt.1 e with e|e
  .exact f.at_ x e
  simp_all
 .rcases Wt.1 e with e|e
  .exact f.ev x e
  simp_all
 rw[Oc];refine⟨f.pw,ac,λb hb c p=>?_⟩;simp_all
def PageL(N:Nat)(h:Wh)(i:Int)(l:List Int):Prop:=ON N h l/\Xit h i l/\(l.length:Int)<=64
def XsS(N:Nat)(h:Wh)(i:Int):Ex (List Int×Int) (List Int)->Prop
 |.ret r=>r=([],19)
 |.nxt l=>PageL N h i l
def Qkv{N:Nat}(hN:NB N){h:Wh}(hb:HB h)(hp:Uy h){i:Int}(K:0<=i)(L:i<h.p.length)(g:(pg h.p i).k=1\/(pg h.p i).k=2):∀(n:Nat) (o:Int) (l:List Int),0<=o->(65-o).toNat<n->Xug N h i o l->((pg h.p i).k=1->o<=(pg h.p i).u)->((pg h.p i).k=2->o=0) ->
 Ok (Qah N h i (pg h.p i) n o l) (XsS N h i)
 |0,o,l,_,M,j,k1,k2=>by omega
 |n+1,o,l,v,M,j,k1,k2=>by
  have hv:=Xh.1 hp.conf;have O:=(hp.pgs i K L).small;have R:=hp.pages;have r:(l.length:Int)<=64:=by
   have:=j.2.2.2;rcases g with g|g
   .omega
   omega
  refine Wp (λz=>?_) λ_=>Wd ⟨j.1,j.2.1,r⟩;have z:o<(pg h.p i).u:=Wv z;have A:o<h.c.W:=by
   rcases g with g|g
   .omega
   omega
  rw[Kb,hp.conf,Xa,Wk ac,Wn ab];dsimp only;refine WJ (Xch hN hb (Xc h.c i o)) λy S U=>?_;refine Wp (λ_=>Wd rfl) λV=>?_;have⟨_,_,B,D⟩:=U (by simp_all);have s:=Ym hp.conf (p:=i) v A;have G:=XI h.w (Xc h.c i o);have I:Qao N h (Xc h.c i o)=some (hdA h.w (Xc h.c i o),0):=by rw[S];congr 1;exact Prod.ext D (by simp_all)
  have q:ON N h (l++[Xc h.c i o]):=j.1.snoc B I j.2.2.1;have E:Xit h i (l++[Xc h.c i o]):=by
   intro x f;rcases Wt.1 f with f|f
   .exact j.2.1 x f
   have:x=Xc h.c i o:=by simpa using f
   subst this;exact⟨XeK v,s.1⟩
  have J:((l++[Xc h.c i o]).length:Int)=l.length+1:=by simp
  have Y:=j.2.2.2;refine Ub ab (Wp (λkk=>Wd ⟨q,E,ab⟩) λkk=>?_);have kk:(pg h.p i).k=1:=by
   rcases g with g|g
   .omega
   simp_all
  rw[D,X4,Xa];rw[G.1];have Z:=B.small (by simp_all);rw[s.1,s.2]at Z;rw[Xe ab ab];refine Qkv hN hb hp K L g n _ _ ab ab ⟨q,E,λx f=>?_,ab⟩ (λ_=>ab) (λe=>ab);rcases Wt.1 f with f|f
  .have:=j.2.2.1 x f;have:=XeK (c:=h.c) (i:=i) (o:=o) (p:=o+szA h.w (Xc h.c i o)) ab;omega
  have:x=Xc h.c i o:=by simpa using f
  subst this;unfold Xc;omega
def PageL.nil(N:Nat)(h:Wh)(i:Int):PageL N h i []:=⟨⟨ac,ac,ac⟩,λa e=>by simp_all,ac⟩
def Qkw{N:Nat}(hN:NB N){h:Wh}(hb:HB h)(i:Int):Ok (Qaf N h i) λr=>(r.2≠0->r.1=[])/\r.1.length<=64/\(Uy h->PageL N h i r.1):=by
 have j:=hN;unfold NB at j;refine WJ (YS (N:=N) ab hb.1 hb.2) λb eb hp=>?_;refine Wp (λ_=>Wd ⟨λ_=>rfl,ac,λ_=>PageL.nil N h i⟩) λw=>?_;have hp:=hp (by simp_all);refine Wp (λ_=>Wd ⟨λ_=>rfl,ac,λ_=>PageL.nil N h i⟩) λf=>?_;refine Wp (λ_=>Wd ⟨λ_=>rfl,ac,λ_=>PageL.nil N h i⟩) λg=>?_;have f:0<=i:=by have:=WN f;omega
 have g:i<h.p.length:=by have:=WN g;omega
 refine Ok.get f g λp s=>?_;have u:=YG s;subst u;refine Wp (λ_=>Wd ⟨λ_=>rfl,ac,λ_=>PageL.nil N h i⟩) λk0=>?_;refine Wp (λ_=>Wd ⟨λ_=>rfl,ac,λ_=>PageL.nil N h i⟩) λv=>?_;have x:=(hp.pgs i f g).kind;have k0:¬(pg h.p i).k=0:=by simpa using k0
 have v:¬(pg h.p i).k=3:=by simpa using v
 refine IT (Qkv hN hb hp f g ab N 0 [] ab ab ⟨⟨ac,ac,ac⟩,λa y=>by simp_all,ac,ac⟩ (λk=>((hp.pgs i f g).small k).1) (λ_=>rfl)) (λa q=>?_) λl q=>?_
 .have:a=([],19):=q;subst this;exact Wd ⟨λ_=>rfl,ac,λ_=>PageL.nil N h i⟩
 exact Wd ⟨λe=>absurd rfl e,by have:=q.2.2;grind,λ_=>q⟩
def Xjt{c:WR}(e:X8 c=true){w:Int}(h:1<=XH c w):w<=XH c w*c.W:=by unfold XH at h⊢;grind
def XcF{h:Wh}(hp:Uy h){a:Int}(g:IE h a):∃k,1<=k/\pgi h.c a+k<=h.c.p/\a+szA h.w a<=Xc h.c (pgi h.c a+k) 0/\∀m,1<=m->m<k->(pg h.p (pgi h.c a+m)).k=3:=by
 have⟨e,q,z,A,B⟩:=XZ hp.conf g.rng;have x:=hp.pages;rcases g.kind with f|f
 .have D:=g.small f;have:=(hp.pgs _ q ab).small f;refine⟨1,ab,ab,?_,λm j r=>ab⟩;have E:Xc h.c (pgi h.c a+1) 0=4096+pgi h.c a*h.c.W+h.c.W:=by unfold Xc;rw[UX];omega
  have e3:a=4096+pgi h.c a*h.c.W+pgo h.c a:=e;omega
 have⟨G,I⟩:=g.large f;have⟨s,v⟩:=(hp.pgs _ q ab).large f;have y:=Xjt hp.conf s;refine⟨_,s,?_,?_,λm j r=>(v m j r).2⟩
 .by_cases j:XH h.c (pg h.p (pgi h.c a)).u=1
  .omega
  have:=(v (XH h.c (pg h.p (pgi h.c a)).u-1) ab ab).1;omega
 have e3:a=4096+pgi h.c a*h.c.W+pgo h.c a:=e;unfold Xc;grind
def KE{h:Wh}(hp:Uy h){a:Int}(e:IE h a):a+szA h.w a<=4096+h.w.length:=by have⟨k,j,f,g,_⟩:=XcF hp e;have q:=Xh.1 hp.conf;have:=hp.words;have r:(pgi h.c a+k)*h.c.W<=h.c.p*h.c.W:=WX f ab;unfold Xc at g;omega
def XkZ{h:Wh}(hp:Uy h){a b:Int}(g:IE h a)(hb:IE h b)(j:pgi h.c a<pgi h.c b):a+szA h.w a<=b:=by
 have⟨k,u,v,p,q⟩:=XcF hp g;have⟨e,x,y,z,A⟩:=XZ hp.conf hb.rng;have f:pgi h.c a+k<=pgi h.c b:=by
  rcases(by omega:pgi h.c b<pgi h.c a+k\/pgi h.c a+k<=pgi h.c b)with r|r
  .have:=q (pgi h.c b-pgi h.c a) ab ab;rw[show pgi h.c a+(pgi h.c b-pgi h.c a)=pgi h.c b by omega]at this;rcases hb.kind with s|s<;>omega
  omega
 have B:(pgi h.c a+k)*h.c.W<=pgi h.c b*h.c.W:=WX f ab;unfold Xc at p e;omega
def Qfw{N:Nat}(hN:NB N){h:Wh}(hb:HB h)(hp:Uy h)(i:Int)(f:0<=i)(g:i<h.p.length):Ok (Qaf N h i) λr=>PageL N h i r.1/\r.1.length<=64:=(Qkw hN hb i).mono λr e=>⟨e.2.2 hp,e.2.1⟩
structure IC(N:Nat)(h:Wh)(l:List Int):Prop where
 obj:ON N h l
 page:∀a∈l,∃r,Qaf N h (pgi h.c a)=some r/\a∈r.1
 len:l.length<=4096
def IC.nil(N:Nat)(h:Wh):IC N h []:=⟨⟨ac,ac,ac⟩,ac,ac⟩
def XeL{N:Nat}(hN:NB N){h:Wh}(hb:HB h)(hp:Uy h):∀(n:Nat) (i:Int) (l:List Int),0<=i->i<=h.p.length->(h.p.length-i).toNat<n->ON N h l->(∀a∈l,∃r,Qaf N h (pgi h.c a)=some r/\a∈r.1)->(∀a∈l,pgi h.c a<i)->(l.length:Int)<=64*i ->
 Ok (QaG N h n i l) λe=>match e with|.ret r=>r.1=[]/\r.2≠0|.nxt l=>IC N h l
 |0,i,l,_,_,z,_,_,_,_=>by omega
 |n+1,i,l,A,E,z,g,j,u,w=>by
  have G:=Xh.1 hp.conf;have B:=hp.pages;refine Wp (λv=>?_) λ_=>Wd ⟨g,j,ab⟩;have v:i<h.p.length:=Wv v;refine WJ (Qfw hN hb hp i A v) λy D k=>?_;refine Wp (λx=>Wd ⟨rfl,by simpa using x⟩) λx=>?_;refine Ub ab ?_;rw[Xe ab ab];have q:∀a∈y.1,pgi h.c a=i:=λa f=>(k.1.2.1 a f).2;refine XeL hN hb hp n (i+1) _ ab ab ab ⟨λa f=>?_,λa f=>?_,?_⟩ (λa f=>?_) (λa f=>?_) (by rw[WM];omega)
  .rcases Wt.1 f with f|f
   .exact g.at_ a f
   exact k.1.1.at_ a f
  .rcases Wt.1 f with f|f
   .exact g.ev a f
   exact k.1.1.ev a f
  .rw[Oc];refine⟨g.pw,k.1.1.pw,λa f b s=>?_⟩;exact XkZ hp (g.at_ a f) (k.1.1.at_ b s) (by rw[q b s];exact u a f)
  .rcases Wt.1 f with f|f
   .exact j a f
   exact⟨y,by rw[q a f];exact D,f⟩
  grind
def J8{N:Nat}(hN:NB N){h:Wh}(hb:HB h):Ok (Qby N h) λr=>IC N h r.1/\(r.2=0->Uy h)/\(r.2≠0->r.1=[]):=by have f:=hN;unfold NB at f;refine WJ (YS (N:=N) ab hb.1 hb.2) λb eb hp=>?_;refine Wp (λ_=>Wd ⟨IC.nil N h,λe=>ab,λ_=>rfl⟩) λg=>?_;have hp:=hp (by simp_all);have j:=hb.2;refine IT (XeL hN hb hp N 0 [] ab ab ab ⟨ac,ac,ac⟩ ac ac ac) (λa q=>?_) λl q=>Wd ⟨q,λ_=>hp,λe=>absurd rfl e⟩;refine Wd ⟨?_,λe=>absurd e q.2,λ_=>q.1⟩;rw[q.1];exact IC.nil N h
def IC.sub{N:Nat}{h:Wh}{l l':List Int}(e:IC N h l)(f:l'.Sublist l):IC N h l':=
 ⟨⟨λa g=>e.obj.at_ a (f.subset g),λa g=>e.obj.ev a (f.subset g),e.obj.pw.sublist f⟩,λa g=>e.page a (f.subset g),UK f.length_le e.len⟩
def XaR{N:Nat}(hN:NB N){h:Wh}(hb:HB h)(y:List Int×Int)(r:y.1.length<=4096):∀(n k:Nat) (l:List Int),k<=y.1.length->y.1.length-k<n->l.Sublist (y.1.take k)->Ok (Qa6 N h y n (k:Int) l) λo=>o.Sublist y.1
 |0,k,l,_,u,_=>by omega
 |n+1,k,l,x,u,j=>by
  have s:l.length<=4096:=UK j.length_le (by rw[Wl];omega);refine Wp (λg=>?_) λ_=>Wd (j.trans (List.take_sublist _ _));have g:(k:Int)<y.1.length:=Wv g;have e:k<y.1.length:=ab;refine Ok.get ab g λp hp=>?_;refine WJ (Xch hN hb p) λz A B=>?_;have v:wI ((k:Int)+1)=((k+1:Nat):Int):=by rw[Xe ab ab];omega
  rw[v];refine Wp (λ_=>?_) λ_=>XaR hN hb y r n (k+1) l ab ab (j.trans (List.take_sublist_take_left ab));refine Ok.get ab g λw f=>Ub ab (XaR hN hb y r n (k+1) _ ab ab ?_);have q:w=y.1[k]:=by rw[Xf,Wb e]at f;exact(WE f).symm
  simp_all[List.take_succ_eq_append_getElem,e,q]
def Kx{N:Nat}(hN:NB N){h:Wh}(hb:HB h):Ok (Qal N h) λr=>IC N h r.1/\(r.2=0->Uy h)/\(r.1≠[]->Uy h):=by refine WJ (J8 hN hb) λy p e=>?_;have f:=hN;unfold NB at f;have g:=e.1.len;have:=XaR hN hb y g N 0 [] ab ab ac;refine WJ this λo q j=>Wd ⟨e.1.sub j,e.2.1,λk=>?_⟩;grind
def Xci{N:Nat}(hN:NB N){h:Wh}(hb:HB h)(a:Int):Ok (Qdw N h a) λb=>b=true->Uy h/\IE h a:=by
 have f:=hN;unfold NB at f;refine WJ (Kx hN hb) λy k g=>?_;have p:=g.1.len;rw[Yb a ab ab,Xa];refine Wd λe=>?_;have j:a∈y.1:=by simpa using e
 exact⟨g.2.2 (IY j),g.1.obj.at_ a j⟩
def XpL{N:Nat}{h:Wh}(hb:HB h)(i o:Int):Ok (Qfn N h i o) λ_=>True:=by rw[Qfn,QgI,Kb,Xa,Yp (by unfold BIG;have:=hb.1;omega),Xa,Xa];exact Wd trivial
def Xdm(h:Wh)(i:Int)(l:List Int):Prop:=(pg h.p i).k=1->∀a∈l,szA h.w a<=smC h.c
def Xg0{N:Nat}(hN:NB N){h:Wh}(hb:HB h){i:Int}(x:0<=i)(y:i<h.p.length)(l:List Int)(D:l.length<=4096)(j:∀a∈l,Qao N h a=some (hdA h.w a,0)/\a≠0):∀(n k:Nat),k<=l.length->l.length-k<n ->
 Ok (QaR N h i l n (k:Int)) λe=>match e with|.ret r=>r≠0|.nxt _=>(pg h.p i).k=1->∀a∈l.drop k,szA h.w a<=smC h.c
 |0,k,_,E=>by omega
 |n+1,k,O,E=>by
  refine Wp (λs=>?_) λs=>Wd ?_;rotate_left
  .grind
  have s:(k:Int)<l.length:=Wv s;have v:k<l.length:=ab;refine Ok.get ab s λp hp=>?_;have G:p=l[k]:=by rw[Xf,Wb v]at hp;exact(WE hp).symm
  have z:p∈l:=YC hp;rw[(j p z).1,Xa];rw[X4,Xa,XgV,Xa,(XI h.w p).1];have I:wI ((k:Int)+1)=((k+1:Nat):Int):=by rw[Xe ab ab];omega
  rw[I];have ret:∀g,Xd l (k:Int)=some g->g≠0:=λg f=>(j g (YC f)).2;have next:((pg h.p i).k=1->szA h.w p<=smC h.c)->Ok (QaR N h i l n ((k+1:Nat):Int)) λe=>match e with|.ret r=>r≠0|.nxt _=>(pg h.p i).k=1->∀a∈l.drop k,szA h.w a<=smC h.c:=by
   intro u
   refine(Xg0 hN hb x y l D j n (k+1) ab ab).mono λe R=>?_
   cases e with
   |ret r=>omega
   |nxt _=>
    intro J a K
    rw[Wm v]at K
    grind
  refine Ok.get x y λq L=>?_;have A:=YG L;refine Wp (λk1=>?_) λk1=>?_
  .refine Wp (λ_=>Ok.get ab s λg f=>Wd (ret g f)) λk2=>?_;have u:szA h.w p<=smC h.c:=by simpa using k2
   refine Ok.get x y λM B=>Wp (λ_=>Wp (λ_=>Ok.get ab s λg f=>Wd (ret g f)) λ_=>next λ_=>u) λ_=>next λ_=>u
  have u:(pg h.p i).k=1->szA h.w p<=smC h.c:=by intro e;rw[A]at e;rw[e]at k1;cases k1
  refine Ok.get x y λM B=>Wp (λ_=>Wp (λ_=>Ok.get ab s λg f=>Wd (ret g f)) λ_=>next u) λ_=>next u
def XmT{N:Nat}(hN:NB N){h:Wh}(hb:HB h){i:Int}(j:0<=i)(k:i<h.p.length){l:List Int}(s:l.length<=64)(f:∀a∈l,Qao N h a=some (hdA h.w a,0)/\a≠0):
 Ok (Qeg N h i l) λr=>r=0->Xdm h i l:=by have g:=hN;unfold NB at g;have:=Xg0 hN hb j k l ab f N 0 ab ab;refine IT this (λa q=>Wd λe=>absurd e q) λ_ q=>Wd λ_=>?_;assumption
def XfD{N:Nat}{h:Wh}(i:Int)(l:List Int)(k:Int)(e:0<=k)(f:k<l.length)(x:Int)(g:x<=256):∀(n:Nat) (w:Int) (u:List Bool),0<=w->(x-w).toNat<n->u.length<=1000->Ok (QbN N h i l k x n w u) λr=>r.length=u.length
 |0,w,u,_,v,_=>by omega
 |n+1,w,u,A,v,j=>by
  refine Wp (λs=>?_) λ_=>Wd rfl;have s:w<x:=Wv s;refine Ok.get e f λp hp=>?_;rw[Xe (n:=w+1) ab ab];have next:=XfD (N:=N) (h:=h) i l k e f x g n (w+1) u ab ab j
  refine Wp (λy=>?_) λ_=>next
  refine Ub ab (Wp (λz=>?_) λ_=>next);refine Ok.get (Wv y) (Wv z) λq B=>?_;refine(XfD i l k e f x g n (w+1) _ ab ab (by rw[WL];exact j)).mono λr D=>?_;simp_all
def Xju{N:Nat}(hN:NB N){h:Wh}(hb:HB h)(i:Int)(l:List Int)(q:l.length<=100000):∀(n:Nat) (k:Int) (u:List Bool),0<=k->k<=l.length->(l.length-k).toNat<n->u.length<=1000->Ok (Qdh N h i l n k u) λr=>r.length=u.length
 |0,k,u,_,_,s,_=>by omega
 |n+1,k,u,j,z,s,v=>by
  refine Wp (λe=>?_) λ_=>Wd rfl;have e:k<l.length:=Wv e;have f:=hN;unfold NB at f;refine Ok.get j e λp hp=>WJ (Xch hN hb p) λy A B=>?_;rw[X4,Xa];have D:=XmP y.1;have next:∀x:Int,x<=256->Ok (bnd (QbN N h i l k x N 0 u) λg=>Qdh N h i l n (wI (k+1)) g) λr=>r.length=u.length:=by intro x w;refine WJ (XfD i l k j e x w N 0 u ab ab v) λr E G=>?_;rw[Xe (n:=k+1) ab ab];exact(Xju hN hb i l q n (k+1) r ab ab ab ab).mono λo I=>by omega
  exact Ir (Wp (λ_=>next 1 ab) λ_=>next _ ab)
def XfE(N:Nat){h:Wh}(e:(pg h.p 0).k≠3):∀(n:Nat) (i:Int),0<=i->i<h.p.length->h.p.length<=100000->i.toNat<n->Ok (QcJ N h n i) λr=>0<=r/\r<h.p.length
 |0,i,_,_,_,j=>by omega
 |n+1,i,f,g,q,j=>by
  refine Ok.get f g λp hp=>Wp (λs=>?_) λ_=>Wd ⟨f,g⟩;have:i≠0:=by rintro rfl;exact e (by simp_all[YG,hp])
  rw[Xe ab ab];exact XfE N e n (i-1) ab ab q ab
def Xjv{N:Nat}{h:Wh}(hb:HB h)(i:Int)(u:List Bool)(f:u.length<=1000):∀(n:Nat) (k:Int),0<=k->k<=u.length->(u.length-k).toNat<n->Ok (QcK N h i u n k) λ_=>True
 |0,k,_,_,g=>by omega
 |n+1,k,j,q,g=>by
  refine Wp (λe=>?_) λ_=>Wd trivial;have e:k<u.length:=Wv e;rw[Xe (n:=k+1) ab ab];have next:=Xjv (N:=N) hb i u f n (k+1) ab ab ab
  refine Ok.get j e λp hp=>Wp (λ_=>WJ (XpL hb i k) λy _ _=>Wp (λ_=>?_) λ_=>next) λ_=>next
  rw[Qfy,Xa];exact Wd trivial
def XpM{N:Nat}(hN:NB N){h:Wh}(hb:HB h)(hp:Uy h){i:Int}(k:0<=i)(q:i<h.p.length):Ok (Qd8 N h i) λ_=>True:=by
 have f:=hN;unfold NB at f;have g:=hb.2;have s:=Xh.1 hp.conf;refine WJ (WJ (XfE N hp.first N i k q g ab) λr _ e=>Wd e) λr _ e=>?_;refine WJ (Qfw hN hb hp r e.1 e.2) λy _ v=>?_;refine WJ (Q:=λr=>r.length<=1000) (Ub ab (WJ (Xju hN hb i y.1 ab N 0 _ ab ab ab (by grind)) λu _ j=>Wd ?_)) λu _ j=>?_
 .grind
 exact IT (Xjv hb i u j N 0 ab ab ab) (λ_ _=>Wd trivial) λ_ _=>Wd trivial
def XmU{N:Nat}(hN:NB N){h:Wh}(hb:HB h)(hp:Uy h){i:Int}(g:0<=i)(j:i<h.p.length):Ok (Qd9 N h i) λf=>f.Fault=0->∀r,Qaf N h i=some r->Xdm h i r.1/\r.2=0:=by
 have main:Ok (bnd (Qaf N h i) λq=>
  bif (q.2 != 0)then some (Us.mk 3 i 0)
  else bnd (Qeg N h i q.1) λs=>
  bif (s != 0)then some (Us.mk 5 i s)
  else bnd (Qd8 N h i) λu=>
  bif (u != 0)then some (Us.mk 4 i u)
  else some (Us.mk 0 0 0)) λf=>f.Fault=0->∀r,Qaf N h i=some r->Xdm h i r.1/\r.2=0:=by
  refine WJ (Qfw hN hb hp i g j) λy x k=>?_
  refine Wp (λ_=>Wd λe=>by grind) λz=>?_
  refine WJ (XmT hN hb g j k.2 λa v=>⟨k.1.1.ev a v,by have:=(k.1.1.at_ a v).rng;omega⟩) λc _ A=>?_
  refine Wp (λ_=>Wd λe=>by grind) λB=>?_
  refine WJ (XpM hN hb hp g j) λd _ _=>?_
  refine Wp (λ_=>Wd λe=>by grind) λ_=>Wd λ_ r w=>?_
  rw[x]at w
  exact WE w▸⟨A (by simp_all),by simp_all⟩
 refine Ir (Ok.get g j λp hp=>Wp (λ_=>Ok.get g j λp hp=>Wp (λ_=>Wd λe=>by grind) λ_=>main) λ_=>main)
def Xcj{N:Nat}{h:Wh}(r g:List Int×Int)(y:r.1.length<=4096)(z:g.1.length<=256)(hN:1000000<N)(v:Int)(j:0<=v)(u:v<r.1.length)(w:Wx×Int):∀(n:Nat) (k:Int),0<=k->k<=g.1.length->(g.1.length-k).toNat<n->Ok (Qav N h r g v w n k) λe=>∀f,e=.ret f->f.Fault=6
 |0,k,_,_,A=>by omega
 |n+1,k,x,B,A=>by
  refine Wp (λs=>?_) λ_=>Wd λf e=>by grind
  have s:k<g.1.length:=Wv s;rw[Xe (n:=k+1) ab ab];have next:=Xcj (N:=N) (h:=h) r g y z hN v j u w n (k+1) ab ab ab
  rw[JC,Xa];refine Wp (λ_=>Ok.get x s λp hp=>Wp (λ_=>Ok.get x s λp hp=>?_) λ_=>next) λ_=>next
  rw[Yb p ab ab,Xa];refine Wp (λ_=>Ok.get j u λq D=>?_) λ_=>next
  rw[KX,Xa];exact Wd λf e=>by grind
def Xck{N:Nat}(hN:NB N){h:Wh}(hb:HB h)(g:List Int×Int)(u:g.1.length<=4096):∀(n:Nat) (k:Int),0<=k->k<=g.1.length->(g.1.length-k).toNat<n->Ok (Qbt N h g n k) λe=>∀f,e=.ret f->f.Fault=6
 |0,k,_,_,v=>by omega
 |n+1,k,r,z,v=>by
  have s:=hN;unfold NB at s;refine Wp (λj=>?_) λ_=>Wd λf e=>by cases e
  have j:k<g.1.length:=Wv j;rw[Xe (n:=k+1) ab ab];refine Ok.get r j λp hp=>WJ (Xdl hN hb p) λw _ _=>Ok.get r j λp hp=>WJ (XkY hN hb p) λx _ y=>?_;refine IT (Xcj g x u y ab k r j w N 0 ab ab ab) (λa q=>Wd λf e=>?_) λ_ _=>Xck hN hb g u n (k+1) ab ab ab;simp_all
def Xg1{N:Nat}(hN:NB N){h:Wh}(hb:HB h):Ok (Qds N h) λ_=>True:=by have e:=hN;unfold NB at e;refine WJ (Kx hN hb) λy _ f=>?_;have:=f.1.len;exact IT (Xck hN hb y f.1.len N 0 ab ab ab) (λ_ _=>Wd trivial) λ_ _=>Wd trivial
def Xg2{N:Nat}(hN:NB N){h:Wh}(hb:HB h)(hp:Uy h):∀(n:Nat) (i:Int),0<=i->i<=h.p.length->(h.p.length-i).toNat<n->Ok (Qbb N h n i) λe=>match e with|.ret f=>f.Fault≠0|.nxt _=>∀j,i<=j->j<h.p.length->∀r,Qaf N h j=some r->Xdm h j r.1/\r.2=0
 |0,i,_,_,q=>by omega
 |n+1,i,s,y,q=>by
  have u:=hb.2;refine Wp (λg=>?_) λg=>Wd λj v k=>?_;rotate_left
  .grind
  have g:i<h.p.length:=Wv g;refine WJ (XmU hN hb hp s g) λf _ z=>Wp (λw=>Wd (by simp_all)) λw=>?_;rw[Xe ab ab];refine(Xg2 hN hb hp n (i+1) ab ab ab).mono λe x=>?_;cases e with
  |ret f=>omega
  |nxt _=>
   intro j v k;by_cases A:j=i
   .grind
   exact x j ab k
def Xg3{N:Nat}{h:Wh}(g:h.p.length<=100000):∀(n:Nat) (c i:Int),0<=i->i<=h.p.length->(h.p.length-i).toNat<n->Ok (Qa2 N h n c i) λ_=>True
 |0,c,i,_,_,j=>by omega
 |n+1,c,i,f,q,j=>by
  refine Wp (λe=>?_) λ_=>Wd trivial;have e:i<h.p.length:=Wv e;rw[Xe (n:=i+1) ab ab];have next:=λk=>Xg3 (N:=N) g n k (i+1) ab ab ab
  exact Ok.get f e λp hp=>Wp (λ_=>Ok.get f e λp hp=>Wp (λ_=>next _) λ_=>next _) λ_=>next _
structure OG(N:Nat)(h:Wh):Prop where
 prop:Uy h
 small:∀j:Int,0<=j->j<h.p.length->∀r,Qaf N h j=some r->Xdm h j r.1/\r.2=0
def KF{N:Nat}(hN:NB N){h:Wh}(hb:HB h):Ok (Qbj N h) λb=>b=true->OG N h:=by
 have g:=hN;unfold NB at g;have j:=hb.2;refine WJ (Q:=λf=>f.Fault=0->OG N h) (WJ (YS (N:=N) ab hb.1 hb.2) λb eb hp=>Wp (λ_=>Wd λe=>by cases e) λk=>?_) λf _ r=>Wd λe=>?_
 .have hp:=hp (by simpa using k);refine IT (Xg2 hN hb hp N 0 ab ab ab) (λa q=>Wd λe=>absurd e q) λ_ q=>?_;have p:OG N h:=⟨hp,q⟩
  refine WJ (Xg1 hN hb) λf _ _=>Wp (λ_=>Wd λ_=>p) λ_=>?_;exact WJ (Xg3 j N 0 0 ab ab ab) λc _ _=>Wp (λ_=>Wd λ_=>p) λ_=>Wd λ_=>p
 simp_all
def OG.sz{N:Nat}{h:Wh}(e:OG N h){l:List Int}(g:IC N h l){a:Int}(j:a∈l)(q:(pg h.p (pgi h.c a)).k=1):szA h.w a<=h.c.W / 4:=by have⟨r,s,u⟩:=g.page a j;have f:=g.obj.at_ a j;have⟨_,v,x,_⟩:=XZ e.prop.conf f.rng;have:=(e.small _ v (by have:=e.prop.pages;omega) r s).1 q a u;unfold smC at this;omega
def XeM{N:Nat}(l:List Int)(g:l.length<=100000000)(y:List Int×Int)(h:y.1.length<=4096)(hN:1000000<N):∀(n:Nat) (k:Int),0<=k->k<=l.length->(l.length-k).toNat<n->Ok (QaA N l y n k) λ_=>True
 |0,k,_,_,j=>by omega
 |n+1,k,f,q,j=>by
  refine Wp (λe=>?_) λ_=>Wd trivial;have e:k<l.length:=Wv e;rw[Xe (n:=k+1) ab ab];have next:=XeM (N:=N) l g y h hN n (k+1) ab ab ab
  refine Ok.get f e λp hp=>Wp (λ_=>Ok.get f e λp hp=>?_) λ_=>next
  rw[Yb p ab ab,Xa];exact Wp (λ_=>Wd trivial) λ_=>next
def XbP{N:Nat}(hN:NB N){h:Wh}(hb:HB h){l:List Int}(q:l.length<=1000000):Ok (QbA N h l) λb=>b=true->OG N h:=by have f:=hN;unfold NB at f;refine WJ (KF hN hb) λb _ g=>Wp (λ_=>Wd λe=>by grind) λk=>?_;have j:=g (by simp_all);refine WJ (Kx hN hb) λy _ p=>?_;exact IT (XeM l ab y p.1.len ab N 0 ab ab ab) (λ_ _=>Wd λ_=>j) λ_ _=>Wd λ_=>j
def XmV(d:Wx):ZD d % 4=1:=by have e:Kj .u64 (wU d.Map) 16=wU (wU d.Map*65536):=rfl;unfold ZD;grind[Xcg]
def XpN(ws:List Int)(a:Int)(h:wd ws a % 4=2):szA ws a=1:=by
 have:okH (wd ws a)=false:=by
  unfold okH;have f:=XmV (XbN (wd ws a));have:(ZD (XbN (wd ws a))==wd ws a)=false:=by rw[beq_eq_false_iff_ne];intro e;rw[e]at f;omega
  rw[this,Bool.and_false]
 unfold szA hdA Zj;simp_all
structure Oz(h0:Wh)(l:List Int)(w:Wu)(O:Int->Prop)(s:Int->Int):Prop where
 old:∀a∈l,O a/\s a=szA h0.w a
 queue:∀a∈w.q,O a
 fit:∀a,O a->4096<=a/\1<=s a/\a+s a<=4096+w.h.w.length/\szA w.h.w a<=s a
 apart:∀a b,O a->O b->a≠b->a+s a<=b\/b+s b<=a
 taken:∀a,O a->∀j∈w.t,a+s a<=Xc h0.c j (pg w.h.p j).u\/Xc h0.c (j+1) 0<=a
 free:∀a,O a->∀j:Int,0<=j->j<w.h.p.length->(pg w.h.p j).k=0->a+s a<=Xc h0.c j 0\/Xc h0.c (j+1) 0<=a
structure CI(h0:Wh)(l:List Int)(w:Wu):Prop where
 conf:w.h.c=h0.c
 wlen:w.h.w.length=h0.w.length
 plen:w.h.p.length=h0.p.length
 spc:w.h.s=h0.s
 old:w.o.Sublist l
 tk:∀j∈w.t,0<=j/\j<w.h.p.length/\(pg w.h.p j).k=1/\0<=(pg w.h.p j).u/\(pg w.h.p j).u<=h0.c.W
 tnd:w.t.Nodup
 knd:∀a∈l,(pg w.h.p (pgi h0.c a)).k=(pg h0.p (pgi h0.c a)).k
 qnd:w.q.Nodup
 obj:∃O s,Oz h0 l w O s
def Xbi:∀(n:Nat) (a:Int) (l:List Int),l.Nodup->(∀x∈l,a<=x/\x<a+n)->l.length<=n
 |0,a,l,_,h=>by
  cases l with
  |nil=>simp
  |cons x l=>have:=h x ac;omega
 |n+1,a,l,e,h=>by
  by_cases k:a+(n:Int)∈l
  .have g:=Xbi n a (l.erase (a+(n:Int))) (e.erase _) λx f=>by have j:=(List.Nodup.mem_erase_iff e).1 f;have p:=h x j.2;omega
   simp_all
  have g:=Xbi n a l e λx f=>by grind
  omega
section
variable {N:Nat}{h0:Wh}{l:List Int}
def CI.ql{w:Wu}(hb:HB h0)(e:CI h0 l w):w.q.length<=100000:=by
 have⟨O,s,f⟩:=e.obj;have:=Xbi w.h.w.length 4096 w.q e.qnd λx g=>by have:=f.fit x (f.queue x g);omega
 have:=hb.1;have:=e.wlen;omega
def CI.tl{w:Wu}(hb:HB h0)(e:CI h0 l w):w.t.length<=100000:=by
 have:=Xbi w.h.p.length 0 w.t e.tnd λx f=>by have:=e.tk x f;omega
 have:=hb.2;have:=e.plen;omega
def XeN{w:Wu}(f:w.t.length<=100000)(i:Int):∀(n:Nat) (k:Int),0<=k->k<=w.t.length->(w.t.length-k).toNat<n->Ok (QcR N w i n k) λ_=>True
 |0,k,_,_,g=>by omega
 |n+1,k,h0,h,g=>by refine Wp (λe=>?_) λ_=>Wd trivial;have e:k<w.t.length:=Wv e;rw[Xe (n:=k+1) ab ab];exact Ok.get h0 e λp hp=>Wp (λ_=>Wd trivial) λ_=>XeN f i n (k+1) ab ab ab
def Xcl(hN:NB N){w:Wu}(j:w.t.length<=100000)(i:Int):Ok (QbT N w i) λb=>b=true->0<=i/\i<w.h.p.length:=by
 unfold NB at hN;refine Wp (λ_=>Wd λe=>by grind) λf=>Wp (λ_=>Wd λe=>by grind) λg=>?_;have f:0<=i:=by have:=WN f;omega
 have g:i<w.h.p.length:=by have:=WN g;omega
 refine Ok.get f g λp hp=>Wp (λ_=>Wp (λ_=>WJ (Q:=λ_=>True) ?_ λy _ _=>Wd λ_=>⟨f,g⟩) λ_=>Wd λe=>ab) λ_=>Wd λe=>by omega
 exact IT (XeN j i N 0 ab ab ab) (λ_ _=>Wd trivial) λ_ _=>Wd trivial
def XeO(h0:Wh)(w:Wu)(n:Int):Prop:=∀i,w.t.getLast? = some i->h0.c.W<(pg w.h.p i).u+n
structure OF(h0:Wh)(w:Wu)(n:Int)(w':Wu)(at_ j u:Int):Prop where
 rng:0<=j/\j<w.h.p.length
 fit:0<=u/\u+n<=h0.c.W
 addr:at_=Xc h0.c j u
 conf:w'.h.c=w.h.c
 words:w'.h.w=w.h.w
 space:w'.h.s=w.h.s
 old:w'.o=w.o
 queue:w'.q=w.q
 scanned:w'.d=w.d
 plen:w'.h.p.length=w.h.p.length
 other:∀i,0<=i->i≠j->pg w'.h.p i=pg w.h.p i
 this:(pg w'.h.p j).k=1/\(pg w'.h.p j).u=u+n
 sp:(j∈w.t/\(pg w'.h.p j).s=(pg w.h.p j).s/\(pg w'.h.p j).P=(pg w.h.p j).P)\/((pg w'.h.p j).s=1-w.h.s/\(pg w'.h.p j).P=0)
 way:(j∈w.t/\w'.t=w.t/\u=(pg w.h.p j).u)\/((pg w.h.p j).k=0/\w'.t=w.t++[j]/\u=0)
 lst:(w'.t=w.t/\w.t.getLast? = some j)\/(w'.t=w.t++[j]/\XeO h0 w n)
def Xdn(hN:NB N)(hb:HB h0)(hp:Uy h0){w:Wu}(G:CI h0 l w){n:Int}(hn:1<=n)(hn2:n<=h0.c.W):Ok (Qcy N w n) λr=>(r.2.2=true->∃j u,OF h0 w n r.1 r.2.1 j u)/\(r.2.2=false->XeO h0 w n/\∀j:Int,0<=j->j<w.h.p.length->(pg w.h.p j).k≠0):=by
 have V:=hN;unfold NB at V;have hpl:=G.plen;have hv:=Xh.1 hp.conf;have htl:=G.tl hb;have hpp:=hp.pages;have new:XeO h0 w n->Ok (bnd (Qbn N w.h.p 1) λI=>
  bif (decide (I<0))then some ((Wu.mk (Wh.mk (WR.mk 0 0) [] [] 0 0) [] [] [] 0 (WV.mk 0 0 0 0 0 0)),0,false)
  else bnd (QbU N w.h.p I (wI (1-w.h.s))) λU=>
  grd (w.t.length*8<=140737488355328) <|
  grd ((w.t.length+1)*8<=140737488355328) <|
  bnd (Xd U.1 I) λY=>
  bnd (Xd U.1 I) λZ=>
  bnd (Xd U.1 I) λK=>
  some ((Wu.mk (Wh.mk w.h.c w.h.w (U.1.set I.toNat (Wr.mk K.k K.s (wI (Z.u+n)) K.P)) w.h.s w.h.b) w.o (w.t++[I]) w.q w.d w.r),(wU (wI ((wI (4096+(wI (I*w.h.c.W))))+Y.u))),true)) λr=>(r.2.2=true->∃j u,OF h0 w n r.1 r.2.1 j u)/\(r.2.2=false->XeO h0 w n/\∀j:Int,0<=j->j<w.h.p.length->(pg w.h.p j).k≠0):=λlf=>by
  refine WJ (XeJ 1 ab ab) λj _ x=>Wp (λR=>Wd ⟨λe=>by grind,λ_=>⟨lf,?_⟩⟩) λR=>?_
  .rcases x with x|x
   .exact x.2 rfl
   .have:=Wv R;have:=x.1;omega
  have hr:RunOK w.h.p j 1:=by
   rcases x with⟨rfl,_⟩|x
   .grind
   .exact x
  have hsp:=hp.space
  have hws:=G.spc
  rw[Xe (n:=1-w.h.s) ab ab]
  refine WJ (Xdk j (1-w.h.s) ab ab) λy _ hy=>?_
  have hy0:=hy.2.2 hr ab ab
  obtain⟨z,q1,q2,q3⟩:=hy.1 hy0
  have hk:=hr.2.2.2 0 ab ab
  rw[Int.add_zero]at hk
  have f:j<y.1.length:=ab
  refine Ub ab (Ub ab (Ok.get z f λp1 L=>Ok.get z f λp2 A=>Ok.get z f λp3 M=>Wd ⟨λ_=>?_,λe=>by cases e⟩))
  have g1:=YG L
  have g2:=YG A
  have g3:=YG M
  rw[q3 j z,Wn rfl]at g1 g2 g3
  subst g1;subst g2;subst g3
  have hm:=XO hp.conf (i:=j) z ab
  refine⟨j,0,⟨⟨z,ab⟩,⟨ab,ab⟩,?_,rfl,rfl,rfl,rfl,rfl,rfl,?_,λi D E=>?_,?_,.inr ?_,.inr ⟨hk,rfl,rfl⟩,.inr ⟨rfl,lf⟩⟩⟩
  .show wU (wI (wI (4096+wI (j*w.h.c.W))+0))=_
   rw[G.conf,Xe (n:=j*h0.c.W) ab ab,Xe (n:=4096+j*h0.c.W) ab ab,Xe ab ab,XE ab ab]
   rfl
  .simp_all
  .show pg (y.1.set _ _) i=_
   rw[Y0 _ z f D,Wk E,q3 i D,Wk E,Wk ab]
  .show(pg (y.1.set _ _) j).k=1/\(pg (y.1.set _ _) j).u=_
   rw[Y0 _ z f z,Wn rfl]
   refine⟨rfl,?_⟩
   show wI (0+n)=0+n
   rw[Xe ab ab]
  .show(pg (y.1.set _ _) j).s=_/\(pg (y.1.set _ _) j).P=_
   rw[Y0 _ z f z,Wn rfl]
   simp
 refine Ub ab (Ir (Wp (λht=>?_) λht=>new λi D=>by
  have:=WN ht
  rw[WK (l:=w.t) ab]at D;cases D))
 have ht:0<(w.t.length:Int):=Wv ht;rw[Xe (n:=(w.t.length:Int)-1) ab ab];refine Ok.get ab ab λj x=>?_;have S:w.t.getLast? = some j:=by rw[List.getLast?_eq_getElem?];have:=(KD.1 x).2;rwa[show((w.t.length:Int)-1).toNat=w.t.length-1 by omega]at this
 have O:=YC x;have⟨B,J,t2,t3,t4⟩:=G.tk j O;refine Ok.get B J λp A=>?_;have g:=YG A;subst g;rw[Xe (n:=(pg w.h.p j).u+n) ab ab];refine Wp (λv=>?_) λv=>new λi D=>by obtain rfl:=WE (S.symm.trans D);have:=WN v;rw[G.conf]at this;omega
 have v:(pg w.h.p j).u+n<=w.h.c.W:=Wv v;rw[G.conf]at v;refine Ok.get ab ab λj' hj'=>?_;obtain rfl:j=j':=WE (x.symm.trans hj');refine Ok.get B J λp1 L=>Ok.get B J λp2 A=>Ok.get B J λp3 M=>Wd ⟨λ_=>?_,λe=>by cases e⟩;have g1:=YG L;have g2:=YG A;have g3:=YG M;subst g1;subst g2;subst g3;have hm:=XO hp.conf (i:=j) B ab;refine⟨j,(pg w.h.p j).u,⟨⟨B,J⟩,⟨t3,v⟩,?_,rfl,rfl,rfl,rfl,rfl,rfl,?_,λi D E=>?_,?_,.inl ⟨O,?_⟩,.inl ⟨O,rfl,rfl⟩,.inl ⟨rfl,S⟩⟩⟩
 .show wU (wI (wI (4096+wI (j*w.h.c.W))+_))=_;rw[G.conf,Xe (n:=j*h0.c.W) ab ab,Xe (n:=4096+j*h0.c.W) ab ab,Xe ab ab,XE ab ab];rfl
 .simp
 .simp[Y0,B,J,D,Wk,E]
 .rw[Y0 _ B J B,Wn rfl];refine⟨t2,?_⟩;rw[Xe ab ab]
 rw[Y0 _ B J B,Wn rfl];simp
end
def XrL{a b:Int}(e:4096<=a)(hb:4096<=b)(h:ix a=ix b):a=b:=by unfold ix at h;omega
def XbQ{ws:List Int}{x a v:Int}(f:inW ws x)(g:4096<=a):wd (ws.set (ix x) v) a=if a=x then v else wd ws a:=by
 unfold wd;have j:ix x<ws.length:=by unfold inW at f;unfold ix;omega
 rw[Wj,Wj,U1];by_cases h:a=x
 .simp_all
 rw[Wk h,Wk];intro e;exact h (XrL g f.1 e.symm)
def XpO{ws:List Int}{f a x:Int}{k:Nat}(g:YE ws a k)(j:YE ws f k)(p:4096<=x):wd (ovr ws ((ws.drop (ix a)).take k) (ix f)) x=if f<=x/\x<f+k then wd ws (a+(x-f))else wd ws x:=by
 have e:((ws.drop (ix a)).take k).length=k:=by unfold YE at g;simp[ix];omega
 unfold wd;rw[V0 (by rw[e];unfold YE at j;unfold ix;omega),e];unfold YE at g j;by_cases h:f<=x/\x<f+k
 .rw[Wn h,Wn (by unfold ix;omega),Wj,Ut,Wn (by unfold ix;omega),UM,←Wj];congr 1;unfold ix;omega
 rw[Wk h,Wk (by unfold ix;omega)]
def Xbj{ws:List Int}{f a:Int}{k:Nat}(g:YE ws a k)(h:YE ws f k):(ovr ws ((ws.drop (ix a)).take k) (ix f)).length=ws.length:=by
 have e:((ws.drop (ix a)).take k).length=k:=by unfold YE at g;simp[ix];omega
 exact ZC (by rw[e];unfold YE at h;unfold ix;omega)
def Vu{c:WR}(f:X8 c=true){i j o p:Int}(h:i<j)(g:o<=c.W)(k:0<=p):Xc c i o<=Xc c j p:=by
 have q:=Xh.1 f;have:(i+1)*c.W<=j*c.W:=WX ab ab;have e:(i+1)*c.W=i*c.W+c.W:=by rw[UX,Oe]
 unfold Xc;omega
section
variable {N:Nat}{h0:Wh}{l:List Int}
structure OQ(h0:Wh)(l:List Int)(w w':Wu)(O:Int->Prop)(s:Int->Int):Prop where
 ci:CI h0 l w'
 ob:∃O' s',Oz h0 l w' O' s'/\∀a,O a->O' a/\s' a=s a
 sc:w'.d=w.d
 ql:w.q.length<=w'.q.length
def SameK(ps e:List Wr):Prop:=e.length=ps.length/\∀i,0<=i->(pg e i).k=(pg ps i).k/\(pg e i).u=(pg ps i).u
def SameK.refl(ps:List Wr):SameK ps ps:=⟨rfl,λ_ _=>⟨rfl,rfl⟩⟩
def SameK.set{ps f:List Wr}(h:SameK ps f){i:Int}(h0:0<=i)(p:i<f.length)(sp pins:Int):SameK ps (f.set i.toNat ⟨(pg f i).k,sp,(pg f i).u,pins⟩):=by
 refine⟨by rw[WL];exact h.1,λj g=>?_⟩;rw[Y0 _ h0 p g];split
 .rename_i e;subst e;exact h.2 j g
 exact h.2 j g
def XfF(w:Wu)(a:Int){ps:List Wr}(h:ps.length<=100000):∀(n:Nat) (i:Int) (e:List Wr),0<=i->i<=ps.length->(ps.length-i).toNat<n->SameK ps e->Ok (QaH N w a n i e) λr=>SameK ps r
 |0,i,e,_,_,j,_=>by omega
 |n+1,i,e,h0,q,j,g=>by have s:=g.1;refine Ub ab (Wp (λf=>?_) λ_=>Wd g);have f:i<e.length:=Wv f;rw[Xe (n:=i+1) ab ab];refine Ok.get h0 f λp hp=>Wp (λ_=>Ok.get h0 f λp hp=>?_) λ_=>Wd g;have k:=YG hp;subst k;exact XfF w a h n (i+1) _ ab ab ab (g.set h0 f _ _)
def CI.pages{w:Wu}(e:CI h0 l w){r:List Wr}(h:SameK w.h.p r):CI h0 l {w with h:={w.h with p:=r}}:=by
 have⟨O,s,f⟩:=e.obj;refine⟨e.conf,e.wlen,h.1.trans e.plen,e.spc,e.old,λj k=>?_,e.tnd,λa g=>?_,e.qnd,?_⟩
 .have:=e.tk j k;have q:=h.2 j this.1;rw[q.1,q.2,h.1];omega
 .have y:=e.knd a g;by_cases hp:0<=pgi h0.c a
  .rw[(h.2 _ hp).1];omega
  have u:∀ps:List Wr,pg ps (pgi h0.c a)=pg ps 0:=λps=>by unfold pg;grind
  rw[u,(h.2 0 ab).1,←u,y]
 refine⟨O,s,f.old,f.queue,f.fit,f.apart,λa g j k=>?_,λa g j v q x=>?_⟩
 .rw[(h.2 j (e.tk j k).1).2];exact f.taken a g j k
 rw[(h.2 j v).1]at x;exact f.free a g j v (by rw[←h.1];omega) x
def Oz.pages{w:Wu}{O:Int->Prop}{s:Int->Int}(u:CI h0 l w)(e:Oz h0 l w O s){g:List Wr}(h:SameK w.h.p g):Oz h0 l {w with h:={w.h with p:=g}} O s:=by
 refine⟨e.old,e.queue,e.fit,e.apart,λa f j k=>?_,λa f j q v r=>?_⟩
 .rw[(h.2 j (u.tk j k).1).2];exact e.taken a f j k
 rw[(h.2 j q).1]at r;exact e.free a f j q (by rw[←h.1];omega) r
def CI.push{w:Wu}{O:Int->Prop}{s:Int->Int}(e:CI h0 l w)(g:Oz h0 l w O s){a:Int}(p:O a)(u:a∉w.q)(k:WV):OQ h0 l w {w with q:=w.q++[a],r:=k} O s:=by
 have j:Oz h0 l {w with q:=w.q++[a],r:=k} O s:=by
  refine⟨g.old,λx f=>?_,g.fit,g.apart,g.taken,g.free⟩;rcases Wt.1 f with f|f
  .exact g.queue x f
  rw[Ud.1 f];exact p
 refine⟨⟨e.conf,e.wlen,e.plen,e.spc,e.old,e.tk,e.tnd,e.knd,?_,⟨O,s,j⟩⟩,⟨O,s,j,λa h=>⟨h,rfl⟩⟩,rfl,?_⟩
 .rw[UR];refine⟨e.qnd,ac,λx f y v=>?_⟩;rw[Ud.1 v];rintro rfl;exact u f
 simp
end
section
variable {N:Nat}{h0:Wh}{l:List Int}
def XfG(hp:Uy h0){w w':Wu}{O:Int->Prop}{s:Int->Int}(z:CI h0 l w)(k:Oz h0 l w O s){a n at_ j u:Int}(q:a∈l)(hn:n=szA w.h.w a)(J:1<=n)(p:OF h0 w n w' at_ j u)(v:Int):
 YE w.h.w a n.toNat/\YE w.h.w at_ n.toNat/\(∀x,O x->x+s x<=at_\/Xc h0.c (j+1) 0<=x)/\¬O at_/\(∀x,O x->x+s x<=at_\/at_+n<=x)/\(∀x,4096<=x->wd ((ovr w.h.w ((w.h.w.drop (ix a)).take n.toNat) (ix at_)).set (ix a) v) x=if x=a then v else if at_<=x/\x<at_+n then wd w.h.w (a+(x-at_))else wd w.h.w x):=by
 have⟨r,K⟩:=k.old a q;have⟨L,M,R,S⟩:=k.fit a r;have U:=z.wlen;have V:=hp.words;have Y:=z.plen;have A:=hp.pages;have⟨B,Z⟩:=p.rng;have hm:=XO hp.conf (i:=j) B ab;have⟨u0,u1⟩:=p.fit;have g:at_=Xc h0.c j u:=p.addr;have D:at_=4096+j*h0.c.W+u:=g;have y:at_+n<=Xc h0.c (j+1) 0:=by
  have e:(j+1)*h0.c.W=j*h0.c.W+h0.c.W:=by rw[UX,Oe]
  unfold Xc;omega
 have E:YE w.h.w a n.toNat:=by unfold YE;omega
 have G:YE w.h.w at_ n.toNat:=by unfold YE;omega
 have away:∀x,O x->x+s x<=at_\/Xc h0.c (j+1) 0<=x:=by
  intro x f;rcases p.way with⟨g1,g2,g3⟩|⟨g1,g2,g3⟩
  .have:=k.taken x f j g1;rw[←g3,←g]at this;exact this
  have:=k.free x f j B Z g1;rw[g3]at g;rw[g];exact this
 have fresh:¬O at_:=by intro f;have:=away at_ f;have:=(k.fit at_ f).2.1;omega
 have aw2:∀x,O x->x+s x<=at_\/at_+n<=x:=λx f=>by have:=away x f;omega
 have I:(ovr w.h.w ((w.h.w.drop (ix a)).take n.toNat) (ix at_)).length=w.h.w.length:=Xbj E G;have hwd:∀x,4096<=x->wd ((ovr w.h.w ((w.h.w.drop (ix a)).take n.toNat) (ix at_)).set (ix a) v) x=if x=a then v else if at_<=x/\x<at_+n then wd w.h.w (a+(x-at_))else wd w.h.w x:=by intro x f;rw[XbQ (by unfold inW;omega) f,XpO E G f];have:(n.toNat:Int)=n:=ab;rw[this]
 simp_all
def XmW(hp:Uy h0)(Y:∀a∈l,(pg h0.p (pgi h0.c a)).k=1\/(pg h0.p (pgi h0.c a)).k=2)(hpr:∀a∈l,0<=pgi h0.c a){w w':Wu}{O:Int->Prop}{s:Int->Int}(A:CI h0 l w)(J:Oz h0 l w O s){a n at_ j u:Int}(Z:a∈l)(hn:n=szA w.h.w a)(hn1:1<=n)(g:OF h0 w n w' at_ j u)(v:Int)(hv:v % 4=2)(rp:WV):
 YE w.h.w a n.toNat/\YE w.h.w at_ n.toNat/\4096<=at_/\at_<=200000/\OQ h0 l w {w' with h:={w'.h with w:=(ovr w.h.w ((w.h.w.drop (ix a)).take n.toNat) (ix at_)).set (ix a) v},q:=w'.q++[at_],r:=rp} O s:=by
 have⟨hOa,hsa⟩:=J.old a Z;have hwl:=A.wlen;have hw0:=hp.words;have hpl:=A.plen;have hpl0:=hp.pages;have⟨r1,r2⟩:=g.rng;have hm:=XO hp.conf (i:=j) r1 ab;have⟨u0,u1⟩:=g.fit;have hat:at_=Xc h0.c j u:=g.addr;have hat1:at_=4096+j*h0.c.W+u:=hat;have hend:at_+n=Xc h0.c j (u+n):=by rw[hat];unfold Xc;omega
 have⟨i1,i2,away,fresh,L,M⟩:=XfG hp A J Z hn hn1 g v;have hne:a≠at_:=λe=>fresh (e▸hOa);have hlen:(ovr w.h.w ((w.h.w.drop (ix a)).take n.toNat) (ix at_)).length=w.h.w.length:=Xbj i1 i2;have E:((ovr w.h.w ((w.h.w.drop (ix a)).take n.toNat) (ix at_)).set (ix a) v).length=w.h.w.length:=by rw[WL,hlen]
 have hsz:∀x,O x->szA ((ovr w.h.w ((w.h.w.drop (ix a)).take n.toNat) (ix at_)).set (ix a) v) x<=s x:=by
  intro x f;have hf:=J.fit x f;by_cases hxa:x=a
  .have:szA ((ovr w.h.w ((w.h.w.drop (ix a)).take n.toNat) (ix at_)).set (ix a) v) x=1:=by apply XpN;rw[M x hf.1,Wn hxa];exact hv
   omega
  have:szA ((ovr w.h.w ((w.h.w.drop (ix a)).take n.toNat) (ix at_)).set (ix a) v) x=szA w.h.w x:=by unfold szA hdA;rw[M x hf.1,Wk hxa,Wk];have:=L x f;omega
  omega
 have R:szA ((ovr w.h.w ((w.h.w.drop (ix a)).take n.toNat) (ix at_)).set (ix a) v) at_=n:=by refine Eq.trans ?_ hn.symm;unfold szA hdA;rw[M at_ ab,Wk (λe=>hne e.symm),Wn ab];rw[show a+(at_-at_)=a by omega]
 have G:=g.this;have hk0:∀i,0<=i->(pg w'.h.p i).k=0->i≠j/\(pg w.h.p i).k=0:=by
  intro i B hk;have z:i≠j:=by rintro rfl;rw[G.1]at hk;cases hk
  rw[g.other i B z]at hk;exact⟨z,hk⟩
 have htk:∀i∈w'.t,i=j\/(i∈w.t/\i≠j):=by
  intro i B;by_cases z:i=j
  .exact .inl z
  right;refine⟨?_,z⟩;rcases g.way with⟨_,g2,_⟩|⟨_,g2,_⟩
  .rwa[g2]at B
  rw[g2]at B;rcases Wt.1 B with B|B
  .exact B
  exact absurd (Ud.1 B) z
 have hqe:w'.q=w.q:=g.queue;refine⟨i1,i2,ab,ab,?_⟩;have hO:Oz h0 l {w' with h:={w'.h with w:=(ovr w.h.w ((w.h.w.drop (ix a)).take n.toNat) (ix at_)).set (ix a) v},q:=w'.q++[at_],r:=rp} (λx=>O x\/x=at_) (λx=>if x=at_ then n else s x):=by
  have ne:∀x,O x->x≠at_:=λx f e=>fresh (e▸f);refine⟨λx f=>?_,λx f=>?_,λx f=>?_,λx y f I hxy=>?_,λx f i B=>?_,λx f i g1 g2 g3=>?_⟩
  .have⟨q1,q2⟩:=J.old x f;exact⟨.inl q1,by rw[Wk (ne x q1)];exact q2⟩
  .rcases Wt.1 f with f|f
   .rw[hqe]at f;exact .inl (J.queue x f)
   exact .inr (Ud.1 f)
  .rw[E];rcases f with f|rfl
   .rw[Wk (ne x f)];have⟨f1,f2,f3,f4⟩:=J.fit x f;exact⟨f1,f2,f3,hsz x f⟩
   rw[Wn rfl,R];omega
  .rcases f with f|rfl
   .rcases I with I|rfl
    .rw[Wk (ne x f),Wk (ne y I)];exact J.apart x y f I hxy
    have:=L x f;omega
   rcases I with I|rfl
   .have:=L y I;omega
   exact absurd rfl hxy
  .rcases htk i B with rfl|⟨K,S⟩
   .rw[G.2];rcases f with f|rfl
    .have:=away x f;omega
    omega
   have⟨t1,t2,t3,t4,t5⟩:=A.tk i K;rw[g.other i t1 S];rcases f with f|rfl
   .rw[Wk (ne x f)];exact J.taken x f i K
   by_cases U:i<j
   .have:=Vu hp.conf (o:=h0.c.W) (p:=u) U ab u0;have e:Xc h0.c (i+1) 0=Xc h0.c i h0.c.W:=by unfold Xc;rw[UX,Oe];omega
    omega
   have:=Vu hp.conf (i:=j) (j:=i) (o:=u+n) (p:=(pg w.h.p i).u) ab ab t4;omega
  have⟨k1,k2⟩:=hk0 i g1 g3;rcases f with f|rfl
  .rw[Wk (ne x f)];exact J.free x f i g1 (by rw[←g.plen];exact g2) k2
  by_cases U:i<j
  .have:=Vu hp.conf (o:=h0.c.W) (p:=u) U ab u0;have e:Xc h0.c (i+1) 0=Xc h0.c i h0.c.W:=by unfold Xc;rw[UX,Oe];omega
   omega
  have:=Vu hp.conf (i:=j) (j:=i) (o:=u+n) (p:=0) ab ab ab;omega
 refine⟨⟨?_,?_,?_,?_,?_,λi B=>?_,?_,λx f=>?_,?_,⟨_,_,hO⟩⟩,⟨_,_,hO,λx f=>⟨.inl f,?_⟩⟩,g.scanned,?_⟩
 .exact g.conf.trans A.conf
 .exact E.trans A.wlen
 .exact g.plen.trans A.plen
 .exact g.space.trans A.spc
 .exact(by rw[g.old];exact A.old)
 .rw[g.plen];rcases htk i B with rfl|⟨K,S⟩
  .rw[G.1,G.2];omega
  have:=A.tk i K;rw[g.other i this.1 S];exact this
 .rcases g.way with⟨_,g2,_⟩|⟨g1,g2,_⟩
  .rw[g2];exact A.tnd
  rw[g2,UR];refine⟨A.tnd,ac,λx f y I=>?_⟩;rw[Ud.1 I];rintro rfl;rw[(A.tk x f).2.2.1]at g1;cases g1
 .have D:=A.knd x f;have V:=Y x f;by_cases z:pgi h0.c x=j
  .rw[z]at D V⊢;rw[G.1];rcases g.way with⟨g1,_,_⟩|⟨g1,_,_⟩
   .rw[(A.tk j g1).2.2.1]at D;exact D
   rw[g1]at D;rw[←D]at V;rcases V with h|h<;>cases h
  rw[g.other _ (hpr x f) z];exact D
 .rw[hqe,UR];refine⟨A.qnd,ac,λx f y I=>?_⟩;rw[Ud.1 I];rintro rfl;exact fresh (J.queue x f)
 .exact Wk (λe=>fresh (by rw[←e];exact f))
 simp_all
structure Start(N:Nat)(h0:Wh)(l:List Int):Prop where
 hb:HB h0
 good:l≠[]->OG N h0
 prop:l≠[]->Uy h0
 st:IC N h0 l
def Xg4(a:Int)(h0:0<=a)(e:a<4294967296):wU (wU (4*a)+2) % 4=2:=by rw[XE (n:=4*a) ab ab,XE ab ab];omega
def YO{l:List Int}{a:Int}(h:l.contains a=false):a∉l:=by simp_all
def Yf{l:List Int}{a:Int}(h:l.contains a=true):a∈l:=by simp_all
def CI.wl{w:Wu}(hb:HB h0)(e:CI h0 l w):w.h.w.length<=BIG:=by have:=hb.1;have:=e.wlen;unfold BIG;omega
def XaS(hN:NB N)(A:Start N h0 l){w:Wu}{O:Int->Prop}{s:Int->Int}(g:CI h0 l w)(z:Oz h0 l w O s)(a:Int):Ok (QaD N w a) λr=>r.2.2=0->OQ h0 l w r.1 O s:=by
 have V:=hN;unfold NB at V;have hb:=A.hb;have hql:=g.ql hb;have J:=g.wl hb;have hww:=g.wlen;have hpl:=g.plen;have same:OQ h0 l w w O s:=⟨g,⟨O,s,z,λ_ h=>⟨h,rfl⟩⟩,rfl,Un _⟩
 refine Wp (λ_=>Wd λ_=>same) λ_=>?_;rw[Yb a ab ab,Xa];refine Wp (λ_=>Wd λ_=>same) λU=>?_;have U:=YO U;have hol:=g.old.length_le;have hsl:=A.st.len;rw[Yb a ab ab,Xa];refine Wp (λ_=>Wd λe=>by grind) λf=>?_;have f:a∈l:=g.old.subset (Yf (by simp_all));have K:l≠[]:=IY f;have hp:=A.prop K;have hg:=A.good K;have W:=A.st.obj.at_ a f;have hwd0:=hp.words;have hpg0:=hp.pages;have hvc:=Xh.1 hp.conf;have B:=W.rng;have⟨_,Y,q1,_⟩:=XZ hp.conf B;have L:inW w.h.w a:=by unfold inW;omega
 rw[Yp J,Xa,Wn L,Kw,Xa];have Z:Qb6 N w.h.c a=some (pgi h0.c a,pgo h0.c a,0):=by rw[KX,g.conf,hp.conf,Wk ac,Wn B];rfl
 rw[Z,Xa];refine Wp (λ_=>Wd λ_=>same) λ_=>?_;refine Wp (λ_=>Wd λe=>by grind) λ_=>?_;refine Wp (λ_=>Wd λe=>by grind) λ_=>?_;refine WJ (Xcl hN (g.tl hb) _) λb _ _=>Wp (λ_=>?_) λ_=>?_
 .rw[QcL,Xb ab,Xb ab,Xa];exact Wd λ_=>g.push z (z.old a f).1 U _
 refine Ok.get Y ab λp E=>Wp (λ_=>?_) λhk2=>?_
 .refine Ub ab (Ok.get Y ab λp E=>?_);have G:=YG E;subst G;rw[Xe (n:=pgi h0.c a+1) ab ab];refine WJ (XfF w a (ps:=w.h.p) ab N (pgi h0.c a+1) _ ab ab ab ((SameK.refl _).set Y ab _ _)) λqs _ M=>?_;rw[QcL,Xb (by grind),Xb (by grind),Xa];refine Wd λ_=>?_;have q:=λrp=>(g.pages M).push (z.pages g M) (z.old a f).1 U rp;exact⟨(q _).ci,(q _).ob,(q w.r).sc,(q w.r).ql⟩
 have G:=YG E;have D:∀x∈l,(pg h0.p (pgi h0.c x)).k=1\/(pg h0.p (pgi h0.c x)).k=2:=λx hx=>(A.st.obj.at_ x hx).kind;have hpr:∀x∈l,0<=pgi h0.c x:=λx hx=>(XZ hp.conf (A.st.obj.at_ x hx).rng).2.1;have hk1:(pg h0.p (pgi h0.c a)).k=1:=by
  rcases D a f with h|h
  .omega
  rw[←g.knd a f,G]at h;grind
 have hsz:=hg.sz A.st f hk1;have hso:=(z.old a f).2;have hfit:=z.fit a (z.old a f).1;have I:=XI w.h.w a;rw[ZN,Xa,X4,Xa];have e1:XM (Zj (w.h.w.getD (ix a) 0))=szA w.h.w a:=I.1;rw[e1];refine WJ (Xdn hN hb hp g (n:=szA w.h.w a) I.2.1 ab) λy _ ⟨hy,_⟩=>Wp (λ_=>Wd λe=>by grind) λhy2=>?_;have⟨j,u,pq⟩:=hy (by grind);have q:=λv hv rp=>XmW (n:=szA w.h.w a) hp D hpr g z f rfl I.2.1 pq v hv rp;have⟨i1,i2,a1,a2,_⟩:=q 2 rfl y.1.r;rw[pq.words];have en:szA w.h.w a=(((szA w.h.w a).toNat:Nat):Int):=ab;have R:=Xfz (N:=N) J y.2.1 a (szA w.h.w a).toNat ab ab;rw[←en,Wn ⟨i1,i2⟩]at R;rw[R,Xa,Vt,Xa,Wk ab];have ol:=Xbj i1 i2;rw[KK (by grind) ab,Xa];have S:inW (ovr w.h.w ((w.h.w.drop (ix a)).take (szA w.h.w a).toNat) (ix y.2.1)) a:=by unfold inW;rw[ol];exact L
 rw[Wn S];have hqe:=pq.queue;refine Ub (by grind) (Ub (by grind) (Wd λ_=>?_));exact(q _ (Xg4 y.2.1 ab ab) _).2.2.2.2
end
section
variable {N:Nat}{h0:Wh}{l:List Int}
def Xdo(h:Wh)(y:List Int×Int)(j:h.p.length<=100000):∀(n:Nat) (i:Int) (e:List Wr),0<=i->i<=h.p.length->(h.p.length-i).toNat<n->SameK h.p e->Ok (QbB N h y n i e) λr=>SameK h.p r
 |0,i,e,_,_,k,_=>by omega
 |n+1,i,e,h0,s,k,g=>by
  have u:=g.1;refine Ub ab (Wp (λf=>?_) λ_=>Wd g);have f:i<e.length:=Wv f;rw[Xe (n:=i+1) ab ab];have next:=Xdo h y j n (i+1) e ab ab ab g
  refine Ok.get h0 f λp hp=>Wp (λ_=>Wp (λ_=>Ok.get h0 f λp hp=>?_) λ_=>next) λ_=>next
  have q:=YG hp;subst q;exact Xdo h y j n (i+1) _ ab ab ab (g.set h0 f _ _)
def Xiu{h:Wh}(hp:Uy h){a:Int}(f:IE h a){j:Int}(v:0<=j)(x:(pg h.p j).k=0):a+szA h.w a<=Xc h.c j 0\/Xc h.c (j+1) 0<=a:=by
 have⟨k,k1,k2,y,r⟩:=XcF hp f;have⟨z,A,B,s,D⟩:=XZ hp.conf f.rng;have u:=f.kind;by_cases g:j<pgi h.c a
 .have:=Vu hp.conf (o:=h.c.W) (p:=pgo h.c a) g ab s;have e:Xc h.c (j+1) 0=Xc h.c j h.c.W:=by unfold Xc;rw[UX,Oe];omega
  omega
 by_cases E:j=pgi h.c a
 .grind
 by_cases q:j<pgi h.c a+k
 .have:=r (j-pgi h.c a) ab ab;grind
 have:(pgi h.c a+k)*h.c.W<=j*h.c.W:=WX ab ab;have G:Xc h.c (pgi h.c a+k) 0=4096+(pgi h.c a+k)*h.c.W+0:=rfl;have I:Xc h.c j 0=4096+j*h.c.W+0:=rfl;omega
def Xdp{h:Wh}(hb:HB h)(hp:Uy h){l:List Int}(g:IC N h l){w:Wu}(y:w.h.c=h.c)(z:w.h.w=h.w)(e3:w.h.s=h.s)(k:SameK h.p w.h.p)(e4:w.o.Sublist l)(D:w.t=[])(E:w.q=[]):CI h l w:=by
 have A:Oz h l w (λa=>a∈l) (szA h.w):=by
  refine⟨λa e=>⟨e,rfl⟩,λa e=>(by simp_all),λa e=>?_,λa b e r B=>?_,λa e j v=>(by simp_all),λa e j f G x=>?_⟩
  .rw[z];have f:=g.obj.at_ a e;exact⟨f.rng.1,(XI h.w a).2.1,KE hp f,Ux _⟩
  .have u:=g.obj.pw;rw[Ul]at u;have⟨i,I,J⟩:=WA e;have⟨j,v,K⟩:=WA r;grind
  rw[(k.2 j f).1]at x;exact Xiu hp (g.obj.at_ a e) f x
 refine⟨y,by grind,k.1,e3,e4,λj v=>(by simp_all),by simp_all,λa e=>?_,by simp_all,⟨_,_,A⟩⟩;exact(k.2 _ (XZ hp.conf (g.obj.at_ a e).rng).2.1).1
def zW:Wu:=⟨zH,[],[],[],0,⟨0,0,0,0,0,0⟩⟩
def XmX(N:Nat):Start N zH []:=⟨Ko,λh=>absurd rfl h,λh=>absurd rfl h,IC.nil N zH⟩
def XsT:CI zH [] zW:=by refine⟨rfl,rfl,rfl,rfl,.refl _,λj f=>(by cases f),List.nodup_nil,λa e=>(by rfl),List.nodup_nil,⟨λ_=>False,λ_=>0,?_⟩⟩;exact⟨λa e=>(by grind),λa e=>(by cases e),λa e=>e.elim,λa b e=>e.elim,λa e=>e.elim,λa e=>e.elim⟩
structure Sc(N:Nat)(h:Wh)(l:List Int)(w:Wu):Prop where
 st:Start N h l
 ci:CI h l w
 sc:w.d=0
 pr:Uy h\/h.p=[]
def XmY(hN:NB N){h:Wh}(hb:HB h):Ok (QcX N h) λr=>∃e l,Sc N e l r.1:=by
 have f:=hN;unfold NB at f;have g:=hb.2;have zero:∃e l,Sc N e l zW:=⟨zH,[],XmX N,XsT,rfl,.inr rfl⟩
 refine WJ (YS (N:=N) ab hb.1 hb.2) λb eb hp=>Wp (λ_=>Wd zero) λs=>?_;have hp:=hp (by simp_all);refine WJ (KF hN hb) λb _ j=>Wp (λ_=>Wd zero) λg=>?_;have j:=j (by simp_all);refine WJ (Kx hN hb) λy _ q=>Ub ab ?_;refine WJ (Xdo h y ab N 0 h.p ab ab ab (SameK.refl _)) λu _ k=>Wd ?_;exact⟨h,y.1,⟨hb,λ_=>j,λ_=>hp,q.1⟩,Xdp hb hp q.1 rfl rfl rfl k (.refl _) rfl rfl,rfl,.inl hp⟩
def Xg5(hN:NB N)(z:Start N h0 l)(rs:List Int)(A:rs.length<=1000000):∀(n:Nat) (i:Int) (w:Wu) (out:List Int),0<=i->i<=rs.length->(rs.length-i).toNat<n->CI h0 l w->(out.length:Int)=i ->
 Ok (Qa3 N rs n i w.h.c.W w.h.c.p w.h.w w.h.p w.h.s w.h.b w.o w.t w.q w.d w.r.j w.r.K w.r.F w.r.E w.r.f w.r.y out) λe=>match e with
  |.ret r=>r.2.2≠0
  |.nxt t=>∃(w':Wu) (g:List Int),CI h0 l w'/\w'.d=w.d/\g.length=rs.length/\t=(w'.h.c.W,w'.h.c.p,w'.h.w,w'.h.p,w'.h.s,w'.h.b,w'.o,w'.t,w'.q,w'.d,w'.r.j,w'.r.K,w'.r.F,w'.r.E,w'.r.f,w'.r.y,g)
 |0,i,w,out,_,_,B,_,_=>by omega
 |n+1,i,w,out,D,M,B,u,R=>by
  refine Wp (λk=>?_) λk=>Wd ⟨w,out,u,rfl,by grind,rfl⟩;have k:i<rs.length:=Wv k;rw[Xe (n:=i+1) ab ab];have⟨O,s,v⟩:=u.obj;refine Ok.get D k λp hp=>WJ (XaS hN z u v p) λy _ G=>Wp (λx=>Wd (by simp_all)) λx=>?_;have q:=G (by simp_all);refine Ub ab ((Xg5 hN z rs A n (i+1) y.1 (out++[y.2.1]) ab ab ab q.ci (by simp_all)).mono λe x=>?_);cases e with
  |ret r=>omega
  |nxt t=>have⟨w',o',c1,I,J,L⟩:=x;exact⟨w',o',c1,I.trans q.sc,J,L⟩
def XmZ(hN:NB N)(g:Start N h0 l){rs:List Int}(h:rs.length<=1000000){w:Wu}(j:CI h0 l w):Ok (QcY N w rs) λr=>r.2.2=0->CI h0 l r.1/\r.1.d=w.d/\r.2.1.length=rs.length:=by have f:=hN;unfold NB at f;refine IT (Xg5 hN g rs h N 0 w [] ab ab ab j rfl) (λa q=>Wd λe=>absurd e q) λb q=>Wd λ_=>?_;obtain⟨w',o',c1,k,p,rfl⟩:=q;exact⟨c1,k,p⟩
end
def Zt{d:Wx}{x:Int}(h:x∈XW d):0<=x/\x<d.n:=by
 unfold XW at h;by_cases e:XN d=true
 .rw[Wn e]at h;have:=K1 h;omega
 simp_all
def J9(d:Wx):(XW d).length<=255:=by
 unfold XW;by_cases e:XN d=true
 .rw[Wn e];have:=Vs (d:=d) (k:=d.n.toNat) (i:=0);have:=XQ e;omega
 simp_all
section
variable {N:Nat}{h0:Wh}{l:List Int}
def XfH{w:Wu}{O:Int->Prop}{s:Int->Int}(e:CI h0 l w)(f:Oz h0 l w O s){p x:Int}(hp:O p)(y:p<x)(z:x<p+s p)(v:Int):
 inW w.h.w x/\CI h0 l {w with h:={w.h with w:=w.h.w.set (ix x) v}}/\Oz h0 l {w with h:={w.h with w:=w.h.w.set (ix x) v}} O s:=by
 have A:=f.fit p hp;have g:inW w.h.w x:=by unfold inW;omega
 have j:Oz h0 l {w with h:={w.h with w:=w.h.w.set (ix x) v}} O s:=by
  refine⟨f.old,f.queue,λa k=>?_,f.apart,f.taken,f.free⟩;show 4096<=a/\1<=s a/\a+s a<=4096+(w.h.w.set (ix x) v).length/\szA (w.h.w.set (ix x) v) a<=s a;obtain⟨f1,f2,q,r⟩:=f.fit a k;rw[WL];refine⟨f1,f2,q,?_⟩;have:a≠x:=by
   rintro rfl;by_cases u:a=p
   .omega
   have:=f.apart a p k hp u;omega
  unfold szA hdA at *;rw[XbQ g f1,Wk this];exact r
 refine⟨g,⟨e.conf,?_,e.plen,e.spc,e.old,e.tk,e.tnd,e.knd,e.qnd,⟨O,s,j⟩⟩,j⟩;rw[WL];exact e.wlen
def Xjw(hN:NB N)(g:Start N h0 l){p:Int}{ks:List Int}(A:ks.length<=255):∀(n:Nat) (i:Int) (w:Wu) (O:Int->Prop) (s:Int->Int),0<=i->i<=ks.length->(ks.length-i).toNat<n->CI h0 l w->Oz h0 l w O s->O p->(∀k∈ks,0<=k/\k<255/\k+1<s p) ->
 Ok (Qbd N p ks n i w.h.c.W w.h.c.p w.h.w w.h.p w.h.s w.h.b w.o w.t w.q w.d w.r.j w.r.K w.r.F w.r.E w.r.f w.r.y) λe=>match e with
  |.ret r=>r.2.2≠0
  |.nxt t=>∃(w':Wu),CI h0 l w'/\w'.d=w.d/\w.q.length<=w'.q.length/\t=(w'.h.c.W,w'.h.c.p,w'.h.w,w'.h.p,w'.h.s,w'.h.b,w'.o,w'.t,w'.q,w'.d,w'.r.j,w'.r.K,w'.r.F,w'.r.E,w'.r.f,w'.r.y)
 |0,i,w,O,s,_,_,M,_,_,_,_=>by omega
 |n+1,i,w,O,s,R,hi,M,v,L,hp,S=>by
  have B:=hN;unfold NB at B;have U:=g.hb.1;refine Wp (λz=>?_) λz=>Wd ⟨w,v,rfl,Un _,rfl⟩;have z:i<ks.length:=Wv z;rw[Xe (n:=i+1) ab ab];refine Ok.get R z λk D=>?_;have G:=YC D;have⟨k0,k1,k2⟩:=S k G;have hf:=L.fit p hp;have V:=v.wlen;rw[XE (n:=p+1) ab ab,XE (n:=k) ab ab,XE (n:=p+1+k) ab ab];rw[Yp (v.wl g.hb),Xa];refine WJ (XaS hN g v L _) λy _ Y=>Wp (λI=>Wd (by simp_all)) λI=>?_;have q:=Y (by simp_all);have⟨O',Z,J,hx⟩:=q.ob;have⟨u,hs'⟩:=hx p hp;have st:=XfH q.ci J u (x:=p+1+k) ab ab y.2.1;rw[KK (q.ci.wl g.hb) ab,Xa,Wn st.1];refine(Xjw hN g A n (i+1) _ O' Z ab ab ab st.2.1 st.2.2 u (λk' hk'=>by simp_all)).mono λe I=>?_;cases e with
  |ret r=>omega
  |nxt t=>have⟨w',c1,c2,c3,c4⟩:=I;exact⟨w',c1,c2.trans q.sc,UK q.ql c3,c4⟩
def XpP(hN:NB N)(E:Start N h0 l){w:Wu}(g:CI h0 l w)(j:0<=w.d)(v:w.d<=w.q.length):Ok (Qea N w) λr=>r.2.2=0->CI h0 l r.1/\0<=r.1.d/\r.1.d<=r.1.q.length/\(r.2.1=true->r.1.d=w.d+1):=by
 have x:=hN;unfold NB at x;have hb:=E.hb;have G:=g.ql hb;refine Wp (λ_=>Wd λ_=>⟨g,j,v,λe=>by grind⟩) λf=>?_;have f:w.d<w.q.length:=by have:=WN f;omega
 refine Ok.get j f λp hp=>?_;have y:=YC hp;have⟨O,s,z⟩:=g.obj;have u:=z.queue p y;have K:=z.fit p u;have A:inW w.h.w p:=by unfold inW;omega
 rw[Qdi,Yp (g.wl hb),Xa,Wn A,ZN,Xa,Xa,Xdh ab,Xa];have B:=J9 (hdA w.h.w p);have D:=XQ (Z1 (wd w.h.w p));refine IT (Xjw hN E (p:=p) (ks:=XW (hdA w.h.w p)) B N 0 w O s ab ab ab g z u λk I=>?_) (λa q=>Wd λe=>absurd e q) λt q=>Wd λ_=>?_
 .have L:=Zt I;have M:szA w.h.w p=(hdA w.h.w p).n+1:=rfl;have R:(hdA w.h.w p).n<=255:=D.2.2.2;omega
 obtain⟨w',c1,J,S,rfl⟩:=q;have e:wI (w'.d+1)=w.d+1:=by rw[J,Xe ab ab]
 refine⟨⟨c1.conf,c1.wlen,c1.plen,c1.spc,c1.old,c1.tk,c1.tnd,c1.knd,c1.qnd,?_⟩,?_,?_,λ_=>e⟩
 .have⟨O,s,h⟩:=c1.obj;exact⟨O,s,⟨h.old,h.queue,h.fit,h.apart,h.taken,h.free⟩⟩
 .show 0<=wI (w'.d+1);omega
 grind
def Xm0(hN:NB N)(g:Start N h0 l):∀(n:Nat) (w:Wu),CI h0 l w->0<=w.d->w.d<=w.q.length->(100001-w.d).toNat<n ->
 Ok (QbP N n w.h.c.W w.h.c.p w.h.w w.h.p w.h.s w.h.b w.o w.t w.q w.d w.r.j w.r.K w.r.F w.r.E w.r.f w.r.y) λr=>r.2=0->CI h0 l r.1
 |0,w,_,_,_,v=>by omega
 |n+1,w,x,z,g1,v=>by refine WJ (XpP hN g x z g1) λy _ A=>Wp (λB=>Wd λe=>absurd e (by simp_all)) λB=>?_;have⟨k,D,G,u⟩:=A (by simp_all);refine Wp (λ_=>Wd λ_=>k) λhb=>?_;have u:y.1.d=w.d+1:=u (by simp_all);have:=k.ql g.hb;exact Xm0 hN g n y.1 k D G ab
def XrM(hN:NB N)(f:Start N h0 l){w:Wu}(g:CI h0 l w)(h:0<=w.d)(g1:w.d<=w.q.length):Ok (Qeh N w) λr=>r.2=0->CI h0 l r.1:=by have e:=hN;unfold NB at e;exact WJ (Xm0 hN f N w g h g1 ab) λy _ j=>Wd j
def Xm1(hN:NB N)(f:Start N h0 l){w:Wu}(g:w.q.length<=100000)(hw:w.h.w.length<=BIG)(a:Int):Ok (Qcz N w a) λ_=>True:=by have e:=hN;unfold NB at e;rw[Qcz,Yb a ab ab,Xa];refine Wp (λ_=>Wd trivial) λ_=>?_;rw[Yp hw,Xa,Kw,Xa];exact Wd trivial
def XfI(hN:NB N){w:Wu}(hb:HB h0)(A:CI h0 l w){s:Int->Int}(u:w.o.length<=4096)(q:w.o.Pairwise λa b=>a+s a<=b)(f:∀a∈w.o,4096<=a/\1<=s a/\a+s a<=4096+h0.w.length):∀(n k:Nat) (v:List Int) (c:Int),k<=w.o.length->w.o.length-k<n->v.length=h0.w.length->(∀a∈w.o.drop k,szA v a<=s a) ->
 Ok (QaB N w n (k:Int) v c) λr=>r.1.length=h0.w.length
 |0,k,v,c,_,S,_,_=>by omega
 |n+1,k,v,c,hk,S,B,O=>by
  have D:=hN;unfold NB at D;have U:=hb.1;have V:=A.ql hb;have E:=A.tl hb;refine Wp (λy=>?_) λ_=>Wd B;have y:k<w.o.length:=by have:=Wv y;omega
  have g:(k:Int)<w.o.length:=ab;have hdr:=Wm y;rw[Xe (n:=(k:Int)+1) ab ab,show((k:Int)+1)=((k+1:Nat):Int) by omega];have R:∀p,Xd w.o (k:Int)=some p->p=w.o[k]:=by intro p hp;rw[Xf,Wb y]at hp;exact(WE hp).symm
  have next:Ok (QaB N w n ((k+1:Nat):Int) v c) λr=>r.1.length=h0.w.length:=
   XfI hN hb A u q f n (k+1) v c ab ab B λa G=>O a (by rw[hdr];exact WU _ G)
  refine Ok.get ab g λp hp=>?_;rw[KX,Xa];refine WJ (Xcl hN (w:={w with h:={w.h with w:=v},r:=⟨_,_,_,_,_,_⟩}) E _) λb _ _=>Wp (λ_=>next) λ_=>?_;refine Ok.get ab g λp hp=>?_;rw[Yb p ab ab,Xa];refine Wp (λ_=>next) λ_=>Ok.get ab g λp hp=>?_;have j:=R p hp;have I:p∈w.o:=by rw[j];exact Wy y
  have⟨f1,f2,f3⟩:=f p I;have W:=O p (by rw[hdr,←j];exact List.mem_cons_self);have J:inW v p:=by unfold inW;omega
  have Y:=XI v p;rw[Qdi,Yp (by show v.length<=BIG;unfold BIG;omega),Xa,Wn J,ZN,Xa,Xa,K0,Xa];refine Ok.get ab g λp' K=>?_;obtain rfl:p=p':=j.trans (R p' K).symm;have e1:szA v p=(hdA v p).n+1:=rfl;have L:(Zj (v.getD (ix p) 0)).n=(hdA v p).n:=rfl;refine Ub (by rw[L];omega) (Ub (by rw[L];omega) ?_);have e:∀x:Int,([x]++List.replicate (Zj (v.getD (ix p) 0)).n.toNat (0:Int)).length=(szA v p).toNat:=by intro x;rw[WM,W6,L];simp only[Uu,IL];omega
  rw[ZU (by unfold BIG;omega) (by rw[e];unfold BIG;omega) (by rw[e];omega),Xa,e,Wn (by unfold YE;omega)];have M:∀x:Int,(ovr v ([x]++List.replicate (Zj (v.getD (ix p) 0)).n.toNat (0:Int)) (ix p)).length=v.length:=by intro x;apply ZC;rw[e];unfold ix;omega
  refine XfI hN hb A u q f n (k+1) _ _ ab ab ((M _).trans B) λa G=>?_;have Z:p+s p<=a:=by have z:=q.drop (i:=k);rw[hdr,U3]at z;rw[j];exact z.1 a G
  have:∀x:Int,szA (ovr v ([x]++List.replicate (Zj (v.getD (ix p) 0)).n.toNat (0:Int)) (ix p)) a=szA v a:=by intro x;unfold szA hdA wd;rw[V0 (by rw[e];unfold ix;omega),e,Wk];unfold ix;have:p+szA v p<=a:=ab;omega
  grind
def XpQ(hN:NB N)(j:Start N h0 l){w:Wu}(e:CI h0 l w):Ok (Qec N w) λr=>r.h.c=h0.c/\r.h.w.length=h0.w.length/\r.h.p=w.h.p/\r.h.p.length=h0.p.length/\r.t.length<=100000:=by
 have k:=hN;unfold NB at k;have hb:=j.hb;have⟨O,s,f⟩:=e.obj;have q:w.o.Pairwise λa b=>a+s a<=b:=by refine List.Pairwise.imp_of_mem ?_ (j.st.obj.pw.sublist e.old);intro a b g _ h;rw[(f.old a (e.old.subset g)).2];exact h
 have u:=UK e.old.length_le j.st.len;have v:=e.wlen;have:=XfI hN (w:=w) hb e (s:=s) u q (λa g=>by have:=f.fit a (f.old a (e.old.subset g)).1;omega) N 0 w.h.w w.r.F ab ab v λa g=>(f.fit a (f.old a (e.old.subset (WT g))).1).2.2.2;have x:w.t.length<=100000:=e.tl hb;refine WJ this λr _ y=>Wd ⟨e.conf,y,rfl,e.plen,x⟩
def Xjx{w:Wu}(e:List Wr)(f:Wr)(i c:Int)(hp:Uy h0)(g:w.h.c=h0.c)(j:0<=i)(g1:i<h0.c.p):∀(n:Nat) (k:Int) (v:List Int),0<=k->(65-k).toNat<n->v.length=h0.w.length->Ok (Qbe N w e f i c n k v) λr=>r.length=h0.w.length
 |0,k,v,_,s,_=>by omega
 |n+1,k,v,k0,s,u=>by have x:=Xh.1 hp.conf;have y:=XO hp.conf j g1;have hw:=hp.words;rw[Qbe,g];refine Wp (λq=>?_) λ_=>Wd u;have q:k<h0.c.W:=Wv q;rw[Xe (n:=k+1) ab ab,Xe (n:=i*h0.c.W) ab ab,Xe (n:=i*h0.c.W+k) ab ab];refine Ok.get ab ab λp _=>Xjx e f i c hp g j g1 n (k+1) _ ab ab (by simp_all)
def XfJ(hN:NB N){w:Wu}(hb:HB h0)(hp:Uy h0\/h0.p=[])(g:w.h.c=h0.c):∀(n:Nat) (i c:Int) (v:List Int) (ps:List Wr),0<=i->i<=h0.p.length->(h0.p.length-i).toNat<n->v.length=h0.w.length->ps.length=h0.p.length->Ok (QaL N w n i c v ps) λr=>r.2.1.length=h0.w.length/\r.2.2.length=h0.p.length
 |0,i,c,v,ps,_,_,s,_,_=>by omega
 |n+1,i,c,v,ps,j,z,s,k,e=>by
  have q:=hN;unfold NB at q;have u:=hb.2;refine Ub ab (Wp (λf=>?_) λ_=>Wd ⟨k,e⟩);have f:i<ps.length:=Wv f;rw[Xe (n:=i+1) ab ab];have next:=XfJ hN (w:=w) hb hp g n (i+1) c v ps ab ab ab k e
  refine Ok.get j f λp _=>Wp (λ_=>next) λ_=>Wp (λ_=>next) λ_=>Ok.get j f λA _=>?_;rcases hp with hp|hp
  .have x:=hp.pages;refine WJ (Xjx ps p i c hp g j ab N 0 v ab ab k) λr _ y=>?_;exact XfJ hN hb (.inl hp) g n (i+1) _ r _ ab ab ab y (by rw[WL];exact e)
  grind
def XpR(hN:NB N){w:Wu}(hb:HB h0)(hp:Uy h0\/h0.p=[])(g:w.h.c=h0.c)(hw:w.h.w.length=h0.w.length)(e:w.h.p.length=h0.p.length):Ok (Qeb N w) λr=>HB r.h/\r.t=w.t:=by
 have f:=hN;unfold NB at f;have j:=hb.1;have k:=hb.2;refine Ub ab (Ub ab (WJ (XfJ hN hb hp g N 0 _ _ _ ab ab ab hw e) λr _ q=>Wd ⟨⟨?_,?_⟩,rfl⟩))
 .show r.2.1.length<=_;omega
 simp_all
def Xjy(hN:NB N)(f:Start N h0 l)(ws:List Int)(q:ws.length<=1000000)(j:Wu×List Int×Int)(g:Wu×Int)(h:CI h0 l g.1):∀(n:Nat) (i c:Int) (out:List Int),0<=i->i<=ws.length->(ws.length-i).toNat<n->(out.length:Int)=i->Ok (QaI N ws j g n i c out) λr=>r.2.length=ws.length
 |0,i,c,out,_,_,s,_=>by omega
 |n+1,i,c,out,k,v,s,z=>by
  refine Wp (λe=>?_) λe=>Wd (by grind);have e:i<ws.length:=Wv e;rw[Xe (n:=i+1) ab ab];have next:=λu x=>Xjy hN f ws q j g h n (i+1) u (out++[x]) ab ab ab (by simp_all)
  refine Ok.get k e λp _=>Ir (Wp (λ_=>Ok.get k e λp _=>?_) λ_=>Ub ab (next _ _));refine WJ (Xm1 hN f (w:=⟨_,_,_,_,_,_⟩) (h.ql f.hb) (h.wl f.hb) p) λy _ _=>Ir (Wp (λ_=>Ub ab (next _ _)) λ_=>Ub ab (next _ _))
structure O5(rs ws:List Int)(r:Wh×List Int×List Int×WV×Int):Prop where
 hb:HB r.1
 len:r.2.2.2.2=0->r.2.1.length=rs.length/\r.2.2.1.length=ws.length
 no:r.2.2.2.2≠0->r.2.1=[]/\r.2.2.1=[]
def Qjv(hN:NB N){h:Wh}(hb:HB h){rs ws:List Int}(M:rs.length<=1000000)(hw:ws.length<=1000000):Ok (Qcg N h rs ws) (O5 rs ws):=by
 have G:=hN;unfold NB at G;have bad:∀e:Int,e≠0->O5 rs ws (zH,[],[],⟨0,0,0,0,0,0⟩,e):=λe v=>⟨Ko,λh=>absurd h v,λ_=>⟨rfl,rfl⟩⟩
 refine WJ (YS (N:=N) ab hb.1 hb.2) λb _ _=>Wp (λ_=>Wd (bad 1 ag)) λ_=>Ir ?_;refine WJ (XbP hN hb M) λb _ _=>Wp (λ_=>Wd (bad 19 ag)) λ_=>?_;refine WJ (XbP hN hb hw) λb _ _=>Wp (λ_=>Wd (bad 19 ag)) λ_=>?_;refine WJ (XmY hN hb) λy4 _ I=>?_;have⟨R,l,D⟩:=I;have z:=D.st;refine WJ (XmZ hN z M D.ci) λS _ J=>Wp (λv=>Wd (bad _ (by simp_all))) λv=>?_;have⟨c1,c2,U⟩:=J (by simp_all);have V:=D.sc;refine WJ (XrM hN z c1 ab ab) λg _ L=>Wp (λv=>Wd (bad _ (by simp_all))) λv=>?_;have k:=L (by simp_all);refine WJ (Xjy hN z ws hw S g k N 0 _ [] ab ab ab rfl) λA _ B=>?_;have W:CI R l (Wu.mk g.1.h g.1.o g.1.t g.1.q g.1.d (WV.mk g.1.r.j g.1.r.K g.1.r.F g.1.r.E A.1 g.1.r.y)):=by obtain⟨O,s,u⟩:=k.obj;exact⟨k.conf,k.wlen,k.plen,k.spc,k.old,k.tk,k.tnd,k.knd,k.qnd,⟨O,s,⟨u.old,u.queue,u.fit,u.apart,u.taken,u.free⟩⟩⟩
 refine WJ (XpQ hN z W) λY _ ⟨f1,f2,f3,Z,f5⟩=>?_;refine WJ (XpR hN (h0:=R) z.hb D.pr f1 f2 Z) λf _ ⟨g1,g2⟩=>?_;have fin:∀x:Int,O5 rs ws ((Wh.mk f.h.c f.h.w f.h.p (wI (1-f.h.s)) x),S.2.1,A.2,f.r,0):=λx=>⟨g1,λ_=>⟨U,B⟩,λh=>absurd rfl h⟩
 refine Ir (Wp (λht=>?_) λ_=>Wd (fin _));have ht:0<(f.t.length:Int):=Wv ht;rw[g2]at ht⊢;rw[Xe ab ab];exact Ok.get ab ab λp _=>Wd (fin _)
end
def YP{α σ:Type}(q:σ->Nat->α->Bool)(nxp:σ->α->σ):σ->Nat->List α->Bool
 |_,_,[]=>true
 |s,k,x::l=>q s k x&&YP q nxp (nxp s x) (k+1) l
def Z5{α:Type}(q:α->Bool):∀(k:Nat) (l:List α),YP (λ(_:Unit) _ x=>q x) (λs _=>s) () k l=l.all q
 |_,[]=>rfl
 |k,x::l=>by rw[YP,Z5 q (k+1) l,I5]
def Va{α σ:Type}{l:List α}{F:Nat->σ->Int->Option (Ex Bool Unit)}{q:σ->Nat->α->Bool}{nxp:σ->α->σ}{I:σ->Prop}(f:∀(n:Nat) (s:σ) (k:Nat) (p:α),I s->l[k]? = some p->F (n+1) s (k:Int)=bif q s k p then F n (nxp s p) ((k+1:Nat):Int)else some (.ret false))(g:∀(n:Nat) (s:σ),F (n+1) s (l.length:Int)=some (.nxt ()))(j:∀s k p,I s->l[k]? = some p->q s k p=true->I (nxp s p)):∀(n:Nat) (s:σ) (k:Nat),I s->k<=l.length->l.length-k<n->F n s (k:Int)=some (bif YP q nxp s k (l.drop k)then .nxt ()else .ret false)
 |0,s,k,_,_,u=>by omega
 |n+1,s,k,r,w,u=>by
  by_cases h:k<l.length
  .have e:=Wb h;rw[f n s k _ r e,Wm h,YP];cases v:q s k l[k]with
   |false=>rfl
   |true=>exact Va f g j n _ (k+1) (j s k _ r e v) ab ab
  obtain rfl:k=l.length:=ab;rw[g,W5 (Un _)];rfl
def JD{α:Type}{l:List α}{F:Nat->Int->Option (Ex Bool Unit)}{q:Nat->α->Bool}(f:∀(n k:Nat) (p:α),l[k]? = some p->F (n+1) (k:Int)=bif q k p then F n ((k+1:Nat):Int)else some (.ret false))(g:∀(n:Nat),F (n+1) (l.length:Int)=some (.nxt ())){n:Nat}(j:l.length<n):F n 0=some (bif YP (λ(_:Unit)=>q) (λs _=>s) () 0 l then .nxt ()else .ret false):=by have h:=Va (F:=λn (_:Unit) i=>F n i) (q:=λ_=>q) (nxp:=λs _=>s) (I:=λ_=>True) (l:=l) (λn s k p _ e=>f n k p e) (λn _=>g n) (λ_ _ _ _ _ _=>trivial) n () 0 trivial ab ab;assumption
def Xl{k n:Nat}(h:k<n):decide ((k:Int)<(n:Int))=true:=Wg ab
def XG(n:Nat):decide ((n:Int)<(n:Int))=false:=We ab
def XD{α:Type}{l:List α}{k:Nat}{p:α}(h:l[k]? = some p):k<l.length:=(U5.1 h).1
def Xg{k:Nat}(h:k<=140737488355328):wI ((k:Int)+1)=((k+1:Nat):Int):=by rw[Xe ab ab];omega
def Ju(e:W8):Bool:=!decide (e.G<1)&&(!decide (e.G>4294967295)&&(e.V||!(e.a != 0)))
def Yw(l:List W8):Bool:=l.all Ju&&decide (l.length<=64)
def Xu(l:List W8):List Int:=(l.filter (·.V)).map (·.a)
def YV{N:Nat}{t:WG}(g:t.e.length<=1000000)(hN:1000000<N):Qcc N t=some (Yw t.e):=by
 have h:=JD (l:=t.e) (F:=QcP N t) (q:=λ_=>Ju) (λn k p e=>?_) (λn=>?_) (n:=N) ab
 .rw[Qcc,h,Xa,Z5,Yw];cases t.e.all Ju
  .rw[Wa,Xy];rfl
  rw[Wc,Xo,Uc];congr 1;exact decide_eq_decide.2 ab
 .have f:=XD e;rw[QcP,Xl f,Wc,Xf,e,Xa,Xg ab];unfold Ju;cases decide (p.G<1)<;>cases decide (p.G>4294967295)<;>cases p.V<;>cases (p.a != 0)<;>rfl
 simp[QcP,XG,Wa]
def Xdq{N:Nat}{t:WG}(f:t.e.length<=1000000)(hN:1000000<N)(g:Yw t.e=true):∀(n k:Nat) (v:List Int),k<=t.e.length->t.e.length-k<n->v.length<=k ->
 QbL N t n (k:Int) v=some (v++Xu (t.e.drop k))
 |0,k,v,_,j,_=>by omega
 |n+1,k,v,q,j,p=>by
  rw[QbL];by_cases h:k<t.e.length
  .rw[Xl h,Wc,YV f hN,Xa,g,Wc,Xf,Wb h,Xa,Xa,Xg ab,Wm h,Xu];cases r:t.e[k].V
   .rw[Wa,Xdq f hN g n (k+1) v ab ab ab,UC (by simp_all)];rfl
   rw[Wc,Xb ab,Xdq f hN g n (k+1) _ ab ab (by simp_all),Ur ab];simp[Xu]
  obtain rfl:k=t.e.length:=ab;simp[Xu]
def X0{N:Nat}{t:WG}(f:t.e.length<=1000000)(hN:1000000<N):Qa7 N t=some (bif Yw t.e then Xu t.e else[]):=by
 rw[Qa7];cases g:Yw t.e
 .obtain⟨m,rfl⟩:∃m,N=m+1:=⟨N-1,ab⟩
  rw[QbL,YV f hN,g];by_cases h:0<t.e.length
  .rw[show decide ((0:Int)<(t.e.length:Int))=true from Wg ab,Wc,Xa,Wa,Xa];rfl
  rw[show decide ((0:Int)<(t.e.length:Int))=false from We ab,Wa,Xa];rfl
 have h:=Xdq f hN g N 0 [] ab ab ac;rw[show((0:Nat):Int)=0 from rfl,W3,Ue]at h;simp[h,Xa]
def Vb(l:List W8):(Xu l).length<=l.length:=by unfold Xu;grind
def Jv{l:List W8}(h:Yw l=true):l.length<=64:=by unfold Yw at h;simp_all
def Xm2{l:List W8}(h:Yw l=true){e:W8}(f:e∈l):1<=e.G/\e.G<=4294967295/\(e.V=false->e.a=0):=by unfold Yw at h;rw[WI,W0]at h;have:=h.1 e f;unfold Ju at this;grind
def Y1(l:List W8)(i g:Int):Int×Int:=
 if Yw l=false then(0,1)else if i<0\/(l.length:Int)<=i\/g<1 then(0,6)else
 match l[i.toNat]? with
 |none=>(0,6)
 |some e=>if g>e.G then(0,6)else if g<e.G then(0,8)else if e.V then(e.a,0)else(0,8)
def Vv{N:Nat}{t:WG}(h:t.e.length<=1000000)(hN:1000000<N)(i g:Int):QdI N t i g=some (Y1 t.e i g):=by
 rw[QdI,YV h hN,Xa,Y1];cases k:Yw t.e
 .rfl
 simp only[Wi,Wa,UL,Bool.true_eq_false,if_false];by_cases h0:i<0
 .simp_all
 by_cases p:i>=(t.e.length:Int)
 .simp_all
 by_cases j:g<1
 .simp_all
 have f:i.toNat<t.e.length:=ab;rw[Wk j,Wk ab,Yi ab ab,Xa,Wb f];simp only[Xa];grind
def Ze{α σ:Type}{q:σ->Nat->α->Bool}{nxp:σ->α->σ}:∀(l:List α) (s:σ) (k:Nat),YP q nxp s k l=true↔∀i p,l[i]? = some p->q ((l.take i).foldl nxp s) (k+i) p=true
 |[],s,k=>by simp[YP]
 |x::l,s,k=>by
  rw[YP,WI,Ze l (nxp s x) (k+1)];constructor
  .rintro⟨e,f⟩ i p hp;cases i with
   |zero=>simp_all
   |succ i=>grind
  intro h;refine⟨h 0 x rfl,λi p hp=>?_⟩;have:=h (i+1) p (by exact hp);grind
def Xm3(l:List Int):Bool:=l.all λp=>!decide (p<0)&&!decide (p>4095)
def stQ(iss:List Int)(s:Int)(i:Nat)(p:UI):Bool:=!decide (p.J<=s)&&(!decide (p.J>(iss.length:Int))&&(!((iss.getD (p.J-1).toNat 0) != (i:Int))&&(p.V==(p.a != 0))))
def stB(iss:List Int)(l:List UI):Bool:=YP (stQ iss) (λ_ p=>p.J) 0 0 l
def neQ(n:Nat)(s:Int)(i:Nat)(p:UU):Bool:=(!((i:Int)==0)||(!(p.O != 0)&&p.B0))&&(!decide (p.O<s)&&(!decide (p.O>(n:Int))&&(!decide (p.C0<0)&&!decide (p.C0>64))))
def neB(n:Nat)(l:List UU):Bool:=YP (neQ n) (λ_ p=>p.O) 0 0 l
def YW(l:List UI)(f t:Nat):Nat:=((l.drop f).take (t-f)).countP (·.V)
def toL(a:Ws)(i:Nat):Int:=match a.x[i+1]? with|some p=>p.O|none=>a.S.length
def Xg6(a:Ws)(_:Unit)(i:Nat)(p:UU):Bool:=!decide (((YW a.S p.O.toNat (toL a i).toNat:Nat):Int)>p.C0)
def XbR(a:Ws):Bool:=YP (Xg6 a) (λs _=>s) () 0 a.x
def Yx(a:Ws):Bool:=!decide ((a.i.length:Int)>4096)&&(!decide ((a.x.length:Int)>64)&&((!((a.x.length:Int)==0)||!decide ((a.S.length:Int)>0))&&(Xm3 a.i&&(stB a.i a.S&&(neB a.S.length a.x&&XbR a)))))
def LBp(a:Ws):Prop:=a.S.length<=1000000/\a.x.length<=1000000/\a.i.length<=1000000
def KM{n:Nat}{l:List UU}(h:neB n l=true){i:Nat}{p:UU}(hp:l[i]? = some p):0<=p.O/\p.O<=n/\0<=p.C0/\p.C0<=64/\(i=0->p.O=0/\p.B0=true)/\∀g,l[i+1]? = some g->p.O<=g.O:=by
 have j:=(Ze l (0:Int) 0).1 h;have inv:∀(k:Nat) (p:UU),l[k]? = some p->0<=p.O:=by
  intro k;induction k with
  |zero=>intro p hp;have:=j 0 p hp;unfold neQ at this;simp_all
  |succ k r=>
   intro p hp;have s:k<l.length:=by have:=XD hp;omega
   have e:=Wb s;have u:=r _ e;have f:=j (k+1) p hp;rw[Ik,e]at f;simp only[List.foldl_append,Option.toList,Iz,List.foldl_nil]at f;unfold neQ at f;grind
 have h0:=j i p hp;unfold neQ at h0;simp at h0;refine⟨inv i p hp,ab,ab,ab,λv=>?_,λg q=>?_⟩
 .simp_all
 have f:=j (i+1) g q;rw[Ik,hp]at f;unfold neQ at f;simp_all
def Xaj{iss:List Int}{l:List UI}(h:stB iss l=true){i:Nat}{p:UI}(hp:l[i]? = some p):(i:Int)+1<=p.J/\p.J<=iss.length/\iss.getD (p.J-1).toNat 0=i/\(p.V=true↔p.a≠0):=by
 have g:=(Ze l (0:Int) 0).1 h;have inv:∀(k:Nat) (p:UI),l[k]? = some p->(k:Int)+1<=p.J:=by
  intro k;induction k with
  |zero=>intro p hp;have:=g 0 p hp;unfold stQ at this;simp at this;have:=WN this.1;omega
  |succ k j=>
   intro p hp;have q:k<l.length:=by have:=XD hp;omega
   have e:=Wb q;have r:=j _ e;have f:=g (k+1) p hp;rw[Ik,e]at f;simp only[List.foldl_append,Option.toList,Iz,List.foldl_nil]at f;unfold stQ at f;simp at f;omega
 have h0:=g i p hp;unfold stQ at h0;simp_all
structure O0(a:Ws):Prop where
 iss:a.i.length<=4096
 sc:a.x.length<=64
 none:a.x.length=0->a.S.length=0
 issr:∀x∈a.i,0<=x/\x<=4095
 st:stB a.i a.S=true
 ne:neB a.S.length a.x=true
 cap:XbR a=true
def X9{a:Ws}:Yx a=true↔O0 a:=by
 unfold Yx Xm3;simp only[WI,U7,Ix,Im,W0,beq_eq_false_iff_ne];constructor
 .rintro⟨p,q,r,s,g,j,k⟩;exact⟨ab,ab,λe=>ab,λx f=>by simp_all,g,j,k⟩
 intro h;exact⟨by have:=h.iss;omega,by have:=h.sc;omega,by have:=h.none;omega,λx f=>by have:=h.issr x f;omega,h.st,h.ne,h.cap⟩
def O0.slots{a:Ws}(h:O0 a):a.S.length<=a.i.length:=by
 by_cases f:a.S.length=0
 .omega
 have e:=Wb (show a.S.length-1<a.S.length by omega);have:=Xaj h.st e;omega
def XfK{N:Nat}{a:Ws}(j:a.S.length<=1000000)(t:Nat)(ht:t<=a.S.length):∀(n f c:Nat),t-f<n->c<=f->f<=1000000->QdT N a (t:Int) n (c:Int) (f:Int)=some (((c+YW a.S f t:Nat):Int))
 |0,f,c,p,_,_=>by omega
 |n+1,f,c,p,q,r=>by
  rw[QdT];by_cases h:f<t
  .have g:f<a.S.length:=ab;rw[show decide ((f:Int)<(t:Int))=true from Wg ab,Wc,Xf,Wb g,Xa,Xg ab,Xg ab];have e:YW a.S f t=(if a.S[f].V then 1 else 0)+YW a.S (f+1) t:=by unfold YW;rw[Wm g,show t-f=(t-(f+1))+1 by omega,List.take_succ_cons,U4];omega
   cases k:a.S[f].V
   .rw[Wa,XfK j t ht n (f+1) c ab ab ab,e,k];simp
   rw[Wc,XfK j t ht n (f+1) (c+1) ab ab ab,e,k];grind
  rw[show decide ((f:Int)<(t:Int))=false from We ab,Wa];unfold YW;simp_all
def Xjz{N:Nat}{a:Ws}(e:a.S.length<=1000000)(hN:1000000<N){f t:Int}(f0:0<=f)(f1:f<=1000000)(g:0<=t)(h:t<=a.S.length):Qf7 N a f t=some ((YW a.S f.toNat t.toNat:Nat):Int):=by obtain⟨f,rfl⟩:=UP f0;obtain⟨t,rfl⟩:=UP g;rw[Qf7];have:=XfK (N:=N) e t ab N f 0 ab ab ab;rw[show((0:Nat):Int)=0 from rfl]at this;simp[this,Xa]
def XsU{N:Nat}{a:Ws}{i:Nat}(e:i<=1000000):Qhb N a (i:Int)=some (toL a i):=by
 rw[Qhb,Xg ab,toL];by_cases h:i+1<a.x.length
 .rw[Xl h,Wc,Xf,Wb h,Xa]
 grind
def XsV{a:Ws}(h:neB a.S.length a.x=true)(i:Nat):0<=toL a i/\toL a i<=a.S.length:=by
 unfold toL;cases e:a.x[i+1]? with
 |none=>simp
 |some p=>have:=KM h e;simp_all
def Zx{N:Nat}{a:Ws}(w:LBp a)(hN:1000000<N):Qcd N a=some (Yx a):=by
 have⟨h,y,hl3⟩:=w;have u:=JD (l:=a.i) (F:=Qdp N a) (q:=λ_ p=>!decide (p<0)&&!decide (p>4095)) (λn k p e=>by
  have f:=XD e
  rw[Qdp,Xl f,Wc,Xf,e,Xa,Xa,Xg ab]
  cases decide (p<0)<;>cases decide (p>4095)<;>rfl) (λn=>by rw[Qdp,XG,Wa]) (n:=N) ab
 have z:=Va (l:=a.S) (F:=λn s i=>Qaw N a n s i) (q:=stQ a.i) (nxp:=λ_ p=>p.J) (I:=λs=>0<=s) (λn s k p v e=>by
  have f:=XD e
  show Qaw N a (n+1) s (k:Int)=_
  rw[Qaw,Xl f,Wc,Xf,e,Xa,Xg ab]
  unfold stQ
  cases g1:decide (p.J<=s)
  .cases g2:decide (p.J>(a.i.length:Int))
   .have g1:=WN g1
    have g2:=WN g2
    rw[Wa,Wa,Xe ab ab,Yi ab ab,Xa]
    have ge:a.i[(p.J-1).toNat]'ab=a.i.getD (p.J-1).toNat 0:=by
     rw[Wj,Wb ab];rfl
    rw[ge]
    cases (a.i.getD (p.J-1).toNat 0 != (k:Int))<;>cases (p.V==(p.a != 0))<;>rfl
   .rfl
  .rfl) (λn s=>by show Qaw N a (n+1) s _=_;rw[Qaw,XG,Wa]) (λs k p v e j=>by
   unfold stQ at j
   simp only[WI,U7,Ix]at j
   have:=j.1
   omega) N 0 0 ab ab ab
 have A:=Va (l:=a.x) (F:=λn s i=>Qat N a n s i) (q:=neQ a.S.length) (nxp:=λ_ p=>p.O) (I:=λ_=>True) (λn s k p v e=>by
  have f:=XD e
  show Qat N a (n+1) s (k:Int)=_
  rw[Qat,Xl f,Wc,Xf,e,Xa,Xg ab]
  unfold neQ
  cases ((k:Int)==0)<;>cases (p.O != 0)<;>cases p.B0<;>cases decide (p.O<s)<;>cases decide (p.O>(a.S.length:Int))<;>cases decide (p.C0<0)<;>cases decide (p.C0>64)<;>rfl) (λn s=>by show Qat N a (n+1) s _=_;rw[Qat,XG,Wa]) (λ_ _ _ _ _ _=>trivial) N 0 0 trivial ab ab
 rw[Z5]at u;rw[Qcd,XF,u,Xa];have B:Qaw N a N 0 0=some (bif stB a.i a.S then .nxt ()else .ret false):=z;have e3:Qat N a N 0 0=some (bif neB a.S.length a.x then .nxt ()else .ret false):=A;unfold Yx Xm3;have main:(exK (bif (a.i.all λp=>!decide (p<0)&&!decide (p>4095))then Ex.nxt ()else Ex.ret false) (λr=>some r) λL=>
  bnd (Qaw N a N 0 0) λe=>exK e (λr=>some r) λM=>
  bnd (Qat N a N 0 0) λe=>exK e (λr=>some r) λD=>
  bnd (QcQ N a N 0) λe=>exK e (λr=>some r) λE=>some true)=some ((a.i.all λp=>!decide (p<0)&&!decide (p>4095))&&(stB a.i a.S&&(neB a.S.length a.x&&XbR a))):=by
  cases (a.i.all λp=>!decide (p<0)&&!decide (p>4095))
  .rw[Wa,Xy];rfl
  rw[Wc,Xo,Uc,B,Xa]
  cases stB a.i a.S
  .rw[Wa,Xy];rfl
  rw[Wc,Xo,Uc,e3,Xa]
  cases g:neB a.S.length a.x
  .rw[Wa,Xy];rfl
  rw[Wc,Xo,Uc]
  have G:=JD (l:=a.x) (F:=QcQ N a) (q:=Xg6 a ()) (λn k p e=>by
   have f:=XD e
   have K:=KM g e
   have ht:=XsV g k
   rw[QcQ,Xl f,Wc,Xf,e,Xa,XsU ab,Xa,Xjz h hN K.1 ab ht.1 ht.2,Xa,Xa,Xg ab]
   unfold Xg6
   cases decide (((YW a.S p.O.toNat (toL a k).toNat:Nat):Int)>p.C0)<;>rfl) (λn=>by rw[QcQ,XG,Wa]) (n:=N) ab
  rw[G,Xa]
  show exK (bif XbR a then Ex.nxt ()else Ex.ret false) _ _=_
  cases XbR a
  .rw[Wa,Xy]
  .rw[Wc,Xo]
 grind
def zL:Ws:=⟨[],[],[]⟩
def XL(l:List UI):List Int:=(l.filter (·.V)).map (·.a)
def Xak(l:List UI):(XL l).length<=l.length:=by unfold XL;grind
section
variable {N:Nat}{a:Ws}
def Xdr(e:LBp a)(hN:1000000<N)(f:Yx a=true):∀(n k:Nat) (v:List Int),k<=a.S.length->a.S.length-k<n->v.length<=k ->
 QbM N a n (k:Int) v=some (v++XL (a.S.drop k))
 |0,k,v,_,g,_=>by omega
 |n+1,k,v,q,g,j=>by
  have p:=e.1;rw[QbM];by_cases h:k<a.S.length
  .rw[Xl h,Wc,Zx e hN,Xa,f,Wc,Xf,Wb h,Xa,Xa,Xg ab,Wm h,XL];cases r:a.S[k].V
   .rw[Wa,Xdr e hN f n (k+1) v ab ab ab,UC (by simp_all)];rfl
   rw[Wc,Xb ab,Xdr e hN f n (k+1) _ ab ab (by simp_all),Ur ab];simp[XL]
  obtain rfl:k=a.S.length:=ab;simp[XL]
def YX(e:LBp a)(hN:1000000<N):QcG N a=some (bif Yx a then XL a.S else[]):=by
 rw[QcG];cases f:Yx a
 .obtain⟨m,rfl⟩:∃m,N=m+1:=⟨N-1,ab⟩
  rw[QbM,Zx e hN,f];by_cases h:0<a.S.length
  .rw[show decide ((0:Int)<(a.S.length:Int))=true from Wg ab,Wc,Xa,Wa,Xa];rfl
  rw[show decide ((0:Int)<(a.S.length:Int))=false from We ab,Wa,Xa];rfl
 have h:=Xdr e hN f N 0 [] ab (by have:=e.1;omega) ac;rw[show((0:Nat):Int)=0 from rfl,W3,Ue]at h;simp[h,Xa]
def Kc(a:Ws):UU:=a.x.getD (a.x.length-1) ⟨0,0,false⟩
def Xds(h:a.x.length≠0)(e:a.x.length<=1000000):Xd a.x (wI ((a.x.length:Int)-1))=some (Kc a):=by rw[Xe ab ab,show(a.x.length:Int)-1=((a.x.length-1:Nat):Int) by omega,Xf,Kc,Wj,Wb ab];rfl
def Z2(a:Ws)(id:Int):Ws×Int×Int×Int:=
 if Yx a=false then(zL,0,0,1)else if id=0 then(zL,0,0,1)else if a.x.length=0 then(zL,0,0,9)
 else if(Kc a).C0<=((YW a.S (Kc a).O.toNat a.S.length:Nat):Int)then(zL,0,0,10)
 else if a.i.length=4096 then(zL,0,0,18)
 else(⟨a.S++[⟨(a.i.length:Int)+1,id,true⟩],a.x,a.i++[(a.S.length:Int)]⟩,(a.S.length:Int),(a.i.length:Int)+1,0)
def Xg7(f:Yx a=true)(h:a.x.length≠0):0<=(Kc a).O/\(Kc a).O<=a.S.length:=by
 have g:=X9.1 f;have e:=Wb (show a.x.length-1<a.x.length by omega);have:=KM g.ne e;have j:Kc a=a.x[a.x.length-1]:=by unfold Kc;rw[Wj,e];rfl
 simp_all
def Xal(p:LBp a)(hN:1000000<N)(id:Int):Qej N a id=some (Z2 a id):=by
 have⟨e,f,hl3⟩:=p;rw[Qej,Zx ⟨e,f,hl3⟩ hN,Xa,Z2];cases q:Yx a
 .rfl
 rw[Wi,Wa,Wk ac];by_cases k:id=0
 .subst k;rfl
 rw[Wk k,show(id==0)=false by simp_all,Wa];by_cases g:a.x.length=0
 .rw[Wn g,g];rfl
 rw[Wk g,show((a.x.length:Int)==0)=false by simp_all,Wa,Xds g f,Xa];have ht:=Xg7 q g;rw[Xjz e hN ht.1 ab ab ab,Xa,Xa,Int.toNat_natCast];by_cases h:(Kc a).C0<=((YW a.S (Kc a).O.toNat a.S.length:Nat):Int)
 .rw[Wn h,Wg (show((YW a.S (Kc a).O.toNat a.S.length:Nat):Int)>=_ from h),Wc];rfl
 rw[Wk h,We (show¬((YW a.S (Kc a).O.toNat a.S.length:Nat):Int)>=_ from h),Wa];by_cases j:a.i.length=4096
 .rw[Wn j,j];rfl
 rw[Wk j,show((a.i.length:Int)==4096)=false by grind,Wa,Xb ab,Xb ab,Xb ab,Xb ab,Xe ab ab]
def ZV:LBp zL:=⟨by simp[zL],by simp[zL],by simp[zL]⟩
def XjA(g:LBp a)(id:Int):LBp (Z2 a id).1:=by
 have⟨h,e,hl3⟩:=g;unfold Z2;cases j:Yx a
 .exact ZV
 have f:=X9.1 j;have k:=f.slots;have p:=f.iss;split
 .exact ZV
 split
 .exact ZV
 split
 .exact ZV
 split
 .exact ZV
 split
 .exact ZV
 refine⟨?_,e,?_⟩
 .simp;omega
 grind
def Y2(a:Ws)(i g:Int):Int×Int:=
 if Yx a=false then(0,1)else if g<1\/(a.i.length:Int)<g then(0,6)else
 if a.i.getD (g-1).toNat 0≠i then(0,6)else if(a.S.length:Int)<=i then(0,7)else
 match a.S[i.toNat]? with
 |none=>(0,7)
 |some p=>if p.J≠g then(0,7)else if p.V then(p.a,0)else(0,8)
def XcG(r:LBp a)(hN:1000000<N)(i g:Int):QeO N a i g=some (Y2 a i g):=by
 have h:=r;have⟨u,v,hl3⟩:=r;rw[QeO,Zx h hN,Xa,Y2];cases w:Yx a
 .rfl
 have x:=X9.1 w;rw[Wi,Wa,Wk ac];by_cases j:g<1
 .rw[Wg j,Wc,Wn (.inl j)]
 rw[We j,Wa];by_cases k:g>(a.i.length:Int)
 .rw[Wg k,Wc,Wn (.inr k)]
 have e:(g-1).toNat<a.i.length:=ab;rw[We k,Wa,Wk ab,Xe ab ab,Yi ab ab,Xa];have ge:a.i[(g-1).toNat]=a.i.getD (g-1).toNat 0:=by rw[Wj,Wb e];rfl
 have s:=x.issr _ (Wy e);rw[ge]at s⊢;by_cases y:a.i.getD (g-1).toNat 0=i
 .rw[y]at s⊢;rw[show(i != i)=false by simp,Wa,Wk ac];by_cases p:i>=(a.S.length:Int)
  .rw[Wg p,Wc,Wn p]
  have f:i.toNat<a.S.length:=ab;rw[We p,Wa,Wk ab,Yi ab ab,Xa,Wb f];simp only[Xa];by_cases q:a.S[i.toNat].J=g
  .rw[q,show(g != g)=false by simp,Wa,Wk ac];cases a.S[i.toNat].V<;>rfl
  rw[show(a.S[i.toNat].J != g)=true by simpa using q,Wc,Wn q]
 grind
def Xam{i g:Int}(h:(Y2 a i g).2=0):Yx a=true/\0<=i/\∃p,a.S[i.toNat]? = some p/\p.J=g/\p.V=true/\(Y2 a i g).1=p.a:=by
 unfold Y2 at h⊢;cases j:Yx a
 .rw[j]at h;cases h
 have u:=X9.1 j;rw[j]at h;by_cases q:g<1\/(a.i.length:Int)<g
 .rw[Wn q]at h;cases h
 rw[Wk q]at h⊢;have f:(g-1).toNat<a.i.length:=ab;have ge:a.i[(g-1).toNat]=a.i.getD (g-1).toNat 0:=by rw[Wj,Wb f];rfl
 have w:=u.issr _ (Wy f);by_cases k:a.i.getD (g-1).toNat 0≠i
 .rw[Wn k]at h;cases h
 rw[Wk k]at h⊢;by_cases r:(a.S.length:Int)<=i
 .rw[Wn r]at h;cases h
 rw[Wk r]at h⊢;have x:0<=i:=by have:a.i.getD (g-1).toNat 0=i:=Classical.not_not.1 k;omega
 have e:=Wb (show i.toNat<a.S.length by omega);rw[e]at h⊢;simp only at h⊢;by_cases s:a.S[i.toNat].J≠g
 .rw[Wn s]at h;cases h
 rw[Wk s]at h⊢;cases v:a.S[i.toNat].V
 .rw[v]at h;cases h
 simp_all
def JO(a:Ws)(i g:Int):Ws×Int:=
 if(Y2 a i g).2≠0 then(zL,(Y2 a i g).2)else(⟨a.S.set i.toNat ⟨g,0,false⟩,a.x,a.i⟩,0)
def XfL(e:LBp a)(hN:1000000<N)(i g:Int):QdJ N a i g=some (JO a i g):=by
 rw[QdJ,XcG e hN,Xa,JO];by_cases h:(Y2 a i g).2=0
 .have⟨_,h0,p,hp,_⟩:=Xam h;have:=XD hp;have f:=e.1;rw[h,show((0:Int) != 0)=false from rfl,Wa,Wk ac,Xb ab,Yi h0 ab,Xa]
 rw[show((Y2 a i g).2 != 0)=true by simp_all,Wc,Wn h];rfl
def XjB(e:LBp a)(i g:Int):LBp (JO a i g).1:=by
 unfold JO;split
 .exact ZV
 exact⟨by rw[WL];exact e.1,e.2⟩
def KG(a:Ws)(c:Int):Ws×Int:=
 if Yx a=false\/c<0\/64<c then(zL,1)else if a.x.length=0 then(zL,9)else if a.x.length=64 then(zL,17)else(⟨a.S,a.x++[⟨(a.S.length:Int),c,false⟩],a.i⟩,0)
def Xbk(j:LBp a)(hN:1000000<N)(c:Int):Qed N a c=some (KG a c):=by
 have k:=j.2.1;rw[Qed,Qga,Zx j hN,Xa,KG];cases p:Yx a
 .rw[Ui,Wc,Xa,Wn (.inl rfl)];rfl
 rw[Wi,Wa];by_cases e:c<0
 .rw[Wg e,Wc,Xa,Wn (.inr (.inl e))];rfl
 by_cases f:c>64
 .rw[We e,Wa,Wg f,Wc,Xa,Wn (.inr (.inr f))];rfl
 rw[We e,Wa,We f,Wa,XF,Ui,Wc,Wk (by simp_all)];by_cases g:a.x.length=0
 .rw[Wn g,g];rw[show(((0:Nat):Int)==0)=true from rfl,Wc,Xa];rfl
 rw[Wk g,show((a.x.length:Int)==0)=false by simp_all,Wa];by_cases h:a.x.length=64
 .rw[Wn h,h];rw[show(((64:Nat):Int)==64)=true from rfl,Wc,Xa];rfl
 rw[Wk h,show((a.x.length:Int)==64)=false by grind,Wa,Xb ab,Xb ab,Xa]
def Xg8(e:LBp a)(c:Int):LBp (KG a c).1:=by
 unfold KG;cases f:Yx a
 .exact ZV
 have:=(X9.1 f).sc;split
 .exact ZV
 split
 .exact ZV
 split
 .exact ZV
 exact⟨e.1,by grind,e.2.2⟩
def Zv(a:Ws):Ws×Int:=
 if Yx a=false then(zL,1)else if a.x.length=0 then(zL,9)else if(Kc a).B0 then(zL,9)else(⟨a.S.take (Kc a).O.toNat,a.x.take (a.x.length-1),a.i⟩,0)
def XcH(h:LBp a)(hN:1000000<N):QeP N a=some (Zv a):=by
 have⟨g,e,hl3⟩:=h;rw[QeP,Zx ⟨g,e,hl3⟩ hN,Xa,Zv];cases j:Yx a
 .rfl
 by_cases f:a.x.length=0
 .rw[Wn f,f];rfl
 have ht:=Xg7 j f;rw[Wk f,show((a.x.length:Int)==0)=false by simpa using f,Wa,Xds f e,Xa];cases k:(Kc a).B0
 .rw[Wa,QgA,Xds f e,Xa,Xe ab ab,Xb ab,Xb ab,Xb ab,Xb ab,Xa];rw[show((a.x.length:Int)-1).toNat=a.x.length-1 by omega];rfl
 rfl
def XfM(e:LBp a):LBp (Zv a).1:=by
 unfold Zv;split
 .exact ZV
 split
 .exact ZV
 split
 .exact ZV
 have⟨f,g,hl3⟩:=e;exact⟨by grind,by grind,hl3⟩
def Xdt(rs:List Int)(B:a.S.length<=1000000):∀(n k:Nat) (c:Int) (v:List UI),k<=a.S.length->a.S.length-k<n->v.length=a.S.length->v.drop k=a.S.drop k->0<=c->c+(XL (a.S.drop k)).length=rs.length->rs.length<=1000000 ->
 Ok (Qbf N a rs n c (k:Int) v) λe=>match e with|.ret r=>r=(zL,1)|.nxt v=>v.length=a.S.length
 |0,k,c,v,_,D,_,_,_,_,_=>by omega
 |n+1,k,c,v,I,D,w,hd,x,y,g=>by
  refine Ub ab (Wp (λh=>?_) λh=>Wd w);have h:k<a.S.length:=by have:=Wv h;omega
  have j:(k:Int)<v.length:=ab;rw[Xg ab];have f:=Wm (show k<v.length by omega);have s:=Wm h;rw[hd,s]at f;have E:a.S[k]=v[k]:=(IR f).1;have G:a.S.drop (k+1)=v.drop (k+1):=(IR f).2;refine Ok.get ab j λp hp=>?_;have z:p=a.S[k]:=by rw[Xf,Wb ab,←E]at hp;exact(WE hp).symm
  rw[s]at y;refine Wp (λu=>?_) λu=>?_
  .refine Xdt rs B n (k+1) c v ab ab w G.symm x ?_ g;rw[←y];unfold XL;grind
  have u:a.S[k].V=true:=by rw[←z];simpa using u
  have A:c+1+(XL (a.S.drop (k+1))).length=rs.length:=by rw[←y];unfold XL;rw[Ur (by rw[u]),UH,Uu];omega
  refine Ok.get x ab λq _=>Wp (λ_=>Wd rfl) λ_=>Ok.get x ab λq _=>Ok.get ab j λJ _=>?_;rw[Xe (n:=c+1) ab ab];refine Xdt rs B n (k+1) (c+1) _ ab ab (by rw[WL];exact w) ?_ ab A g;rw[US ab];simp_all
def Xm4(j:LBp a)(hN:1000000<N){rs:List Int}(p:rs.length<=1000000):Ok (Qc7 N a rs) λr=>LBp r.1:=by
 have e:=j;have⟨f,g,hl3⟩:=j;rw[Qc7,Zx e hN,Xa];refine Wp (λ_=>Wd ZV) λh=>?_;have h:Yx a=true:=by simpa using h
 rw[YX e hN,Xa,h,Wc];refine Wp (λ_=>Wd ZV) λk=>Ub ab ?_;have k:(rs.length:Int)=(((XL a.S).length:Nat):Int):=by simpa using k
 refine IT (Xdt rs f N 0 0 a.S ab ab rfl rfl ab (by rw[W3];omega) p) (λr q=>Wd (by rw[q];exact ZV)) λv q=>Wd ⟨?_,g,hl3⟩;simp_all
end
def TB(t:WG):Prop:=t.e.length<=1000000
def zT:WG:=⟨[]⟩
def Xbl:TB zT:=by simp[TB,zT]
section
variable {N:Nat}{t:WG}
def Xg9(l:List W8):Option Nat:=l.findIdx? λe=>!e.V&&decide (e.G<4294967295)
def ZE(t:WG)(id:Int):WG×Int×Int×Int:=
 if Yw t.e=false then(zT,0,0,1)else
 match Xg9 t.e with
 |some k=>(⟨t.e.set k ⟨(t.e.getD k ⟨0,0,false⟩).G+1,id,true⟩⟩,(k:Int),(t.e.getD k ⟨0,0,false⟩).G+1,0)
 |none=>if t.e.length=64 then(zT,0,0,18)else(⟨t.e++[⟨1,id,true⟩]⟩,(t.e.length:Int),1,0)
def XjC(g:TB t)(p:Yw t.e=true)(id:Int):∀(n k:Nat),k<=t.e.length->t.e.length-k<n->Qb9 N t id n (k:Int)=some (match (t.e.drop k).findIdx? (λe=>!e.V&&decide (e.G<4294967295))with
 |some j=>.ret (⟨t.e.set (k+j) ⟨(t.e.getD (k+j) ⟨0,0,false⟩).G+1,id,true⟩⟩,((k+j:Nat):Int),(t.e.getD (k+j) ⟨0,0,false⟩).G+1,0)
 |none=>.nxt ())
 |0,k,_,r=>by omega
 |n+1,k,u,r=>by
  unfold TB at g;rw[Qb9,Xb ab];by_cases h:k<t.e.length
  .have e:=Wb h;have s:t.e.getD k ⟨0,0,false⟩=t.e[k]:=by rw[Wj,e];rfl
   have v:=Xm2 p (Wy h);rw[Xl h,Wc,Xf,e];simp only[Xa];rw[Xg ab,Wm h,List.findIdx?_cons];have next:=XjC g p id n (k+1) ab ab
   have q:Qb9 N t id n ((k+1:Nat):Int)=some (match Option.map (λi=>i+1) ((t.e.drop (k+1)).findIdx? (λe=>!e.V&&decide (e.G<4294967295)))with
    |some j=>.ret (⟨t.e.set (k+j) ⟨(t.e.getD (k+j) ⟨0,0,false⟩).G+1,id,true⟩⟩,((k+j:Nat):Int),(t.e.getD (k+j) ⟨0,0,false⟩).G+1,0)
    |none=>.nxt ()):=by
    rw[next]
    cases (t.e.drop (k+1)).findIdx? (λe=>!e.V&&decide (e.G<4294967295))with
    |none=>rfl
    |some j=>simp only[Ic];rw[show k+1+j=k+(j+1) by omega]
   cases w:t.e[k].V
   .cases x:decide (t.e[k].G<4294967295)
    .exact q
    rw[Ui,Wc,Wc,Bool.and_true,Wn rfl];have f:(k:Int).toNat=k:=ab;rw[Xe ab ab,f,Xf,U1,Wn rfl,Wn h,Xa];simp only[IW];rw[s]
   exact q
  grind
def JE(f:TB t)(hN:1000000<N)(id:Int):QcS N t id=some (ZE t id):=by
 have g:=f;unfold TB at f;rw[QcS,YV f hN,Xa,ZE];cases p:Yw t.e
 .rfl
 have k:=XjC (N:=N) g p id N 0 ab ab;rw[show((0:Nat):Int)=0 from rfl,W3]at k;rw[Wi,Wa,Xb ab,k,Xa,Wk ac,Xg9];cases t.e.findIdx? (λe=>!e.V&&decide (e.G<4294967295))with
 |some j=>simp[Xy,UG]
 |none=>
  simp only[Xo];rw[Xb ab];by_cases h:t.e.length=64
  .rw[Wn h,h];rfl
  rw[Wk h,show((t.e.length:Int)==64)=false by grind,Wa,Xb ab,Xb ab]
def XjD(g:TB t)(id:Int):TB (ZE t id).1:=by
 unfold ZE;cases f:Yw t.e
 .exact Xbl
 have:=Jv f;rw[Wk ac];cases Xg9 t.e with
 |some k=>show(t.e.set _ _).length<=_;grind
 |none=>
  simp only;split
  .exact Xbl
  show(t.e++[_]).length<=_;grind
def Vc{i g:Int}(h:(Y1 t.e i g).2=0):Yw t.e=true/\0<=i/\∃p,t.e[i.toNat]? = some p/\p.G=g/\p.V=true/\(Y1 t.e i g).1=p.a:=by unfold Y1 at h⊢;grind
def Ke(t:WG)(i g:Int):WG×Int:=
 if(Y1 t.e i g).2≠0 then(zT,(Y1 t.e i g).2)else(⟨t.e.set i.toNat ⟨g,0,false⟩⟩,0)
def Xan(f:TB t)(hN:1000000<N)(i g:Int):QcE N t i g=some (Ke t i g):=by
 unfold TB at f;rw[QcE,Vv f hN,Xa,Ke];by_cases h:(Y1 t.e i g).2=0
 .have⟨_,h0,p,hp,_⟩:=Vc h;have:=XD hp;rw[h,show((0:Int) != 0)=false from rfl,Wa,Wk ac,Qgz,Xb ab,Yi h0 ab,Xa,Xa]
 rw[show((Y1 t.e i g).2 != 0)=true by simp_all,Wc,Wn h];rfl
def XjE(f:TB t)(i g:Int):TB (Ke t i g).1:=by
 unfold Ke;split
 .exact Xbl
 show(t.e.set _ _).length<=_;rw[WL];exact f
def Xdu(rs:List Int)(z:t.e.length<=1000000):∀(n k:Nat) (c:Int) (v:List W8),k<=t.e.length->t.e.length-k<n->v.length=t.e.length->v.drop k=t.e.drop k->0<=c->c+(Xu (t.e.drop k)).length=rs.length->rs.length<=1000000 ->
 Ok (Qbg N rs n c (k:Int) v) λv=>v.length=t.e.length
 |0,k,c,v,_,B,_,_,_,_,_=>by omega
 |n+1,k,c,v,G,B,u,hd,A,w,g=>by
  refine Ub ab (Wp (λh=>?_) λh=>Wd u);have h:k<t.e.length:=by have:=Wv h;omega
  have j:(k:Int)<v.length:=ab;rw[Xg ab];have f:=Wm (show k<v.length by omega);have r:=Wm h;rw[hd,r]at f;have D:t.e[k]=v[k]:=(IR f).1;have E:t.e.drop (k+1)=v.drop (k+1):=(IR f).2;refine Ok.get ab j λp hp=>?_;have x:p=t.e[k]:=by rw[Xf,Wb ab,←D]at hp;exact(WE hp).symm
  rw[r]at w;refine Wp (λs=>?_) λs=>?_
  .have s:t.e[k].V=true:=by rw[←x];exact s
   have y:c+1+(Xu (t.e.drop (k+1))).length=rs.length:=by rw[←w];unfold Xu;rw[Ur (by rw[s]),UH,Uu];omega
   refine Ok.get A ab λq _=>Ok.get ab j λI _=>?_;rw[Xe (n:=c+1) ab ab];refine Xdu rs z n (k+1) (c+1) _ ab ab (by rw[WL];exact u) ?_ ab y g;rw[US ab];simp_all
  refine Xdu rs z n (k+1) c v ab ab u E.symm A ?_ g;rw[←w];unfold Xu;grind
def XeP(f:TB t)(hN:1000000<N){rs:List Int}(j:rs.length<=1000000):Ok (Qb5 N t rs) λr=>r.1.e.length<=t.e.length:=by
 unfold TB at f;rw[Qb5,YV f hN,Xa];refine Wp (λ_=>Wd ac) λg=>?_;have g:Yw t.e=true:=by simpa using g
 have k:=Vb t.e;rw[X0 f hN,Xa,g,Wc];refine Ub ab (Wp (λ_=>Wd ac) λh=>Ub ab ?_);have h:(rs.length:Int)=(((Xu t.e).length:Nat):Int):=by simpa using h
 refine WJ (Xdu rs f N 0 0 t.e ab ab rfl rfl ab (by rw[W3];omega) j) λv _ q=>Wd ?_;simp_all
def Xha(e:TB t)(hN:1000000<N){rs:List Int}(f:rs.length<=1000000):Ok (Qb5 N t rs) λr=>TB r.1:=(XeP e hN f).mono λr h=>UK h e
def Xhb{k:Nat}(g:t.e.length<=1000+k)(id:Int):(ZE t id).1.e.length<=1000+k:=by
 unfold ZE;cases f:Yw t.e
 .simp[zT]
 have:=Jv f;grind[WL,zT,WM]
def Xhc{k:Nat}(f:t.e.length<=1000+k)(i g:Int):(Ke t i g).1.e.length<=1000+k:=by unfold Ke;grind[zT,WL]
end
section
variable {N:Nat}
def YT(h:Iu):Ok (Qb8 N h) λ_=>True:=by refine WJ (Q:=λ_=>True) ?_ λb _ _=>Wp (λ_=>Wd trivial) λ_=>Wd trivial;exact Wp (λ_=>Wp (λ_=>Wp (λ_=>Wp (λ_=>Wp (λ_=>Wd trivial) λ_=>Wd trivial) λ_=>Wd trivial) λ_=>Wd trivial) λ_=>Wd trivial) λ_=>Wd trivial
def XbS(a:Int):Ok (QcC N a) λ_=>True:=by exact Wp (λ_=>Wd trivial) λ_=>WJ (YT _) λ_ _ _=>Wp (λ_=>Wd trivial) λ_=>Wp (λ_=>Wd trivial) λ_=>Wd trivial
def XqT{l:List UE}(r:Int)(g:l.length<=1000000):∀(n:Nat) (k:Int),0<=k->k<=l.length->(l.length-k).toNat<n->Ok (QeX N l r n k) λe=>∀i,e=.ret i->0<=i/\i<l.length/\∃p∈l,p.a=r
 |0,k,_,_,j=>by omega
 |n+1,k,h0,q,j=>by
  refine Wp (λf=>?_) λ_=>Wd λi e=>by grind
  have f:k<l.length:=Wv f;rw[Xe (n:=k+1) ab ab];refine Ok.get h0 f λp hp=>Wp (λh=>Wd λi e=>?_) λ_=>XqT r g n (k+1) ab ab ab;cases e;exact⟨h0,f,p,YC hp,by simp_all⟩
def Xdv{l:List UE}(r:Int)(e:l.length<=1000000)(hN:1000000<N):Ok (Qgw N l r) λi=>i = -1\/(0<=i/\i<l.length/\∃p∈l,p.a=r):=by exact IT (XqT r e N 0 ab ab ab) (λi q=>Wd (.inr (q i rfl))) λ_ _=>Wd (.inl rfl)
def K3{h:Wh}(hp:Uy h){a:Int}(e:IE h a):Qfo N h a=some (pgi h.c a)/\0<=pgi h.c a/\pgi h.c a<h.p.length:=by have⟨_,f,g,_⟩:=XZ hp.conf e.rng;have:=hp.pages;refine⟨?_,f,ab⟩;rw[Qfo,KX,Xa,hp.conf,Wk ac,Wn e.rng];rfl
def Xhd{h:Wh}{pins:List UE}(hN:NB N)(hp:Uy h)(y:List Int×Int)(j:IC N h y.1)(z:pins.length<=64)(hb:HB h):∀(n:Nat) (k:Int) (v:List Int),0<=k->k<=pins.length->(pins.length-k).toNat<n->v.length=h.p.length->Ok (Qbc N h pins y n k v) λe=>match e with|.ret b=>b=false|.nxt v=>v.length=h.p.length/\∀i,k<=i->∀p,Xd pins i=some p->IE h p.a
 |0,k,v,_,_,A,_=>by omega
 |n+1,k,v,h0,K,A,w=>by
  have r:=hN;unfold NB at r;have B:=j.len;refine Wp (λf=>?_) λf=>Wd ⟨w,λi L p hp=>?_⟩;rotate_left
  .have:=WN f;rw[XkX ab]at hp;cases hp
  have f:k<pins.length:=Wv f;rw[Xe (n:=k+1) ab ab];have D:0<=k+1:=ab;have E:k+1<=pins.length:=ab;have G:(pins.length-(k+1)).toNat<n:=ab;refine Ok.get h0 f λp s=>?_;have same:∀q,Xd pins k=some q->q=p:=λq g=>WE (g.symm.trans s);rw[Yb p.a ab ab,Xa];refine Wp (λ_=>Wd rfl) λI=>?_;have J:p.a∈y.1:=Yf (by simpa using I);have u:=j.obj.at_ _ J;refine Ok.get h0 f λq g=>?_;refine WJ (Xdv _ ab ab) λ_ _ _=>Wp (λ_=>Wd rfl) λ_=>Ok.get h0 f λ_ _=>Wp (λ_=>Wd rfl) λ_=>Ok.get h0 f λ_ _=>Wp (λ_=>Wd rfl) λ_=>Ok.get h0 f λq g=>?_;obtain rfl:=same q g;have⟨e,x,M⟩:=K3 (N:=N) hp u;rw[e,Xa];refine Ok.get x ab λ_ _=>Ok.get h0 f λ_ _=>Ok.get x ab λ_ _=>?_;refine(Xhd hN hp y j z hb n (k+1) _ D E G (by rw[WL];exact w)).mono λe O=>?_;grind
def Xhe{h:Wh}(hb:HB h)(v:List Int)(g:v.length=h.p.length):∀(n:Nat) (k:Int),0<=k->k<=h.p.length->(h.p.length-k).toNat<n->Ok (Qbz N h v n k) λe=>∀b,e=.ret b->b=false
 |0,k,_,_,j=>by omega
 |n+1,k,h0,q,j=>by
  have:=hb.2;refine Wp (λf=>?_) λ_=>Wd λb e=>by grind
  have f:k<h.p.length:=Wv f;rw[Xe (n:=k+1) ab ab];exact Ok.get h0 f λ_ _=>Ok.get h0 ab λ_ _=>Wp (λ_=>Wd λb e=>by simp_all) λ_=>Xhe hb v g n (k+1) ab ab ab
structure OY(N:Nat)(h:Wh)(pins:List UE):Prop where
 good:OG N h
 len:pins.length<=64
 at_:∀p∈pins,IE h p.a
def Vd(hN:NB N){h:Wh}(hb:HB h){pins:List UE}(w:pins.length<=1000000):Ok (Qce N h pins) λb=>b=true->OY N h pins:=by
 have j:=hN;unfold NB at j;have k:=hb.2;refine WJ (KF hN hb) λb _ g=>Wp (λ_=>Wd λe=>by grind) λr=>?_;have g:=g (by simp_all);refine Wp (λ_=>Wd λe=>by grind) λf=>?_;have f:=WN f;refine WJ (Kx hN hb) λy _ s=>Ub ab ?_;refine IT (Xhd hN g.prop y s.1 ab hb N 0 _ ab ab ab ac) (λb q=>Wd λe=>?_) λv q=>?_
 .simp_all
 refine IT (Xhe hb v q.1 N 0 ab ab ab) (λb q=>Wd λe=>?_) λ_ _=>Wd λ_=>⟨g,ab,λp hp=>?_⟩
 .simp_all
 have⟨i,u,e⟩:=WA hp;exact q.2 (i:Int) ab p (by rw[Xf,Wb u,e])
def Xhf{h:Wh}(hb:HB h)(hp:Uy h){a:Int}(j:IE h a)(d:Int):Ok (QbW N h a d) HB:=by have k:=hb.2;have⟨e,f,g⟩:=K3 (N:=N) hp j;rw[QbW,Xb ab,e,Xa];exact Ok.get f g λ_ _=>Ok.get f g λ_ _=>Wd ⟨hb.1,by simp_all⟩
def Xiv(hN:NB N){h:Wh}(hb:HB h){pins:List UE}(w:pins.length<=1000000)(a:Int):Ok (Qdl N h pins a) λr=>HB r.1/\r.2.1.length<=1000000:=by
 have g:=hN;unfold NB at g;have zero:HB zH/\([]:List UE).length<=1000000:=⟨Ko,ac⟩
 refine WJ (Vd hN hb w) λb _ f=>Wp (λ_=>Wd zero) λj=>?_;have f:=f (by simpa using j);refine Wp (λ_=>Wd zero) λ_=>WJ (Xdv _ w ab) λi _ z=>Wp (λ_=>Wd zero) λh0=>?_;have h0:=WN h0;obtain⟨k,q,p,s,u⟩:0<=i/\i<pins.length/\∃p∈pins,p.a=a:=by
  rcases z with h|h
  .omega
  exact h
 have e:=f.at_ p s;rw[u]at e;have x:=Xhf (N:=N) hb f.good.prop e (-1);refine Ub ab (Ok.get k q λ_ _=>Ok.get k q λ_ _=>Ok.get k (by rw[WL];exact q) λ_ _=>?_);rw[Xe (n:=i+1) ab ab];refine Wp (λ_=>Ub ab (Ub ab (Ub ab (WJ x λy _ v=>Wd ⟨v,?_⟩)))) λ_=>WJ x λy _ v=>Wd ⟨v,?_⟩
 .simp;omega
 simp_all
def Xdw{h:Wh}(hb:HB h)(a:Int):∀(n:Nat) (c k:Int),0<=k->k<=h.p.length->(h.p.length-k).toNat<n->Ok (Qbp N h a n c k) λ_=>True
 |0,c,k,_,_,f=>by omega
 |n+1,c,k,h0,j,f=>by
  have:=hb.2;refine Wp (λe=>?_) λ_=>Wd trivial;have e:k<h.p.length:=Wv e;rw[Xe (n:=k+1) ab ab];have next:=λg=>Xdw hb a n g (k+1) ab ab ab
  exact Ok.get h0 e λ_ _=>Wp (λ_=>Ok.get h0 e λ_ _=>Wp (λ_=>next _) λ_=>next _) λ_=>next _
def Vw(hN:NB N){h:Wh}(hb:HB h)(a:Int):Ok (QcN N h a) λ_=>True:=by have f:=hN;unfold NB at f;have k:=hb.2;refine WJ (KF hN hb) λb _ s=>Wp (λ_=>Wd trivial) λg=>?_;refine WJ (Xci hN hb a) λb _ p=>Wp (λ_=>Wd trivial) λg=>?_;have⟨hp,j⟩:=p (by simp_all);have⟨e,q,r⟩:=K3 (N:=N) hp j;refine WJ (Xdw hb a N 0 0 ab ab ab) λc _ _=>?_;rw[e,Xa];exact Ok.get q r λ_ _=>Wp (λ_=>Wp (λ_=>Wd trivial) λ_=>Wd trivial) λ_=>Wd trivial
def Xk0(hN:NB N){h:Wh}(hb:HB h){pins:List UE}(v:pins.length<=1000000)(a:Int):Ok (Qfl N h pins a) λr=>HB r.1/\r.2.1.length<=1000000:=by
 have g:=hN;unfold NB at g;have zero:HB zH/\([]:List UE).length<=1000000:=⟨Ko,ac⟩
 refine WJ (Vd hN hb v) λb _ e=>Wp (λ_=>Wd zero) λj=>?_;have e:=e (by simp_all);refine Wp (λ_=>Wd zero) λ_=>WJ (Xci hN hb a) λb _ A=>Wp (λ_=>Wd zero) λj=>?_;have⟨hp,k⟩:=A (by simp_all);have w:=Xhf (N:=N) hb e.good.prop k 1;have B:=e.len;refine WJ (Xdv _ v ab) λi _ x=>?_
 have rest:Ok (α:=Wh×List UE×Int×Int) (grd (pins.length*16<=140737488355328) <|
  jn (λ(p:List UE)=>
   bnd (QbW N h a 1) λq=>
   some (q,p,(wU (a+1)),0)) λz=>
  bif (decide (i>=0))then(bnd (Xd pins i) λD=>
   bnd (Xd pins i) λs=>
   z (pins.set i.toNat (UE.mk s.a (wI (D.M+1)))))
  else grd ((pins.length+1)*16<=140737488355328) <|
  z (pins++[(UE.mk a 1)])) λr=>HB r.1/\r.2.1.length<=1000000:=by
  refine Ub ab (Ir (Wp (λh0=>?_) λ_=>Ub ab (WJ w λy _ u=>Wd ⟨u,?_⟩)))
  .have h0:0<=i:=Wv h0
   have f:i<pins.length:=by rcases x with h|h;omega;exact h.2.1
   exact Ok.get h0 f λ_ _=>Ok.get h0 f λ_ _=>WJ w λy _ u=>Wd ⟨u,by simp_all⟩
  .grind
 refine Ir (Wp (λh0=>?_) λ_=>Wp (λ_=>Wp (λ_=>Wd zero) λ_=>WJ (Vw hN hb a) λ_ _ _=>Wp (λ_=>Wd zero) λ_=>rest) λ_=>WJ (Vw hN hb a) λ_ _ _=>Wp (λ_=>Wd zero) λ_=>rest);have h0:0<=i:=Wv h0;have f:i<pins.length:=by rcases x with h|h;omega;exact h.2.1
 exact Ok.get h0 f λ_ _=>Wp (λ_=>Wd zero) λ_=>Wp (λ_=>Wp (λ_=>Wd zero) λ_=>WJ (Vw hN hb a) λ_ _ _=>Wp (λ_=>Wd zero) λ_=>rest) λ_=>WJ (Vw hN hb a) λ_ _ _=>Wp (λ_=>Wd zero) λ_=>rest
end
section
variable {N:Nat}
def XjF(hN:NB N)(c:WR)(d:Wx):Ok (Qda N c d) λb=>b=true->XN d=true/\d.k≠0/\XH c (XM d)≠-1:=by
 have f:=hN;unfold NB at f;rw[Qda,ZM,Xa];refine Wp (λg=>Wp (λh=>?_) λ_=>Wd λe=>by grind) λ_=>Wd λe=>by grind
 rw[X4,Xa,K2 ab,Xa];exact Wd λe=>⟨g,by simp_all,by simp_all⟩
def Xhg(hN:NB N){h:Wh}(hb:HB h)(hp:Uy h)(n:Int):Ok (Qek N h n) λr=>HB r.1:=by
 have x:=hN;unfold NB at x;have z:=hb.2;have setP:∀(ps:List Wr) (i:Nat) (p:Wr) (s b:Int),ps.length<=100000->HB ⟨h.c,h.w,ps.set i p,s,b⟩:=λps i p s b M=>⟨hb.1,by simp_all⟩
 refine Ub ab ?_;rw[XfA,Xa];refine WJ (Xdj ab ab) λu _ _=>?_;have fresh:Ok (α:=Wh×Int×Bool) (bnd (Qbn N h.p 1) λe=>
  bif (decide (e<0))then some ((Wh.mk (WR.mk 0 0) [] [] 0 0),0,false)
  else bif (decide (u>=XbO h.c))then some ((Wh.mk (WR.mk 0 0) [] [] 0 0),0,false)
  else bnd (QbU N h.p e h.s) λv=>
  bnd (Xd v.1 e) λA=>
  bnd (Xd v.1 e) λB=>
  bnd (Xd v.1 e) λf=>
  some ((Wh.mk h.c h.w (v.1.set e.toNat (Wr.mk f.k f.s (wI (B.u+n)) f.P)) h.s e),(wU (wI ((wI (4096+(wI (e*h.c.W))))+A.u))),true)) λr=>HB r.1:=by
  refine WJ (KL 1 ab ab) λj _ G=>Wp (λ_=>Wd Ko) λJ=>Wp (λ_=>Wd Ko) λ_=>?_
  have K:RunOK h.p j 1:=by
   rcases G with rfl|G
   .grind
   .omega
  have L:=hp.space
  refine WJ (Xdk j h.s ab ab) λy _ I=>?_
  obtain⟨D,O,R,S⟩:=I.1 (I.2.2 K ab ab)
  have g:j<y.1.length:=ab
  exact Ok.get D g λ_ _=>Ok.get D g λ_ _=>Ok.get D g λ_ _=>Wd (setP _ _ _ _ _ ab)
 refine Ir (Wp (λ_=>fresh) λh0=>?_);have h0:=WN h0;have E:=hp.bump;have q:h.b<h.p.length:=by rcases E with h|h;omega;exact h.2.1
 have h0:0<=h.b:=ab;exact Ok.get h0 q λ_ _=>Wp (λ_=>fresh) λ_=>Ok.get h0 q λ_ _=>Wp (λ_=>fresh) λ_=>Wp (λ_=>fresh) λ_=>Ok.get h0 q λ_ _=>Ok.get h0 q λ_ _=>Ok.get h0 q λ_ _=>Wd (setP _ _ _ _ _ z)
def Xhh(hN:NB N){h:Wh}(hb:HB h)(hp:Uy h)(w k:Int):Ok (QeZ N h w k) λr=>HB r.1:=by
 have e:=hN;unfold NB at e;have f:=hb.2;refine WJ (KL k ab ab) λj _ v=>Wp (λ_=>Wd Ko) λg=>WJ (Xdj ab ab) λu _ _=>?_;rw[XfA,Xa];refine Wp (λ_=>Wd Ko) λ_=>WJ (XmR h.c j h.s w ab ab) λy _ p=>Wd ⟨hb.1,?_⟩;show y.1.length<=_;by_cases q:y.2=0
 .have:=(p.1 q).2.2.2.1;omega
 simp_all
def XjG(hN:NB N){h:Wh}(hb:HB h)(d:Wx):Ok (QeN N h d) λr=>HB r.1:=by
 have f:=hN;unfold NB at f;refine WJ (YS (N:=N) ab hb.1 hb.2) λb _ hp=>Wp (λ_=>Wd Ko) λj=>?_;have hp:=hp (by simp_all);refine WJ (XjF hN _ _) λb _ _=>Wp (λ_=>Wd Ko) λ_=>?_;rw[X4,Xa,K2 ab,Xa];refine WJ (Xhg hN hb hp _) λk _ p=>Ir (Wp (λ_=>WJ (Xhh hN hb hp _ _) λq _ s=>?_) λ_=>?_)
 .exact Wp (λ_=>Wd Ko) λ_=>WJ (Xjs hN (h:=q.1) s _ d) λg _ e=>Wd e
 exact Wp (λ_=>Wd Ko) λ_=>WJ (Xjs hN (h:=k.1) p _ d) λg _ e=>Wd e
end
structure EB(x:Um):Prop where
 heap:HB x.h
 loc:LBp x.l
 glo:TB x.g
 wea:TB x.v
 pins:x.P.length<=1000000
 roots:x.R.length<=100000
def zE:Um:=⟨zH,zL,zT,zT,[],[]⟩
def Xdx:EB zE:=⟨Ko,ZV,Xbl,Xbl,by simp[zE],by simp[zE]⟩
section
variable {N:Nat}{x:Um}
def YU{a:Ws}(h:LBp a):(bif Yx a then XL a.S else[]).length<=4096:=by
 cases f:Yx a
 .simp
 have e:=X9.1 f;have:=e.slots;have:=e.iss;have:=Xak a.S;grind
def X7(l:List W8):(bif Yw l then Xu l else[]).length<=64:=by
 cases e:Yw l
 .simp
 have:=Jv e;have:=Vb l;grind
structure EV(N:Nat)(x:Um):Prop where
 mat:OY N x.h x.P
 loc:Yx x.l=true
 glo:Yw x.g.e=true
 wea:Yw x.v.e=true
def Jg(hN:NB N)(f:EB x):Ok (QbF N x) λb=>b=true->EV N x:=by have h:=hN;unfold NB at h;have p:=f.roots;refine WJ (Vd hN f.heap f.pins) λb _ j=>Wp (λ_=>Wd λe=>by grind) λk=>?_;have j:=j (by simp_all);rw[Zx f.loc ab,Xa];refine Wp (λ_=>Wd λe=>by grind) λq=>?_;rw[YV f.glo ab,Xa];refine Wp (λ_=>Wd λe=>by grind) λr=>?_;rw[YV f.wea ab,Xa];refine Wp (λ_=>Wd λe=>by grind) λs=>?_;rw[X0 f.glo ab,Xa];have u:=YU f.loc;have w:=X7 x.g.e;have y:=X7 x.v.e;rw[Yb _ ab ab,Xa];refine Wp (λ_=>Wd λe=>by grind) λ_=>Ub ab ?_;rw[YX f.loc ab,Xa];refine Ub ab (Ub ab ?_);rw[X0 f.wea ab,Xa];refine Ub ab (WJ (XbP hN f.heap (by grind)) λb _ _=>Wd λ_=>⟨j,by simp_all,by simp_all,by simp_all⟩)
def Xdy(hp:x.P.length<=1000000):∀(n:Nat) (k:Int) (v:List Int),0<=k->k<=x.P.length->(x.P.length-k).toNat<n->v.length<=1000000+k->Ok (QbE N x n k v) λr=>(r.length:Int)=v.length+(x.P.length-k)
 |0,k,v,_,_,f,_=>by omega
 |n+1,k,v,h0,g,f,h=>by refine Wp (λe=>?_) λe=>Wd (by have:=WN e;omega);have e:k<x.P.length:=Wv e;rw[Xe (n:=k+1) ab ab];refine Ok.get h0 e λp _=>Ub ab ?_;refine(Xdy hp n (k+1) _ ab ab ab ai).mono λr j=>?_;grind
def Xiw(hN:NB N)(f:EB x):Ok (Qc5 N x) λr=>r.length=x.R.length+(bif Yx x.l then XL x.l.S else[]).length+(bif Yw x.g.e then Xu x.g.e else[]).length+x.P.length:=by have h:=hN;unfold NB at h;have j:=f.roots;have hp:=f.pins;have k:=YU f.loc;have p:=X7 x.g.e;refine Ub ab ?_;rw[YX f.loc ab,Xa];refine Ub ab ?_;rw[X0 f.glo ab,Xa];refine Ub ab (WJ (Xdy hp N 0 _ ab ab ab ai) λr _ j=>Wd ?_);grind
def XjH(h:Wh×List Int×List Int×WV×Int)(e f:List Int)(j:Ws×Int)(q s:WG×Int)(hp:x.P.length<=1000000)(u:x.R.length<=100000)(w:e.length<=4096)(y:f.length<=64)(z:h.2.1.length=x.R.length+e.length+f.length+x.P.length):∀(n:Nat) (k:Int) (v:List UE),0<=k->k<=x.P.length->(x.P.length-k).toNat<n->(v.length:Int)=k->Ok (QaX N x h e f j q s n k v) λr=>r.length=x.P.length
 |0,k,v,_,_,A,_=>by omega
 |n+1,k,v,h0,B,A,D=>by refine Wp (λg=>?_) λg=>Wd (by grind);have g:k<x.P.length:=Wv g;rw[Xe (n:=k+1) ab ab,Xe (n:=(x.R.length:Int)+(e.length:Int)) ab ab,Xe (n:=(x.R.length:Int)+(e.length:Int)+(f.length:Int)) ab ab,Xe (n:=(x.R.length:Int)+(e.length:Int)+(f.length:Int)+k) ab ab];refine Ok.get ab ab λ_ _=>Ok.get h0 g λp _=>Ub ab ?_;exact XjH h e f j q s hp u w y z n (k+1) _ ab ab ab (by simp_all)
def Xcm(hN:NB N)(f:EB x):Ok (Qbx N x) λr=>EB r.1:=by
 have j:=hN;unfold NB at j;have y:=f.roots;have hp:=f.pins;refine WJ (Jg hN f) λb _ h=>Wp (λ_=>Wd Xdx) λk=>?_;have h:=h (by simpa using k);have z:=h.mat.len;have p:=YU f.loc;have q:=X7 x.g.e;have A:=X7 x.v.e;refine WJ (Xiw hN f) λV _ u=>?_;rw[h.loc,h.glo]at u;rw[h.loc]at p;rw[h.glo]at q;rw[X0 f.wea ab,Xa];simp at u p q A⊢;refine WJ (Qjv hN f.heap ab ab) λB _ w=>Wp (λ_=>Wd Xdx) λD=>?_;have⟨g1,g2⟩:=w.len (by simpa using D);rw[YX f.loc ab,Xa,X0 f.glo ab,Xa,h.loc,h.glo];simp;have E:=Xe (n:=(x.R.length:Int)+(((XL x.l.S).length:Nat):Int)) ab ab;have G:=Xe (n:=(x.R.length:Int)+(((XL x.l.S).length:Nat):Int)+(((Xu x.g.e).length:Nat):Int)) ab ab;refine Ub ab (Ub ab (Ub ab (Ub ab ?_)));refine WJ (Xm4 f.loc ab (by rw[Wl,Wo];omega)) λI _ J=>Ub (by rw[E,G];omega) ?_;refine WJ (Xha f.glo ab (by rw[Wl,Wo];omega)) λK _ L=>?_;refine WJ (Xha f.wea ab ab) λM _ O=>?_;refine WJ (XjH B (XL x.l.S) (Xu x.g.e) I K M hp y p q ab N 0 [] ab ab ab rfl) λs _ U=>Wd ⟨w.hb,J,L,O,?_,?_⟩
 .show s.length<=_;omega
 grind
def Xk1(hN:NB N)(e:EB x)(d:Wx):Ok (Qel N x d) λr=>EB r.1:=by
 refine WJ (Jg hN e) λb _ k=>Wp (λ_=>Wd Xdx) λg=>?_;refine WJ (XjG hN e.heap d) λp _ h=>Ir (Wp (λ_=>WJ (Xcm hN e) λq _ f=>Wp (λ_=>Wd Xdx) λ_=>WJ (XjG hN f.heap d) λs _ j=>?_) λ_=>?_)
 .exact Wp (λ_=>Wd Xdx) λ_=>Wd ⟨j,f.loc,f.glo,f.wea,f.pins,f.roots⟩
 exact Wp (λ_=>Wd Xdx) λ_=>Wd ⟨h,e.loc,e.glo,e.wea,e.pins,e.roots⟩
def ZF(hN:NB N)(e:EB x)(v:Int):Ok (QaY N x v) λr=>True:=by
 have f:=hN;unfold NB at f;refine WJ (Jg hN e) λb _ h=>Wp (λ_=>Wd trivial) λg=>Wp (λ_=>Wd trivial) λ_=>?_;refine WJ (XbS v) λy _ _=>Wp (λ_=>Wd trivial) λ_=>Wp (λ_=>?_) λ_=>Wp (λ_=>?_) λ_=>?_
 .rw[XcG e.loc ab,Xa];exact Wd trivial
 .rw[Vv e.glo ab,Xa];exact Wd trivial
 rw[Vv e.wea ab,Xa];exact Wd trivial
end
def Om{β κ:Type}{P:β->Prop}{k:κ->Option β}{f:(κ->Option β)->Option β}(h:∀x,Ok (k x) P)(g:∀j:κ->Option β,(∀x,Ok (j x) P)->Ok (f j) P):Ok (Sx.jn k f) P:=by simp_all[XF]
def Uw{β:Type}{P:β->Prop}{b:Bool}{x y:Option β}(e:Ok x P)(f:Ok y P):Ok (bif b then x else y) P:=by grind
def Uz{α β:Type}{P:β->Prop}{o:Option α}{Q:α->Prop}{f:α->Option β}(h:Ok o Q)(k:∀y,Q y->Ok (f y) P):Ok (Sx.bnd o f) P:=WJ h λy _ e=>k y e
def Ok.t{α:Type}{o:Option α}{P:α->Prop}(h:Ok o P):Ok o λ_=>True:=h.mono λ_ _=>trivial
section
variable {N:Nat}{x:Um}
abbrev EP(r:Um×Int×Int):Prop:=EB r.1
def Xk2(e:Int):Ok (Qab N e) EP:=by exact Wd Xdx
def XK(e:Int):Ok (bnd (Qab N e) λy=>some (y.1,y.2.1,y.2.2)) EP:=Uz (Xk2 e) λy f=>Wd f
def Xm5(a b c:Int):Ok (QcA N a b c) λ_=>True:=by exact Uw (Uw (Wd trivial) (Wd trivial)) (Wd trivial)
def Xao(hN:NB N)(e:EB x)(a:Int):Ok (QcB N x a) EP:=by have f:=hN;unfold NB at f;refine Uw (Wd e) ?_;rw[Xal e.loc ab,Xa];exact Uw (XK _) (Uz (YT _) λy _=>Wd ⟨e.heap,XjA e.loc a,e.glo,e.wea,e.pins,e.roots⟩)
def Xix(hN:NB N)(f:EB x)(a b c:Int):Ok (QdH N x a b c) EP:=by have e:=hN;unfold NB at e;refine Uw (XK _) (Uz (Xm5 _ _ _) λy _=>Ir (Uw (XK _) (Uz (XjF hN _ _) λz _=>Uw (XK _) ?_)));rw[Xal f.loc ab,Xa];exact Uw (XK _) (Uz (Xk1 hN f _) λj g=>Uw (XK _) (Uz (Xao hN g _) λk h=>Wd h))
def Xap(hN:NB N)(e:EB x)(a:Int):Ok (QbV N x a) λ_=>True:=by exact Uz (ZF hN e a) λy _=>Uw (Uw (Wd trivial) (Wd trivial)) (Wd trivial)
def XeQ(hN:NB N)(e:EB x)(a b:Int)(c:Bool):Ok (Qc0 N x a b c) λ_=>True:=by refine Uz (Xap hN e a) λy _=>Uw (Wd trivial) (Uz (Xdl hN e.heap _) λz _=>Uw (Wd trivial) ?_);rw[JC,Xa];exact Uw (Wd trivial) (Wd trivial)
def Xk3(hN:NB N)(e:EB x)(a b c d:Int):Ok (Qc2 N x a b c d) EP:=by
 have k:∀i j v:Int,Ok (α:=Um×Int×Int) (bnd (Qci N x.h i j v) λf=>some ((Um.mk f.1 x.l x.g x.v x.P x.R),0,0)) EP:=λi j v=>
  Uz (XgZ hN e.heap i j v) λy p=>Wd ⟨p,e.loc,e.glo,e.wea,e.pins,e.roots⟩
 refine Ir (Uw (Uz (XeQ hN e _ _ _) λy _=>?_) (Uz (XeQ hN e _ _ _) λy _=>?_))<;>
 exact Uw (XK _) (Uz (XgY hN e.heap _ _) λz _=>Uw (Wd e) (Uw (Uz (Xao hN e _) λr q=>Wd q) (Ir (Uw (Uz (ZF hN e _) λs _=>Uw (XK _) (k _ _ _)) (k _ _ _)))))
def Xk4(hN:NB N)(e:EB x)(a b c:Int):Ok (QcD N x a b c) EP:=by refine Om (λh=>Uw (Uz (Xap hN e _) λy _=>Uw (XK _) (Uz (Xdl hN e.heap _) λz _=>Uw (Wd e) (Wd e))) (Uw (Uz (ZF hN e _) λy _=>Uw (XK _) (Uz (ZF hN e _) λz _=>Uw (XK _) (Uw (Wd e) (Wd e)))) (Uz (ZF hN e _) λy _=>Uw (XK _) (Uz (Xao hN e _) λz g=>Wd g)))) λj f=>Uw (f _) (f _)
def Xhi(hN:NB N)(f:EB x)(a b:Int):Ok (Qdk N x a b) EP:=by
 have j:=hN;unfold NB at j;refine Uz (Xap hN f _) λy _=>Uw (XK _) (Ir (Uw ?_ ?_))
 .show Ok (bnd (QcS N ⟨x.v.e⟩ y.1) _) EP;rw[JE (t:=⟨x.v.e⟩) f.wea ab,Xa];have h:=XjD (t:=⟨x.v.e⟩) f.wea y.1;exact Uw (XK _) (Ir (Uw (Uz (YT _) λz _=>Wd ⟨f.heap,f.loc,f.glo,h,f.pins,f.roots⟩) (Uz (YT _) λz _=>Wd ⟨f.heap,f.loc,h,f.wea,f.pins,f.roots⟩)))
 show Ok (bnd (QcS N ⟨x.g.e⟩ y.1) _) EP;rw[JE (t:=⟨x.g.e⟩) f.glo ab,Xa];have h:=XjD (t:=⟨x.g.e⟩) f.glo y.1;exact Uw (XK _) (Ir (Uw (Uz (YT _) λz _=>Wd ⟨f.heap,f.loc,f.glo,h,f.pins,f.roots⟩) (Uz (YT _) λz _=>Wd ⟨f.heap,f.loc,h,f.wea,f.pins,f.roots⟩)))
def Xiy(hN:NB N)(e:EB x)(a b:Int):Ok (QdK N x a b) EP:=by
 have f:=hN;unfold NB at f;refine Uw (XK _) (Uz (ZF hN e _) λy _=>Uw (XK _) (Uz (XbS _) λz _=>Om (λ_=>Uw ?_ (Uw ?_ ?_)) λg h=>Om (λ_=>XK _) λj k=>?_))
 .rw[XfL e.loc ab,Xa];exact Wd ⟨e.heap,XjB e.loc _ _,e.glo,e.wea,e.pins,e.roots⟩
 .rw[Xan e.glo ab,Xa];exact Wd ⟨e.heap,e.loc,XjE e.glo _ _,e.wea,e.pins,e.roots⟩
 .rw[Xan e.wea ab,Xa];exact Wd ⟨e.heap,e.loc,e.glo,XjE e.wea _ _,e.pins,e.roots⟩
 grind
def Xiz(hN:NB N)(e:EB x)(a b:Int):Ok (QdL N x a b) EP:=by
 have f:=hN;unfold NB at f;refine Uw (Uw (XK _) ?_) (Uz (ZF hN e _) λy _=>Uw (XK _) ?_)
 .rw[Xbk e.loc ab,Xa];exact Uw (XK _) (Wd ⟨e.heap,Xg8 e.loc _,e.glo,e.wea,e.pins,e.roots⟩)
 rw[XcH e.loc ab,Xa];exact Uw (XK _) (Uz (Xao hN (x:=⟨x.h,(Zv x.l).1,x.g,x.v,x.P,x.R⟩) ⟨e.heap,XfM e.loc,e.glo,e.wea,e.pins,e.roots⟩ _) λz j=>Wd j)
def Xm6(hN:NB N)(e:EB x)(a b:Int):Ok (QeQ N x a b) EP:=by refine Uz (Xap hN e _) λy _=>Uw (XK _) (Uw (Uz (Xiv hN e.heap e.pins _) λz f=>Uw (XK _) (Wd ⟨f.1,e.loc,e.glo,e.wea,f.2,e.roots⟩)) (Uz (Xk0 hN e.heap e.pins _) λz f=>Uw (XK _) (Wd ⟨f.1,e.loc,e.glo,e.wea,f.2,e.roots⟩)))
def Xm7(hN:NB N)(f:EB x)(op a b c:Int):Ok (Qag N x op a b c) EP:=by
 have thr:∀{o:Option (Um×Int×Int)},Ok o EP->Ok (bnd o λy=>some (y.1,y.2.1,y.2.2)) EP:=λh=>Uz h λy k=>Wd k;refine Uz (Jg hN f) λp _=>Uw (XK _) ?_;refine Om (λe=>Uw (thr (Xix hN f _ _ _)) ?_) λq g=>?_
 .refine Om (λe=>Uw (thr (Xk3 hN f _ _ _ _)) ?_) λj h=>?_
  .refine Om (λe=>Uw (thr (Xk4 hN f _ _ _)) ?_) λj h=>?_
   .refine Om (λe=>Uw (thr (Xhi hN f _ _)) ?_) λj h=>?_
    .refine Om (λe=>Uw (thr (Xiy hN f _ _)) ?_) λj h=>?_
     .refine Om (λe=>Uw (thr (Xiz hN f _ _)) ?_) λj h=>?_
      .refine Om (λe=>Uw (thr (Xm6 hN f _ _)) (XK _)) λj h=>Uw (h _) (h _)
      exact Uw (h _) (h _)
     exact Uw (h _) (Om (λe=>h _) λj h=>Uw (h _) (h _))
    grind
   exact Uw (h _) (Om (λe=>h _) λj h=>Uw (h _) (Om (λe=>h _) λj h=>Uw (h _) (h _)))
  exact Uw (h _) (Om (λe=>h _) λj h=>Uw (h _) (Om (λe=>h _) λj h=>Uw (h _) (h _)))
 exact Uw (g _) (Om (λe=>g _) λj h=>Uw (h _) (h _))
end
structure WB(k:Nat)(w:WQ):Prop where
 kk:k<=900
 things:w.T.length<=k
 fields:∀x∈w.T,x.D.length<=1000
 loc:LBp w.l
 gloK:w.g.e.length<=1000+k
 weaK:w.v.e.length<=1000+k
 marksK:w.m.length<=100+k
 rootsK:w.R.length<=100+k
def WB.glo{k:Nat}{w:WQ}(h:WB k w):TB w.g:=by have:=h.kk;have:=h.gloK;unfold TB;omega
def WB.wea{k:Nat}{w:WQ}(h:WB k w):TB w.v:=by have:=h.kk;have:=h.weaK;unfold TB;omega
def WB.marks{k:Nat}{w:WQ}(h:WB k w):w.m.length<=1000:=by have:=h.kk;have:=h.marksK;omega
def WB.roots{k:Nat}{w:WQ}(h:WB k w):w.R.length<=1000:=by have:=h.kk;have:=h.rootsK;omega
def V2(d:Wx):Nat->List Int->List Int
 |_,[]=>[]
 |k,f::e=>if Jt d k then f::V2 d (k+1) e else V2 d (k+1) e
def XeR(x:In):List Int:=V2 x.H 0 x.D
def XbT(d:Wx):∀(k:Nat) (l:List Int),(V2 d k l).length<=l.length
 |k,[]=>by simp[V2]
 |k,f::e=>by have:=XbT d (k+1) e;unfold V2;grind
def ZZ(n:Nat)(l:List Int):Bool:=l.all λp=>!decide (p>(n:Int))
def ZQ(l:List IA)(id:Int):Int:=match l.findIdx? (λm=>m.I==id)with|some k=>(k:Int)|none=>-1
def Xdz(n:Nat)(x:In):Bool:=XN x.H&&(!(x.H.k==0)&&(!((x.D.length:Int) != x.H.n)&&ZZ n (XeR x)))
def XjI(n:Nat)(l:List IA)(_:Unit)(i:Nat)(m:IA):Bool:=!decide (m.I<1)&&(!decide (m.I>(n:Int))&&(!(ZQ l m.I != (i:Int))&&(!decide (m.M<1)&&!decide (m.M>1000))))
def XfN(n:Nat)(l:List IA):Bool:=YP (XjI n l) (λs _=>s) () 0 l
def YQ(w:WQ):Bool:=X8 w.c&&(Yx w.l&&(Yw w.g.e&&(Yw w.v.e&&(!decide ((w.m.length:Int)>64)&&(w.T.all (Xdz w.T.length)&&(((Xu w.g.e).all λp=>!(p==0))&&(XfN w.T.length w.m&&(ZZ w.T.length w.R&&(ZZ w.T.length (XL w.l.S)&&(ZZ w.T.length (Xu w.g.e)&&ZZ w.T.length (Xu w.v.e)))))))))))
section
variable {N:Nat}{w:WQ}
def Ve(ht:w.T.length<=1000){l:List Int}(g:l.length<=1000000)(hN:1000000<N):Qc9 N w l=some (ZZ w.T.length l):=by
 have h:=JD (l:=l) (F:=Qc8 N w l) (q:=λ_ p=>!decide (p>(w.T.length:Int))) (λn k p e=>by
  have f:=XD e
  rw[Qc8,Xl f,Wc,Xf,e,Xa,Xg ab,XE ab ab]
  cases decide (p>(w.T.length:Int))<;>rfl) (λn=>by rw[Qc8,XG,Wa]) (n:=N) ab
 rw[Z5]at h;rw[Qc9,h,Xa,ZZ];cases l.all λp=>!decide (p>(w.T.length:Int))
 .rw[Wa,Xy]
 simp[Wc,Xo]
def XdA{x:In}(e:x.D.length<=1000000):∀(n k:Nat) (v:List Int),k<=x.D.length->x.D.length-k<n->v.length<=k->QdV N x n (k:Int) v=some (v++V2 x.H k (x.D.drop k))
 |0,k,v,_,f,_=>by omega
 |n+1,k,v,j,f,g=>by
  rw[QdV];by_cases h:k<x.D.length
  .rw[Xl h,Wc,JC,Xa,Xg ab,Wm h,V2];cases hp:Jt x.H (k:Int)
   .rw[Wa,Wk ac,XdA e n (k+1) v ab ab ab]
   rw[Wc,Wn rfl,Xf,Wb h,Xa,Xb ab,XdA e n (k+1) _ ab ab (by simp_all)];simp
  obtain rfl:k=x.D.length:=ab;simp[V2]
def Xhj{x:In}(e:x.D.length<=1000000)(hN:1000000<N):Qf9 N x=some (XeR x):=by have h:=XdA (N:=N) (x:=x) e N 0 [] ab ab ac;rw[show((0:Nat):Int)=0 from rfl,W3,Ue]at h;rw[Qf9,h,Xa];rfl
def XjJ(id:Int)(e:w.m.length<=1000000):∀(n k:Nat),k<=w.m.length->w.m.length-k<n->QeD N w id n (k:Int)=some (match (w.m.drop k).findIdx? (λm=>m.I==id)with|some j=>.ret ((k+j:Nat):Int)|none=>.nxt ())
 |0,k,_,f=>by omega
 |n+1,k,g,f=>by
  rw[QeD];by_cases h:k<w.m.length
  .rw[Xl h,Wc,Xf,Wb h,Xa,Xg ab,Wm h,List.findIdx?_cons];cases p:(w.m[k].I==id)
   .rw[Wa,XjJ id e n (k+1) ab ab,Wk ac];cases (w.m.drop (k+1)).findIdx? (λm=>m.I==id)with
    |none=>rfl
    |some j=>simp only[Ic];rw[show k+1+j=k+(j+1) by omega]
   simp
  grind
def XfO(e:w.m.length<=1000000)(hN:1000000<N)(id:Int):Qfq N w id=some (ZQ w.m id):=by
 have h:=XjJ (N:=N) id e N 0 ab ab;rw[show((0:Nat):Int)=0 from rfl,W3]at h;rw[Qfq,h,Xa,ZQ];cases w.m.findIdx? (λm=>m.I==id)with
 |none=>simp[Xo]
 |some j=>simp[Xy,UG]
def Xhk{a:Ws}(h:Yx a=true):(XL a.S).length<=4096:=by have e:=X9.1 h;have:=e.slots;have:=e.iss;have:=Xak a.S;omega
def Xbm{l:List W8}(h:Yw l=true):(Xu l).length<=64:=by have:=Jv h;have:=Vb l;omega
def XcI{k:Nat}(hw:WB k w)(hN:1000000<N):Qei N w=some (YQ w):=by
 have f:=hw.kk;have ht:=hw.things;have E:=hw.marks;have G:=hw.roots;rw[Qei,Zm,Xa,YQ];cases X8 w.c
 .rfl
 rw[Wi,Wa,Zx hw.loc hN,Xa,Uc];cases h:Yx w.l
 .rfl
 rw[Wi,Wa,YV hw.glo hN,Xa,Uc];cases j:Yw w.g.e
 .rfl
 rw[Wi,Wa,YV hw.wea hN,Xa,Uc];cases r:Yw w.v.e
 .rfl
 rw[Wi,Wa,Uc];cases decide ((w.m.length:Int)>64);rotate_left
 .rfl
 rw[Wa,Ui,Uc];have s:=JD (l:=w.T) (F:=Qdt N w) (q:=λ_=>Xdz w.T.length) (λn k p e=>by
  have f:=XD e
  have y:=hw.fields p (W7 e)
  have z:=XbT p.H 0 p.D
  rw[Qdt,Xl f,Wc,Xf,e,Xa,ZM,Xa,Xhj ab hN,Xa,Ve ab (by unfold XeR;omega) hN,Xa,Xg ab]
  unfold Xdz
  grind) (λn=>by rw[Qdt,XG,Wa]) (n:=N) ab
 rw[Z5]at s;rw[s,Xa];cases w.T.all (Xdz w.T.length)
 .simp[Wa,Xy]
 rw[Wc,Xo,X0 hw.glo hN,Xa,j,Wc,Uc];have A:=Xbm j;have u:=JD (l:=Xu w.g.e) (F:=Qdu N w (Xu w.g.e)) (q:=λ_ p=>!(p==0)) (λn k p e=>by
  have f:=XD e
  rw[Qdu,Xb ab,Xl f,Wc,Xf,e,Xa,Xg ab]
  simp) (λn=>by rw[Qdu,Xb ab,XG,Wa]) (n:=N) ab
 rw[Z5]at u;rw[u,Xa];cases (Xu w.g.e).all λp=>!(p==0)
 .simp[Wa,Xy]
 rw[Wc,Xo,Uc];have B:=JD (l:=w.m) (F:=Qdv N w (Xu w.g.e)) (q:=XjI w.T.length w.m ()) (λn k p e=>by
  have f:=XD e
  rw[Qdv,Xl f,Wc,Xf,e,Xa,XfO ab hN,Xa,Xg ab,XE ab ab]
  unfold XjI
  grind) (λn=>by rw[Qdv,XG,Wa]) (n:=N) ab
 rw[B,Xa];show exK (bif XfN w.T.length w.m then Ex.nxt ()else Ex.ret false) _ _=_;cases XfN w.T.length w.m
 .simp[Wa,Xy]
 rw[Wc,Xo,Ve ab ab hN,Xa,Uc];cases ZZ w.T.length w.R
 .rfl
 have I:=Xhk h;rw[Wc,YX hw.loc hN,Xa,h,Wc,Ve ab ab hN,Xa,Uc];cases ZZ w.T.length (XL w.l.S)
 .rfl
 rw[Wc,Ve ab ab hN,Xa,Uc];cases ZZ w.T.length (Xu w.g.e)
 .rfl
 have s3:=Xbm r;rw[Wc,X0 hw.wea hN,Xa,r,Wc,Ve ab ab hN,Xa,Uc]
end
end Go.Sx
