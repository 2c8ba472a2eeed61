import Derived.Test.YtokkmapiallffaaGreatWD
set_option linter.all false
namespace Go.Sx
def YF(v:Int):Iu×Int:=
 if v=0 then(⟨0,0,0⟩,5)else if 1<=v % 4/\1<=v / 262144/\v / 262144<=4294967295 then(⟨v % 4,v / 4 % 65536,v / 262144⟩,0)else(⟨0,0,0⟩,6)
def XfP{N:Nat}{v:Int}(g:tU v):QcC N v=some (YF v):=by
 have⟨f,j⟩:=g;rw[QcC,YF];by_cases k:v=0
 .simp_all
 rw[show(v==0)=false by simp_all,Wa,Wk k];have o:Zu .u64 v 3=v % 4:=Y9 v 2 ab f j;have p:YL .u64 v 2=v / 4:=Y8 v 2 ab f;have q:Zu .u64 (v / 4) 65535=v / 4 % 65536:=Y9 (v / 4) 16 ab ab ab;have r:YL .u64 v 18=v / 262144:=Y8 v 18 ab f;rw[p,o,q,r,Xe (n:=v % 4) ab ab,Xe (n:=v / 4 % 65536) ab ab,Xe (n:=v / 262144) ab ab,Qb8,QgX];have s:∀x:Int,Kj .u64 x 2=wU (x*4):=λ_=>rfl;have u:∀x:Int,Kj .u64 x 18=wU (x*262144):=λ_=>rfl;rw[Wg (show v / 4 % 65536>=0 by omega),Wg (show v / 4 % 65536<=65535 by omega),Wg (show v % 4<=3 by omega)];simp only[Wc];by_cases g1:v % 4>=1
 .rw[Wg g1,Wc];by_cases g2:v / 262144>=1
  .rw[Wg g2,Wc,Xa];by_cases g3:v / 262144<=4294967295
   .rw[Wg g3,Wi,Wa,Xa,Wn ⟨g1,g2,g3⟩];have e:wU (wU (wU (v % 4)+Kj .u64 (wU (v / 4 % 65536)) 2)+Kj .u64 (wU (v / 262144)) 18)=v:=by rw[s,u,XE (n:=v % 4) ab ab,XE (n:=v / 4 % 65536) ab ab,XE (n:=v / 262144) ab ab,XE (n:=v / 4 % 65536*4) ab ab,XE (n:=v / 262144*262144) ab ab,XE (n:=v % 4+v / 4 % 65536*4) ab ab,XE ab ab];omega
    simp_all
   rw[We g3,Ui,Wc,Xa,Wk (λh=>g3 h.2.2)];rfl
  rw[We g2,Wa,Xa,Ui,Wc,Xa,Wk (λh=>g2 h.2.1)];rfl
 rw[We g1,Wa,Xa,Ui,Wc,Xa,Wk (λh=>g1 h.1)];rfl
def Z7(w:WQ)(v:Int):Int×Int:=
 if v=0 then(0,0)else if(YF v).2≠0 then(0,(YF v).2)else
 if(YF v).1.Tag=1 then Y2 w.l (YF v).1.Index (YF v).1.J else
 if(YF v).1.Tag=2 then Y1 w.g.e (YF v).1.Index (YF v).1.J else Y1 w.v.e (YF v).1.Index (YF v).1.J
def XR(w:WQ)(a:Int):Int×Int:=if(Z7 w a).2=0/\(Z7 w a).1=0 then(0,5)else Z7 w a
structure WF(w:WQ):Prop where
 conf:X8 w.c=true
 loc:Yx w.l=true
 glo:Yw w.g.e=true
 wea:Yw w.v.e=true
 m64:w.m.length<=64
 thing:∀x∈w.T,XN x.H=true/\x.H.k≠0/\(x.D.length:Int)=x.H.n/\∀r∈XeR x,r<=w.T.length
 mark:XfN w.T.length w.m=true
 roots:∀r∈w.R,r<=w.T.length
 rloc:∀r∈XL w.l.S,r<=w.T.length
 rglo:∀r∈Xu w.g.e,r<=w.T.length
 rwea:∀r∈Xu w.v.e,r<=w.T.length
def Jw{n:Nat}{l:List Int}:ZZ n l=true↔∀r∈l,r<=n:=by unfold ZZ;simp
def Jh{w:WQ}(h:YQ w=true):WF w:=by unfold YQ at h;simp only[WI,U7,Ix]at h;have⟨j,k,o,p,v,q,y,r,s,e,f,g⟩:=h;refine⟨j,k,o,p,ab,λx u=>?_,r,Jw.1 s,Jw.1 e,Jw.1 f,Jw.1 g⟩;have:=(W0.1 q) x u;unfold Xdz at this;simp at this;exact⟨this.1,this.2.1,this.2.2.1,Jw.1 this.2.2.2⟩
def WF.mk_{w:WQ}(h:WF w){k:Nat}{m:IA}(e:w.m[k]? = some m):1<=m.I/\m.I<=w.T.length/\1<=m.M/\m.M<=1000:=by have:=(Ze w.m () 0).1 h.mark k m e;unfold XjI at this;simp_all
def Xk5{l:List UI}{p:UI}(hp:p∈l)(e:p.V=true):p.a∈XL l:=by unfold XL;grind
def Xk6{l:List W8}{p:W8}(hp:p∈l)(e:p.V=true):p.a∈Xu l:=by unfold Xu;grind
def XiA(a:Ws)(i g:Int):(Y2 a i g).2=0\/(Y2 a i g).1=0:=by
 unfold Y2;split
 .exact .inr rfl
 split
 .exact .inr rfl
 split
 .exact .inr rfl
 split
 .exact .inr rfl
 split
 .exact .inr rfl
 split
 .exact .inr rfl
 split
 .exact .inl rfl
 omega
def XiB(l:List W8)(i g:Int):(Y1 l i g).2=0\/(Y1 l i g).1=0:=by unfold Y1;grind
def XpS{w:WQ}(h:WF w)(v:Int):(Z7 w v).1<=w.T.length:=by
 have g:∀i g,(Y2 w.l i g).1<=w.T.length:=by
  intro i g;by_cases f:(Y2 w.l i g).2=0
  .have⟨_,_,p,hp,_,j,e⟩:=Xam f;rw[e];exact h.rloc _ (Xk5 (W7 hp) j)
  have:=(XiA w.l i g).resolve_left f;omega
 have t:∀(t:WG),(∀r∈Xu t.e,r<=w.T.length)->∀i g,(Y1 t.e i g).1<=w.T.length:=by
  intro t ht i g;by_cases f:(Y1 t.e i g).2=0
  .have⟨_,_,p,hp,_,j,e⟩:=Vc f;rw[e];exact ht _ (Xk6 (W7 hp) j)
  have:=(XiB t.e i g).resolve_left f;omega
 unfold Z7;split
 .simp
 split
 .simp
 split
 .simp_all
 split
 .exact t _ h.rglo _ _
 exact t _ h.rwea _ _
section
variable {N:Nat}{w:WQ}{k:Nat}
def JP(hw:WB k w)(hN:1000000<N)(h:YQ w=true){v:Int}(j:tU v):QaE N w v=some (Z7 w v):=by
 rw[QaE,XcI hw hN,Xa,h,Wi,Wa,Z7];by_cases e:v=0
 .rw[Wn e,e];rfl
 rw[Wk e,show(v==0)=false by simpa using e,Wa,XfP j,Xa];by_cases o:(YF v).2=0
 .rw[o,show((0:Int) != 0)=false from rfl,Wa,Wk ac];by_cases f:(YF v).1.Tag=1
  .rw[Wn f,f,show((1:Int)==1)=true from rfl,Wc,XcG hw.loc hN,Xa]
  rw[Wk f,show((YF v).1.Tag==1)=false by simpa using f,Wa];by_cases g:(YF v).1.Tag=2
  .rw[Wn g,g,show((2:Int)==2)=true from rfl,Wc,Vv hw.glo hN,Xa]
  rw[Wk g,show((YF v).1.Tag==2)=false by simpa using g,Wa,Vv hw.wea hN,Xa]
 grind
def Xbn(hw:WB k w)(hN:1000000<N)(e:YQ w=true){v:Int}(f:tU v):Qem N w v=some (XR w v):=by rw[Qem,JP hw hN e f,Xa,XR];grind
end
def zTh:In:=⟨⟨0,0,0⟩,[]⟩
def thg(w:WQ)(id:Int):In:=w.T.getD (id-1).toNat zTh
def JQ(a:Ws)(id:Int):Int:=if id=0 then 0 else(Z2 a id).2.2.2
def okW(op a b:Int):Prop:=a<=2147483647/\(op=1->b<=4294967295)
instance(op a b:Int):Decidable (okW op a b):=by unfold okW;infer_instance
def hdW(op a b:Int):Wx:=⟨op,a,if op=1 then b else 0⟩
def Xcn(c:WR)(d:Wx):Bool:=XN d&&(d.k != 0&&XH c (XM d) != -1)
def Xbo(w:WQ)(op a b:Int)(failed:Bool):Int:=
 if w.m.length>0 then 15 else if¬okW op a b then 1 else if Xcn w.c (hdW op a b)=false then 1 else
 if JQ w.l 1≠0 then JQ w.l 1 else if failed then 3 else 0
def XdB(op:Int):Bool:=op==8||op==9
def XcJ(w:WQ)(op a b c:Int):Int:=
 if(XR w a).2≠0 then(XR w a).2 else if b>=(thg w (XR w a).1).H.n then 2 else
 if Jt (thg w (XR w a).1).H b≠XdB op then 4 else
 if op=8 then JQ w.l ((thg w (XR w a).1).D.getD b.toNat 0)else if op=9 then(Z7 w c).2 else 0
def XdC(w:WQ)(op a:Int):Int:=
 if a=0 then 5 else if(Z7 w a).2≠0 then(Z7 w a).2 else
 if(YF a).1.Tag≠(if op=16 then 3 else if op=14 then 2 else 1)then 4 else 0
def XiC(w:WQ)(op a:Int):Int:=
 if(XR w a).2≠0 then(XR w a).2 else(ZE (if op=15 then w.v else w.g) (XR w a).1).2.2.2
def XfQ(w:WQ)(op a:Int):Int:=
 if op=17 then(if a>64 then 1 else(KG w.l a).2)else
 if(Z7 w a).2≠0 then(Z7 w a).2 else if(Zv w.l).2≠0 then(Zv w.l).2 else JQ (Zv w.l).1 (Z7 w a).1
def Xhl(l:List IA)(i:Int):IA:=l.getD i.toNat ⟨0,0,0⟩
def XjK(w:WQ)(op a:Int)(failed:Bool):Int:=
 if(XR w a).2≠0 then(XR w a).2 else
 if op=20 then(if ZQ w.m (XR w a).1<0 then 12 else 0)else
 if 0<=ZQ w.m (XR w a).1/\(Xhl w.m (ZQ w.m (XR w a).1)).M=1000 then 18 else
 if ZQ w.m (XR w a).1<0/\w.m.length=64 then 18 else if failed then 18 else 0
def XdD(w:WQ)(op a b:Int):Int:=
 if op=4\/op=5 then(XR w a).2 else if(Z7 w a).2≠0 then(Z7 w a).2 else
 if op=10 then(Z7 w b).2 else JQ w.l (Z7 w a).1
def Xm8(w:WQ)(op a b c:Int)(failed:Bool):Int:=
 if YQ w=false then 19 else
 if op=1\/op=2\/op=3 then Xbo w op a b failed else
 if op=6\/op=7\/op=8\/op=9 then XcJ w op a b c else
 if op=12\/op=14\/op=16 then XdC w op a else
 if op=13\/op=15 then XiC w op a else
 if op=17\/op=18 then XfQ w op a else
 if op=19\/op=20 then XjK w op a failed else
 if op=4\/op=5\/op=10\/op=11 then XdD w op a b else 1
def Xm{a b:Int}(h:¬a=b):(a==b)=false:=by simp_all
def Xv{a b:Int}(h:a=b):(a==b)=true:=by simp_all
def Z6{a b:Int}(h:a=b):(a != b)=false:=by simp_all
def Xn{a b:Int}(h:¬a=b):(a != b)=true:=by simp_all
section
variable {N:Nat}{w:WQ}{k:Nat}
def XpT(hw:WB k w)(f:YQ w=true)(tw:X1 w){v:Int}(e:tU v):tU (Z7 w v).1:=by have:=QiB (N:=1000001) tw e;exact this _ (JP (N:=1000001) hw ab f e)
def XeS(hw:WB k w)(e:YQ w=true)(tw:X1 w){v:Int}(f:tU v)(h:(XR w v).2=0):1<=(XR w v).1/\(XR w v).1<=w.T.length/\XR w v=Z7 w v:=by
 have g:=XpT hw e tw f;have j:=XpS (Jh e) v;unfold XR at h⊢;by_cases o:(Z7 w v).2=0/\(Z7 w v).1=0
 .simp_all
 unfold tU at g;grind
def JF(hw:WB k w){id:Int}(g:1<=id)(h:id<=w.T.length):Xd w.T (wU (id-1))=some (thg w id)/\thg w id∈w.T:=by
 have j:=hw.kk;have ht:=hw.things;have e:=Wb (show(id-1).toNat<w.T.length by omega);have f:thg w id=w.T[(id-1).toNat]'ab:=by unfold thg;rw[Wj,e];rfl
 rw[XE ab ab,Yi ab ab,f];simp
def Vx(e:LBp w.l)(hN:1000000<N)(id:Int):Qc3 N w.l id=some (JQ w.l id):=by
 rw[Qc3,JQ];by_cases h:id=0
 .rw[Wn h,h];rfl
 simp[Wk,h,Xm,Wa,Xal,e,hN,Xa]
def Xhm{a:Ws}(e:LBp a)(hN:1000000<N)(id:Int):Qc3 N a id=some (JQ a id):=Vx (w:=⟨⟨0,0⟩,[],a,zT,zT,[],[]⟩) e hN id
def XdE(op:Int){a b:Int}(ta:tU a)(tb:tU b):∃d,QcA N op a b=some (d,decide (okW op a b))/\(okW op a b->d=hdW op a b):=by
 unfold tU at ta tb;have f:a<=2147483647->wI (Zu .u64 a 2147483647)=a:=λh=>by have:Zu .u64 a 2147483647=a % 2147483648:=Y9 a 31 ab ta.1 ta.2;rw[this,Xe ab ab];omega
 rw[QcA];by_cases g:op=1
 .rw[Xv g,Wc];by_cases j:a<=2147483647
  .rw[Wg j,Wc];refine⟨⟨op,wI (Zu .u64 a 2147483647),wW b⟩,?_,λh=>?_⟩
   .exact congrArg (λx=>some (_,x)) (decide_eq_decide.2 ⟨λh=>⟨j,λ_=>h⟩,λh=>h.2 g⟩)
   rw[f j,XqQ ab (by have:=h.2 g;omega),hdW,Wn g]
  rw[We j,Wa];refine⟨⟨op,wI (Zu .u64 a 2147483647),wW b⟩,?_,λh=>absurd h.1 j⟩;rw[We (show¬okW op a b fromλh=>j h.1)]
 rw[Xm g,Wa];refine⟨⟨op,wI (Zu .u64 a 2147483647),0⟩,?_,λh=>?_⟩
 .exact congrArg (λx=>some (_,x)) (decide_eq_decide.2 ⟨λh=>⟨h,λe=>absurd e g⟩,λh=>h.1⟩)
 rw[f h.1,hdW,Wk g]
def XjL(hN:10<=N)(c:WR)(d:Wx):Qda N c d=some (Xcn c d):=by rw[Qda,ZM,Xa,Xcn,X4,Xa,K2 hN,Xa];grind
def XiD(hw:WB k w)(hN:1000000<N)(op:Int){a b:Int}(ta:tU a)(tb:tU b)(f:Bool):QfA N w op a b f=some (Xbo w op a b f):=by
 have⟨d,hd,g⟩:=XdE (N:=N) op ta tb;rw[QfA,Xbo];by_cases j:w.m.length>0
 .rw[Wg (show(w.m.length:Int)>0 by omega),Wc,Wn j]
 rw[We (show¬(w.m.length:Int)>0 by omega),Wa,Wk j,hd,Xa];by_cases h:okW op a b
 .rw[Wg h,Wi,Wa,Wk (by simpa using h),XjL ab,Xa,g h];cases o:Xcn w.c (hdW op a b)
  .rfl
  rw[Wi,Wa,Wk ac,Vx hw.loc hN,Xa];by_cases e:JQ w.l 1=0
  .rw[Z6 e,Wa,Wk (by simpa using e)];cases f<;>rfl
  rw[Xn e,Wc,Wn e]
 simp_all
def Xk7(hw:WB k w)(hN:1000000<N)(e:YQ w=true)(tw:X1 w)(op:Int){a b c:Int}(ta:tU a)(tb:tU b)(tc:tU c):QfX N w op a b c=some (XcJ w op a b c):=by
 rw[QfX,Xbn hw hN e ta,Xa,XcJ];by_cases g:(XR w a).2=0;rotate_left
 .grind
 have⟨q,r,_⟩:=XeS hw e tw ta g;have⟨g1,g2⟩:=JF hw q r;have⟨s,B,E,G⟩:=(Jh e).thing _ g2;have I:=XQ s;unfold tU at tb;rw[Z6 g,Wa,Wk ab,g1,Xa,XE (n:=(thg w (XR w a).1).H.n) ab ab];by_cases h:b>=(thg w (XR w a).1).H.n
 .simp_all
 rw[We h,Wa,Wk h,Xe (n:=b) ab ab];have key:∀x:Bool,x=XdB op->(bnd (QbO N (thg w (XR w a).1).H b) λu=>
  bif (!(u==x))then some 4
  else bif (op==8)then(bnd (Xd (thg w (XR w a).1).D b) λv=>
   bnd (Qc3 N w.l v) λy=>
   some y)
  else bif (op==9)then(bnd (QaE N w c) λz=>
   some z.2)
  else some (XR w a).2)=some (if Jt (thg w (XR w a).1).H b≠XdB op then 4 else
 if op=8 then JQ w.l ((thg w (XR w a).1).D.getD b.toNat 0)else if op=9 then(Z7 w c).2 else 0):=by
  intro x A
  subst A
  rw[JC,Xa]
  by_cases j:Jt (thg w (XR w a).1).H b=XdB op
  .rw[show(Jt (thg w (XR w a).1).H b==XdB op)=true by simpa using j,Wi,Wa,Wk (by simpa using j)]
   by_cases f:op=8
   .rw[Xv f,Wc,Wn f,Yi ab ab,Xa,Vx hw.loc hN,Xa,Wj,Wb ab];rfl
   rw[Xm f,Wa,Wk f]
   by_cases o:op=9
   .rw[Xv o,Wc,Wn o,JP hw hN e tc,Xa]
   grind
  .grind
 rw[XF];cases p:(op==8)
 .have:=key (op==9) (by unfold XdB;rw[p,Is]);grind
 have:=key true (by unfold XdB;rw[p,Bool.true_or]);simp_all
def XiE(hw:WB k w)(hN:1000000<N)(g:YQ w=true)(op:Int){a:Int}(ta:tU a):QfB N w op a=some (XdC w op a):=by
 rw[QfB,XdC];by_cases e:a=0
 .rw[Xv e,Wc,Wn e]
 rw[Xm e,Wa,Wk e,JP hw hN g ta,Xa];by_cases f:(Z7 w a).2=0;rotate_left
 .rw[Xn f,Wc,Wn f]
 rw[Z6 f,Wa,Wk (by simpa using f),XfP ta,Xa,XF];grind
def Xm9(hw:WB k w)(hN:1000000<N)(g:YQ w=true)(op:Int){a:Int}(ta:tU a):Qgl N w op a=some (XiC w op a):=by
 rw[Qgl,Xbn hw hN g ta,Xa,XiC];by_cases e:(XR w a).2=0;rotate_left
 .rw[Xn e,Wc,Wn e]
 rw[Z6 e,Wa,Wk (by simpa using e),XF];by_cases f:op=15
 .rw[Wn f,Xv f,Wc];show bnd (QcS N w.v (XR w a).1) _=_;rw[JE hw.wea hN,Xa]
 simp[Wk,f,Xm,Wa,JE,hw.glo,hN,Xa]
def Xk8(hw:WB k w)(hN:1000000<N)(g:YQ w=true)(op:Int){a:Int}(ta:tU a):QfY N w op a=some (XfQ w op a):=by
 rw[QfY,XfQ];by_cases e:op=17
 .rw[Xv e,Wc,Wn e];by_cases f:a>64
  .simp_all
  unfold tU at ta;rw[We f,Wa,Wk f,Xe (n:=a) ab ab,Xbk hw.loc hN,Xa]
 rw[Xm e,Wa,Wk e,JP hw hN g ta,Xa];by_cases f:(Z7 w a).2=0;rotate_left
 .grind
 rw[Z6 f,Wa,Wk ab,XcH hw.loc hN,Xa];by_cases h:(Zv w.l).2=0;rotate_left
 .grind
 rw[Z6 h,Wa,Wk ab,Xhm (XfM hw.loc) hN,Xa]
def XbU{l:List IA}{id:Int}(h:0<=ZQ l id):ZQ l id<l.length/\Xd l (ZQ l id)=some (Xhl l (ZQ l id))/\(Xhl l (ZQ l id)).I=id:=by
 unfold ZQ at h⊢;cases e:l.findIdx? (λm=>m.I==id)with
 |none=>simp_all
 |some j=>have f:=UW.1 e;have⟨g,hp,_⟩:=f;simp_all[Xf,Xhl,Wj,Int.toNat_natCast,Wb,g]
def Xk9(hw:WB k w)(hN:1000000<N)(p:YQ w=true)(op:Int){a:Int}(ta:tU a)(f:Bool):QgK N w op a f=some (XjK w op a f):=by
 have r:=hw.marks;rw[QgK,Xbn hw hN p ta,Xa,XjK];by_cases g:(XR w a).2=0;rotate_left
 .rw[Xn g,Wc,Wn g]
 rw[Z6 g,Wa,Wk (by simpa using g),XfO ab hN,Xa];by_cases j:op=20
 .rw[Xv j,Wc,Wn j];by_cases e:ZQ w.m (XR w a).1<0
  .rw[Wg e,Wc,Wn e]
  rw[We e,Wa,Wk e]
 rw[Xm j,Wa,Wk j];by_cases e:0<=ZQ w.m (XR w a).1
 .have⟨s,q,u⟩:=XbU e;rw[Wg (show ZQ w.m (XR w a).1>=0 from e),Wc,q,Xa,We (show¬ZQ w.m (XR w a).1<0 by omega),Wa];rw[Wk (show¬(ZQ w.m (XR w a).1<0/\w.m.length=64) by omega)];by_cases o:(Xhl w.m (ZQ w.m (XR w a).1)).M=1000
  .rw[Xv o,Wc,Wn ⟨e,o⟩]
  rw[Xm o,Wa,Wk (λh=>o h.2)];cases f<;>rfl
 grind
def Xna(hw:WB k w)(hN:1000000<N)(g:YQ w=true)(op:Int){a b:Int}(ta:tU a)(tb:tU b):Qgm N w op a b=some (XdD w op a b):=by
 rw[Qgm,XdD,XF,Xbn hw hN g ta,Xa];by_cases h:op=4
 .rw[Xv h,Wc,Wn (.inl h)]
 rw[Xm h,Wa];by_cases j:op=5
 .rw[Xv j,Wc,Wn (.inr j)]
 rw[Xm j,Wa,Wk ab,JP hw hN g ta,Xa];by_cases f:(Z7 w a).2=0;rotate_left
 .rw[Xn f,Wc,Wn f]
 rw[Z6 f,Wa,Wk (by simpa using f)];by_cases e:op=10
 .rw[Xv e,Wc,Wn e,JP hw hN g tb,Xa]
 simp[Xm,e,Wa,Wk,Vx,hw.loc,hN,Xa]
end
def XqU{β:Type}(K:Bool->β)(c1 e:Bool):(jn K λj=>bif c1 then j true else j e)=K (c1||e):=by grind[XF]
def b2(op a b:Int):(op==a||op==b)=decide (op=a\/op=b):=by grind
def bd(op a:Int)(p:Prop)[Decidable p]:(op==a||decide p)=decide (op=a\/p):=by grind
def XsW{β:Type}{p:Prop}[Decidable p](x y:β):(bif decide p then x else y)=if p then x else y:=by simp
def XpU{β:Type}(o:Option β):(bnd o λy=>some y)=o:=by
 cases o
 .exact Kv _
 exact Xa _ _
def XpV{β:Type}{p:Prop}[Decidable p](x y:β):(if p then some x else some y)=some (if p then x else y):=by grind
section
variable {N:Nat}{w:WQ}{k:Nat}
def XrN(hw:WB k w)(hN:1000000<N)(tw:X1 w)(op:Int){a b c:Int}(ta:tU a)(tb:tU b)(tc:tU c)(f:Bool):QfC N w op a b c f=some (Xm8 w op a b c f):=by
 rw[QfC,XcI hw hN,Xa,Xm8];cases e:YQ w
 .rfl
 rw[Wi,Wa,Wk ac];simp only[XqU,XpU,XiD hw hN op ta tb f,Xk7 hw hN e tw op ta tb tc,XiE hw hN e op ta,Xm9 hw hN e op ta,Xk8 hw hN e op ta,Xk9 hw hN e op ta f,Xna hw hN e op ta tb,b2,bd,XsW,XpV]
end
def XbV(d:Wx):∀(k:Nat) (l:List Int),∀r∈V2 d k l,r∈l
 |k,[],r,h=>by assumption
 |k,f::e,r,h=>by
  unfold V2 at h;split at h
  .rcases Ia.1 h with h|h
   .simp_all
   exact WU _ (XbV d (k+1) e r h)
  exact WU _ (XbV d (k+1) e r h)
def zWo:WQ:=⟨⟨0,0⟩,[],zL,zT,zT,[],[]⟩
def Xnb{k:Nat}(e:k<=900):WB k zWo:=⟨e,by simp[zWo],λx f=>by simp_all[zWo],ZV,by simp[zWo,zT],by simp[zWo,zT],by simp[zWo],by simp[zWo]⟩
section
variable {N:Nat}{w:WQ}{k:Nat}
def XdF(q:w.m.length<=1000):∀(n:Nat) (i:Int) (v:List Int),0<=i->i<=w.m.length->(w.m.length-i).toNat<n->v.length<=100000+i->(∀x∈v,0<=x/\x<=w.T.length)->(∀m∈w.m,0<=m.I/\m.I<=w.T.length)->Ok (QeM N w n i v) λr=>r.length<=v.length+(w.m.length-i)/\∀x∈r,0<=x/\x<=w.T.length
 |0,i,v,_,_,s,_,_,_=>by omega
 |n+1,i,v,u,z,s,A,o,e=>by
  refine Wp (λf=>?_) λf=>Wd ⟨ab,o⟩;have f:i<w.m.length:=Wv f;rw[Xe (n:=i+1) ab ab];refine Ok.get u f λp hp=>Ub ab ?_;have g:=YC hp;refine(XdF q n (i+1) _ ab ab ab ai (λx j=>?_) e).mono λr y=>⟨?_,y.2⟩
  .rcases Wt.1 j with h|h
   .exact o x h
   rw[Ud.1 h];exact e p g
  grind
def XiF(hN:NB N)(hw:WB k w)(o:YQ w=true)(tw:X1 w):Ok (QgJ N w) λr=>r.length<=10000/\∀x∈r,0<=x/\x<=w.T.length:=by
 have f:=hN;unfold NB at f;have z:=hw.roots;have q:=hw.marks;have wf:=Jh o;have⟨A,s,u,B,D,v⟩:=tw;have E:=Xhk wf.loc;have G:=Xbm wf.glo;refine Ub ab ?_;rw[YX hw.loc ab,Xa,wf.loc,Wc];refine Ub ab ?_;rw[X0 hw.glo ab,Xa,wf.glo,Wc];refine Ub ab (WJ (XdF q N 0 _ ab ab ab ai (λx j=>?_) λm g=>?_) λr _ h=>Wd ⟨?_,h.2⟩)
 .simp only[Wt]at j;rcases j with(h|h)|h
  .exact⟨(v x h).1,wf.roots x h⟩
  .refine⟨?_,wf.rloc x h⟩;obtain⟨p,hp,rfl⟩:=WO.1 h;exact(s p (WY.1 hp).1).1
  refine⟨?_,wf.rglo x h⟩;obtain⟨p,hp,rfl⟩:=WO.1 h;exact(u p (WY.1 hp).1).1
 .have⟨i,y,e⟩:=WA g;have:=wf.mk_ (k:=i) (m:=m) (by rw[Wb y,e]);omega
 grind
def Xbp(hN:NB N)(hw:WB k w)(g:YQ w=true)(tw:X1 w)(M:Nat)(o:M<=2000000):∀(n:Nat) (i:Int) (v:List Bool) (q:List Int),0<=i->i<=q.length->(M-i).toNat<n->v.length=w.T.length->(∀x∈q,0<=x/\x<=w.T.length)->q.length+1000*v.countP (λb=>!b)<=M->Ok (QcO N w n i v q) λr=>r.length=w.T.length
 |0,i,v,q,_,_,V,_,_,_=>by omega
 |n+1,i,v,q,j,hi,V,s,u,L=>by
  have y:=hN;unfold NB at y;have hk:=hw.kk;have ht:=hw.things;refine Ub ab (Wp (λf=>?_) λ_=>Wd s);have f:i<q.length:=Wv f;rw[Xe (n:=i+1) ab ab];refine Ok.get j f λp hp=>?_;have same:∀z,Xd q i=some z->z=p:=λz h=>WE (h.symm.trans hp);have W:=u p (YC hp);refine Wp (λ_=>Xbp hN hw g tw M o n (i+1) v q ab ab ab s u L) λO=>?_;have O:¬p=0:=by simpa using O
  refine Ok.get j f λR A=>?_;obtain rfl:=same R A;rw[XE (n:=R-1) ab ab];refine Ok.get ab ab λb hb=>Wp (λ_=>Xbp hN hw g tw M o n (i+1) v q ab ab ab s u L) λB=>?_;refine Ok.get j f λS E=>?_;obtain rfl:=same S E;rw[XE (n:=S-1) ab ab];refine Ok.get ab ab λ_ _=>Ok.get j f λe G=>?_;obtain rfl:=same e G;have⟨g1,g2⟩:=JF hw (id:=e) ab ab;have hf:=hw.fields _ g2;have⟨v1,v2,v3,Y⟩:=(Jh g).thing _ g2;have I:=XbT (thg w e).H 0 (thg w e).D;have I:(XeR (thg w e)).length<=1000:=by unfold XeR;omega
  rw[g1,Xa,Xhj ab ab,Xa];have J:(e-1).toNat<v.length:=ab;have K:v[(e-1).toNat]=false:=by rw[Yi ab ab]at hb;rw[WE hb];exact B
  have hcount:(v.set (e-1).toNat true).countP (λb=>!b)+1<=v.countP (λb=>!b):=by have U:0<v.countP (λb=>!b):=List.countP_pos_iff.2 ⟨v[(e-1).toNat],Wy _,by simp_all⟩;rw[List.countP_set J,K];simp;omega
  refine Ub ab (Xbp hN hw g tw M o n (i+1) _ _ ab (by rw[WM];omega) ab (by simp_all) (λx Z=>?_) (by rw[WM];omega));rcases Wt.1 Z with h|h
  .simp_all
  refine⟨?_,Y x h⟩;exact((tw.1 _ g2).2 x (XbV _ _ _ x h)).1
def XiG(hN:NB N)(hw:WB k w)(e:YQ w=true)(tw:X1 w):Ok (Qfz N w) λr=>r.length=w.T.length:=by have f:=hN;unfold NB at f;have j:=hw.kk;have ht:=hw.things;rw[Qfz,XcI hw ab,Xa,e,Wi,Wa];refine Ub ab (WJ (XiF hN hw e tw) λy _ g=>WJ (Xbp hN hw e tw 1100000 ab N 0 _ y ab ab ab (by rw[W6];omega) g.2 ?_) λr _ h=>Wd h);grind[W6]
def XfR(y:List Bool)(h:y.length=w.T.length)(hw:WB k w):∀(n:Nat) (i:Int) (v:List Int),0<=i->i<=v.length->(v.length-i).toNat<n->v.length<=1000->(∀x∈v,0<=x/\x<=w.T.length)->Ok (Qbo N w y n i v) λr=>r.length=v.length
 |0,i,v,_,_,s,_,_=>by omega
 |n+1,i,v,f,B,s,j,o=>by
  have D:=hw.kk;have ht:=hw.things;refine Ub ab (Wp (λe=>?_) λ_=>Wd rfl);have e:i<v.length:=Wv e;rw[Xe (n:=i+1) ab ab];have next:=XfR y h hw n (i+1) v ab ab ab j o
  refine Ok.get f e λp hp=>Wp (λq=>Ok.get f e λp2 g=>?_) λ_=>next
  obtain rfl:p=p2:=WE (hp.symm.trans g);have u:=o p (YC hp);have q:¬p=0:=by simpa using q
  rw[XE (n:=p-1) ab ab];refine Ok.get ab ab λ_ _=>Wp (λ_=>Ok.get f e λ_ _=>?_) λ_=>next
  refine(XfR y h hw n (i+1) _ ab (by rw[WL];omega) (by rw[WL];omega) (by rw[WL];exact j) λx z=>?_).mono λr A=>by rw[A,WL]
  grind
def V3(hN:NB N)(hw:WB k w)(tw:X1 w):Ok (Qdj N w) λr=>WB k r.1:=by
 have f:=hN;unfold NB at f;rw[Qdj,XcI hw ab,Xa];refine Wp (λ_=>Wd (Xnb hw.kk)) λe=>?_;have e:YQ w=true:=by simpa using e
 have wf:=Jh e;have j:=Xbm wf.wea;refine WJ (XiG hN hw e tw) λy _ h=>?_;rw[X0 hw.wea ab,Xa,wf.wea,Wc];refine WJ (XfR y h hw N 0 _ ab ab ab ab λx g=>⟨?_,wf.rwea x g⟩) λz _ o=>WJ (XeP hw.wea ab ab) λt _ ht=>Wd ⟨hw.kk,hw.things,hw.fields,hw.loc,hw.gloK,UK ht hw.weaK,hw.marksK,hw.rootsK⟩;obtain⟨p,hp,rfl⟩:=WO.1 g;exact(tw.2.2.2.1 p (WY.1 hp).1).1
end
def Sf{β κ:Type}{P:β->Prop}{k:κ->Option β}{f:(κ->Option β)->Option β}(Q:κ->Prop)(h:∀x,Q x->Ok (k x) P)(g:∀j:κ->Option β,(∀x,Q x->Ok (j x) P)->Ok (f j) P):Ok (Sx.jn k f) P:=by simp_all[XF]
section
variable {N:Nat}{w:WQ}{k:Nat}
def Xaq(hw:WB k w)(hN:1000000<N)(id:Int):Ok (Qc4 N w id) λr=>WB k r.1:=by refine Uw (Wd hw) ?_;rw[Xal hw.loc hN,Xa];exact Uz (YT _) λy _=>Wd ⟨hw.kk,hw.things,hw.fields,XjA hw.loc id,hw.gloK,hw.weaK,hw.marksK,hw.rootsK⟩
def XjM(hw:WB k w){id i v:Int}(e:1<=id)(f:id<=w.T.length)(g:0<=i)(o:i<(thg w id).D.length):Ok (Qfm N w id i v) λr=>WB k r:=by
 have p:=hw.kk;have ht:=hw.things;have⟨g1,g2⟩:=JF hw e f;have q:=hw.fields _ g2;rw[Qfm,Xb ab,g1,Xa,Xb ab];refine Ok.get g ab λ_ _=>?_;rw[Xa];refine Wd ⟨hw.kk,?_,λx j=>?_,hw.loc,hw.gloK,hw.weaK,hw.marksK,hw.rootsK⟩
 .simp_all
 rcases WZ j with h|h
 .exact hw.fields x h
 simp_all
def Xhn(hw:WB k w)(hN:1000000<N)(op id:Int):Ok (QeF N w op id) λr=>WB k r.1:=by
 refine Ir (Uw ?_ ?_)
 .rw[JE hw.wea hN,Xa];exact Uz (YT _) λy _=>Wd ⟨hw.kk,hw.things,hw.fields,hw.loc,hw.gloK,Xhb hw.weaK id,hw.marksK,hw.rootsK⟩
 rw[JE hw.glo hN,Xa];exact Uz (YT _) λy _=>Wd ⟨hw.kk,hw.things,hw.fields,hw.loc,Xhb hw.gloK id,hw.weaK,hw.marksK,hw.rootsK⟩
def XiH(hw:WB k w)(hN:1000000<N)(v:Int):Ok (Qfe N w v) λr=>WB k r:=by
 refine Uz (XbS _) λy _=>Uw ?_ (Uw ?_ ?_)
 .rw[XfL hw.loc hN,Xa];exact Wd ⟨hw.kk,hw.things,hw.fields,XjB hw.loc _ _,hw.gloK,hw.weaK,hw.marksK,hw.rootsK⟩
 .rw[Xan hw.glo hN,Xa];exact Wd ⟨hw.kk,hw.things,hw.fields,hw.loc,Xhc hw.gloK _ _,hw.weaK,hw.marksK,hw.rootsK⟩
 rw[Xan hw.wea hN,Xa];exact Wd ⟨hw.kk,hw.things,hw.fields,hw.loc,hw.gloK,Xhc hw.weaK _ _,hw.marksK,hw.rootsK⟩
def Xnc(hw:WB k w)(hN:1000000<N)(o:w.m.length<=64)(op id b:Int)(j:op=20->0<=ZQ w.m id):Ok (Qfr N w op id b) λr=>WB k r.1:=by
 have setM:∀l:List IA,l.length<=100+k->WB k ⟨w.c,w.T,w.l,w.g,w.v,l,w.R⟩:=λl p=>⟨hw.kk,hw.things,hw.fields,hw.loc,hw.gloK,hw.weaK,p,hw.rootsK⟩
 rw[Qfr,QgL,XfO ab hN,Xa,Xa];refine Ub ab (Wp (λh=>?_) λ_=>Wp (λh=>?_) λh=>Ub ab (Wd (setM _ (by grind))))
 .have h:=j (by simp_all);have⟨f,_,_⟩:=XbU h;refine Ok.get h f λ_ _=>Ok.get h f λ_ _=>Ok.get h (by simp_all) λ_ _=>Wp (λ_=>?_) λ_=>Wd (setM _ (by grind));have e:=Xe (n:=ZQ w.m id+1) ab ab;refine Ub ab (Ub ab (Ub ab (Wd (setM _ ?_))));simp;omega
 have h:0<=ZQ w.m id:=Wv h;have⟨f,_,_⟩:=XbU h;exact Ok.get h f λ_ _=>Ok.get h f λ_ _=>Ok.get h (by simp_all) λ_ _=>Wd (setM _ (by grind))
def WB.up(hw:WB k w)(e:k+1<=900):WB (k+1) w:=⟨e,by have:=hw.things;omega,hw.fields,hw.loc,by have:=hw.gloK;omega,by have:=hw.weaK;omega,by have:=hw.marksK;omega,by have:=hw.rootsK;omega⟩
def Xho(hN:NB N)(hw:WB k w)(V:k+1<=900)(tw:X1 w)(op:Int){a b c:Int}(ta:tU a)(tb:tU b)(tc:tU c)(ft:OA):Ok (Qfs N w op a b c ft) λr=>WB (k+1) r.1:=by
 have Z:=hN;unfold NB at Z;have j:1000000<N:=ab;have zero:WB (k+1) zWo:=Xnb V;rw[Qfs,XrN hw j tw op ta tb tc,Xa];refine Wp (λ_=>Wd zero) λf=>?_;have f:Xm8 w op a b c ft.Failed=0:=by simpa using f
 have B:YQ w=true:=by
  cases h:YQ w
  .unfold Xm8 at f;rw[h]at f;cases f
  rfl
 have wf:=Jh B;unfold Xm8 at f;rw[B,Wk ac]at f;have thing:(XR w a).2=0->1<=(Z7 w a).1/\(Z7 w a).1<=w.T.length/\XR w a=Z7 w a:=λh=>by obtain⟨E,G,Y⟩:=XeS hw B tw ta h;rw[Y]at E G;exact⟨E,G,Y⟩
 refine Sf (λx=>¬(op<=3\/op=17)->x=(Z7 w a).1) (λz hx3=>?_) λj1 s=>?_;rotate_left
 .refine Wp (λhg=>Wp (λI=>?_) λI=>s _ λh=>absurd (Or.inr (by simpa using I)) h) λhg=>s _ λh=>absurd (Or.inl (by have:=WN hg;omega)) h;rw[JP hw j B ta,Xa];exact s _ λ_=>rfl
 simp only[XqU];refine Wp (λJ=>?_) λJ=>?_
 ·
  have J:op=1\/op=2\/op=3:=by simpa using J
  rw[Wn J]at f;obtain⟨d,hd,hd2⟩:=XdE (N:=N) op ta tb;have A:okW op a b/\Xcn w.c (hdW op a b)=true:=by
   unfold Xbo at f;split at f
   .cases f
   split at f
   .cases f
   rename_i _ h2;split at f
   .cases f
   rename_i h3;exact⟨Classical.not_not.1 h2,by simpa using h3⟩
  have hdd:=hd2 A.1;have hvd:XN d=true:=by have:=A.2;unfold Xcn at this;rw[WI]at this;rw[hdd];exact this.1
  have hb:=XQ hvd;have main:∀w':WQ,WB k w'->Ok (α:=WQ×Int×Int) (bnd (QcA N op a b) λu=>
   grd (w'.T.length*48<=140737488355328) <|
   grd (0<=u.1.n/\u.1.n.toNat*8<=140737488355328) <|
   grd ((w'.T.length+1)*48<=140737488355328) <|
   grd ((w'.T.length+1)<=140737488355328) <|
   bnd (Qc4 N (WQ.mk (WR.mk w'.c.W w'.c.p) (w'.T++[(In.mk u.1 (List.replicate u.1.n.toNat 0))]) (Ws.mk w'.l.S w'.l.x w'.l.i) (WG.mk w'.g.e) (WG.mk w'.v.e) w'.m w'.R) (wU (((w'.T.length+1):Nat):Int))) λK=>
   some (K.1,K.2,0)) λr=>WB (k+1) r.1:=by
   intro w' q
   have ht:=q.things
   rw[hd,Xa]
   refine Ub ab (Ub (by constructor<;>simp only<;>omega) (Ub ab (Ub ab (Uz (Xaq (k:=k+1) (w:=⟨w'.c,w'.T++[⟨d,List.replicate d.n.toNat 0⟩],w'.l,w'.g,w'.v,w'.m,w'.R⟩) ⟨V,?_,λx hx=>?_,q.loc,IP q.gloK,IP q.weaK,IP q.marksK,IP q.rootsK⟩ j _) λy o=>Wd o))))
   .show(w'.T++[_]).length<=_;rw[WM];simp;omega
   .rcases Wt.1 hx with h|h
    .exact q.fields x h
    .rw[Ud.1 h];show(List.replicate _ _).length<=_;rw[W6];omega
  refine Ir (Wp (λ_=>WJ (V3 hN hw tw) λy _ o=>?_) λ_=>?_)
  .exact main y.1 o
  exact main w hw
 have hn1:¬(op=1\/op=2\/op=3):=by simpa using J
 rw[Wk hn1]at f;have L:∀v e:Int,Ok (α:=WQ×Int×Int) (some (w,v,e)) λr=>WB (k+1) r.1:=λv e=>Wd (hw.up V);have up:∀{w':WQ},WB k w'->WB (k+1) w':=λh=>WB.up h V;have pl:(op=4\/op=5\/op=10\/op=11)->XdD w op a b=0:=λh=>by rw[Wk ab,Wk ab,Wk ab,Wk ab,Wk ab,Wn h]at f;exact f
 have len:(op=4\/op=5)->1<=z/\z<=w.T.length:=λh=>by have s:=pl ab;unfold XdD at s;rw[Wn h]at s;have:=thing s;rw[hx3 ab];exact⟨this.1,this.2.1⟩
 have fld:(op=6\/op=7\/op=8\/op=9)->(1<=z/\z<=w.T.length)/\b<(thg w z).D.length/\wI b=b:=λh=>by
  rw[Wn h]at f;unfold XcJ at f;by_cases s:(XR w a).2=0;rotate_left
  .rw[Wn s]at f;exact absurd f s
  rw[Wk (by simpa using s)]at f;obtain⟨E,G,Y⟩:=thing s;have e:z=(Z7 w a).1:=hx3 ab;rw[Y,←e]at f;rw[←e]at E G;obtain⟨g1,g2⟩:=JF hw E G;obtain⟨v1,v2,v3,v4⟩:=wf.thing _ g2;have vb:=XQ v1;by_cases h2:b>=(thg w z).H.n
  .rw[Wn h2]at f;cases f
  have:=tb.1;exact⟨⟨E,G⟩,ab,Xe ab ab⟩
 refine Wp (λh4=>?_) λn4=>Wp (λh5=>?_) λn5=>Wp (λh6=>?_) λn6=>Wp (λh7=>?_) λn7=>Wp (λh8=>?_) λn8=>Wp (λh9=>?_) λn9=>Wp (λh10=>?_) λn10=>Wp (λh11=>?_) λn11=>?_
 .have h4:op=4:=by simpa using h4
  have:=len (.inl h4);rw[(JF hw this.1 this.2).1,Xa];exact L _ _
 .have h5:op=5:=by simpa using h5
  have:=len (.inr h5);rw[(JF hw this.1 this.2).1,Xa];exact L _ _
 .have h6:op=6:=by simpa using h6
  obtain⟨f1,f2,M⟩:=fld ab;rw[(JF hw f1.1 f1.2).1,Xa];exact Ok.get tb.1 f2 λ_ _=>L _ _
 .have h7:op=7:=by simpa using h7
  obtain⟨f1,f2,M⟩:=fld ab;rw[M];exact Uz (XjM hw f1.1 f1.2 tb.1 f2) λy o=>Wd (up o)
 .have h8:op=8:=by simpa using h8
  obtain⟨f1,f2,M⟩:=fld ab;rw[(JF hw f1.1 f1.2).1,Xa];exact Ok.get tb.1 f2 λ_ _=>Uz (Xaq hw j _) λy o=>Wd (up o)
 .have h9:op=9:=by simpa using h9
  obtain⟨f1,f2,M⟩:=fld ab;rw[JP hw j B tc,Xa,M];exact Uz (XjM hw f1.1 f1.2 tb.1 f2) λy o=>Wd (up o)
 .rw[JP hw j B tb,Xa];exact Uw (L _ _) (L _ _)
 .exact Uz (Xaq hw j _) λy o=>Wd (up o)
 have n6:¬op=6:=by simpa using n6
 have n7:¬op=7:=by simpa using n7
 have n8:¬op=8:=by simpa using n8
 have n9:¬op=9:=by simpa using n9
 refine Wp (λ_=>Uz (Xhn hw j _ _) λy o=>Wd (up o)) λnl=>?_;have nl:¬(op=13\/op=15):=by simpa using nl
 refine Wp (λ_=>Uz (XiH hw j _) λy o=>Wd (up o)) λnr=>?_;have nr:¬(op=12\/op=14\/op=16):=by simpa using nr
 refine Wp (λ_=>?_) λO=>Wp (λ_=>?_) λU=>?_
 .rw[Xbk hw.loc j,Xa];exact Wd (up ⟨hw.kk,hw.things,hw.fields,Xg8 hw.loc _,hw.gloK,hw.weaK,hw.marksK,hw.rootsK⟩)
 .rw[XcH hw.loc j,Xa];exact Uz (Xaq (w:=⟨w.c,w.T,(Zv w.l).1,w.g,w.v,w.m,w.R⟩) ⟨hw.kk,hw.things,hw.fields,XfM hw.loc,hw.gloK,hw.weaK,hw.marksK,hw.rootsK⟩ j _) λy o=>Wd (up o)
 have O:¬op=17:=by simpa using O
 have U:¬op=18:=by simpa using U
 rw[Wk ab,Wk ab,Wk ab,Wk ab]at f;refine Uz (Xnc hw j wf.m64 op z _ λh20=>?_) λy o=>Wd (up o);unfold XjK at f;grind
end
def XjN{α:Type}{l:List α}{F:Nat->Int->Option (Ex Int Unit)}{p:α->Bool}(g:l.length<=1000000)(e:∀(n k:Nat) (x:α),l[k]? = some x->F (n+1) (k:Int)=bif p x then some (.ret (k:Int))else F n ((k+1:Nat):Int))(f:∀n:Nat,F (n+1) (l.length:Int)=some (.nxt ())):∀(n k:Nat),k<=l.length->l.length-k<n->F n (k:Int)=some (match (l.drop k).findIdx? p with|some j=>.ret ((k+j:Nat):Int)|none=>.nxt ())
 |0,k,_,o=>by omega
 |n+1,k,q,o=>by
  by_cases h:k<l.length
  .rw[e n k _ (Wb h),Wm h,List.findIdx?_cons];cases hp:p l[k]
   .rw[Wa,XjN g e f n (k+1) ab ab,Wk ac];cases (l.drop (k+1)).findIdx? p with
    |none=>rfl
    |some j=>simp only[Ic];rw[show k+1+j=k+(j+1) by omega]
   simp
  grind
def Zn{α:Type}(p:α->Bool)(l:List α):Int:=match l.findIdx? p with|some j=>(j:Int)|none=>-1
def JR{α:Type}{l:List α}{F:Nat->Int->Option (Ex Int Unit)}{p:α->Bool}{N:Nat}(o:l.length<=1000000)(hN:1000000<N)(f:∀(n k:Nat) (x:α),l[k]? = some x->F (n+1) (k:Int)=bif p x then some (.ret (k:Int))else F n ((k+1:Nat):Int))(g:∀n:Nat,F (n+1) (l.length:Int)=some (.nxt ())):(bnd (F N 0) λe=>exK e (λr=>some r) λ_=>some (-1))=some (Zn p l):=by
 have h:=XjN o f g N 0 ab ab;rw[show((0:Nat):Int)=0 from rfl,W3]at h;rw[h,Xa,Zn];cases l.findIdx? p with
 |none=>simp[Xo]
 |some j=>simp[Xy,UG]
def Ky{α:Type}(p:α->Bool)(l:List α):decide (Zn p l>=0)=l.any p:=by unfold Zn;grind
section
variable {N:Nat}
def XpW(e:W8):QfD N e=some (!Ju e):=by rw[QfD];unfold Ju;grind
def XfS{α:Type}(p:α->Bool)(l:List α):(!l.any λx=>!p x)=l.all p:=by grind
def Xbq{t:WG}(f:TB t)(hN:1000000<N):Qen N t=some (Yw t.e):=by
 unfold TB at f;rw[Qen,QaF,QaP];rw[JR (p:=λe=>!Ju e) f hN (λn k x e=>by
  have g:=XD e
  rw[Qan,Xl g,Wc,Xf,e,Xa,XpW,Xa,Xg ab]) (λn=>by rw[Qan,XG,Wa])]
 rw[Xa,Xa,Ky,XfS,Yw,show decide ((t.e.length:Int)<=64)=decide (t.e.length<=64)from decide_eq_decide.2 ab];grind
def XbW{t:WG}(f:t.e.length<=1000000):∀(n k:Nat) (v:List Int),k<=t.e.length->t.e.length-k<n->v.length<=k ->
 QdW N t n (k:Int) v=some (v++Xu (t.e.drop k))
 |0,k,v,_,g,_=>by omega
 |n+1,k,v,o,g,j=>by
  rw[QdW];by_cases h:k<t.e.length
  .rw[Xl h,Wc,Xf,Wb h,Xa,Xg ab,Wm h,Xu];cases p:t.e[k].V
   .rw[Wa,XbW f n (k+1) v ab ab ab,UC (by simp_all)];rfl
   rw[Wc,Xb ab,XbW f n (k+1) _ ab ab (by simp_all),Ur ab];simp[Xu]
  obtain rfl:k=t.e.length:=ab;simp[Xu]
def Ji{t:WG}(f:TB t)(hN:1000000<N):QdF N t=some (bif Yw t.e then Xu t.e else[]):=by
 rw[QdF,Xbq f hN,Xa];cases g:Yw t.e
 .rfl
 have h:=XbW (N:=N) (t:=t) f N 0 [] ab (by unfold TB at f;omega) ac;rw[show((0:Nat):Int)=0 from rfl,W3,Ue]at h;simp[Wi,Wa,h,Xa]
def Xla(x:Int):QfE N x=some (!(!decide (x<0)&&!decide (x>4095))):=by rw[QfE,show decide (x>=4096)=decide (x>4095)from decide_eq_decide.2 ab];cases decide (x<0)<;>cases decide (x>4095)<;>rfl
def XeT{a:Ws}:∀(n:Nat) (s i:Int),Qa1 N ⟨a⟩ n s i=Qat N a n s i
 |0,s,i=>by rfl
 |n+1,s,i=>by rw[Qa1,Qat];have e:∀s i,Qa1 N ⟨a⟩ n s i=Qat N a n s i:=XeT n;simp_all
def XdG{a:Ws}:∀(n:Nat) (s i:Int),Qa9 N ⟨a⟩ n s i=Qaw N a n s i
 |0,s,i=>by rfl
 |n+1,s,i=>by rw[Qa9,Qaw];have e:∀s i,Qa9 N ⟨a⟩ n s i=Qaw N a n s i:=XdG n;grind
def Xlb{a:Ws}(g:LBp a)(e:neB a.S.length a.x=true){k:Nat}{p:UU}(hp:a.x[k]? = some p):QdM N ⟨a⟩ (k:Int)=some ((a.S.drop p.O.toNat).take ((toL a k).toNat-p.O.toNat)):=by
 have j:=KM e hp;have s:=XD hp;have o:=g.2.1;have q:(IM.mk a).l.S.length=a.S.length:=rfl;rw[QdM,Xg ab,toL];by_cases h:k+1<a.x.length
 .have f:=Wb h;have r:=KM e f;have:=j.2.2.2.2.2 _ f;rw[Xl h,Wc,Xf,hp,Xa,Xf,f,Xa,Xb ab]
 rw[show decide (((k+1:Nat):Int)<(a.x.length:Int))=false from We ab,Wa,Xf,hp,Xa,Xb ab,WP ab];simp[Uf,Wo]
def XdH(l:List UI)(e:l.length<=1000000):∀(n k c:Nat),k<=l.length->l.length-k<n->c<=k->QbK N l n (c:Int) (k:Int)=some (((c+(l.drop k).countP (·.V):Nat):Int))
 |0,k,c,_,f,_=>by omega
 |n+1,k,c,g,f,j=>by
  rw[QbK];by_cases h:k<l.length
  .rw[Xl h,Wc,Xf,Wb h,Xa,Xg ab,Xg ab,Wm h,U4];cases o:l[k].V
   .rw[Wa,XdH l e n (k+1) c ab ab ab];simp
   rw[Wc,XdH l e n (k+1) (c+1) ab ab ab];simp;omega
  grind
def Xnd{a:Ws}(g:LBp a)(hN:1000000<N)(f:neB a.S.length a.x=true){k:Nat}{p:UU}(hp:a.x[k]? = some p):Qd6 N ⟨a⟩ (k:Int)=some ((YW a.S p.O.toNat (toL a k).toNat:Nat):Int):=by
 have j:=g.1;rw[Qd6,Xlb g f hp,Xa];have e:((a.S.drop p.O.toNat).take ((toL a k).toNat-p.O.toNat)).length<=1000000:=by rw[Wl,Wo];omega
 have h:=XdH (N:=N) _ e N 0 0 ab ab ab;rw[show((0:Nat):Int)=0 from rfl,W3,UG]at h;rw[h,Xa];rfl
def XdI{a:Ws}(j:LBp a)(hN:1000000<N):Qe0 N a=some (Yx a):=by
 have g:=j;have⟨u,v,hl3⟩:=j;rw[Qe0,Qbu,QbS];rw[JR (p:=λx=>!(!decide (x<0)&&!decide (x>4095))) hl3 hN (λn k x e=>by
  have f:=XD e
  rw[QaC,Xl f,Wc,Xf,e,Xa,Xla,Xa,Xg ab]) (λn=>by rw[QaC,XG,Wa])]
 have y:=Va (l:=a.S) (F:=λn s i=>Qaw N a n s i) (q:=stQ a.i) (nxp:=λ_ p=>p.J) (I:=λs=>0<=s) (λn s k p o e=>by
  have f:=XD e
  rw[Qaw,Xl f,Wc,Xf,e,Xa,Xg ab]
  unfold stQ
  cases g1:decide (p.J<=s)
  .cases g2:decide (p.J>(a.i.length:Int))
   .have g1:=WN g1
    have g2:=WN g2
    rw[Wa,Wa,Xe ab ab,Yi ab ab,Xa]
    have ge:a.i[(p.J-1).toNat]'ab=a.i.getD (p.J-1).toNat 0:=by
     rw[Wj,Wb ab];rfl
    rw[ge]
    cases (a.i.getD (p.J-1).toNat 0 != (k:Int))<;>cases (p.V==(p.a != 0))<;>rfl
   .rfl
  .rfl) (λn s=>by rw[Qaw,XG,Wa]) (λs k p o e r=>by
   unfold stQ at r
   simp at r
   omega) N 0 0 ab ab ab
 have z:=Va (l:=a.x) (F:=λn s i=>Qat N a n s i) (q:=neQ a.S.length) (nxp:=λ_ p=>p.O) (I:=λ_=>True) (λn s k p o e=>by
  have f:=XD e
  rw[Qat,Xl f,Wc,Xf,e,Xa,Xg ab]
  unfold neQ
  cases ((k:Int)==0)<;>cases (p.O != 0)<;>cases p.B0<;>cases decide (p.O<s)<;>cases decide (p.O>(a.S.length:Int))<;>cases decide (p.C0<0)<;>cases decide (p.C0>64)<;>rfl) (λn s=>by rw[Qat,XG,Wa]) (λ_ _ _ _ _ _=>trivial) N 0 0 trivial ab ab
 have A:Qaw N a N 0 0=some (bif stB a.i a.S then .nxt ()else .ret false):=y;have e3:Qat N a N 0 0=some (bif neB a.S.length a.x then .nxt ()else .ret false):=z;have B:Qdn N ⟨a⟩=some (!decide ((a.x.length:Int)>64)&&((!((a.x.length:Int)==0)||!decide ((a.S.length:Int)>0))&&neB a.S.length a.x)):=by rw[Qdn,XF,XeT,e3,Xa];cases neB a.S.length a.x<;>cases decide ((a.x.length:Int)>64)<;>cases ((a.x.length:Int)==0)<;>cases decide ((a.S.length:Int)>0)<;>simp only[Wc,Wa,Xy,Xo]<;>rfl
 have D:Qdb N ⟨a⟩=some (stB a.i a.S):=by rw[Qdb,XdG,A,Xa];cases stB a.i a.S<;>simp only[Wc,Wa,Xy,Xo]
 rw[Xa,Xa,Ky,B,Xa,D,Xa,Yx,Xm3];have E:(a.i.any λx=>!(!decide (x<0)&&!decide (x>4095))) = !(a.i.all λp=>!decide (p<0)&&!decide (p>4095)):=by rw[←XfS,Bool.not_not]
 rw[E];cases decide ((a.i.length:Int)>4096);rotate_left
 .rfl
 cases (a.i.all λp=>!decide (p<0)&&!decide (p>4095))
 .cases decide ((a.x.length:Int)>64)<;>cases (!((a.x.length:Int)==0)||!decide ((a.S.length:Int)>0))<;>rfl
 cases decide ((a.x.length:Int)>64);rotate_left
 .rfl
 cases (!((a.x.length:Int)==0)||!decide ((a.S.length:Int)>0))
 .rfl
 cases h:neB a.S.length a.x
 .cases stB a.i a.S<;>rfl
 cases stB a.i a.S
 .rfl
 simp;have G:=JD (l:=a.x) (F:=Qdx N a) (q:=Xg6 a ()) (λn k p e=>by
  have f:=XD e
  rw[Qdx,Xl f,Wc,Xf,e,Xa,Xnd g hN h e,Xa,Xg ab]
  unfold Xg6
  cases decide (((YW a.S p.O.toNat (toL a k).toNat:Nat):Int)>p.C0)<;>rfl) (λn=>by rw[Qdx,XG,Wa]) (n:=N) ab
 rw[G,Xa];show exK (bif XbR a then Ex.nxt ()else Ex.ret false) _ _=_;cases XbR a
 .rw[Wa,Xy]
 simp[Wc,Xo]
def XbX{a:Ws}(e:a.S.length<=1000000):∀(n k:Nat) (v:List Int),k<=a.S.length->a.S.length-k<n->v.length<=k ->
 QdX N a n (k:Int) v=some (v++XL (a.S.drop k))
 |0,k,v,_,f,_=>by omega
 |n+1,k,v,j,f,g=>by
  rw[QdX];by_cases h:k<a.S.length
  .rw[Xl h,Wc,Xf,Wb h,Xa,Xg ab,Wm h,XL];cases o:a.S[k].V
   .rw[Wa,XbX e n (k+1) v ab ab ab,UC (by simp_all)];rfl
   rw[Wc,Xb ab,XbX e n (k+1) _ ab ab (by simp_all),Ur ab];simp[XL]
  obtain rfl:k=a.S.length:=ab;simp[XL]
def XbY{a:Ws}(e:LBp a)(hN:1000000<N):Qft N a=some (bif Yx a then XL a.S else[]):=by
 rw[Qft,XdI e hN,Xa];cases f:Yx a
 .rfl
 have h:=XbX (N:=N) (a:=a) e.1 N 0 [] ab (by have:=e.1;omega) ac;rw[show((0:Nat):Int)=0 from rfl,W3,Ue]at h;simp[Wi,Wa,h,Xa]
end
def Jj(N:Nat)(c:WR):QbY N c=some (X8 c):=by exact Zm N c
def Xne(N:Nat)(c:WR):QeR N c=some (smC c):=by exact XgV N c
def Xnf(N:Nat)(c:WR)(w:Int):QeS N c w=some (XH c w):=by
 simp only[QeS,Jj,Xne,Xa,XH,smC];cases j:X8 c with
 |false=>simp
 |true=>
  have h:=Xh.1 j;simp only[Wi,Wa,if_true,UL];rw[Xe (n:=4*c.W) ab ab];by_cases f:w<1
  .rw[Wn f,Wk (show¬(True/\1<=w)fromλh=>ab)]
  rw[Wk f,Wn (show True/\1<=w from⟨trivial,ab⟩)];by_cases g:w>4*c.W
  .rw[Wn g];simp only[Wk (show¬w<=c.W / 4 by omega),Wk (show¬c.W>=w by omega),Wk (show¬2*c.W>=w by omega),Wk (show¬3*c.W>=w by omega),Wk (show¬4*c.W>=w by omega)]
  rw[Wk g];by_cases e:w<=c.W / 4
  .rw[Wn e,Wn e]
  rw[Wk e,Wk e,Xb ab,Xe (n:=w+c.W) ab ab,Xe (n:=w+c.W-1) ab ab,UT ab];have key:∀k:Int,k*c.W<=w+c.W-1->w+c.W-1<(k+1)*c.W->(w+c.W-1) / c.W=k:=by intro k a b;have o:=Int.ediv_lt_of_lt_mul (show 0<c.W by omega) b;have p:=Int.le_ediv_of_mul_le (show 0<c.W by omega) a;omega
  split
  .rw[key 1 ab ab];rfl
  split
  .rw[key 2 ab ab];rfl
  split
  .rw[key 3 ab ab];rfl
  split
  .rw[key 4 ab ab];rfl
  omega
def XiI(N:Nat)(c:WR)(a:Int)(j:a<=18446744073709551615):Qck N c a=Qb6 N c a:=by
 rw[KX];simp only[Qck,Jj,Xa,UL];cases e:X8 c with
 |false=>simp
 |true=>
  have h:=Xh.1 e;have o:=XO e (i:=0) ab ab;simp only[Wi,Wa];rw[Wk (show¬(true=false) by simp),Int.mul_comm c.W c.p];rw[Xe (n:=c.p*c.W) ab ab,XE (n:=c.p*c.W) ab ab];by_cases f:a<4096
  .grind
  rw[Wk f,XE (n:=a-4096) ab ab];by_cases q:a>=4096+c.p*c.W
  .grind
  rw[Wk ab,Wn ab,Xb ab,Xb ab];rw[Xe (n:=a-4096) ab ab,UT ab,IJ ab];have hd:0<=(a-4096) / c.W:=Int.ediv_nonneg ab ab;have g:(a-4096) / c.W<=a-4096:=Int.ediv_le_self _ ab;rw[Xe ab ab]
def XdJ(N:Nat)(c:WR)(p o:Int):Qdd N c p o=Qbv N c p o:=by
 rw[Kb];simp only[Qdd,Jj,Xa,UL];cases h:X8 c with
 |false=>simp
 |true=>
  simp only[Wi,Wa];rw[Wk (show¬(true=false) by simp)];by_cases e:p<0
  .rw[Wn e,Wk ab]
  rw[Wk e];by_cases f:p>=c.p
  .rw[Wn f,Wk ab]
  rw[Wk f];by_cases g:o<0
  .rw[Wn g,Wk ab]
  rw[Wk g];by_cases j:o>=c.W
  .rw[Wn j,Wk ab]
  have q:=XO h (i:=p) ab ab;rw[Xe (n:=p*c.W) ab ab,Xe (n:=p*c.W+o) ab ab,XE (n:=p*c.W+o) ab ab,XE ab ab];unfold Xc;grind
def Kf(sp:Int)(p:Wr):Bool:=p.k==3&&p.s==sp
def V4(ps:List Wr)(sp:Int)(i:Nat):Nat:=((ps.drop i).takeWhile (Kf sp)).length
def Xhp(N:Nat)(ps:List Wr)(sp:Int)(j:ps.length<=1000000):∀(n c i:Nat),i<=ps.length->c<=i->ps.length-i<n->Qdr N ps sp n (c:Int) (i:Int)=some (((c+V4 ps sp i:Nat):Int))
 |0,c,i,_,_,h=>by omega
 |n+1,c,i,h,o,p=>by
  rw[Qdr];by_cases e:i<ps.length
  .rw[Wg ab,Wc,Xf,Wb e,Xa,Xa];have hd:ps.drop i=ps[i]::ps.drop (i+1):=Wm e;unfold V4;rw[hd,List.takeWhile_cons];cases f:(ps[i].k==3)with
   |false=>simp[Kf,f]
   |true=>
    cases g:(ps[i].s==sp)with
    |false=>simp[Kf,f,g]
    |true=>rw[Wc,show Kf sp ps[i]=true by simp[Kf,f,g],Wn rfl];rw[Xg ab,Xg ab,Xhp N ps sp j n (c+1) (i+1) ab ab ab];unfold V4;grind
  have:ps.drop i=[]:=W5 ab;rw[We ab,Wa];simp[V4,this]
def Xng{N:Nat}(ps:List Wr)(sp:Int)(e:ps.length<=1000000)(hN:1000000<N)(i:Nat)(f:i<ps.length):QeV N ps (i:Int) sp=some ((V4 ps sp (i+1):Nat):Int):=by rw[QeV,Xg ab,show(0:Int)=((0:Nat):Int)from rfl,Xhp N ps sp e N 0 (i+1) ab ab ab,Xa,UG]
def Xbr{α:Type}(q:α->Bool):∀(l:List α) (k:Nat),k<=(l.takeWhile q).length↔k<=l.length/\(l.take k).all q=true
 |[],k=>by simp
 |a::l,0=>by simp
 |a::l,k+1=>by
  rw[List.takeWhile_cons];cases h:q a with
  |false=>grind
  |true=>simp[h];exact Xbr q l k |>.trans ac
def Yj(sp:Int)(p:Wr):Bool:=Kf sp p&&(p.u==0&&p.P==0)
def XjO(N:Nat)(o:List Wr)(f:Int)(g:Wr)(q p:Int)(l:List Wr)(v:l.length<=1000000)(hd:((o.drop (wI (f+1)).toNat).take ((wI (f+p)).toNat-(wI (f+1)).toNat))=l)(r:min ((wI (f+p)).toNat-(wI (f+1)).toNat) (o.length-(wI (f+1)).toNat)=l.length):
 ∀(n k:Nat),k<=l.length->l.length-k<n->Qff N o f g q p n (k:Int)=some (if(l.drop k).all (Yj g.s)=true then .nxt ()else .ret 0)
 |0,k,_,h=>by omega
 |n+1,k,h,x=>by
  rw[Qff,hd,r];by_cases j:k<l.length
  .rw[Wg ab,Wc,Xf,Wb j,Xa,Qe9,Xa,Wm j,I5];have e:((l[k].k==3)&&((l[k].s==g.s)&&((l[k].u==0)&&(l[k].P==0))))=Yj g.s l[k]:=by unfold Yj Kf;rw[Bool.and_assoc]
   rw[e];cases y:Yj g.s l[k]with
   |false=>simp
   |true=>rw[Wi,Wa,Xg ab,XjO N o f g q p l v hd r n (k+1) ab ab,Uc]
  grind
def Yg(c:WR)(ps:List Wr)(i:Nat)(p:Wr):Nat:=
 if p.k=0 then(if p.s=0/\p.u=0/\p.P=0 then 1 else 0)
 else if(p.s=0\/p.s=1)/\0<=p.P/\p.P<=2147483647 then
  (if p.k=1 then(if 0<=p.u/\p.u<=c.W then 1 else 0)
   else if p.k=2 then(if 1<=XH c p.u/\(XH c p.u).toNat<=ps.length-i/\((ps.drop (i+1)).take ((XH c p.u).toNat-1)).all (Yj p.s)=true then(XH c p.u).toNat else 0)
   else 0)
 else 0
def Kz(N:Nat)(p:Wr):Qb3 N p=some (decide (p.s=0\/p.s=1)):=by rw[Qb3];grind
def Xar(N:Nat)(p:Wr):Qdf N p=some (decide (0<=p.P/\p.P<=2147483647)):=by grind[Qdf]
def Kg{N:Nat}{c:WR}{ps:List Wr}(D:ps.length<=100000)(hN:1000000<N){i:Nat}(z:i<ps.length):QgB N c ps (i:Int)=some ((Yg c ps i ps[i]:Nat):Int):=by
 rw[QgB,Xf,Wb z,Xa,XF];generalize hp:ps[i]=p;unfold Yg;by_cases k0:p.k<0
 .grind
 rw[We k0,Wa];by_cases A:p.k>=3
 .grind
 rw[We A,Wa];by_cases r:p.k=0
 .rw[show(p.k==0)=true by simpa using r,Wc,Wn r,QfS,Xa];grind
 rw[show(p.k==0)=false by simp_all,Wa,Wk r];by_cases e:(p.s=0\/p.s=1);case neg=>
  rw[Wk (λh=>e h.1)]
  by_cases j:p.k=1
  .rw[show(p.k==1)=true by simp_all,Wc,Qdy,Kz,Xa,We e,Wa,Xa];rfl
  .have v:p.k=2:=ab
   rw[show(p.k==1)=false by simp_all,Wa,show(p.k==2)=true by simp_all,Wc,Qdz,Kz,Xa,We e,Wa,Xa];rfl
 by_cases g:0<=p.P/\p.P<=2147483647;case neg=>
  rw[Wk (λh=>g h.2)]
  by_cases j:p.k=1
  .rw[show(p.k==1)=true by simp_all,Wc,Qdy,Kz,Xa,Wg e,Wc,Xar,Xa,We g,Wa,Xa];rfl
  .have v:p.k=2:=ab
   rw[show(p.k==1)=false by simp_all,Wa,show(p.k==2)=true by simp_all,Wc,Qdz,Kz,Xa,Wg e,Wc,Xar,Xa,We g,Wa,Xa];rfl
 rw[Wn ⟨e,g⟩];by_cases j:p.k=1
 .rw[show(p.k==1)=true by simpa using j,Wc,Qdy,Kz,Xa,Wg e,Wc,Xar,Xa,Wg g,Wc,Wn j];by_cases x:0<=p.u
  .by_cases y:p.u<=c.W
   .simp[x,y,Xa]
   simp[x,y,Xa]
  simp[x,Xa]
 have v:p.k=2:=ab;rw[show(p.k==1)=false by simp_all,Wa,show(p.k==2)=true by simp_all,Wc,Qdz,Kz,Xa,Wg e,Wc,Xar,Xa,Wg g,Wc,Wk j,Wn v];simp only[Xnf,Xa];by_cases o:XH c p.u>=1;case neg=>grind
 rw[Wg o,Wi,Wa,show((2:Int) != 2)=false from rfl,Wa,Xe (n:=(ps.length:Int)-i) ab ab];by_cases q:XH c p.u>(ps.length:Int)-i
 .grind
 rw[We q,Wa];have w1:wI ((i:Int)+1)=((i+1:Nat):Int):=Xg ab;have w2:wI ((i:Int)+XH c p.u)=(i:Int)+XH c p.u:=Xe ab ab;rw[Xb ab];have B:(wI ((i:Int)+1)).toNat=i+1:=by rw[w1];omega
 have E:(wI ((i:Int)+XH c p.u)).toNat-(wI ((i:Int)+1)).toNat=(XH c p.u).toNat-1:=by rw[B,w2];omega
 rw[show(0:Int)=((0:Nat):Int)from rfl,XjO N ps (i:Int) p 2 (XH c p.u) ((ps.drop (i+1)).take ((XH c p.u).toNat-1)) (by grind) (by simp_all) (by simp_all) N 0 ab (by grind),Xa,W3];by_cases f:((ps.drop (i+1)).take ((XH c p.u).toNat-1)).all (Yj p.s)=true
 .rw[Wn f,Xo,Wn ⟨o,ab,f⟩];grind
 rw[Wk f,Xy,Wk (λh=>f h.2.2)];rfl
def X5{p:Prop}[Decidable p](h:¬p):decide p=false:=We h
def XeU{N:Nat}{h:Wh}(y:h.p.length<=100000){sp:Int}(o:sp=0\/sp=1):∀(k n i:Nat),i+k<=h.p.length->((h.p.drop i).take k).all (Kf sp)=true ->
 Qaz N h (n+k) (k:Int) (i:Int)=if((h.p.drop i).take k).all (Yj sp)=true then Qaz N h n 0 ((i+k:Nat):Int)else some (.ret false)
 |0,n,i,q,f=>by simp
 |k+1,n,i,q,f=>by
  have g:i<h.p.length:=ab;have hd:(h.p.drop i).take (k+1)=h.p[i]::(h.p.drop (i+1)).take k:=by rw[Wm g,List.take_succ_cons]
  rw[hd,I5,WI]at f;rw[hd,I5,show n+(k+1)=(n+k)+1 from rfl,Qaz,Wg ab,Wc,Xf,Wb g,Xa];have B:=XeU (N:=N) y o k n (i+1) ab f.2;generalize h.p[i]=p at *;have z:p.k=3/\p.s=sp:=by have:=f.1;simp only[Kf,WI,beq_iff_eq]at this;exact this
  have⟨e,A⟩:=z;have r:(p.k==3)=true:=by simpa using e
  rw[r,Wg (show(((k+1:Nat):Int)>0) by omega),show(!(true==true))=false from rfl,Wa,X5 (show¬p.s<0 by omega),Wa,X5 (show¬p.s>1 by omega),Wa,XfC,Xa];by_cases hp:p.P=0;case neg=>
   have j:Yj sp p=false:=by simp[Yj,hp]
   rw[j,UJ,Wk ac]
   by_cases v:0<=p.P/\p.P<=2147483647
   .rw[Wg v,Wi,Wa]
    simp only[XF,show(p.k==0)=false by rw[e];rfl,show(p.k==1)=false by rw[e];rfl,show(p.k==2)=false by rw[e];rfl,r,Wa,Wc,show(p.P != 0)=true by simpa using hp,Bool.cond_self]
   grind
  simp only[XF,show(p.k==0)=false by simp_all,show(p.k==1)=false by simp_all,show(p.k==2)=false by simp_all,r,Wa,Wc,show(p.P != 0)=false by simp_all];by_cases x:p.u=0
  .have j:Yj sp p=true:=by unfold Yj;rw[f.1];simp[x,hp]
   rw[show(p.u != 0)=false by simpa using x,Wa,j,Uc,Xe (n:=((k+1:Nat):Int)-1) ab ab,Xg ab];grind
  have j:Yj sp p=false:=by simp[Yj,x]
  grind
def Xnh{α:Type}{p q:α->Bool}(h:∀x,q x=true->p x=true):∀{l:List α},l.all q=true->l.all p=true:=by simp_all
def Xlc{N:Nat}{h:Wh}(hc:X8 h.c=true)(V:h.p.length<=100000)(hN:1000000<N){i:Nat}(L:i<h.p.length)(n:Nat)(hn:10<=n):
 Qaz N h n 0 (i:Int)=if Yg h.c h.p i h.p[i]=0 then some (.ret false)else Qaz N h (n-Yg h.c h.p i h.p[i]) 0 ((i+Yg h.c h.p i h.p[i]:Nat):Int):=by
 obtain⟨n,rfl⟩:∃m,n=m+1:=⟨n-1,ab⟩
 rw[Qaz,Wg (show(i:Int)<(h.p.length:Int) by omega),Wc,Xf,Wb L,Xa];generalize h.p[i]=p;have M:(if(0:Int)<wI (0-1)then wI (0-1)else 0)=0:=by rw[Xe ab ab];rfl
 have ge:wI ((i:Int)+1)=((i+1:Nat):Int):=Xg ab;generalize f:Yg h.c h.p i p=s;unfold Yg at f;have no:s=0->(if s=0 then some (.ret false)else Qaz N h (n+1-s) 0 ((i+s:Nat):Int))=some (.ret false):=λe=>Wn e;rw[We (show¬(0:Int)>0 by omega)];by_cases O:p.k=3
 .rw[show(p.k==3)=true by simpa using O,show(!(true==false))=true from rfl,Wc];rw[Wk (show¬p.k=0 by omega),Wk (show¬p.k=1 by omega),Wk (show¬p.k=2 by omega),ite_self]at f;exact(no f.symm).symm
 have v:(p.k==3)=false:=by simpa using O
 rw[v,show(!(false==false))=false from rfl,Wa];by_cases o:p.s=0\/p.s=1;case neg=>
  have z:s=0:=by
   rw[←f,Wk (c:=(p.s=0\/p.s=1)/\_) (λg=>o g.1)]
   split
   .rw[Wk (λg=>o (.inl g.1))]
   .rfl
  rw[no z]
  by_cases R:p.s<0
  .rw[Wg R,Wc]
  .rw[X5 R,Wa,Wg (show p.s>1 by omega),Wc]
 rw[X5 (show¬p.s<0 by omega),Wa,X5 (show¬p.s>1 by omega),Wa,XfC,Xa];by_cases j:0<=p.P/\p.P<=2147483647;case neg=>
  have z:s=0:=by
   rw[←f,Wk (c:=(p.s=0\/p.s=1)/\_) (λg=>j g.2)]
   split
   .rw[Wk (λg=>j ab)]
   .rfl
  rw[no z,X5 j,Ui,Wc]
 rw[Wn (c:=(p.s=0\/p.s=1)/\_) ⟨o,j⟩]at f;rw[Wg j,Wi,Wa];by_cases r:p.k=0
 .have E:(p.k==1)=false:=by rw[r];rfl
  have y:(p.k==2)=false:=by rw[r];rfl
  rw[Wn r]at f;simp only[XF,show(p.k==0)=true by simpa using r,E,y,v,Wc,Wa,Uc];by_cases G:p.s=0/\p.u=0/\p.P=0
  .rw[Wn G]at f;subst f;obtain⟨Y,Z,z3⟩:=G;rw[Wk (show¬(1:Nat)=0 by omega)];simp only[Y,Z,z3,show((0:Int)==0)=true from rfl,Bool.and_self,Wi,Wa,M,ge,IK]
  rw[Wk G]at f;rw[no f.symm,show((p.s==0)&&((p.u==0)&&(p.P==0)))=false by
   rw[Bool.eq_false_iff];intro g;simp only[WI,beq_iff_eq]at g;exact G ⟨g.1,g.2.1,g.2.2⟩]
  rfl
 have I:(p.k==0)=false:=by simpa using r
 rw[Wk r]at f;by_cases A:p.k=1
 .have y:(p.k==2)=false:=by rw[A];rfl
  rw[Wn A]at f;simp only[XF,show(p.k==1)=true by simpa using A,I,y,v,Wc,Wa];by_cases S:p.u<0
  .rw[Wk ab]at f;rw[Wg S,Wc,no f.symm]
  rw[X5 S,Wa];by_cases T:p.u>h.c.W
  .rw[Wk ab]at f;rw[Wg T,Wc,no f.symm]
  rw[Wn ab]at f;subst f;rw[X5 T,Wa,Wk (show¬(1:Nat)=0 by omega),M,ge,IK]
 have E:(p.k==1)=false:=by simpa using A
 rw[Wk A]at f;by_cases H:p.k=2;case neg=>
  have y:(p.k==2)=false:=by simpa using H
  rw[Wk H]at f
  simp only[XF,I,E,y,v,Wa]
  rw[no f.symm]
 rw[Wn H]at f;simp only[XF,show(p.k==2)=true by simpa using H,I,E,v,Wc,Wa,K2 (show 10<=N by omega),Xa];by_cases B:XH h.c p.u<1
 .rw[Wk (λg=>ab)]at f;rw[Wg B,Wc,no f.symm]
 have hr:=Xbh h.c p.u;rw[X5 B,Wa,Xng h.p p.s ab hN i L,Xa,Xe (n:=XH h.c p.u-1) ab ab];obtain⟨k,U⟩:∃k:Nat,XH h.c p.u=((k+1:Nat):Int):=⟨(XH h.c p.u).toNat-1,ab⟩
 have J:(XH h.c p.u).toNat=k+1:=ab;have tw:=Xbr (Kf p.s) (h.p.drop (i+1)) k;rw[J,IK,U]at f;rw[U];by_cases ht:((V4 h.p p.s (i+1):Nat):Int)<((k+1:Nat):Int)-1
 .have D:¬k<=((h.p.drop (i+1)).takeWhile (Kf p.s)).length:=by unfold V4 at ht;omega
  rw[Wk (λg=>D (tw.2 ⟨by rw[Wo];omega,Xnh (λx K=>by unfold Yj at K;rw[WI]at K;exact K.1) g.2.2⟩))]at f;rw[Wg ht,Wc,no f.symm]
 have q:=tw.1 (by unfold V4 at ht;omega);rw[Wo]at q;have e:(if(0:Int)<((k+1:Nat):Int)-1 then((k+1:Nat):Int)-1 else 0)=(k:Int):=by split<;>omega
 rw[e,ge];obtain⟨m,rfl⟩:∃m,n=m+k:=⟨n-k,ab⟩
 rw[XeU V o k m (i+1) ab q.2];grind
def Xbs{c:WR}{ps:List Wr}{i:Nat}(e:i<ps.length){p:Wr}:Yg c ps i p<=ps.length-i/\Yg c ps i p<=4:=by have f:=Xbh c p.u;unfold Yg;grind
def XdK{N:Nat}{h:Wh}(o:X8 h.c=true)(g:h.p.length<=100000)(hN:1000000<N):∀(m i n e:Nat),i<=h.p.length->h.p.length-i<=m->h.p.length-i<n->h.p.length-i+10<=e->Qae N h n (i:Int)=Qaz N h e 0 (i:Int)
 |m,i,0,e,_,_,q,_=>by omega
 |m,i,n+1,e,u,v,q,x=>by
  by_cases f:i<h.p.length
  .rw[Qae,Wg ab,Wc,Kg g hN f,Xa,Xlc o g hN f e ab];have y:=Xbs (c:=h.c) f (p:=h.p[i]);generalize Yg h.c h.p i h.p[i]=s at *;by_cases r:s=0
   .simp_all
   rw[Wk r,show((s:Int)==0)=false by simp_all,Wa,Xe ab ab,show(i:Int)+(s:Int)=((i+s:Nat):Int) by omega];obtain⟨j,rfl⟩:∃j,m=j+1:=⟨m-1,ab⟩
   exact XdK o g hN j (i+s) n (e-s) ab ab ab ab
  rw[Qae,We ab,Wa];obtain⟨k,rfl⟩:∃k,e=k+1:=⟨e-1,ab⟩
  rw[Qaz,We ab,Wa]
def YJ{N:Nat}{h:Wh}(f:h.p.length<=100000)(hN:1000000<N):QbZ N h=Qaa N h:=by
 rw[QbZ,Qaa,Jj,Zm];simp only[Xa,XF];cases g:X8 h.c with
 |false=>rfl
 |true=>
 have e:=XdK g f hN h.p.length 0 N N ab ab ab ab;grind
section
variable {N:Nat}
def XpX{m:Int}(f:0<=m)(o:2*m+1<=18446744073709551615):bOr .u64 (m*2) 1=m*2+1:=by
 obtain⟨n,rfl⟩:=UP f;have hb:IntKind.u64.bits=64:=rfl;show IntKind.u64.wrap ((BitVec.ofInt IntKind.u64.bits ((n:Int)*2) |||BitVec.ofInt IntKind.u64.bits 1).toNat:Int)=_;rw[hb];have g:BitVec.ofInt 64 ((n:Int)*2)=BitVec.ofNat 64 (n*2):=by rw[show(n:Int)*2=((n*2:Nat):Int) by omega];exact BitVec.ofInt_natCast 64 (n*2)
 have h:BitVec.ofInt 64 (1:Int)=BitVec.ofNat 64 1:=ag;have j:n*2 % 2 ^ 64=n*2:=Oj ab;have e:=Nat.shiftLeft_add_eq_or_of_lt (i:=1) (b:=1) ag n;rw[Nat.shiftLeft_eq,Nat.pow_one]at e;rw[g,h,BitVec.toNat_or,II,II,j,show 1 % 2 ^ 64=1 from rfl,←e];show wU _=_;rw[XE ab ab];omega
def XjP{a:Int}(f:0<=a)(g:a<=64):∀(n k:Nat),(k:Int)<=a->(a-k).toNat<n->Qfg N a n ((2:Int) ^ k-1) (k:Int)=some ((2:Int) ^ a.toNat-1)
 |0,k,_,j=>by omega
 |n+1,k,q,j=>by
  rw[Qfg];have e:(if 64<(if a<0 then 0 else a)then 64 else(if a<0 then 0 else a))=a:=by rw[Wk (show¬a<0 by omega),Wk ab]
  rw[e];by_cases h:(k:Int)<a
  .have hp:(1:Int)<=2 ^ k:=Int.pow_pos (n:=(2:Int)) (m:=k) ag;have r:(2:Int) ^ k<=2 ^ 63:=by have:2 ^ k<=2 ^ 63:=Od ab ab;exact_mod_cast this
   have o:Kj .u64 ((2:Int) ^ k-1) 1=wU (((2:Int) ^ k-1)*2):=rfl;rw[Wg h,Wc,o,XE ab ab,XpX ab ab,Xg ab];have p:((2:Int) ^ k-1)*2+1=2 ^ (k+1)-1:=by rw[Int.pow_succ];omega
   rw[p];exact XjP f g n (k+1) ab ab
  grind
def JG{a:Int}(e:0<=a)(f:a<=64)(hN:1000<N):QcU N a=some ((2:Int) ^ a.toNat-1):=by have:=XjP (N:=N) e f N 0 ab ab;rw[QcU];rw[show((2:Int) ^ 0-1)=0 from rfl,show((0:Nat):Int)=0 from rfl]at this;rw[this,Xa]
def Vy(hN:1000<N)(d:Wx):Qdc N d=some (XN d):=by
 rw[Qdc,XN];by_cases e:d.k<0
 .rw[Wg e,Wc,We ab,UJ]
 rw[We e,Wa];by_cases f:d.k>3
 .rw[Wg f,Wc,We ab,UJ]
 rw[We f,Wa];by_cases g:d.n<0
 .rw[Wg g,Wc,We ab,UJ]
 rw[We g,Wa];by_cases h:d.n>255
 .rw[Wg h,Wc,We (p:=0<=d.k/\d.k<=3/\0<=d.n/\d.n<=255) ab,UJ]
 rw[We h,Wa,Wg (p:=0<=d.k/\d.k<=3/\0<=d.n/\d.n<=255) ab,Uc];by_cases j:d.k=1
 .rw[Wn j,Xv j,Wc,XF];by_cases o:d.n<=32
  .rw[Wg o,Wc,JG ab ab hN,Xa,Uc,Xcg];exact congrArg some (decide_eq_decide.2 ab)
  rw[We o,Wa,UJ]
 grind
def ZO(hN:1000<N)(d:Wx):Qbq N d=some (XM d):=by
 rw[Qbq,Vy hN,Xa,XM];cases h:XN d with
 |false=>rfl
 |true=>have:=XQ h;rw[Wi,Wa,Xe (n:=d.n+1) ab ab];rfl
def Xni(hN:1000<N)(d:Wx)(i:Int):Qfh N d i=some (Jt d i):=by
 rw[Qfh,Vy hN,Xa,Jt];cases h:XN d with
 |false=>rfl
 |true=>
  have hb:=XQ h;rw[Wi,Wa,Uc];by_cases f:i<0
  .rw[Wg f,Wc,We ab,UJ]
  rw[We f,Wa];by_cases g:i>=d.n
  .rw[Wg g,Wc,We ab,UJ]
  rw[We g,Wa,Wg (p:=0<=i/\i<d.n) ab,Uc,XE (n:=i) ab ab];by_cases e:d.k=2
  .rw[Xv e,Wc,Wg e,Bool.true_or]
  rw[Xm e,Wa,We e,Is];by_cases j:d.k=1
  .rw[Xv j,Wc,Wg j,Uc,Xb ab]
  grind
def Xbt(hN:1000<N)(d:Wx)(f:XN d=true):∀(n:Nat) (i:Int) (v:List Int),0<=i->i<=d.n+1->(d.n+1-i).toNat<n->v.length+(d.n+1-i).toNat<=1000->Qca N d (d.n+1) n i v=some (v++Ye d (d.n-i).toNat i)
 |0,i,v,_,_,g,_=>by omega
 |n+1,i,v,o,q,g,r=>by
  have hb:=XQ f;rw[Qca];by_cases h:i<d.n+1
  .rw[Wg h,Wc,Xni hN,Xa,Xe (n:=i+1) ab ab];by_cases s:i<d.n
   .obtain⟨k,j⟩:∃k,(d.n-i).toNat=k+1:=⟨(d.n-i).toNat-1,ab⟩
    have e:(d.n-(i+1)).toNat=k:=ab;rw[j,Ye];cases hp:Jt d i
    .rw[Wa,Xbt hN d f n (i+1) v ab ab ab ab,e];simp
    rw[Wc,Xb ab,Xbt hN d f n (i+1) _ ab ab ab (by grind),e];simp
   have hp:Jt d i=false:=by unfold Jt;rw[We (p:=0<=i/\i<d.n) ab];simp
   rw[hp,Wa,Xbt hN d f n (i+1) v ab ab ab ab,show(d.n-i).toNat=0 by omega,show(d.n-(i+1)).toNat=0 by omega];rfl
  rw[We h,Wa,show(d.n-i).toNat=0 by omega];simp[Ye]
def XeV(hN:1000<N)(d:Wx)(e:XN d=true):QdQ N d=some (XW d):=by
 have hb:=XQ e;have f:XM d=d.n+1:=by unfold XM;rw[e];rfl
 rw[QdQ,ZO hN,Xa,f,Xbt hN d e N 0 [] ab ab ab (by grind),Xa,XW,e];simp
def XfT{l:List Int}(f:l.length<=1000000)(hN:1000000<N):Qai N l 0=some (!l.all λp=>!(p==0)):=by
 rw[Qai,QbR];rw[JR (p:=λx:Int=>(0==x)) f hN (λn j x e=>by
  have g:=XD e
  rw[Qay,Xl g,Wc,Xf,e,Xa,Xg ab]) (λn=>by rw[Qay,XG,Wa])]
 rw[Xa,Ky,←XfS,Bool.not_not];grind
def XaT:List (List Int)->Nat
 |[]=>0
 |l::ls=>l.length+XaT ls
def XeW(ls:List (List Int))(e:ls.length<=1000):∀(n k s:Nat),k<=ls.length->ls.length-k<n->s+XaT (ls.drop k)<=10000000->QaS N ls n (s:Int) (k:Int)=some (((s+XaT (ls.drop k):Nat):Int))
 |0,k,s,_,f,_=>by omega
 |n+1,k,s,j,f,g=>by
  rw[QaS];by_cases h:k<ls.length
  .rw[Wm h,XaT]at g⊢;rw[Xl h,Wc,Xf,Wb h,Xa,Xe (n:=(s:Int)+((ls[k].length:Nat):Int)) ab ab,We ab,Wa,Xg ab];have:=XeW ls e n (k+1) (s+ls[k].length) ab ab ab;grind
  obtain rfl:k=ls.length:=ab;rw[XG,Wa,W5 (Un _)];rfl
def XeX(ls:List (List Int))(e:ls.length<=1000):∀(n k:Nat) (v:List Int),k<=ls.length->ls.length-k<n->v.length+XaT (ls.drop k)<=10000000->QaT N ls n (k:Int) v=some (v++(ls.drop k).flatten)
 |0,k,v,_,f,_=>by omega
 |n+1,k,v,j,f,g=>by
  rw[QaT];by_cases h:k<ls.length
  .rw[Wm h,XaT]at g;rw[Wm h,Xl h,Wc,Xf,Wb h,Xa,Xb ab,Xg ab,XeX ls e n (k+1) _ ab ab (by rw[WM];omega),List.flatten_cons,Ua]
  grind
def XbZ(ls:List (List Int))(f:ls.length<=1000)(p:XaT ls<=10000000)(hN:1000000<N):QaO N ls=some ls.flatten:=by
 have g:=XeW (N:=N) ls f N 0 0 ab ab (by rw[W3];omega);have j:=XeX (N:=N) ls f N 0 [] ab ab (by rw[W3];simp;omega);rw[show((0:Nat):Int)=0 from rfl,UG]at g;rw[show((0:Nat):Int)=0 from rfl,Ue]at j;have o:Qbr N ((XaT ls:Nat):Int)=some []:=by
  rw[Qbr,We ab,Wa,Xe (n:=(0:Int)) ab ab,Int.sub_zero];have e:=Xe (n:=((XaT ls:Nat):Int)) ab ab;by_cases h:(wI ((XaT ls:Nat):Int))>0
  .rw[Wg h,Wc,Xb ⟨rfl,rfl⟩,Xb ab,Xb ab,Xb ab,Oq]
  rw[We h,Wa]
 simp[QaO,g,Xa,o,j]
end
section
variable {N:Nat}
def XcK{w:Int}(hw:tU w):XbN w=⟨w / 4 % 4,w / 16 % 4096,w / 65536 % 4294967296⟩:=by have⟨e,f⟩:=hw;unfold XbN;rw[show YL .u64 w 2=w / 4 from Y8 w 2 ab e,show YL .u64 w 4=w / 16 from Y8 w 4 ab e,show YL .u64 w 16=w / 65536 from Y8 w 16 ab e];rw[show Zu .u64 (w / 4) 3=w / 4 % 4 from Y9 (w / 4) 2 ab ab ab,show Zu .u64 (w / 16) 4095=w / 16 % 4096 from Y9 (w / 16) 12 ab ab ab];rw[Xe ab ab,Xe ab ab,XmM]
def Xnj{w:Int}(hw:tU w):okH w=(XN (XbN w)&&(decide (w / 281474976710656=0)&&decide (w % 4=1))):=by
 have⟨f,g⟩:=hw;unfold okH;cases h:XN (XbN w)with
 |false=>rfl
 |true=>
  have hb:=XQ h;rw[XcK ⟨f,g⟩]at hb;have e:ZD (XbN w)=1+4*(w / 4 % 4)+16*(w / 16 % 4096)+w / 65536 % 4294967296*65536:=by rw[XcK ⟨f,g⟩];unfold ZD;have s:∀x:Int,Kj .u64 x 16=wU (x*65536):=λ_=>rfl;simp only[s];simp only[Xcg];omega
  grind
def XsX:Xd [(2:Int),2,12,32] 0=some 2:=by unfold Xd;rfl
def XsY:Xd [(2:Int),2,12,32] 1=some 2:=by unfold Xd;rfl
def XsZ:Xd [(2:Int),2,12,32] 2=some 12:=by unfold Xd;rfl
def Xs0:Xd [(2:Int),2,12,32] 3=some 32:=by unfold Xd;rfl
def XiJ(hN:1000000<N){v:Int}(f:0<=v)(q:v<=18446744073709551615):Qe1 N v [2,2,12,32]=some (if v / 281474976710656=0 then([v % 4,v / 4 % 4,v / 16 % 4096,v / 65536 % 4294967296],0)else([],2)):=by
 obtain⟨m,rfl⟩:∃m,N=m+5:=⟨N-5,ab⟩
 have e:([(2:Int),2,12,32].length:Nat)=4:=rfl;have g:wI (0+1)=1:=Xe ab ab;have h:wI (1+1)=2:=Xe ab ab;have j:wI (2+1)=3:=Xe ab ab;have o:wI (3+1)=4:=Xe ab ab;have r:wI (64-2)=62:=Xe ab ab;have s:wI (62-2)=60:=Xe ab ab;have u:wI (60-12)=48:=Xe ab ab;have x:wI (48-32)=16:=Xe ab ab;have y:QaU (m+5) v [2,2,12,32] (m+5) 64 0=some (.nxt ()):=by rw[QaU,e,XsX];simp only[Xa,g,r];rw[QaU,e,XsY];simp only[Xa,h,s];rw[QaU,e,XsZ];simp only[Xa,j,u];rw[QaU,e,Xs0];simp only[Xa,o,x];rw[QaU,e];rfl
 have p:QcU (m+5) 2=some 3:=JG ab ab ab;have z:QcU (m+5) 12=some 4095:=JG ab ab ab;have A:QcU (m+5) 32=some 4294967295:=JG ab ab ab;have B:YL .u64 v 2=v / 4:=Y8 v 2 ab f;have D:YL .u64 (v / 4) 2=v / 4 / 4:=Y8 (v / 4) 2 ab ab;have s3:YL .u64 (v / 4 / 4) 12=v / 4 / 4 / 4096:=Y8 (v / 4 / 4) 12 ab ab;have s4:YL .u64 (v / 4 / 4 / 4096) 32=v / 4 / 4 / 4096 / 4294967296:=Y8 (v / 4 / 4 / 4096) 32 ab ab;have E:Zu .u64 v 3=v % 4:=Y9 v 2 ab f q;have G:Zu .u64 (v / 4) 3=v / 4 % 4:=Y9 (v / 4) 2 ab ab ab;have H:Zu .u64 (v / 4 / 4) 4095=v / 4 / 4 % 4096:=Y9 (v / 4 / 4) 12 ab ab ab;have I:Zu .u64 (v / 4 / 4 / 4096) 4294967295=v / 4 / 4 / 4096 % 4294967296:=Y9 (v / 4 / 4 / 4096) 32 ab ab ab;have J:QaV (m+5) [2,2,12,32] (m+5) v 0 []=some (v / 4 / 4 / 4096 / 4294967296,[v % 4,v / 4 % 4,v / 4 / 4 % 4096,v / 4 / 4 / 4096 % 4294967296]):=by rw[QaV,e,XsX];rw[Wg ab,Wc,Xa,p,Xa,Xb ac,Xb ab,B,E,g];rw[QaV,e,XsY];rw[Wg ab,Wc,Xa,p,Xa,Xb ac,Xb ab,D,G,h];rw[QaV,e,XsZ];rw[Wg ab,Wc,Xa,z,Xa,Xb ac,Xb ab,s3,H,j];rw[QaV,e,Xs0];rw[Wg ab,Wc,Xa,A,Xa,Xb ac,Xb ab,s4,I,o];rw[QaV,e];rw[We ab,Wa];rfl
 rw[Qe1,y,Xa,Xo,J,Xa];grind
def XdL(hN:1000000<N){w:Int}(hw:tU w):QdY N w=some (Zj w,okH w):=by
 have⟨e,f⟩:=hw;rw[QdY,XiJ hN e f,Xa];unfold Zj;rw[Xnj ⟨e,f⟩];by_cases h:w / 281474976710656=0
 .have j:Xd [w % 4,w / 4 % 4,w / 16 % 4096,w / 65536 % 4294967296] 0=some (w % 4):=by unfold Xd;rfl
  have g1:Xd [w % 4,w / 4 % 4,w / 16 % 4096,w / 65536 % 4294967296] 1=some (w / 4 % 4):=by unfold Xd;rfl
  have g2:Xd [w % 4,w / 4 % 4,w / 16 % 4096,w / 65536 % 4294967296] 2=some (w / 16 % 4096):=by unfold Xd;rfl
  have g3:Xd [w % 4,w / 4 % 4,w / 16 % 4096,w / 65536 % 4294967296] 3=some (w / 65536 % 4294967296):=by unfold Xd;rfl
  rw[Wn h];simp only[j,g1,g2,g3,Xa,show((0:Int) != 0)=false from rfl,Wa,Xe (n:=w / 4 % 4) ab ab,Xe (n:=w / 16 % 4096) ab ab,XqQ (n:=w / 65536 % 4294967296) ab ab];rw[Vy ab,Xa,←XcK ⟨e,f⟩,Wg h,Uc];by_cases g:w % 4=1
  .rw[g,show((1:Int) != 1)=false from rfl,Wa,Wg rfl,Bool.and_true];cases XN (XbN w)<;>rfl
  rw[show(w % 4 != 1)=true by simpa using g,Wc,We g,Bool.and_false];rfl
 simp_all
def Xb0{ws:List Int}(f:ws.length<=1000000){a:Int}(g:a<=18446744073709551615)(n:Int):Qe2 N ws a n=QdC N ws a n:=by
 rw[Qe2,QdC];by_cases e:a<4096
 .rw[Wg e,Wc,Wc]
 rw[X5 e,Wa,Wa,XE (n:=a-4096) ab ab,XE (n:=(ws.length:Int)) ab ab,XE (n:=4096+(ws.length:Int)) ab ab];grind
def Xhq{ws:List Int}(e:ws.length<=1000000){a:Int}(f:a<=18446744073709551615):Qgd N ws a=Qbi N ws a:=by simp[Qgd,Qbi,QgY,QfK,Xb0,e,f]
def Xnk{ws:List Int}(e:ws.length<=1000000){a:Int}(f:a<=18446744073709551615)(n:Int):QgM N ws a n=Qc6 N ws a n:=by
 rw[QgM,Qc6,Xb0 e f];by_cases g:n<0
 .simp_all
 rw[X5 g,Wa,Wa];congr 1;funext y;cases y.2 with
 |false=>rfl
 |true=>simp only[Wi,Wa,Qac,Xa];unfold grd;grind
structure HT(h:Wh):Prop where
 hb:HB h
 tw:X6 h
def HT.word{h:Wh}(t:HT h){i w:Int}(e:Xd h.w i=some w):tU w:=by have:=t.tw;exact this w (YC e)
def Xb1(hN:NB N){h:Wh}(ht:HT h){a:Int}(v:tU a):Qeo N h a=Qao N h a:=by
 have f:1000000<N:=by unfold NB at hN;omega
 have hb:=ht.hb;unfold HB at hb;rw[Qeo,Qao,YJ ab f];have⟨b,eb,j⟩:=YS (N:=N) ab (h:=h) ab ab;rw[eb,Xa,Xa];cases b with
 |false=>rfl
 |true=>
 have hp:=j rfl;rw[Wi,Wa,Wa,XiI _ _ _ v.2,KX,Wk (by simp[hp.conf])];by_cases g:4096<=a/\a<4096+h.c.p*h.c.W;case neg=>simp[Wk,g,Xa]
 rw[Wn g,Xa,Xa];have po:=XfB hp.conf g.1 g.2;have y:=hp.pages;generalize (a-4096) / h.c.W=pn at *;generalize (a-4096) % h.c.W=e at *;have o:=hp.pgs pn ab ab;have q:=o.small;rw[Xq ab ab,Xa,Xa];generalize pg h.p pn=p at q⊢;rw[Qgt,Xhq ab v.2];have A:=Xh.1 hp.conf;have B:=XO hp.conf (i:=0) ab ab;have r:∃w,Qbi N h.w a=some (w,0)/\tU w:=by rw[Qbi,QfK,QdC,X5 (show¬a<4096 by omega),Wa,XE (n:=(h.w.length:Int)) ab ab,XE (n:=4096+(h.w.length:Int)) ab ab,X5 (show¬a>4096+(h.w.length:Int) by have:=hp.words;omega),Wa,XE (n:=a-4096) ab ab,Xe (n:=a-4096) ab ab,Xe ab ab,Xa];rw[Wg (show 1<=(h.w.length:Int)-(a-4096) by have:=hp.words;omega),Wi,Wa,Xa];simp only[show((0:Int) != 0)=false from rfl,Wa];have x:=Yi (l:=h.w) (i:=a-4096) ab (by have:=hp.words;omega);exact⟨_,by rw[x,Xa],ht.word x⟩
 have⟨w,r,tw⟩:=r;rw[r,Xa,Xa,Xa,XdL f tw,ZN,Xa,Xa];simp only[ZO (show 1000<N by omega),X4,Xa,XF];have D:=XeH w;generalize Zj w=d at *;generalize XM d=s at *;cases okH w with
 |false=>simp
 |true=>
  by_cases k1:p.k=1
  .have k2:(p.k==2)=false:=by rw[k1];rfl
   simp only[show(p.k != 1)=false by simpa using k1,show(p.k==1)=true by simpa using k1,k2,Wc,Wa];by_cases u:e>=p.u
   .rw[Wg u,Wc,Wc];rfl
   rw[X5 u,Wa,Wa];by_cases z:wI (e+s)>p.u
   .rw[Wg z,Wc];rw[Xe (n:=e+s) ab ab]at z;have:¬s<=wI (p.u-e):=by rw[Xe ab ab];omega
    rw[X5 this];rfl
   rw[X5 z,Wa];rw[Xe (n:=e+s) ab ab]at z;rw[Xe (n:=p.u-e) ab ab,Wg ab];rfl
  grind
end
section
variable {N:Nat}
def fnd(h:Wh)(a:Int):UV:=⟨a,hdA h.w a⟩
def Xhr(l:List UV)(f:l.length<=1000000):∀(n k:Nat) (v:List Int),k<=l.length->l.length-k<n->v.length=k->Qdg N l n (k:Int) v=some (v++(l.drop k).map (·.addr))
 |0,k,v,_,h,_=>by omega
 |n+1,k,v,j,o,g=>by
  rw[Qdg];by_cases e:k<l.length
  .rw[Wg ab,Wc,Xf,Wb e,Xa,Xb ab,Xg ab,Xhr l f n (k+1) _ ab ab (by simp[g]),Wm e,Ua,UH];rfl
  grind
def XdM(l:List UV)(e:l.length<=1000000)(hN:1000000<N):Qcj N l=some (l.map (·.addr)):=by rw[Qcj,show(0:Int)=((0:Nat):Int)from rfl,Xhr l e N 0 [] ab ab rfl,Xa];simp
def XpY(h:Wh)(l:List Int):(l.map (fnd h)).map (·.addr)=l:=by rw[Og];exact List.map_id'' (λ_=>rfl) l
def Xuh(h:Wh):Ex (List Int×Int) (List Int)->List UV×Int
 |.ret r=>([],19)
 |.nxt l=>(l.map (fnd h),0)
def XeY(hN:NB N){h:Wh}(ht:HT h)(hp:Uy h){i:Int}(A:0<=i)(E:i<h.p.length)(g:(pg h.p i).k=1\/(pg h.p i).k=2):∀(n:Nat) (o:Int) (l:List Int),0<=o->(66-o).toNat<n->(l.length:Int)<=o->((pg h.p i).k=1->o<=64)->((pg h.p i).k=2->o=0) ->
 ∃e,Qah N h i (pg h.p i) n o l=some e/\Qb0 N h i (pg h.p i) n o (l.map (fnd h))=some (Xuh h e)/\(∀r,e=.ret r->r=([],19))
 |0,o,l,G,H,I,k1,k2=>by omega
 |n+1,o,l,G,H,I,k1,k2=>by
  have J:1000000<N:=by unfold NB at hN;omega
  have U:=Xh.1 hp.conf;have K:=hp.pages;have L:=(hp.pgs i A E).small;rw[Qah,Qb0];by_cases j:o<(pg h.p i).u;case neg=>rw[X5 j,Wa,Wa];exact⟨_,rfl,rfl,λr e=>by grind⟩
  have q:o<h.c.W:=by
   rcases g with g|g
   .omega
   omega
  rw[Wg j,Wc,Wc,XdJ,Kb,hp.conf,Xa,Xa,Wk ac,Wn ab];have M:=XO hp.conf (i:=i) A ab;have O:tU (Xc h.c i o):=by unfold Xc;exact⟨ab,ab⟩
  rw[show((0:Int)==0)=true from rfl,Wc,Xb1 hN ht O];have⟨y,R,S⟩:=Xch hN ht.hb (Xc h.c i o);rw[R,Xa,Xa];by_cases B:y.2=0;case neg=>
   rw[show(y.2 != 0)=true by simp_all,show(y.2==0)=false by simp_all,Wc,Wa]
   exact⟨_,rfl,rfl,λr e=>by simp_all⟩
  have⟨_,_,s,D⟩:=S B;have v:=XI h.w (Xc h.c i o);have f:=Ym hp.conf (p:=i) G q;rw[show(y.2 != 0)=false by simp_all,show(y.2==0)=true by simp_all,Wc,Wa,D,Xb ab];rw[ZO ab,Xa,v.1,Xb (by grind)];rw[show UV.mk (Xc h.c i o) (hdA h.w (Xc h.c i o))=fnd h (Xc h.c i o)from rfl];have T:l.map (fnd h)++[fnd h (Xc h.c i o)]=(l++[Xc h.c i o]).map (fnd h):=by simp
  rw[T];rcases g with g|g
  .rw[show((pg h.p i).k==2)=false by simp_all,Wa,X4,Xa,v.1];have x:=s.small;rw[f.1,f.2]at x;rw[Xe (n:=o+szA h.w (Xc h.c i o)) ab ab];exact XeY hN ht hp A E (.inl g) n _ _ ab ab (by grind) (λ_=>ab) (λk=>ab)
  rw[show((pg h.p i).k==2)=true by simp_all,Wc];have z:=s.large;rw[f.1,f.2]at z;refine⟨_,rfl,?_,λr e=>by grind⟩;rw[Xe (n:=o+szA h.w (Xc h.c i o)) ab ab];obtain⟨m,rfl⟩:∃m,n=m+1:=⟨n-1,ab⟩
  rw[Qb0,X5 ab,Wa];rfl
def Xz{h:Wh}(hN:NB N)(hb:HB h)(ep:Qaa N h=some true):Uy h:=by have⟨b,eb,e⟩:=YS (N:=N) (by unfold NB at hN;omega) hb.1 hb.2;simp_all
def Jk(hN:NB N){h:Wh}(hb:HB h):∃b,Qaa N h=some b:=by have⟨b,eb,_⟩:=YS (N:=N) (by unfold NB at hN;omega) hb.1 hb.2;simp_all
def XdN(hN:NB N){h:Wh}(ht:HT h)(ep:Qaa N h=some true){i:Int}(f:0<=i)(g:i<h.p.length):∃r,Qaf N h i=some r/\QfM N h i=some (r.1.map (fnd h),r.2)/\(r.2≠0->r=([],19)):=by
 have hb:=ht.hb;have hp:=Xz hN hb ep;rw[Qaf,QfM,ep,Xa,Xq f g,Xa,Xa,Wi,Wa,X5 (show¬i<0 by omega),Wa,X5 (show¬i>=_ by omega),Wa];have o:=(hp.pgs i f g).kind;have main:((pg h.p i).k=1\/(pg h.p i).k=2)->∃r,(bnd (Qah N h i (pg h.p i) N 0 []) λe=>exK e (λr=>some r) λq=>some (q,0))=some r/\Qb0 N h i (pg h.p i) N 0 []=some (r.1.map (fnd h),r.2)/\(r.2≠0->r=([],19)):=by
  intro s;obtain⟨e,u,j,e3⟩:=XeY hN ht hp f g s N 0 [] ab (by unfold NB at hN;omega) ac (λ_=>ab) (λ_=>rfl);rw[u,Xa];rw[Ij]at j;rw[j];cases e with
  |ret r=>rw[e3 r rfl];rw[Xy];exact⟨_,rfl,rfl,λ_=>rfl⟩
  |nxt l=>rw[Xo];exact⟨_,rfl,rfl,λh=>absurd rfl h⟩
 by_cases k1:(pg h.p i).k=1
 .simp_all
 by_cases k2:(pg h.p i).k=2
 .simp_all
 rw[show((pg h.p i).k != 1)=true by simpa using k1,show((pg h.p i).k != 2)=true by simpa using k2];refine⟨([],0),?_,rfl,λh=>absurd rfl h⟩;grind
def Qmc(hN:NB N){h:Wh}(hb:HB h)(i:Int){r:List Int×Int}(e:Qaf N h i=some r):r.1.length<=64:=by have:=(Qkw hN hb i).get_eq e;omega
def XdO(hN:NB N){h:Wh}(ht:HT h)(i:Int):QeT N h i=Qaf N h i:=by
 have hb:=ht.hb;rw[QeT,YJ (by have:=hb.2;omega) (by unfold NB at hN;omega)];have⟨b,eb⟩:=Jk (N:=N) hN hb;rw[eb,Xa];cases b with
 |false=>simp[Qaf,eb,Xa]
 |true=>
 by_cases e:i<0
 .rw[Qaf,eb,Xa,Wg e];rfl
 by_cases f:i>=h.p.length
 .rw[Qaf,eb,Xa,X5 e,Wg f];rfl
 have⟨r,g,j,e3⟩:=XdN hN ht eb (i:=i) ab ab;rw[Wi,Wa,X5 e,Wa,X5 f,Wa,j,Xa,g];have o:=Qmc hN hb i g;by_cases z:r.2=0
 .rw[show(r.2 != 0)=false by simpa using z,Wa,XdM _ (by rw[Ug];omega) (by unfold NB at hN;omega),Xa,XpY];congr 1;exact Prod.ext rfl z.symm
 simp_all
def XjQ(hN:NB N){h:Wh}(ht:HT h)(ep:Qaa N h=some true):∀(n k:Nat) (l:List Int),k<=h.p.length->h.p.length-k<n->l.length<=64*k ->
 ∃e,QaG N h n (k:Int) l=some e/\QfO N h n (k:Int) (l.map (fnd h))=some (match e with|.ret r=>.ret (r.1.map (fnd h),r.2)|.nxt l=>.nxt (l.map (fnd h)))/\(∀r,e=.ret r->r=([],19))/\(∀f,e=.nxt f->f.length<=64*h.p.length)
 |0,k,l,_,h,_=>by omega
 |n+1,k,l,s,u,v=>by
  have hb:=ht.hb;have j:=hb.2;rw[QaG,QfO];by_cases o:k<h.p.length;case neg=>rw[We (show¬(k:Int)<_ by omega),Wa,Wa];refine⟨_,rfl,rfl,?_,?_⟩<;>intro r e<;>cases e;omega
  rw[Wg (show(k:Int)<_ by omega),Wc,Wc];have⟨r,g,q,e3⟩:=XdN hN ht ep (i:=(k:Int)) ab ab;rw[g,q,Xa,Xa];have x:=Qmc hN hb (k:Int) g;by_cases z:r.2=0
  .rw[show(r.2 != 0)=false by simpa using z,Wa,Wa,Xb ab,Xb ai,Xg ab,←UO];exact XjQ hN ht ep n (k+1) _ ab ab (by rw[WM];omega)
  simp_all
def XpZ(hN:NB N){h:Wh}(ht:HT h):∃r,Qby N h=some r/\Qhc N h=some (r.1.map (fnd h),r.2)/\(r.2≠0->r.1=[])/\r.1.length<=6400000:=by
 have hb:=ht.hb;have g:=hb.2;rw[Qby,Qhc,YJ ab (by unfold NB at hN;omega)];have⟨b,eb⟩:=Jk (N:=N) hN hb;rw[eb,Xa,Xa];cases b with
 |false=>simp
 |true=>
 rw[Wi,Wa,Wa];have⟨e,j,f,e3,e4⟩:=XjQ hN ht eb N 0 [] ab (by unfold NB at hN;omega) ac;rw[Ij]at f;rw[show(0:Int)=((0:Nat):Int)from rfl,j,f,Xa,Xa];cases e with
 |ret r=>rw[Xy];rw[Xy,e3 r rfl];simp
 |nxt l=>rw[Xo];grind[Xo]
end
section
variable {N:Nat}
def Y4(f:UV):Bool:=!(f.hd.k==0)
def Yn(h:Wh)(l:List Int):List Int:=l.filter λa=>Y4 (fnd h a)
def XiK(e:List UV)(r:e.length<=1000000):∀(n i j:Nat) (v:List UV),i<=j->j<=e.length->e.length-j<n->v.length=e.length->v.drop j=e.drop j ->
 ∃(f:Nat) (g:List UV),Qcs N n (i:Int) (j:Int) v=some ((f:Int),g)/\g.length=e.length/\f<=e.length/\g.take f=v.take i++(e.drop j).filter Y4
 |0,i,j,v,_,_,h,_,_=>by omega
 |n+1,i,j,v,s,z,A,u,hd=>by
  rw[Qcs,Xb ab];by_cases o:j<e.length;case neg=>
   grind
  have p:v[j]'ab=e[j]:=by have a:=Wm (l:=v) (i:=j) ab;have b:=Wm (l:=e) (i:=j) ab;rw[hd,b]at a;exact(IR a).1.symm
  have q:v.drop (j+1)=e.drop (j+1):=by have a:=Wm (l:=v) (i:=j) ab;have b:=Wm (l:=e) (i:=j) ab;rw[hd,b]at a;exact(IR a).2.symm
  rw[Wg ab,Wc,Xf,Wb ab,Xa,Qep,Xa,p,Wm o];cases B:(e[j].hd.k==0)with
  |true=>rw[Wi,Wa,Xg ab,UC (by unfold Y4;simp_all)];exact XiK e r n i (j+1) v ab ab ab u q
  |false=>rw[Ui,Wc,Xf,Wb ab,Xa,Xg ab,Xg ab,Ur (by unfold Y4;simp_all)];have⟨f,g,x,y,e3,e4⟩:=XiK e r n (i+1) (j+1) (v.set i e[j]) ab ab ab (by simp_all) (by rw[US ab];omega);refine⟨f,g,x,y,e3,?_⟩;rw[e4,List.take_succ,List.getElem?_set_self ab,IS (Un _)];simp
def Xp0(l:List UV)(g:l.length<=1000000)(hN:1000000<N):Qas N l=some (Zn (λf=>f.hd.k==0) l):=by
 exact JR (p:=λf:UV=>f.hd.k==0) g hN (λn k x e=>by
  have h:=XD e
  rw[Qak,Xl h,Wc,Xf,e,Xa,Qep,Xa,Xg ab]) (λn=>by rw[Qak,XG,Wa])
def Xld(l:List UV)(o:l.length<=1000000)(hN:1000000<N):(bnd (Qas N l) λp=>
 bif (p==(-1))then(bnd (Qcj N l) λq=>
  some (q,(0:Int)))
 else bnd (Qcs N N p (wI (p+1)) l) λe=>
 grd (0<=e.1/\e.1<=(e.2.length:Int)/\(e.2.length:Int)<=(e.2.length:Int)) <|
 grd (0<=e.1/\e.1<=(((((min e.1.toNat e.2.length)+(e.2.length-e.1.toNat))+(e.2.length-(e.1.toNat+(e.2.length-e.1.toNat)))):Nat):Int)) <|
 bnd (Qcj N ((((e.2.take e.1.toNat)++(List.replicate (e.2.length-e.1.toNat) (UV.mk 0 (Wx.mk 0 0 0))))++(e.2.drop (e.1.toNat+(e.2.length-e.1.toNat)))).take e.1.toNat)) λr=>
 some (r,0))=some ((l.filter Y4).map (·.addr),0):=by
 rw[Xp0 l o hN,Xa];unfold Zn;cases s:l.findIdx? (λf=>f.hd.k==0)with
 |none=>
  have g:l.filter Y4=l:=by rw[List.findIdx?_eq_none_iff]at s;rw[Il];intro x u;unfold Y4;rw[s x u];rfl
  rw[show((-1:Int)==-1)=true from rfl,Wc,XdM l o hN,Xa,g]
 |some j=>
  have⟨v,hp,hb⟩:=UW.1 s;rw[show((j:Int)==-1)=false by simp,Wa,Xg ab];have⟨i',h,y,D,e3,e4⟩:=XiK (N:=N) l o N j (j+1) l ab ab ab rfl rfl;rw[y,Xa];dsimp only;rw[Xb ab,Xb ab,show((i':Int)).toNat=i' from rfl];have et:(((h.take i')++(List.replicate (h.length-i') (UV.mk 0 (Wx.mk 0 0 0))))++(h.drop (i'+(h.length-i')))).take i'=h.take i':=by rw[Ua,List.take_append_of_le_length (by grind),List.take_take,WD]
  have z:l.filter Y4=l.take j++(l.drop (j+1)).filter Y4:=by
   conv=>lhs;rw[←U9 j l,IH,Wm v,UC (by unfold Y4;simp_all)]
   congr 1;rw[Il];intro x u;obtain⟨k,A,rfl⟩:=WA u;rw[Wl]at A;rw[Iy];have:=hb k ab;unfold Y4;simpa using this
  rw[et,e4,←z];have B:(l.filter Y4).length<=l.length:=List.length_filter_le _ _;rw[XdM _ ab hN,Xa]
def Xas{h:Wh}(y:List Int×Int)(j:y.1.length<=1000000)(e:∀a∈y.1,Qao N h a=some (hdA h.w a,0)):∀(n k:Nat) (v:List Int),k<=y.1.length->y.1.length-k<n->v.length<=k ->
 Qa6 N h y n (k:Int) v=some (v++Yn h (y.1.drop k))
 |0,k,v,_,o,_=>by omega
 |n+1,k,v,g,o,p=>by
  rw[Qa6];by_cases f:k<y.1.length
  .rw[Wg ab,Wc,Xf,Wb f,Xa,e _ (Wy f),Xa,Xg ab,Wm f,Yn];by_cases g:(hdA h.w y.1[k]).k=0
   .rw[show((hdA h.w y.1[k]).k != 0)=false by simp_all,Wa,Xas y j e n (k+1) v ab ab ab,UC (by simp[Y4,fnd,g])];rfl
   rw[show((hdA h.w y.1[k]).k != 0)=true by simp_all,Wc,Xa,Xb ab,Xas y j e n (k+1) _ ab ab (by simp_all),Ur (by simp[Y4,fnd,g])];simp[Yn]
  rw[We ab,Wa,W5 ab];simp[Yn]
def JH(hN:NB N){h:Wh}(ht:HT h):QdN N h=Qal N h:=by
 have e:1000000<N:=by unfold NB at hN;omega
 have⟨r,f,o,e3,_⟩:=XpZ hN ht;have⟨g,hp,_⟩:=(J8 hN ht.hb).get_eq f;have j:=g.len;rw[QdN,Qal,f,o,Xa,Xa];rw[show(0:Int)=((0:Nat):Int)from rfl,Xas r ab g.obj.ev N 0 [] ab ab ac,Xa,W3,Ue];by_cases z:r.2=0
 .rw[show(r.2 != ((0:Nat):Int))=false by simp_all,Wa];have:=Xld (N:=N) (r.1.map (fnd h)) (by grind) e;rw[show((0:Nat):Int)=0 from rfl,this,z];congr 2;rw[List.filter_map,Og];exact List.map_id'' (λ_=>rfl) _
 rw[show(r.2 != ((0:Nat):Int))=true by simp_all,Wc,e3 z];rfl
end
section
variable {N:Nat}
def exM{α β γ:Type}(f:α->γ):Ex α β->Ex γ β
 |.ret a=>.ret (f a)
 |.nxt b=>.nxt b
def IE.tu{h:Wh}(hp:Uy h){a:Int}(e:IE h a):tU a:=by have:=e.rng;have:=XO hp.conf (i:=0) ab (by have:=Xh.1 hp.conf;omega);exact⟨ab,ab⟩
def XeZ(hN:NB N){h:Wh}(ht:HT h)(hp:Uy h){i:Int}(r:0<=i)(s:i<h.p.length)(l:List Int)(u:l.length<=4096)(f:∀a∈l,IE h a)(g:∀a∈l,Qao N h a=some (hdA h.w a,0)):∀(n k:Nat),k<=l.length->l.length-k<n ->
 ∃e,QaR N h i l n (k:Int)=some e/\Qcl N h i l n (k:Int)=some (exM (λa=>(a,true)) e)/\∀a,e=.ret a->a∈l
 |0,k,_,v=>by omega
 |n+1,k,x,v=>by
  rw[QaR,Qcl];by_cases j:k<l.length;case neg=>rw[We ab,Wa,Wa];exact⟨_,rfl,rfl,λa e=>by grind⟩
  have o:=Wy j;have q:1000<N:=by unfold NB at hN;omega
  have nx:=XeZ hN ht hp r s l u f g n (k+1) ab ab;simp only[Wg (show(k:Int)<(l.length:Int) by omega),Wc,Xf,Wb j,Xa,Xb1 hN ht ((f _ o).tu hp),g _ o,ZO q,X4,Xne,XgV,Xq r s,Xg (show k<=140737488355328 by omega)];cases ((pg h.p i).k==1)<;>cases ((pg h.p i).k==2)<;>cases (decide (XM (hdA h.w l[k])<=smC h.c))<;>cases ((hdA h.w l[k]).k==0);all_goals simp only[Wc,Wa,Wi,Ui]
  all_goals first
   |exact nx
   |exact⟨_,rfl,rfl,λa e=>by cases e;exact o⟩
def Xle(hN:NB N){h:Wh}(ht:HT h)(hp:Uy h){i:Int}(j:0<=i)(o:i<h.p.length)(l:List Int)(q:l.length<=4096)(f:∀a∈l,IE h a)(g:∀a∈l,Qao N h a=some (hdA h.w a,0)):
 ∃a,Qeg N h i l=some a/\∃b,QfN N h i l=some (b,a != 0):=by
 have⟨e,r,s,e3⟩:=XeZ hN ht hp j o l q f g N 0 ab (by unfold NB at hN;omega);rw[Qeg,QfN,show(0:Int)=((0:Nat):Int)from rfl,r,s,Xa,Xa];cases e with
 |ret a=>have:=(f a (e3 a rfl)).rng;simp only[exM,Xy];exact⟨a,rfl,a,by rw[show(a != ((0:Nat):Int))=true by grind]⟩
 |nxt u=>simp[exM,Xo]
def Xhs{h:Wh}(e:(pg h.p 0).k≠3)(f:h.p.length<=100000):∀(n i:Nat),i<h.p.length->i<n->QeH N h n (i:Int)=QcJ N h n (i:Int)
 |0,i,_,g=>by omega
 |n+1,i,o,g=>by
  rw[QeH,QcJ,Xq ab ab,Xa,Xa];cases i with
  |zero=>grind
  |succ j=>rw[Wg ab,Wc,Xe ab ab,show((j+1:Nat):Int)-1=(j:Int) by omega,Xhs e f n j ab ab]
def Xnl(hN:NB N){h:Wh}(hb:HB h)(hp:Uy h){i:Int}(e:0<=i)(f:i<h.p.length):QgN N h i=QeL N h i:=by
 obtain⟨k,rfl⟩:∃k:Nat,i=(k:Int):=⟨i.toNat,ab⟩
 have:=hb.2;rw[QgN,QeL,Xhs hp.first this N k ab (by unfold NB at hN;omega)]
def Kl(h:Wh)(a:Int):Int:=if(hdA h.w a).k=0 then 1 else szA h.w a
def Xlf(h:Wh)(i:Int)(l:List Int)(k:Int):Bool:=l.any λa=>decide (a-Xc h.c i 0<=k/\k<a-Xc h.c i 0+Kl h a)
def XjR(h:Wh)(hp:Uy h)(i:Int)(z:0<=i)(B:i<h.p.length)(l:List Int)(k:Nat)(a:Int)(A:l[k]? = some a)(x:Int)(D:x<=256)(E:4096<=a/\a<=8192):∀(n:Nat) (w:Int) (u:List Bool),0<=w->(x-w).toNat<n->u.length<=1000 ->
 ∃e,QbN N h i l (k:Int) x n w u=some e/\e.length=u.length/\∀j,j<u.length->e.getD j false=(u.getD j false||decide (a-Xc h.c i 0+w<=j/\(j:Int)<a-Xc h.c i 0+x))
 |0,w,u,_,G,_=>by omega
 |n+1,w,u,hw,G,K=>by
  have H:=hp.pages;have L:=Xh.1 hp.conf;have M:=XO hp.conf (i:=i) z ab;rw[QbN];by_cases f:w<x;case neg=>
   rw[X5 f,Wa]
   exact⟨u,rfl,rfl,λj g=>by rw[X5 (show¬_ by omega),Bool.or_false]⟩
  have O:Xc h.c i 0=4096+i*h.c.W:=by unfold Xc;omega
  rw[Wg f,Wc,Xf,A,Xa];rw[Xe (n:=a) ab ab,Xe (n:=a-4096) ab ab,Xe (n:=a-4096+w) ab ab,Xe (n:=i*h.c.W) ab ab,Xe (n:=a-4096+w-i*h.c.W) ab ab,Xe (n:=w+1) ab ab];generalize R:a-4096+w-i*h.c.W=q;have step:∀v:List Bool,v.length=u.length->(∀j,j<u.length->v.getD j false=(u.getD j false||decide ((j:Int)=q)))->∃e,QbN N h i l (k:Int) x n (w+1) v=some e/\e.length=u.length/\∀j,j<u.length->e.getD j false=(u.getD j false||decide (a-Xc h.c i 0+w<=j/\(j:Int)<a-Xc h.c i 0+x)):=by intro v o r;obtain⟨e,I,J,e3⟩:=XjR h hp i z B l k a A x D E n (w+1) v ab ab ab;refine⟨e,I,J.trans o,λj g=>?_⟩;rw[e3 j ab,r j g,Bool.or_assoc];congr 1;rw[←Bool.decide_or];exact decide_eq_decide.2 ab
  by_cases s:q>=0;case neg=>
   rw[X5 s,Wa]
   exact step u rfl λj g=>by rw[X5 (show¬(j:Int)=q by omega),Bool.or_false]
  rw[Wg s,Wc,Xb ab];by_cases y:q<u.length;case neg=>
   rw[X5 y,Wa]
   exact step u rfl λj g=>by rw[X5 (show¬(j:Int)=q by omega),Bool.or_false]
  rw[Wg y,Wc,Yi s y,Xa];refine step _ (by rw[WL]) λj g=>?_;rw[Wj,U1];grind
end
section
variable {N:Nat}
def Xlg(h:Wh)(i k a:Int):Bool:=decide (a-Xc h.c i 0<=k/\k<a-Xc h.c i 0+Kl h a)
def XfU(h:Wh)(i:Int)(l:List Int)(k:Int):Xlf h i l k=l.any (Xlg h i k):=rfl
def XfV(h:Wh)(a:Int):1<=Kl h a/\Kl h a<=256:=by have:=XI h.w a;unfold Kl;omega
def XjS(hN:NB N){h:Wh}(hp:Uy h)(i:Int)(x:0<=i)(y:i<h.p.length)(l:List Int)(B:l.length<=4096)(o:∀a∈l,IE h a)(r:∀a∈l,Qao N h a=some (hdA h.w a,0)):∀(n k:Nat) (u:List Bool),k<=l.length->l.length-k<n->u.length<=1000 ->
 ∃s,Qdh N h i l n (k:Int) u=some s/\s.length=u.length/\∀j:Nat,j<u.length->s.getD j false=(u.getD j false||(l.drop k).any (Xlg h i (j:Int)))
 |0,k,u,_,D,_=>by omega
 |n+1,k,u,K,D,E=>by
  have L:=Xh.1 hp.conf;have M:=XO hp.conf (i:=0) ab ab;have G:1000000<N:=by unfold NB at hN;omega
  rw[Qdh];by_cases f:k<l.length;case neg=>
   rw[We ab,Wa,W5 ab]
   exact⟨u,rfl,rfl,λj z=>ac⟩
  have g:=Wy f;have O:=(o _ g).rng;have H:=XfV h l[k];have v:=XI h.w l[k];have e:∀kk:Int->Option (List Bool),(jn kk λA=>bif ((hdA h.w l[k]).k==0)then A 1 else A (XM (hdA h.w l[k])))=kk (Kl h l[k]):=by
   intro kk;rw[XF];unfold Kl;rw[v.1];by_cases q:(hdA h.w l[k]).k=0
   .rw[Wn q,show((hdA h.w l[k]).k==0)=true by simpa using q,Wc]
   rw[Wk q,show((hdA h.w l[k]).k==0)=false by simpa using q,Wa]
  rw[Wg ab,Wc,Xf,Wb f,Xa,r _ g,Xa,X4,Xa];rw[e];have⟨I,f1,f2,J⟩:=XjR (N:=N) h hp i x y l k l[k] (Wb f) (Kl h l[k]) H.2 ab N 0 u ab ab E;rw[f1,Xa,Xg ab];have⟨s,g1,g2,g3⟩:=XjS hN hp i x y l B o r n (k+1) I ab ab ab;refine⟨s,g1,g2.trans f2,λj z=>?_⟩;rw[g3 j ab,J j z,Bool.or_assoc,Wm f,List.any_cons];unfold Xlg;simp
def XjT(hN:NB N){h:Wh}(hp:Uy h)(i:Int)(o:0<=i)(q:i<h.p.length)(l:List Int)(r:l.length<=4096)(e:∀a∈l,IE h a)(f:∀a∈l,Qao N h a=some (hdA h.w a,0)):
 ∃u,QgH N h i l=some u/\u.length=h.c.W.toNat/\∀j:Nat,j<u.length->u.getD j false=Xlf h i l (j:Int):=by have v:=Xh.1 hp.conf;rw[QgH,Xb ab,show(0:Int)=((0:Nat):Int)from rfl];have⟨u,s,g,e3⟩:=XjS hN hp i o q l r e f N 0 (List.replicate h.c.W.toNat false) ab (by unfold NB at hN;omega) (by grind);rw[s,Xa];rw[W6]at g e3;refine⟨u,rfl,g,λj x=>?_⟩;rw[e3 j ab,W3,XfU,show(List.replicate h.c.W.toNat false).getD j false=false by simp_all,Is]
def wdP(h:Wh)(i:Int)(k:Nat):Int:=wd h.w (Xc h.c i 0+k)
def Xp1(hN:NB N){h:Wh}(hb:HB h)(hp:Uy h){i:Int}(e:0<=i)(j:i<h.p.length){k:Nat}(o:(k:Int)<h.c.W):Qfn N h i (k:Int)=some (wdP h i k):=by
 have f:=hp.pages;have q:=XO hp.conf (i:=i) e ab;rw[Qfn,QgI,Kb,hp.conf,Wk ac,Wn ab,Xa,Yp (by unfold BIG;have:=hb.1;omega),Xa,Xa];have g:Xc h.c i (k:Int)=Xc h.c i 0+k:=by unfold Xc;omega
 have hw:=hp.words;rw[g,Wn (by unfold inW Xc;omega)];rfl
def XfW(hN:NB N){h:Wh}(hb:HB h)(hp:Uy h){i:Int}(g:0<=i)(q:i<h.p.length)(u:List Bool)(r:u.length=h.c.W.toNat):∀(n k:Nat),k<=u.length->u.length-k<n ->
 ∃e,QcK N h i u n (k:Int)=some e/\((∃j,k<=j/\j<u.length/\u.getD j false=false/\wdP h i j≠0)->∃a,e=.ret a/\a≠0)/\((¬∃j,k<=j/\j<u.length/\u.getD j false=false/\wdP h i j≠0)->e=.nxt ())
 |0,k,_,s=>by omega
 |n+1,k,B,s=>by
  have v:=hp.pages;have D:=XO hp.conf (i:=i) g ab;rw[QcK];by_cases f:k<u.length;case neg=>
   grind
  rw[Wg ab,Wc,Xf,Wb f,Xa,Xp1 hN hb hp g q ab,Xa,Xg ab];have E:u.getD k false=u[k]:=by rw[Wj,Wb f];rfl
  have skip:(u[k]=true\/wdP h i k=0)->∃e,QcK N h i u n ((k+1:Nat):Int)=some e/\((∃j,k<=j/\j<u.length/\u.getD j false=false/\wdP h i j≠0)->∃a,e=.ret a/\a≠0)/\((¬∃j,k<=j/\j<u.length/\u.getD j false=false/\wdP h i j≠0)->e=.nxt ()):=by
   intro G;obtain⟨e,x,y,e3⟩:=XfW hN hb hp g q u r n (k+1) ab ab;refine⟨e,x,λ⟨j,a,b,c,d⟩=>y ⟨j,?_,b,c,d⟩,λo=>e3 λ⟨j,a,b⟩=>o ⟨j,ab,b⟩⟩;by_cases z:j=k
   .simp_all
   omega
  cases H:u[k]with
  |true=>simp_all
  |false=>
   by_cases A:wdP h i k=0
   .simp_all
   rw[show(wdP h i k != 0)=true by simp_all,Wc,Qfy,Xa];refine⟨_,rfl,λ_=>⟨_,rfl,?_⟩,λo=>absurd ⟨k,ab,f,by simp_all,A⟩ o⟩;rw[Xe (n:=i*h.c.W) ab ab,Xe (n:=4096+i*h.c.W) ab ab,Xe ab ab,XE ab ab];omega
end
section
variable {N:Nat}
def KU(L x:Int):Int:=if L<(if x<0 then 0 else x)then L else(if x<0 then 0 else x)
def XfX{v:List Int}{lo hi:Nat}(e:lo<=hi)(f:hi<=v.length):(((v.take lo)++(List.replicate (hi-lo) 0))++(v.drop (lo+(hi-lo)))).length=v.length:=by grind
def XjU{v:List Int}{e f:Nat}(g:e<=f)(h:f<=v.length)(j:Nat):(((v.take e)++(List.replicate (f-e) 0))++(v.drop (e+(f-e)))).getD j 0=if e<=j/\j<f then 0 else v.getD j 0:=by grind
def Xht(hN:NB N){h:Wh}(ht:HT h)(hp:Uy h)(i:Int)(z:0<=i)(E:i<h.p.length)(f:List Int×Int)(G:f.1.length<=4096)(o:∀a∈f.1,IE h a)(s:∀a∈f.1,Qao N h a=some (hdA h.w a,0)):∀(n k:Nat) (v:List Int),k<=f.1.length->f.1.length-k<n->v.length<=1000 ->
 ∃u,QdZ N h (Xc h.c i 0,0) f n (k:Int) v=some u/\u.length=v.length/\∀j:Nat,j<v.length->u.getD j 0=if(f.1.drop k).any (Xlg h i (j:Int))=true then 0 else v.getD j 0
 |0,k,v,_,H,_=>by omega
 |n+1,k,v,S,H,I=>by
  have J:=Xh.1 hp.conf;have K:=hp.pages;have T:=XO hp.conf (i:=i) z ab;have L:1000000<N:=by unfold NB at hN;omega
  rw[QdZ];by_cases r:k<f.1.length;case neg=>
   rw[We ab,Wa,W5 ab]
   exact⟨v,rfl,rfl,λj B=>ac⟩
  have g:=Wy r;have U:=(o _ g).rng;have V:=XfV h f.1[k];have y:=XI h.w f.1[k];have e:∀kk:Int->Option (List Int),(jn kk λD=>bif ((hdA h.w f.1[k]).k != 0)then(bnd (some (XM (hdA h.w f.1[k]))) λM=>D M)else D 1)=kk (Kl h f.1[k]):=by
   intro kk;rw[XF];unfold Kl;rw[y.1];by_cases q:(hdA h.w f.1[k]).k=0
   .rw[Wn q,show((hdA h.w f.1[k]).k != 0)=false by simpa using q,Wa]
   rw[Wk q,show((hdA h.w f.1[k]).k != 0)=true by simpa using q,Wc,Xa]
  rw[Wg (show(k:Int)<(f.1.length:Int) by omega),Wc,Xf,Wb r,Xa,Xb1 hN ht ((o _ g).tu hp),s _ g,Xa,ZO ab];rw[e];have Y:Xc h.c i 0=4096+i*h.c.W:=by unfold Xc;omega
  have w0:wI f.1[k]=f.1[k]:=Xe ab ab;have w1:wI (Xc h.c i 0)=Xc h.c i 0:=Xe ab ab;have w2:wI (f.1[k]-Xc h.c i 0)=f.1[k]-Xc h.c i 0:=Xe ab ab;have O:wI (f.1[k]-Xc h.c i 0+Kl h f.1[k])=f.1[k]-Xc h.c i 0+Kl h f.1[k]:=Xe ab ab;simp only[w0,w1,w2,O,Xg (show k<=140737488355328 by omega)];rw[Xb ab,Xb ab];have cl:∀x:Int,(if(v.length:Int)<(if x<0 then 0 else x)then(v.length:Int)else(if x<0 then 0 else x))=KU v.length x:=λ_=>rfl;have c1:∀x:Int,0<=KU v.length x/\KU v.length x<=v.length:=by intro x;unfold KU;split<;>split<;>omega
  generalize R:f.1[k]-Xc h.c i 0=A at *;have Z:=c1 A;have a2:=c1 (A+Kl h f.1[k]);have a3:KU v.length A<=KU v.length (A+Kl h f.1[k]):=by
   unfold KU;repeat' split
   all_goals omega
  rw[Xb ab];obtain⟨u,g1,g2,g3⟩:=Xht hN ht hp i z E f G o s n (k+1) _ ab ab (by rw[XfX (v:=v) (lo:=(KU v.length A).toNat) (hi:=(KU v.length (A+Kl h f.1[k])).toNat) ab ab];exact I);refine⟨u,g1,by rw[g2,XfX ab ab],λj B=>?_⟩;rw[g3 j (by rw[XfX ab ab];exact B),XjU ab ab,Wm r,List.any_cons];have ec:Xlg h i (j:Int) f.1[k]=decide ((KU v.length A).toNat<=j/\j<(KU v.length (A+Kl h f.1[k])).toNat):=by
   unfold Xlg;rw[R];refine decide_eq_decide.2 ?_;unfold KU;repeat' split
   all_goals omega
  grind
def Xp2(l:List Int)(f:l.length<=1000000)(hN:1000000<N):Qbk N l=some (Zn (λx=>x != 0) l):=by
 exact JR (p:=λx:Int=>x != 0) f hN (λn k x e=>by
  have g:=XD e
  rw[Qau,Xl g,Wc,Xf,e,Xa,QgO,Xa,Xg ab]) (λn=>by rw[Qau,XG,Wa])
def Xnm(hN:NB N){h:Wh}(ht:HT h)(ep:Qaa N h=some true){i:Int}(q:0<=i)(s:i<h.p.length):
 ∃a,Qd8 N h i=some a/\∃b,Qge N h i=some (b,a != 0):=by
 have G:1000000<N:=by unfold NB at hN;omega
 have hb:=ht.hb;have hp:=Xz hN hb ep;have V:=Xh.1 hp.conf;have Y:=hp.pages;have hm:=XO hp.conf (i:=i) q ab;have ad:Xc h.c i 0=4096+i*h.c.W:=by unfold Xc;omega
 have hw:=hp.words;have⟨pw,H⟩:∃pw:Nat,h.c.W=(pw:Int):=⟨h.c.W.toNat,ab⟩
 have y:YE h.w (Xc h.c i 0) pw:=by unfold YE;omega
 have erd:Qc6 N h.w (Xc h.c i 0) h.c.W=some ((h.w.drop (ix (Xc h.c i 0))).take pw,0):=by rw[H,XcC (by unfold BIG;omega) N _ pw ab,Wn y]
 have eadr:Qbv N h.c i 0=some (Xc h.c i 0,0):=by rw[Kb,hp.conf,Wk ac,Wn ab]
 have I:Xc h.c i 0<=18446744073709551615:=ab;have⟨hd,Z,J,K⟩:=XfE N (h:=h) hp.first N i q s hb.2 ab;have z:QeL N h i=some hd:=by rw[QeL,Z,Xa]
 have⟨r,S,hr,T⟩:=Qfw hN hb hp hd J K;have⟨⟨A,B,_⟩,_,_⟩:=hr;have⟨u,eu,L,M⟩:=XjT hN hp i q s r.1 ab A B;have⟨e,e1,U,e3⟩:=XfW hN hb hp q s u L N 0 ab ab;rw[Qd8,z,Xa,S,Xa,eu,Xa,show(0:Int)=((0:Nat):Int)from rfl,e1,Xa];rw[Qge,XdJ,eadr,Xa,Xnk ab I];rw[erd,Xa,Xnl hN hb hp q s,z,Xa,XdO hN ht,S,Xa];have hvl:((h.w.drop (ix (Xc h.c i 0))).take pw).length=pw:=by rw[Wl,Wo];unfold ix;unfold YE at y;omega
 have⟨v,g1,g2,g3⟩:=Xht hN ht hp i q s r ab A B N 0 ((h.w.drop (ix (Xc h.c i 0))).take pw) ab ab ab;have O:QdZ N h (Xc h.c i 0,0) r N 0 ((h.w.drop (ix (Xc h.c i 0))).take pw)=some v:=g1;have hul:u.length=pw:=by clear U e3;omega
 rw[O,Xa,Xp2 v ab G,Xa];have D:decide (Zn (λx=>x != 0) v>=0)=v.any (λx=>x != 0):=Ky _ v;rw[D];have f:∀j,j<pw->((h.w.drop (ix (Xc h.c i 0))).take pw).getD j 0=wdP h i j:=by intro j E;unfold wdP wd ix;rw[Wj,Ut,Wn E,UM,Wj];congr 2;omega
 have iff1:v.any (λx=>x != 0)=true↔∃j,0<=j/\j<u.length/\u.getD j false=false/\wdP h i j≠0:=by
  rw[Oi];constructor
  .rintro⟨x,hx,hx0⟩;obtain⟨j,E,rfl⟩:=WA hx;have g:j<pw:=ab;have:=g3 j ab;rw[Wj,Wb E,If,f j g,W3,←XfU]at this;grind
  rintro⟨j,_,E,hc,hz⟩;have g:j<v.length:=ab;refine⟨v[j],Wy g,?_⟩;have:=g3 j ab;rw[Wj,Wb g,If,f j ab,W3,←XfU,←M j E,hc,Wk ac]at this;grind
 by_cases o:∃j,0<=j/\j<u.length/\u.getD j false=false/\wdP h i j≠0
 .obtain⟨a,rfl,ha⟩:=U o;rw[Xy,iff1.2 o];simp_all
 have R:=e3 o;subst R;rw[Xo,show v.any (λx=>x != 0)=false by rw[←IU];exactλhh=>o (iff1.1 hh)];simp
end
def Vz{α β:Type}{L:Nat}{F:Nat->Int->Option (Ex α β)}{p:Nat->Prop}{Q:α->Prop}{u:β}(f:∀n k,k<L->p k->∃a,F (n+1) (k:Int)=some (.ret a)/\Q a)(o:∀n k,k<L->¬p k->F (n+1) (k:Int)=F n ((k+1:Nat):Int))(g:∀n,F (n+1) (L:Int)=some (.nxt u)):∀(n k:Nat),k<=L->L-k<n ->
 ∃e,F n (k:Int)=some e/\((∃j,k<=j/\j<L/\p j)->∃a,e=.ret a/\Q a)/\((¬∃j,k<=j/\j<L/\p j)->e=.nxt u)
 |0,k,_,r=>by omega
 |n+1,k,y,r=>by
  by_cases h:k<L;case neg=>
   grind
  by_cases hp:p k
  .have⟨a,e,s⟩:=f n k h hp;exact⟨_,e,λ_=>⟨a,rfl,s⟩,λq=>absurd ⟨k,Un _,h,hp⟩ q⟩
  have⟨e,v,x,e3⟩:=Vz f o g n (k+1) ab ab;refine⟨e,(o n k h hp).trans v,λ⟨j,a,b,c⟩=>x ⟨j,?_,b,c⟩,λq=>e3 λ⟨j,a,b⟩=>q ⟨j,ab,b⟩⟩;grind
section
variable {N:Nat}
def Xnn(l:List Int)(x:Int)(o:l.length<=1000000)(g:l.Pairwise (·<·)):∀(n e hi:Nat),e<=hi->hi<=l.length->hi-e<n->(∀i(h:i<l.length),i<e->l[i]<x)->(∀i(h:i<l.length),hi<=i->x<=l[i]) ->
 ∃k:Nat,Qaq N l x n (e:Int) (hi:Int)=some (k:Int)/\k<=l.length/\(∀i(h:i<l.length),i<k->l[i]<x)/\(∀i(h:i<l.length),k<=i->x<=l[i])
 |0,e,hi,_,_,q,_,_=>by omega
 |n+1,e,hi,A,r,q,s,hb=>by
  rw[Qaq];by_cases u:e<hi;case neg=>
   grind
  have f:wI (YL .u64 (wU (wI ((e:Int)+hi))) 1)=(((e+hi) / 2:Nat):Int):=by rw[Xe (n:=(e:Int)+hi) ab ab,XE ab ab,show YL .u64 ((e:Int)+hi) 1=((e:Int)+hi) / 2 from Y8 _ 1 ab ab,Xe ab ab];omega
  have v:(e+hi) / 2<l.length:=ab;have y:e<=(e+hi) / 2/\(e+hi) / 2<hi:=ab;generalize (e+hi) / 2=m at *;rw[Wg ab,Wc,f,Xf,Wb v,Xa,QfT,Qev,Xa,show(l[m] != l[m])=false by simp,Wa,Xa];have z:=Ul.1 g;by_cases p:l[m]<x
  .rw[Wg p,Wc,Xg ab];refine Xnn l x o g n (m+1) hi ab r ab (λi h j=>?_) hb;grind
  rw[We p,Wa];refine Xnn l x o g n e m ab ab ab s (λi h j=>?_);grind
def Xno(l:List Int)(x:Int)(v:l.length<=1000000)(hN:1000000<N)(r:l.Pairwise (·<·)):∃k:Int,Qax N l x=some (k,l.contains x):=by
 have⟨k,e,z,s,y⟩:=Xnn (N:=N) l x v r N 0 l.length ab ab ab (λi h g=>ab) (λi h g=>ab);rw[Qax,show(0:Int)=((0:Nat):Int)from rfl,e,Xa];by_cases f:k<l.length
 .rw[Wg ab,Wc,Xf,Wb f,Xa];by_cases u:l[k]=x
  .refine⟨k,?_⟩;grind
  refine⟨k,?_⟩;rw[show(l[k]==x)=false by simpa using u,Wa,Xa,Qdo,Xa,show(l[k] != l[k])=false by simp,Wa];have:l.contains x=false:=by
   rw[←IU,UF];intro j;obtain⟨i,g,rfl⟩:=WA j;have o:=Ul.1 r;by_cases p:i<k
   .have:=s i g p;omega
   have a:=y k f (Un _);by_cases q:i=k
   .subst q;exact u rfl
   have:=o k i f g ab;omega
  grind
 refine⟨k,?_⟩;have:l.contains x=false:=by rw[←IU,UF];intro j;obtain⟨i,g,rfl⟩:=WA j;have:=s i g ab;omega
 grind
def ON.asc{h:Wh}{l:List Int}(o:ON N h l):l.Pairwise (·<·):=
 o.pw.imp λ{a b} e=>by have:=(XI h.w a).2;omega
def XaH{d:Wx}:∀{k:Nat} {i x:Int},i<=x->x<i+k->Jt d x=true->x∈Ye d k i
 |0,i,x,e,f,_=>by omega
 |k+1,i,x,e,f,g=>by
  simp only[Ye,Wt];by_cases h:x=i
  .simp_all
  right;exact XaH ab ab g
def Xat{d:Wx}(e:XN d=true){x:Int}:x∈XW d↔0<=x/\x<d.n/\Jt d x=true:=by
 unfold XW;rw[Wn e];constructor
 .intro h;have:=K1 h;grind
 intro h;exact XaH ab ab h.2.2
end
section
variable {N:Nat}
def XrO(h:Wh)(l:List Int)(a i:Int):Prop:=wd h.w (a+1+i)≠0/\l.contains (wd h.w (a+1+i))=false
def XaD(h:Wh)(l:List Int)(a:Int):Prop:=∃i,i∈XW (hdA h.w a)/\XrO h l a i
def Jl(h:Wh)(a:Int):XN (hdA h.w a)=true:=Z1 _
def Xp3{h:Wh}(hp:Uy h){a:Int}(e:IE h a){i:Int}(f:0<=i)(g:i<(hdA h.w a).n):4096<=a+1+i/\a+1+i<4096+h.w.length/\a+1+i<=8192/\(hdA h.w a).n<=255:=by have:=KE hp e;have:=e.rng;have:=XI h.w a;have j:=Xh.1 hp.conf;have:=XO hp.conf (i:=0) ab ab;have:=hp.words;unfold szA at *;omega
def Xs1(hN:NB N){h:Wh}(ht:HT h)(hp:Uy h)(f:List Int×Int)(M:f.1.length<=1000000)(O:f.1.Pairwise (·<·))(s:Int){a:Int}(I:IE h a):
 ∃e,QaM N h f s a (XW (hdA h.w a)) N 0=some e/\(XaD h f.1 a->∃b,e=.ret b/\b≠0)/\(¬XaD h f.1 a->e=.nxt ()):=by
 have y:1000000<N:=by unfold NB at hN;omega
 have hb:=ht.hb;have z:=Jl h a;have A:=XQ z;have R:(XW (hdA h.w a)).length<=255:=by unfold XW;rw[Wn z];have:=Vs (d:=hdA h.w a) (k:=(hdA h.w a).n.toNat) (i:=0);omega
 have v:∀k(g:k<(XW (hdA h.w a)).length),0<=(XW (hdA h.w a))[k]/\(XW (hdA h.w a))[k]<(hdA h.w a).n:=λk g=>by have:=(Xat z).1 (Wy g);omega
 generalize B:XW (hdA h.w a)=ps at *;have Y:=I.rng;have step:∀n k(g:k<ps.length),QaM N h f s a ps (n+1) (k:Int)=bif (wd h.w (a+1+ps[k]) != 0)then(bif (!f.1.contains (wd h.w (a+1+ps[k])))then some (.ret (a+1+ps[k]))else QaM N h f s a ps n ((k+1:Nat):Int))else QaM N h f s a ps n ((k+1:Nat):Int):=by
  intro n k g;have J:=v k g;have Z:=Xp3 hp I J.1 J.2;have S:(h.w.length:Int)<=100000:=by have:=hb.1;omega
  have w1:wU (wU (a+1)+wU ps[k])=a+1+ps[k]:=by rw[XE (n:=a+1) ab ab,XE (n:=ps[k]) ab ab,XE ab ab]
  rw[QaM,Wg ab,Wc,Xf,Wb g,Xa,w1,Xhq ab ab,Yp (by unfold BIG;omega),Wn (by unfold inW;omega),Xa];dsimp only;obtain⟨q,eq⟩:=Xno (N:=N) f.1 (h.w.getD (ix (a+1+ps[k])) 0) M y O;rw[eq,Xa,Xg ab];rfl
 have key:=Vz (L:=ps.length) (F:=QaM N h f s a ps) (p:=λk=>∃g:k<ps.length,XrO h f.1 a ps[k]) (Q:=λb=>b≠0) (u:=())
  (λn k g x=>by
   obtain⟨T,D,E⟩:=x
   refine⟨a+1+ps[k],?_,?_⟩
   .rw[step n k g,show(wd h.w (a+1+ps[k]) != 0)=true by simpa using D,Wc,E];rfl
   grind)
  (λn k g G=>by
   rw[step n k g]
   by_cases D:wd h.w (a+1+ps[k])=0
   .simp_all
   .rw[show(wd h.w (a+1+ps[k]) != 0)=true by simp_all,Wc]
    cases E:f.1.contains (wd h.w (a+1+ps[k]))with
    |true=>rfl
    |false=>exact absurd ⟨g,D,E⟩ G)
  (λn=>by rw[QaM,We ab,Wa]) N 0 ab ab
 have⟨e,U,V,e3⟩:=key;refine⟨e,U,λo=>?_,λo=>?_⟩
 .have⟨i,K,r⟩:=o;rw[B]at K;obtain⟨j,H,rfl⟩:=WA K;exact V ⟨j,IO _,H,H,r⟩
 refine e3 λ⟨j,_,H,W,r⟩=>o ⟨ps[j],?_,r⟩;simp_all
def XqV(hN:NB N){h:Wh}(ht:HT h)(hp:Uy h)(f:List Int×Int)(s:f.1.length<=1000000)(u:f.1.Pairwise (·<·))(g:∀a∈f.1,IE h a)(o:∀a∈f.1,Qao N h a=some (hdA h.w a,0)):∀(n k:Nat),k<=f.1.length->f.1.length-k<n ->
 ∃r,Qcq N h f n (k:Int)=some r/\((∃a∈f.1.drop k,XaD h f.1 a)->r≠0)/\((¬∃a∈f.1.drop k,XaD h f.1 a)->r=0)
 |0,k,_,v=>by omega
 |n+1,k,z,v=>by
  have x:1000000<N:=by unfold NB at hN;omega
  rw[Qcq];by_cases j:k<f.1.length;case neg=>
   grind
  have p:=Wy j;rw[Wg ab,Wc,Xf,Wb j,Xa,Xb1 hN ht ((g _ p).tu hp),o _ p,Xa,XeV ab _ (Jl h _),Xa];have⟨e,y,A,e3⟩:=Xs1 hN ht hp f s u (k:Int) (g _ p);rw[y,Xa,Wm j];by_cases q:XaD h f.1 f.1[k]
  .grind[Xy]
  have:=e3 q;subst this;rw[Xo,Xg ab];have⟨r,B,D,E⟩:=XqV hN ht hp f s u g o n (k+1) ab ab;grind
def XdP(hN:NB N){h:Wh}(hb:HB h)(ep:Qaa N h=some true){a:Int}(f:IE h a)(e:Qao N h a=some (hdA h.w a,0))(g:(hdA h.w a).k≠0):Qb7 N h a=some (hdA h.w a,0):=by have:=f.rng;rw[Qb7,ep,Xa,Wi,Wa,show(a==0)=false by simp;omega,Wa,e,Xa];grind
def Xe0(hN:NB N){h:Wh}(hb:HB h)(ep:Qaa N h=some true){a:Int}(f:IE h a)(g:Qao N h a=some (hdA h.w a,0))(p:(hdA h.w a).k≠0):∃l,Qeu N h a=some (l,0)/\(l.length:Int)=(hdA h.w a).n/\∀(j:Nat) (q:j<l.length),l[j]=wd h.w (a+1+j):=by
 have hp:=Xz hN hb ep;have r:=XQ (Jl h a);have s:=f.rng;have e:=KE hp f;have u:=XO hp.conf (i:=0) ab (by have:=Xh.1 hp.conf;omega);have hw:=hp.words;unfold szA at e;have⟨m,o⟩:∃m:Nat,(hdA h.w a).n=(m:Int):=⟨(hdA h.w a).n.toNat,ab⟩
 rw[Qeu,XdP hN hb ep f g p,Xa];rw[show((0:Int) != 0)=false from rfl,Wa,XE (n:=a+1) ab ab,o,XcC (by unfold BIG;omega) N _ m ab,Wn (by unfold YE;omega),Xa];refine⟨_,rfl,?_,λj q=>?_⟩
 .rw[Wl,Wo];unfold ix;omega
 rw[Iy,IQ];unfold wd;rw[Wj,show ix (a+1+(j:Int))=ix (a+1)+j by unfold ix;omega,Wb (by grind)];rfl
end
section
variable {N:Nat}
def Xs2(hN:NB N){h:Wh}(hb:HB h)(hp:Uy h)(g o:List Int×Int)(U:g.1.length<=1000000)(q:Int){a:Int}(y:Xd g.1 q=some a)(V:IE h a)(W:(o.1.length:Int)=(hdA h.w a).n)(J:∀(j:Nat) (K:j<o.1.length),o.1[j]=wd h.w (a+1+j)):
 ∃e,Qav N h g o q (hdA h.w a,0) N 0=some e/\(XaD h g.1 a->∃f,e=.ret f/\f.Fault≠0)/\(¬XaD h g.1 a->e=.nxt ()):=by
 have M:1000000<N:=by unfold NB at hN;omega
 have z:=Jl h a;have A:=XQ z;have step:∀n k(r:k<o.1.length),Qav N h g o q (hdA h.w a,0) (n+1) (k:Int)=bif Jt (hdA h.w a) (k:Int)then(bif (wd h.w (a+1+k) != 0)then(bif (!g.1.contains (wd h.w (a+1+k)))then(bnd (Qb6 N h.c (wU ((wU (a+1))+(wU (k:Int))))) λB=>some (.ret (Us.mk 6 B.1 (wU ((wU (a+1))+(wU (k:Int)))))))else Qav N h g o q (hdA h.w a,0) n ((k+1:Nat):Int))else Qav N h g o q (hdA h.w a,0) n ((k+1:Nat):Int))else Qav N h g o q (hdA h.w a,0) n ((k+1:Nat):Int):=by intro n k r;rw[Qav,Wg ab,Wc,JC,Xa,Xf,Wb r,J k r,Xg ab];simp only[Xa,Yb (wd h.w (a+1+(k:Int))) (show g.1.length<=1000000000 by omega) (show g.1.length<N by omega),y]
 have key:=Vz (L:=o.1.length) (F:=Qav N h g o q (hdA h.w a,0)) (p:=λk=>Jt (hdA h.w a) (k:Int)=true/\XrO h g.1 a (k:Int)) (Q:=λf=>f.Fault≠0) (u:=())
  (λn k r x=>by
   obtain⟨D,E,G⟩:=x
   rw[step n k r,D,Wc,show(wd h.w (a+1+(k:Int)) != 0)=true by simpa using E,Wc,G,Ui,Wc,KX,Xa]
   simp)
  (λn k r H=>by
   rw[step n k r]
   cases D:Jt (hdA h.w a) (k:Int)with
   |false=>rfl
   |true=>
   rw[Wc]
   by_cases E:wd h.w (a+1+(k:Int))=0
   .simp_all
   .rw[show(wd h.w (a+1+(k:Int)) != 0)=true by simp_all,Wc]
    cases G:g.1.contains (wd h.w (a+1+(k:Int)))with
    |true=>rfl
    |false=>exact absurd ⟨D,E,G⟩ H)
  (λn=>by rw[Qav,We ab,Wa]) N 0 ab ab
 have⟨e,O,R,e3⟩:=key;refine⟨e,O,λs=>?_,λs=>?_⟩
 .have⟨i,S,v⟩:=s;have T:=(Xat z).1 S;obtain⟨j,rfl⟩:∃j:Nat,i=(j:Int):=⟨i.toNat,ab⟩
  exact R ⟨j,IO _,ab,T.2.2,v⟩
 exact e3 λ⟨j,_,K,I,v⟩=>s ⟨(j:Int),(Xat z).2 ⟨ab,ab,I⟩,v⟩
def Xnp(hN:NB N){h:Wh}(hb:HB h)(ep:Qaa N h=some true)(g:List Int×Int)(v:g.1.length<=1000000)(j:∀a∈g.1,IE h a)(o:∀a∈g.1,Qao N h a=some (hdA h.w a,0))(p:∀a∈g.1,(hdA h.w a).k≠0):∀(n k:Nat),k<=g.1.length->g.1.length-k<n ->
 ∃e,Qbt N h g n (k:Int)=some e/\((∃a∈g.1.drop k,XaD h g.1 a)->∃f,e=.ret f/\f.Fault≠0)/\((¬∃a∈g.1.drop k,XaD h g.1 a)->e=.nxt ())
 |0,k,_,y=>by omega
 |n+1,k,B,y=>by
  have hp:=Xz hN hb ep;rw[Qbt];by_cases q:k<g.1.length;case neg=>
   grind
  have s:=Wy q;have x:Xd g.1 (k:Int)=some g.1[k]:=by rw[Xf,Wb q]
  have⟨l,f1,f2,z⟩:=Xe0 hN hb ep (j _ s) (o _ s) (p _ s);rw[Wg ab,Wc,x,Xa,XdP hN hb ep (j _ s) (o _ s) (p _ s),Xa,Xa,f1,Xa];have⟨e,A,D,e3⟩:=Xs2 hN hb hp g (l,0) v (k:Int) x (j _ s) f2 z;rw[A,Xa,Wm q];by_cases u:XaD h g.1 g.1[k]
  .grind[Xy]
  have:=e3 u;subst this;rw[Xo,Xg ab];have⟨r,E,G,H⟩:=Xnp hN hb ep g v j o p n (k+1) ab ab;grind
def K4(hN:NB N){h:Wh}(hb:HB h):∃y,Qal N h=some y/\y.1.length<=4096/\y.1.Pairwise (·<·)/\(∀a∈y.1,IE h a)/\(∀a∈y.1,Qao N h a=some (hdA h.w a,0))/\(∀a∈y.1,(hdA h.w a).k≠0):=by have⟨y,e,f,_,_⟩:=Kx hN hb;refine⟨y,e,f.len,f.obj.asc,f.obj.at_,f.obj.ev,?_⟩;have⟨r,o,g,_,_⟩:=J8 hN hb;have j:=g.len;rw[Qal,o,Xa,show(0:Int)=((0:Nat):Int)from rfl,Xas r ab g.obj.ev N 0 [] ab (by unfold NB at hN;omega) ac,Xa,W3,Ue]at e;cases e;intro a p;have:=(WY.1 p).2;simp_all[Y4,fnd]
def zF:Us:=⟨0,0,0⟩
def Xp4(P:Prop)(o:Option Us):Prop:=∃f,o=some f/\(P->f.Fault≠0)/\(¬P->f=zF)
def Xhu(hN:NB N){h:Wh}(ht:HT h)(ep:Qaa N h=some true){y:List Int×Int}(x:Qal N h=some y):Xp4 (∃a∈y.1,XaD h y.1 a) (Qfi N h)/\Xp4 (∃a∈y.1,XaD h y.1 a) (Qds N h):=by
 have hb:=ht.hb;have hp:=Xz hN hb ep;have⟨I,s,J,E,u,v,z⟩:=K4 hN hb;rw[x]at s;cases s;have B:y.1.length<N:=by unfold NB at hN;omega
 constructor
 .have⟨r,A,D,e3⟩:=XqV hN ht hp y ab E u v N 0 ab ab;rw[Qfi,JH hN ht,x,Xa];have j:Qcq N h y N 0=some r:=A;rw[j,Xa];by_cases g:∃a∈y.1,XaD h y.1 a
  .rw[show(r==0)=false by simp_all,Wa];have:∃q,Qck N h.c r=some q:=by
    rw[Qck,Jj,Xa];cases G:X8 h.c with
    |false=>simp
    |true=>
     have:=Xh.1 G;rw[Wi,Wa];cases decide (r<4096)
     .rw[Wa];cases decide (wU (r-4096)>=wU (wI (h.c.W*h.c.p)))
      .rw[Wa,Xb ab,Xb ab];exact⟨_,rfl⟩
      exact⟨_,rfl⟩
     simp
   have⟨q,eq⟩:=this;rw[eq,Xa];exact⟨_,rfl,λ_=>ac,λo=>absurd g o⟩
  rw[e3 g];exact⟨_,rfl,λo=>absurd o g,λ_=>rfl⟩
 have⟨e,A,D,e3⟩:=Xnp hN hb ep y ab u v z N 0 ab ab;rw[Qds,x,Xa];have j:Qbt N h y N 0=some e:=A;rw[j,Xa];by_cases g:∃a∈y.1,XaD h y.1 a
 .obtain⟨f,rfl,H⟩:=D g;rw[Xy];exact⟨_,rfl,λ_=>H,λo=>absurd g o⟩
 rw[e3 g,Xo];exact⟨_,rfl,λo=>absurd o g,λ_=>rfl⟩
end
section
variable {N:Nat}
def XfY(hN:NB N){h:Wh}(ht:HT h)(ep:Qaa N h=some true){i:Nat}(S:i<h.p.length):
 ∃f,Qd9 N h (i:Int)=some f/\((f.Fault≠0/\∀n,∃u,Qa4 N h (n+1) (i:Int)=some (.ret u)/\u.Fault≠0)\/(f.Fault=0/\∀n,Qa4 N h (n+1) (i:Int)=Qa4 N h n ((i+1:Nat):Int))):=by
 have hb:=ht.hb;have hp:=Xz hN hb ep;have I:h.p.length<=100000:=hb.2;have v:Xd h.p (i:Int)=some (pg h.p (i:Int)):=Xq ab ab;have g:∀n,Qa4 N h (n+1) (i:Int)=jn (λ(_:Unit)=>
  bnd (QeT N h (i:Int)) λz=>
  bif (z.2 != 0)then some (.ret (Us.mk 3 (i:Int) 0))
  else bnd (QfN N h (i:Int) z.1) λA=>
  bif A.2 then some (.ret (Us.mk 5 (i:Int) A.1))
  else bnd (Qge N h (i:Int)) λB=>
  bif B.2 then some (.ret (Us.mk 4 (i:Int) B.1))
  else Qa4 N h n ((i+1:Nat):Int)) λD=>
  bif ((pg h.p (i:Int)).k != 0)then(bif ((pg h.p (i:Int)).s != h.s)then some (.ret (Us.mk 2 (i:Int) 0))
   else D ())
  else D ():=by
  intro n
  rw[Qa4,Wg ab,Wc,v,Xa,Xg ab]
 simp only[g,XF];rw[Qd9,XF,v];simp only[Xa];by_cases e:(pg h.p (i:Int)).k≠0/\(pg h.p (i:Int)).s≠h.s
 .rw[show((pg h.p (i:Int)).k != 0)=true by simpa using e.1,show((pg h.p (i:Int)).s != h.s)=true by simpa using e.2];exact⟨_,rfl,.inl ⟨by show(2:Int)≠0;omega,λn=>⟨_,rfl,by show(2:Int)≠0;omega⟩⟩⟩
 have J:∀{α:Type} (x y:α),(bif ((pg h.p (i:Int)).k != 0)then(bif ((pg h.p (i:Int)).s != h.s)then x else y)else y)=y:=by
  intro α x y;by_cases k0:(pg h.p (i:Int)).k=0
  .rw[show((pg h.p (i:Int)).k != 0)=false by simpa using k0,Wa]
  have:(pg h.p (i:Int)).s=h.s:=Classical.byContradiction λK=>e ⟨k0,K⟩;rw[show((pg h.p (i:Int)).s != h.s)=false by simpa using this,Wa,Bool.cond_self]
 simp only[J];have⟨r,L,M,E⟩:=Qfw hN hb hp (i:Int) ab ab;simp only[XdO hN ht,L,Xa];by_cases G:r.2=0;case neg=>
  rw[show(r.2 != 0)=true by simpa using G]
  exact⟨_,rfl,.inl ⟨by show(3:Int)≠0;omega,λn=>⟨_,rfl,by show(3:Int)≠0;omega⟩⟩⟩
 rw[show(r.2 != 0)=false by simpa using G];have⟨⟨j,o,_⟩,_,_⟩:=M;have⟨a,O,b,eb⟩:=Xle hN ht hp (i:=(i:Int)) ab ab r.1 ab j o;simp only[O,eb,Xa];by_cases H:a=0;case neg=>
  rw[show(a != 0)=true by simpa using H]
  exact⟨_,rfl,.inl ⟨by show(5:Int)≠0;omega,λn=>⟨_,rfl,by show(5:Int)≠0;omega⟩⟩⟩
 rw[show(a != 0)=false by simpa using H];have⟨d,R,T,q⟩:=Xnm hN ht ep (i:=(i:Int)) ab ab;simp only[R,q,Xa];by_cases hd:d=0;case neg=>
  rw[show(d != 0)=true by simpa using hd]
  exact⟨_,rfl,.inl ⟨by show(4:Int)≠0;omega,λn=>⟨_,rfl,by show(4:Int)≠0;omega⟩⟩⟩
 simp_all
def Xnq(hN:NB N){h:Wh}(ht:HT h)(ep:Qaa N h=some true):∃P:Prop,Xp4 P (Qgn N h)/\∃e,Qbb N h N 0=some e/\(P->∃f,e=.ret f/\f.Fault≠0)/\(¬P->e=.nxt ()):=by
 have hb:=ht.hb;have D:h.p.length<=100000:=hb.2;have z:h.p.length<N:=by unfold NB at hN;omega
 let p:Nat->Prop:=λk=>∃f,Qd9 N h (k:Int)=some f/\f.Fault≠0;refine⟨∃j,0<=j/\j<h.p.length/\p j,?_,?_⟩
 .have key:=Vz (L:=h.p.length) (F:=Qa4 N h) (p:=p) (Q:=λ f=>f.Fault≠0) (u:=())
   (λn k q g=>by
    obtain⟨f,A,v⟩:=g
    obtain⟨f2,o,r⟩:=XfY hN ht ep q
    simp_all)
   (λn k q s=>by
    obtain⟨f2,o,r⟩:=XfY hN ht ep q
    grind)
   (λn=>by rw[Qa4,We ab,Wa]) N 0 ab ab
  have⟨e,E,H,e3⟩:=key;have x:Qa4 N h N 0=some e:=E;unfold Xp4;rw[Qgn,x,Xa];by_cases B:∃j,0<=j/\j<h.p.length/\p j
  .grind[Xy]
  rw[e3 B,Xo];exact⟨_,rfl,λy=>absurd y B,λ_=>rfl⟩
 have key:=Vz (L:=h.p.length) (F:=Qbb N h) (p:=p) (Q:=λ f=>f.Fault≠0) (u:=())
  (λn k q g=>by
   have⟨f,A,v⟩:=g
   rw[Qbb,Wg ab,Wc,A,Xa,show(f.Fault != 0)=true by simpa using v]
   exact⟨f,rfl,v⟩)
  (λn k q s=>by
   have⟨f2,o,r⟩:=XfY hN ht ep q
   have G:f2.Fault=0:=Classical.byContradiction λy=>s ⟨f2,o,y⟩
   rw[Qbb,Wg ab,Wc,o,Xa,show(f2.Fault != 0)=false by simpa using G,Wa,Xg ab])
  (λn=>by rw[Qbb,We ab,Wa]) N 0 ab ab
 omega
def XfZ{f:Us}(e:f.Fault≠0):((f.Fault==0)&&((f.Page==0)&&(f.Addr==0)))=false:=by simp_all
def XdQ(hN:NB N){h:Wh}(ht:HT h):Qfu N h=Qbj N h:=by
 have hb:=ht.hb;have s:h.p.length<=100000:=hb.2;rw[Qfu,Qbj,QgZ,QeW,YJ s (by unfold NB at hN;omega)];have⟨b,eb⟩:=Jk (N:=N) hN hb;simp only[eb,Xa];cases b with
 |false=>rfl
 |true=>
 rw[Wi,Wa,Wa];have⟨P,⟨f,D,u,v⟩,e,E,G,e3⟩:=Xnq hN ht eb;have⟨y,H,_⟩:=K4 hN hb;have⟨⟨g,eg,x,z⟩,⟨I,A,j,o⟩⟩:=Xhu hN ht eb H;simp only[D,E,Xa];by_cases r:P
 .obtain⟨L,rfl,B⟩:=G r;simp only[Xy,XfZ (u r),Ui,Wc,Xa,XfZ B]
 rw[e3 r,v r];simp only[Xo,eg,A,Xa,zF,show((0:Int)==0)=true from rfl,Bool.and_self,Wi,Wa];by_cases q:∃a∈y.1,XaD h y.1 a
 .simp only[XfZ (x q),Ui,Wc,Xa,show(I.Fault != 0)=true by simpa using j q,XfZ (j q)]
 rw[z q,o q];simp only[zF,show((0:Int)==0)=true from rfl,show((0:Int) != 0)=false from rfl,Bool.and_self,Wi,Wa];have J:∀(n:Nat) (c i:Int),Qcm N h n c i=Qa2 N h n c i:=by
  intro n;induction n with
  |zero=>intro c i;rw[Qcm,Qa2]
  |succ n K=>
   intro c i;rw[Qcm,Qa2];simp only[K];cases M:Xd h.p i with
   |none=>simp only[Kv]
   |some p=>simp only[Xa]
 grind
def Xe1(hN:NB N){h:Wh}(ht:HT h){l:List Int}(A:l.length<=1000000):QdO N h l=QbA N h l:=by
 have g:1000000<N:=by unfold NB at hN;omega
 have hb:=ht.hb;rw[QdO,QbA,XdQ hN ht];have⟨b,eb,_⟩:=KF hN hb;rw[eb,Xa,Xa];cases b with
 |false=>rfl
 |true=>
 have⟨y,B,O,D,_⟩:=K4 hN hb;rw[Wi,Wa,Wa,JH hN ht,B,Xa,Xa];have r:∀x:Int,Qex N x y.1=some (x != 0&&!y.1.contains x):=by intro x;obtain⟨k,E⟩:=Xno (N:=N) y.1 x ab g D;rw[Qex,E,Xa];cases (x != 0)<;>rfl
 rw[QaZ,Qa8];rw[JR (p:=λx:Int=>x != 0&&!y.1.contains x) A g (λn k x e=>by
  have f:=XD e
  rw[Qar,Xl f,Wc,Xf,e,Xa,r,Xa,Xg ab]) (λn=>by rw[Qar,XG,Wa])]
 rw[Xa,Xa,Ky]
 have key:=Vz (L:=l.length) (F:=QaA N l y) (p:=λk=>∃f:k<l.length,(l[k] != 0&&!y.1.contains l[k])=true) (Q:=λb=>b=false) (u:=())
  (λn k f o=>by
   obtain⟨G,q⟩:=o
   simp only[WI]at q
   refine⟨false,?_,rfl⟩
   rw[QaA,Wg ab,Wc,Xf,Wb f,Xa,q.1,Wc,Xa,Yb _ ab ab,Xa,q.2,Wc])
  (λn k f H=>by
   rw[QaA,Wg ab,Wc,Xf,Wb f,Xa,Xa,Yb _ ab ab,Xa,Xg ab]
   grind)
  (λn=>by rw[QaA,We ab,Wa]) N 0 ab ab
 have⟨e,I,J,e3⟩:=key;have s:QaA N l y N 0=some e:=I;rw[s,Xa];cases K:l.any (λx=>x != 0&&!y.1.contains x)with
 |true=>have⟨x,M,q⟩:=Oi.1 K;obtain⟨j,z,rfl⟩:=WA M;obtain⟨b,rfl,v⟩:=J ⟨j,IO _,z,z,q⟩;simp[Xy,v]
 |false=>simp_all[List.any_eq_false,Xo]
def ZG(hN:NB N){h:Wh}(ht:HT h){l:List Int}(M:l.length<=10000000 / 4)(eg:Qbj N h=some true){y:List Int×Int}(A:Qal N h=some y):QbA N h l=some (l.all λx=>x==0||y.1.contains x):=by
 have hb:=ht.hb;have⟨O,g,R,S,_⟩:=K4 hN hb;rw[A]at g;cases g;have B:l.length<N:=by unfold NB at hN;omega
 have D:1000000<N:=by unfold NB at hN;omega
 rw[QbA,eg,Xa,Wi,Wa,A,Xa]
 have key:=Vz (L:=l.length) (F:=QaA N l y) (p:=λk=>∃q:k<l.length,(l[k]==0||y.1.contains l[k])=false) (Q:=λb=>b=false) (u:=())
  (λn k q o=>by
   obtain⟨E,f⟩:=o
   simp only[Bool.or_eq_false_iff]at f
   refine⟨false,?_,rfl⟩
   rw[QaA,Wg ab,Wc,Xf,Wb q,Xa,show(l[k] != 0)=true by simp_all,Wc,Xa,Yb _ ab ab,Xa,f.2];rfl)
  (λn k q G=>by
   rw[QaA,Wg ab,Wc,Xf,Wb q,Xa,Xa,Yb _ ab ab,Xa,Xg ab]
   grind)
  (λn=>by rw[QaA,We ab,Wa]) N 0 ab ab
 have⟨e,H,I,e3⟩:=key;have s:QaA N l y N 0=some e:=H;rw[s,Xa];cases v:l.all (λx=>x==0||y.1.contains x)with
 |false=>have⟨x,J,f⟩:=List.all_eq_false.1 v;obtain⟨j,r,rfl⟩:=WA J;obtain⟨b,rfl,z⟩:=I ⟨j,IO _,r,r,by simp_all⟩;rw[Xy,z]
 |true=>
  have:=e3 λ⟨j,_,r,K,f⟩=>by rw[W0]at v;rw[v _ (Wy r)]at f;cases f
  simp_all[Xo]
end
section
variable {N:Nat}
def Xf0(l:List UE)(r:Int)(f:l.length<=1000000)(hN:1000000<N):Qgw N l r=some (Zn (λp=>p.a==r) l):=by
 exact JR (p:=λp:UE=>p.a==r) f hN (λn k x e=>by
  have g:=XD e
  rw[QeX,Xl g,Wc,Xf,e,Xa,Xg ab]) (λn=>by rw[QeX,XG,Wa])
def Xnr(l:List UE)(r:Int)(f:l.length<=1000000)(hN:1000000<N):QfF N l r=some (Zn (λp=>p.a==r) l):=by
 rw[QfF,Qa5];rw[JR (p:=λp:UE=>p.a==r) f hN (λn k x e=>by
  have g:=XD e
  rw[Qap,Xl g,Wc,Xf,e,Xa,Qfa,Xa,Xg ab]) (λn=>by rw[Qap,XG,Wa]),Xa]
def XaU(hN:NB N){h:Wh}(ht:HT h)(hp:Uy h)(pins:List UE)(g:pins.length<=1000000)(y:List Int×Int)(G:y.1.length<=4096)(D:y.1.Pairwise (·<·))(o:∀a∈y.1,IE h a):∀(n k:Nat) (v:List Int),k<=pins.length->pins.length-k<n->v.length=h.p.length ->
 ∃e,Qbc N h pins y n (k:Int) v=some e/\Qcb N pins h y n (k:Int) v=some (match e with|.ret _=>.ret ([],false)|.nxt v=>.nxt v)/\(∀b,e=.ret b->b=false)/\(∀f,e=.nxt f->f.length=h.p.length/\∀p∈pins.drop k,y.1.contains p.a=true)
 |0,k,v,_,H,_=>by omega
 |n+1,k,v,R,H,I=>by
  have j:1000000<N:=by unfold NB at hN;omega
  rw[Qbc,Qcb];by_cases r:k<pins.length;case neg=>
   rw[We ab,Wa,Wa]
   grind
  have⟨q,eq⟩:=Xno (N:=N) y.1 pins[k].a ab j D;have J:Xd pins (k:Int)=some pins[k]:=by rw[Xf,Wb r]
  simp only[Wg (show(k:Int)<(pins.length:Int) by omega),Wc,J,Xa,Yb pins[k].a (show y.1.length<=1000000000 by omega) (show y.1.length<N by omega),eq,Xf0 pins pins[k].a g j,Xnr pins pins[k].a g j];cases u:y.1.contains pins[k].a with
  |false=>simp
  |true=>
  have x:=o _ (by rw[UF]at u;exact u);have z:=x.tu hp;have⟨K,A,L⟩:=K3 (N:=N) hp x;have O:Qb6 N h.c pins[k].a=some (pgi h.c pins[k].a,pgo h.c pins[k].a,0):=by rw[KX,Wk (by rw[hp.conf];simp),Wn x.rng];rfl
  have⟨c,B⟩:∃c,Xd v (pgi h.c pins[k].a)=some c:=⟨_,Yi A ab⟩
  simp only[Wi,Wa,K,XiI N h.c pins[k].a z.2,O,Xa,B,Xg (show k<=140737488355328 by omega)];have⟨e,n1,n2,S,E⟩:=XaU hN ht hp pins g y G D o n (k+1) (v.set (pgi h.c pins[k].a).toNat (wI (c+pins[k].M))) ab ab (by rw[WL];exact I);have T:∀f,e=.nxt f->f.length=h.p.length/\∀p∈pins.drop k,y.1.contains p.a=true:=λf s=>⟨(E f s).1,λp hp=>by
   rw[Wm r]at hp
   rcases Ia.1 hp with rfl|hp
   .exact u
   .exact(E f s).2 p hp⟩
  grind
def Xlh(hN:NB N){h:Wh}(ht:HT h){pins:List UE}(f:pins.length<=1000000):Qg3 N h pins=Qce N h pins:=by
 have r:1000000<N:=by unfold NB at hN;omega
 have hb:=ht.hb;have s:h.p.length<=100000:=hb.2;rw[Qg3,Qce,XdQ hN ht];have⟨b,eb,g⟩:=KF hN hb;rw[eb,Xa,Xa];cases b with
 |false=>rfl
 |true=>
 cases decide ((pins.length:Int)>64)with
 |true=>rfl
 |false=>
 have hp:Uy h:=(g rfl).prop;have⟨y,u,x,z,j,_⟩:=K4 hN hb;rw[Wa,Wa,QfU,JH hN ht,u,Xa,Xa];rw[Xb ab];have⟨e,A,B,e3,e4⟩:=XaU hN ht hp pins f y x z j N 0 (List.replicate (h.p.length:Int).toNat 0) ab ab ac;have o:Qbc N h pins y N 0 (List.replicate (h.p.length:Int).toNat 0)=some e:=A;have q:Qcb N pins h y N 0 (List.replicate (h.p.length:Int).toNat 0)=_:=B;rw[Xb ab,o,q,Xa,Xa];cases e with
 |ret b=>rw[e3 b rfl,Xy,Xy,Xa];rfl
 |nxt v=>
  rw[Xo,Xo,Xa];have E:∀(n:Nat) (i:Int),Qew N h (v,true) n i=Qbz N h v n i:=by
   intro n;induction n with
   |zero=>intro i;rw[Qew,Qbz]
   |succ n D=>intro i;rw[Qew,Qbz];simp only[D]
  simp_all
def XdR(hN:NB N){h:Wh}(ht:HT h){pins:List UE}(j:pins.length<=1000000)(f:Qce N h pins=some true):Qbj N h=some true/\pins.length<=64/\∀y,Qal N h=some y->∀p∈pins,y.1.contains p.a=true:=by
 have hb:=ht.hb;have u:h.p.length<=100000:=hb.2;rw[Qce]at f;have⟨b,eb,o⟩:=KF hN hb;rw[eb,Xa]at f;cases b with
 |false=>grind
 |true=>
 refine⟨eb,?_,λy s p x=>?_⟩
 .grind
 have hp:Uy h:=(o rfl).prop;have⟨D,g,z,A,q,_⟩:=K4 hN hb;rw[s]at g;cases g;cases hd:decide ((pins.length:Int)>64)with
 |true=>simp_all
 |false=>
 rw[hd,Wa,s,Xa,Xb ab]at f;have⟨e,B,E,e3,e4⟩:=XaU hN ht hp pins j y z A q N 0 (List.replicate (h.p.length:Int).toNat 0) ab (by unfold NB at hN;omega) ac;have r:Qbc N h pins y N 0 (List.replicate (h.p.length:Int).toNat 0)=some e:=B;rw[r,Xa]at f;cases e with
 |ret b=>rw[e3 b rfl,Xy]at f;grind
 |nxt v=>simp_all
def XaV{x:Um}(hp:x.P.length<=1000000):∀(n k:Nat) (v:List Int),k<=x.P.length->x.P.length-k<n->v.length<=10000000+k ->
 QeG N x n (k:Int) v=some (v++(x.P.drop k).map (·.a))/\QbE N x n (k:Int) v=some (v++(x.P.drop k).map (·.a))
 |0,k,v,_,f,_=>by omega
 |n+1,k,v,g,f,h=>by
  rw[QeG,QbE];by_cases e:k<x.P.length
  .rw[Wg ab,Wc,Wc,Xf,Wb e,Xa,Xa,Xb ab,Xb ab,Xg ab];have⟨a,b⟩:=XaV hp n (k+1) (v++[x.P[k].a]) ab ab (by rw[WM];simp;omega);rw[a,b,Wm e,Ua,UH];exact⟨rfl,rfl⟩
  grind
def Zw(x:Um):List Int:=((x.R++(bif Yx x.l then XL x.l.S else[]))++(bif Yw x.g.e then Xu x.g.e else[]))++x.P.map (·.a)
def Xns{x:Um}(f:EB x):(Zw x).length<=104160+x.P.length:=by have h:=YU f.loc;have j:=X7 x.g.e;have o:=f.roots;unfold Zw;grind
def XaW(hN:NB N){x:Um}(f:EB x):Qc5 N x=some (Zw x):=by
 have o:=YU f.loc;have p:=X7 x.g.e;have j:=f.pins;have q:=f.roots;have h:1000000<N:=by unfold NB at hN;omega
 rw[Qc5,Xb ab,YX f.loc h,Xa,Xb ab,X0 f.glo h,Xa,Xb ab];have:=(XaV (N:=N) j N 0 ((x.R++(bif Yx x.l then XL x.l.S else[]))++(bif Yw x.g.e then Xu x.g.e else[])) ab ab (by grind)).2;rw[show(0:Int)=((0:Nat):Int)from rfl,this,Xa,W3];rfl
def XdS(hN:NB N){x:Um}(h:EB x):Qgc N x=some (Zw x):=by
 have o:=YU h.loc;have p:=X7 x.g.e;have j:=h.pins;have q:=h.roots;have f:1000000<N:=by unfold NB at hN;omega
 rw[Qgc,XbY h.loc f,Xa,Ji h.glo f,Xa,Qg5];have:=(XaV (N:=N) j N 0 [] ab ab ac).1;rw[show(0:Int)=((0:Nat):Int)from rfl,this,Xa,Xa,W3,Ue,Qgb,XbZ _ ac (by simp only[XaT,Ug];omega) f,Xa,Xa];unfold Zw;simp
structure ET(x:Um):Prop where
 eb:EB x
 tw:X6 x.h
def ET.ht{x:Um}(t:ET x):HT x.h:=⟨t.eb.heap,t.tw⟩
end
section
variable {N:Nat}
def Xnt(l:List Int):(!l.all λp=>!(p==0))=l.contains 0:=by grind
def Xp5(hN:NB N){x:Um}(ht:ET x):Qf0 N x=QbF N x:=by
 have f:1000000<N:=by unfold NB at hN;omega
 have h:=ht.eb;have r:=YU h.loc;have s:=X7 x.g.e;have u:=X7 x.v.e;have j:=h.pins;have E:=h.roots;rw[Qf0,QbF,Xlh hN ht.ht j];have⟨b,eb,_⟩:=Vd hN h.heap j;rw[eb,Xa,Xa];cases b with
 |false=>rfl
 |true=>
 have⟨eg,o,z⟩:=XdR hN ht.ht j eb;simp only[Wi,Wa,XdI h.loc f,Zx h.loc f,Xbq h.glo f,YV h.glo f,Xbq h.wea f,YV h.wea f,Ji h.glo f,X0 h.glo f,Ji h.wea f,X0 h.wea f,YX h.loc f,Xa,XdS hN h];cases el:Yx x.l with
 |false=>rfl
 |true=>
 cases et:Yw x.g.e with
 |false=>rfl
 |true=>
 cases A:Yw x.v.e with
 |false=>rfl
 |true=>
 have B:Zw x=((x.R++XL x.l.S)++Xu x.g.e)++x.P.map (·.a):=by unfold Zw;rw[el,et];rfl
 have p:=Xns h;rw[el,Wc]at r;rw[et,Wc]at s;rw[A,Wc]at u;simp;rw[XfT ab f,Xa,Xnt,Yb 0 ab ab,Xa];cases (Xu x.g.e).contains 0 with
 |true=>rfl
 |false=>
 rw[Wa,Wa,Xb ab,Xb ab,Xb ab,Xb ab];rw[Qgb,XbZ _ ac (by simp only[XaT];omega) f,Xa,Xa];have⟨y,q,G,_⟩:=K4 hN h.heap;have D:[Zw x,Xu x.v.e].flatten=Zw x++Xu x.v.e:=by simp
 rw[D,Xe1 hN ht.ht (by rw[WM];omega),ZG hN ht.ht (by rw[WM];omega) eg q,ZG hN ht.ht ai eg q,Xa,Xa,B];grind
end
section
variable {N:Nat}
def Xli(N:Nat)(ps:List Wr):Qgf N ps=QcZ N ps:=by
 have h:∀(n:Nat) (c i:Int),Qdm N ps n c i=QbD N ps n c i:=by
  intro n;induction n with
  |zero=>simp[Qdm,QbD]
  |succ n e=>simp[Qdm,QbD,e]
 rw[Qgf,QcZ,h]
def Xhv(N:Nat)(ps:List Wr)(g:ps.length<=100000):∀(n k:Nat) (v:List Ox),k<=ps.length->v.length<=k->QcF N ps n (k:Int) v=Qbw N ps n (k:Int) v
 |0,k,v,_,_=>by rfl
 |n+1,k,v,o,p=>by
  rw[QcF,Qbw];by_cases e:k<ps.length;case neg=>grind
  rw[Wg (show(k:Int)<(ps.length:Int) by omega),Wc,Wc,Xf,Wb e,Xa,Xa,Xb ab,Xg ab];have f:∀v':List Ox,v'.length<=k+1->QcF N ps n ((k+1:Nat):Int) v'=Qbw N ps n ((k+1:Nat):Int) v':=λv' h=>Xhv N ps g n (k+1) v' ab h;rw[f v ab,f (v++[Ox.mk (k:Int) 1]) (by simp_all)];have j:∀(i:Nat) (x:Ox),QcF N ps n ((k+1:Nat):Int) (v.set i x)=Qbw N ps n ((k+1:Nat):Int) (v.set i x):=λi x=>f _ (by grind);simp only[j];cases (ps[k].k != 0)with
  |true=>rfl
  |false=>
   rw[Wa,Wa,Xb (show v.length<=140737488355328 by omega)];rw[show decide (wI ((v.length:Int)-1)>=0)=decide ((v.length:Int)>0) by
    rw[Xe ab ab];grind]
def Xlj(hN:1000000<N){ps:List Wr}(g:ps.length<=100000)(k:Int):QdG N ps k=Qbn N ps k:=by
 have h:Qg4 N ps=Qf8 N ps:=by rw[Qg4,Qf8,show(0:Int)=((0:Nat):Int)from rfl,Xhv N ps g N 0 [] ab ac]
 rw[QdG,Qbn,h];have⟨rs,ers,o,_⟩:=Xjp (N:=N) (ps:=ps) ab ab;rw[ers,Xa,Xa];by_cases q:k<1
 .rw[Wg q,Wc];have:∀(n j:Nat),j<=rs.length->rs.length-j<n->QbC N k rs n (j:Int)=some (.nxt ()):=by
   intro n;induction n with
   |zero=>omega
   |succ n e=>
    intro j s u;rw[QbC];by_cases r:j<rs.length
    .rw[Wg ab,Wc,X5 (show¬k>=1 by omega),Wa,Xg ab];exact e (j+1) ab ab
    grind
  have f:=this N 0 ab ab;rw[show((0:Nat):Int)=0 from rfl]at f;rw[f,Xa,Xo]
 have:∀(n:Nat) (j:Int),Qd0 N k rs n j=QbC N k rs n j:=by
  intro n;induction n with
  |zero=>intro j;rw[Qd0,QbC]
  |succ n e=>
   intro j;rw[Qd0,QbC,Wg (show k>=1 by omega),Wc];simp only[e];cases Xd rs j with
   |none=>simp only[Kv]
   |some p=>simp only[Xa]
 grind
end
section
variable {N:Nat}
def Yc(p:Wr):Bool:=p.k != 0
def XdT(N:Nat)(ps:List Wr)(f:ps.length<=1000000):∀(n c k:Nat),k<=ps.length->c<=k->ps.length-k<n->QbD N ps n (c:Int) (k:Int)=some (((c+(ps.drop k).countP Yc:Nat):Int))
 |0,c,k,_,_,h=>by omega
 |n+1,c,k,g,j,o=>by
  rw[QbD];by_cases e:k<ps.length
  .rw[Wg ab,Wc,Xf,Wb e,Xa,Xg ab,Xg ab,Wm e,U4];cases hb:(ps[k].k != 0)with
   |true=>rw[Wc,XdT N ps f n (c+1) (k+1) ab ab ab,Wn (show Yc ps[k]=true from hb)];congr 1;omega
   |false=>rw[Wa,XdT N ps f n c (k+1) ab ab ab,Wk (show¬Yc ps[k]=true by unfold Yc;rw[hb];simp)];rfl
  grind
def Xhw(hN:1000000<N){ps:List Wr}(e:ps.length<=100000):QcZ N ps=some ((ps.countP Yc:Nat):Int):=by rw[QcZ,show(0:Int)=((0:Nat):Int)from rfl,XdT N ps ab N 0 0 ab ab ab,Xa,W3,UG]
def Km(ps l:List Wr)(i:Nat):List Wr:=(ps.take i++l)++ps.drop (i+l.length)
def Vf{ps l:List Wr}{i:Nat}(h:i+l.length<=ps.length):(Km ps l i).length=ps.length:=by unfold Km;grind
def Xf1(j i k:Nat)(f r:Wr)(ps:List Wr)(e:ps.length<=100000)(g:i+k<=ps.length):∀(n m:Nat),m<=k->k-m<n ->
 QdU N (i:Int) (k:Int) f r n (m:Int) (Km ps (List.replicate m r) i)=some (if((ps.drop (i+m)).take (k-m)).any Yc=true then .ret ([],20)else .nxt (Km ps (List.replicate k r) i))
 |0,m,_,h=>by omega
 |n+1,m,s,u=>by
  rw[QdU];by_cases o:m<k;case neg=>
   obtain rfl:m=k:=ab
   simp
  have p:(Km ps (List.replicate m r) i)[i+m]? = some (ps[i+m]'ab):=by unfold Km;rw[Uh (by grind),UM];simp only[WM,Wl,W6];rw[show i+m+(i+m-(min i ps.length+m))=i+m by omega];exact Wb ab
  have q:(Km ps (List.replicate m r) i).set (i+m) r=Km ps (List.replicate (m+1) r) i:=by unfold Km;rw[I7 _ _ (by grind)];simp only[WM,Wl,W6];rw[show i+m-(min i ps.length+m)=0 by omega,Wm (show i+m<ps.length by omega),IF,List.replicate_succ',←Ua (ps.take i),Ua (ps.take i++List.replicate m r)];rfl
  have hw:wI ((i:Int)+(m:Int))=((i+m:Nat):Int):=by rw[Xe ab ab];omega
  rw[Wg ab,Wc,hw,Xf,p,Xa,Xa,Xg ab,show(((i+m:Nat):Int)).toNat=i+m from rfl,q];have hd:(ps.drop (i+m)).take (k-m)=ps[i+m]'ab::(ps.drop (i+(m+1))).take (k-(m+1)):=by rw[Wm (show i+m<ps.length by omega),show k-m=(k-(m+1))+1 by omega,List.take_succ_cons];rfl
  rw[hd,List.any_cons];cases hb:((ps[i+m]'ab).k != 0)with
  |true=>rw[Wc,show Yc (ps[i+m]'ab)=true from hb,Bool.true_or,Wn rfl]
  |false=>rw[Wa,show Yc (ps[i+m]'ab)=false from hb,Is];exact Xf1 j i k f r ps e g n (m+1) ab ab
def Xlk{α:Type}(p:α->Bool)(l:List α):decide (((l.countP p:Nat):Int)>0)=l.any p:=by
 cases h:l.any p with
 |true=>simp_all
 |false=>simp_all
def Xnu(hN:1000000<N){ps:List Wr}(h:ps.length<=100000)(i:Int)(f r:Wr)(k:Nat)(u:1<=k)(q:k<=1000):QgC N ps i (f::List.replicate (k-1) r)=QdE N ps i (k:Int) f r:=by
 have e:(f::List.replicate (k-1) r).length=k:=by simp;omega
 rw[QgC,QdE,e];by_cases v:i<0
 .simp_all
 obtain⟨j,rfl⟩:∃j:Nat,i=(j:Int):=⟨i.toNat,ab⟩
 by_cases g:j+k<=ps.length;case neg=>
  by_cases p:(j:Int)>=(ps.length:Int)
  .rw[Wg p,Wc,Xe (n:=(ps.length:Int)-(k:Int)) ab ab,Wg (show(j:Int)>(ps.length:Int)-(k:Int) by omega),Wc]
  .rw[X5 p,Wa,Xe (n:=(ps.length:Int)-(k:Int)) ab ab,Xe (n:=(ps.length:Int)-(j:Int)) ab ab,Wg (show(j:Int)>(ps.length:Int)-(k:Int) by omega),Wc,Wg (show(k:Int)>(ps.length:Int)-(j:Int) by omega),Wc]
 rw[Xe (n:=(ps.length:Int)-(k:Int)) ab ab,Xe (n:=(ps.length:Int)-(j:Int)) ab ab,X5 (show¬(j:Int)>(ps.length:Int)-(k:Int) by omega),Wa,X5 (show¬(j:Int)>=(ps.length:Int) by omega),Wa,X5 (show¬(k:Int)>(ps.length:Int)-(j:Int) by omega),Wa];have hw:wI ((j:Int)+(k:Int))=((j+k:Nat):Int):=by rw[Xe ab ab];omega
 rw[hw,Xb ab,Xb ab,show(((j+k:Nat):Int)).toNat=j+k from rfl,show(j:Int).toNat=j from rfl,show j+k-j=k by omega,Xli,Xhw hN (by grind),Xa,Xlk];have ht:=Xf1 (N:=N) 0 j k f r ps h g N 0 ab ab;have o:Km ps (List.replicate 0 r) j=ps:=by unfold Km;simp
 rw[o,IW,Nat.sub_zero,show((0:Nat):Int)=0 from rfl]at ht;rw[ht,Xa];cases ((ps.drop j).take k).any Yc with
 |true=>rw[Wc,Wn rfl,Xy]
 |false=>
  rw[Wa,Wk ac,Xo,Qad,Xa,Xb ab,Xb ab];have s:(Km ps (List.replicate k r) j).length=ps.length:=Vf (by simp_all);rw[Xf,Wb ab,Xa];unfold Km;obtain⟨m,rfl⟩:∃m,k=m+1:=⟨k-1,ab⟩
  rw[W6,IK,List.replicate_succ,List.set_append_left _ _ (by grind),I7 _ _ (by grind)];simp only[Wl];rw[show j-min j ps.length=0 by omega,IF]
end
section
variable {N:Nat}
def Xll{α:Type}(sp:Int)(x y:α):(bif (!decide (sp=0\/sp=1))then x else y)=(bif (decide (sp<0))then x else bif (decide (sp>1))then x else y):=by grind
def Xlm(hN:1000000<N){ps:List Wr}(e:ps.length<=100000)(i sp:Int):Qef N ps i sp=QbU N ps i sp:=by rw[Qef,QbU,Kz,Xa,Xll];have:=Xnu hN e i (Wr.mk 1 sp 0 0) (Wr.mk 0 0 0 0) 1 ab ab;simp_all
def XiL{v:Int}{k:Nat}(u:k<=63)(h:0<=v)(g:v<2 ^ k):Xcw .u64 v (2 ^ k-1)=0:=by
 obtain⟨n,rfl⟩:=UP h;have j:n<2 ^ k:=by
  have e:(2:Int) ^ k=((2 ^ k:Nat):Int):=by simp
  rw[e]at g;omega
 have hb:IntKind.u64.bits=64:=rfl;show IntKind.u64.wrap ((BitVec.ofInt IntKind.u64.bits n &&& ~~~ BitVec.ofInt IntKind.u64.bits (2 ^ k-1)).toNat:Int)=_;rw[hb];have f:(2:Int) ^ k-1=((2 ^ k-1:Nat):Int):=by
  have g:=Nat.one_le_two_pow (n:=k);have e:(2:Int) ^ k=((2 ^ k:Nat):Int):=by simp
  rw[e];omega
 have o:BitVec.ofInt 64 (n:Int)=BitVec.ofNat 64 n:=by simp
 have p:BitVec.ofInt 64 ((2 ^ k-1:Nat):Int)=BitVec.ofNat 64 (2 ^ k-1):=by simp
 rw[f,o,p];have q:BitVec.ofNat 64 n &&& ~~~ BitVec.ofNat 64 (2 ^ k-1)=0#64:=by
  apply BitVec.eq_of_getLsbD_eq;intro i r;simp only[BitVec.getLsbD_and,BitVec.getLsbD_not,BitVec.getLsbD_ofNat,r,decide_true,Uc,BitVec.getLsbD_zero];by_cases s:i<k
  .simp_all
  rw[Nat.testBit_lt_two_pow (IX j (Od ab ab))];simp
 rw[q];rfl
def XcL{a b:Int}{s:Nat}(q:s<=63)(f:0<=a)(h:a<2 ^ s)(g:0<=b)(hb:b*2 ^ s+a<=18446744073709551615):bOr .u64 a (b*2 ^ s)=a+b*2 ^ s:=by
 obtain⟨n,rfl⟩:=UP f;obtain⟨m,rfl⟩:=UP g;have j:(2:Int) ^ s=((2 ^ s:Nat):Int):=by simp
 rw[j]at h hb⊢;have r:(m:Int)*((2 ^ s:Nat):Int)=((m*2 ^ s:Nat):Int):=by simp
 have e:IntKind.u64.bits=64:=rfl;show IntKind.u64.wrap ((BitVec.ofInt IntKind.u64.bits n |||BitVec.ofInt IntKind.u64.bits ((m*2 ^ s:Nat):Int)).toNat:Int)=_;rw[e];have o:BitVec.ofInt 64 (n:Int)=BitVec.ofNat 64 n:=by simp
 have p:BitVec.ofInt 64 ((m*2 ^ s:Nat):Int)=BitVec.ofNat 64 (m*2 ^ s):=by rw[BitVec.ofInt_natCast]
 rw[o,p,BitVec.toNat_or,II,II,Oj (show n<2 ^ 64 by omega),Oj (show m*2 ^ s<2 ^ 64 by omega)];have:=Nat.shiftLeft_add_eq_or_of_lt (show n<2 ^ s by omega) m;rw[Nat.shiftLeft_eq]at this;rw[Nat.or_comm,←this];show wU _=_;rw[XE ab ab];omega
end
section
variable {N:Nat}
def Xb2(hN:1000<N){w v:Int}(f:0<=w)(h:w<=63)(g:0<=v)(e:v<2 ^ w.toNat):QdP N v w=some true:=by rw[QdP,JG f ab hN,Xa,XiL ab g e];rfl
def Xnv(hN:1000000<N){k l m:Int}(k0:0<=k)(k1:k<4)(g:0<=l)(R:l<4096)(h:0<=m)(S:m<4294967296):
 Qf1 N [(Ih.mk 2 1),(Ih.mk 2 k),(Ih.mk 12 l),(Ih.mk 32 m)]=some (1+k*4+l*16+m*65536,0):=by
 obtain⟨n,rfl⟩:∃n,N=n+5:=⟨N-5,ab⟩
 generalize f:[(Ih.mk 2 1),(Ih.mk 2 k),(Ih.mk 12 l),(Ih.mk 32 m)]=L;have e:L.length=4:=by rw[←f];rfl
 have j:Xd L 0=some (Ih.mk 2 1):=by rw[←f];unfold Xd;rfl
 have g1:Xd L 1=some (Ih.mk 2 k):=by rw[←f];unfold Xd;rfl
 have g2:Xd L 2=some (Ih.mk 12 l):=by rw[←f];unfold Xd;rfl
 have g3:Xd L 3=some (Ih.mk 32 m):=by rw[←f];unfold Xd;rfl
 have o:wI (0+1)=1:=Xe ab ab;have p:wI (1+1)=2:=Xe ab ab;have q:wI (2+1)=3:=Xe ab ab;have r:wI (3+1)=4:=Xe ab ab;have s:wI (64-2)=62:=Xe ab ab;have u:wI (62-2)=60:=Xe ab ab;have v:wI (60-12)=48:=Xe ab ab;have x:wI (48-32)=16:=Xe ab ab;have k2:wI (0+2)=2:=Xe ab ab;have y:wI (2+2)=4:=Xe ab ab;have z:wI (4+12)=16:=Xe ab ab;have A:wI (16+32)=48:=Xe ab ab;have B:Qbl (n+5) L (n+5) 64 0=some (.nxt ()):=by rw[Qbl,e,j];simp only[Xa,o,s];rw[Qbl,e,g1];simp only[Xa,p,u];rw[Qbl,e,g2];simp only[Xa,q,v];rw[Qbl,e,g3];simp only[Xa,r,x];rw[Qbl,e];rfl
 have f0:QdP (n+5) 1 2=some true:=Xb2 ab ab ab ab ag;have f1:QdP (n+5) k 2=some true:=Xb2 ab ab ab k0 (by show k<4;omega);have f2:QdP (n+5) l 12=some true:=Xb2 ab ab ab g (by show l<4096;omega);have D:QdP (n+5) m 32=some true:=Xb2 ab ab ab h (by show m<4294967296;omega);have E:Kj .u64 1 0=1:=by decide +kernel
 have G:Kj .u64 k 2=k*2 ^ 2:=by show wU (k*4)=k*4;exact XE ab ab
 have H:Kj .u64 l 4=l*2 ^ 4:=by show wU (l*16)=l*16;exact XE ab ab
 have s3:Kj .u64 m 16=m*2 ^ 16:=by show wU (m*65536)=m*65536;exact XE ab ab
 have I:bOr .u64 0 1=1:=by decide +kernel
 have J:bOr .u64 1 (k*2 ^ 2)=1+k*2 ^ 2:=XcL ab ab ag k0 ab;have K:bOr .u64 (1+k*2 ^ 2) (l*2 ^ 4)=1+k*2 ^ 2+l*2 ^ 4:=XcL ab ab ab g ab;have M:bOr .u64 (1+k*2 ^ 2+l*2 ^ 4) (m*2 ^ 16)=1+k*2 ^ 2+l*2 ^ 4+m*2 ^ 16:=XcL ab ab ab h ab;have O:Qbm (n+5) L (n+5) 0 0 0=some (.nxt (1+k*2 ^ 2+l*2 ^ 4+m*2 ^ 16)):=by rw[Qbm,e,j];simp only[Xa,f0,o,k2,E,I];rw[Wg ab,Wc,Wi,Wa,Xb ab];rw[Qbm,e,g1];simp only[Xa,f1,p,y,G,J];rw[Wg ab,Wc,Wi,Wa,Xb ab];rw[Qbm,e,g2];simp only[Xa,f2,q,z,H,K];rw[Wg ab,Wc,Wi,Wa,Xb ab];rw[Qbm,e,g3];simp only[Xa,D,r,A,s3,M];rw[Wg ab,Wc,Wi,Wa,Xb ab];rw[Qbm,e];rw[We ab,Wa]
 simp[Qf1,B,Xa,Xo,O]
def XiM{d:Wx}(e:tW d.Map)(h:XN d=true):0<=d.Map/\d.Map<4294967296:=by have⟨a,b⟩:=e;omega
def Xp6(hN:1000000<N){d:Wx}(f:tW d.Map):QfH N d=Qcv N d:=by
 rw[QfH,Vy ab,K0,Xa];cases e:XN d with
 |false=>rfl
 |true=>have hb:=XQ e;have g:=XiM f e;rw[Wi,Wa,Wn rfl,XE (n:=d.k) ab ab,XE (n:=d.n) ab ab,XE (n:=d.Map) ab ab,Xnv hN ab ab ab ab ab ab,Xa];congr 2;unfold ZD;have s:∀x:Int,Kj .u64 x 16=wU (x*65536):=λ_=>rfl;simp only[s,Xcg];omega
def Xln(hN:NB N){ws l:List Int}(hw:ws.length<=100000)(h:l.length<=1000){a:Int}(g:a<=18446744073709551615):Qgo N ws a l=Qcf N ws a l:=by
 rw[Qgo,Xb0 ab g,ZU (by unfold BIG;omega) (by unfold BIG;omega) (by unfold NB at hN;omega),XcB (by unfold BIG;omega) N a _ ab,Xa];by_cases e:4096<=a/\a<=4096+(ws.length:Int);case neg=>
  rw[Wk e,Wk (by unfold YE;omega)];rfl
 rw[Wn e];by_cases f:a+(l.length:Int)<=4096+(ws.length:Int);case neg=>rw[We f,Ui,Wc,Wk (by unfold YE;omega)]
 rw[Wg f,Wi,Wa,Wn (by unfold YE;omega),Qac,Xa,Xb ab,Xb ab];rfl
def Xui{n:Nat}(e:Int):(List.replicate (n+1) (0:Int)).set 0 e=[e]++List.replicate n (0:Int):=by rfl
def Xnw(hN:NB N){h:Wh}(hb:HB h){a:Int}(j:a<=18446744073709551615){d:Wx}(o:tW d.Map):QfP N h a d=QbJ N h a d:=by
 have e:1000000<N:=by unfold NB at hN;omega
 rw[QfP,QbJ,Xp6 e o,K0,Xa,Xa,YJ hb.2 e];have⟨b,eb⟩:=Jk (N:=N) hN hb;cases g:XN d with
 |false=>rw[Wk ac,eb,Xa,Xa];simp
 |true=>
  have p:=XQ g;rw[Wn rfl,eb,Xa,Xa];cases b with
  |false=>rfl
  |true=>
  have q:XM d=d.n+1:=by unfold XM;rw[Wn g]
  have⟨n,u⟩:∃n:Nat,d.n=(n:Int):=⟨d.n.toNat,ab⟩
  have ht:(d.n+1).toNat=n+1:=ab;have f:d.n.toNat=n:=ab;rw[Wi,Wa,Wa,ZO ab,Xa,q,Xb ab,ht,f,Xb ab,Xb ab];have r:Xd (List.replicate (n+1) (0:Int)) 0=some 0:=by unfold Xd;simp
  rw[r,Xa,Xui,Xln hN hb.1 (by grind) j];have⟨w,s⟩:∃w,Qcf N h.w a ([ZD d]++List.replicate n (0:Int))=some w:=⟨_,ZU (by unfold BIG;have:=hb.1;omega) (by unfold BIG;grind) (by grind) a⟩
  rw[s,Xa,Xa,Qgg];cases (w.2 != 0)with
  |true=>simp[Wc,Xa]
  |false=>simp[Wa,Qad,Xa]
end
section
variable {N:Nat}
def Xp7{α:Type}(q:α->Bool)(l:List α)(j:Nat)(x:α)(h:∀y,l[j]? = some y->q y=q x):(l.set j x).all q=l.all q:=by
 by_cases e:j<l.length
 .have f:l=l.take j++l[j]::l.drop (j+1):=by rw[List.getElem_cons_drop,U9]
  grind
 rw[List.set_eq_of_length_le ab]
def Xeq{α:Type}(l:List α)(i k j:Nat)(x:α):((l.set j x).drop i).take k=if i<=j then((l.drop i).take k).set (j-i) x else(l.drop i).take k:=by
 by_cases h:i<=j
 .rw[Wn h,List.drop_set,Wk ab,List.take_set]
 rw[Wk h,List.drop_set,Wn ab]
def Xnx{c:WR}{ps:List Wr}{j:Nat}(h:j<ps.length){x:Wr}(o:∀sp,Yj sp x=Yj sp ps[j])(q:Yg c ps j x=Yg c ps j ps[j])(i:Nat)(r:i<ps.length):
 Yg c (ps.set j x) i ((ps.set j x)[i]'(by simp_all))=Yg c ps i ps[i]:=by
 have f:∀sp k,(((ps.set j x).drop (i+1)).take k).all (Yj sp)=((ps.drop (i+1)).take k).all (Yj sp):=by
  intro sp k;rw[Xeq];split
  .refine Xp7 _ _ _ _ λy g=>?_;rw[Ut]at g;split at g
   .rw[UM,show i+1+(j-(i+1))=j by omega,Wb h]at g;cases g;exact(o sp).symm
   cases g
  rfl
 have e:∀p,Yg c (ps.set j x) i p=Yg c ps i p:=by intro p;unfold Yg;simp only[WL,f]
 grind
def Xco{h:Wh}(o:h.p.length<=100000)(hN:1000000<N)(e:List Wr)(f:e.length=h.p.length)(j:∀i(q:i<h.p.length),Yg h.c e i (e[i]'ab)=Yg h.c h.p i h.p[i])(ws:List Int)(b:Int):∀(n i:Nat),i<=h.p.length->Qae N ⟨h.c,ws,e,h.s,b⟩ n (i:Int)=Qae N h n (i:Int)
 |0,i,_=>by rfl
 |n+1,i,q=>by
  rw[Qae,Qae];dsimp only;rw[f];by_cases g:i<h.p.length;case neg=>grind
  rw[Wg (show(i:Int)<_ by omega),Wc,Wc,Kg ab hN ab,Kg o hN g,j i g,Xa,Xa];have r:=Xbs (c:=h.c) g (p:=h.p[i]);generalize Yg h.c h.p i h.p[i]=s at *;by_cases u:s=0
  .simp_all
  rw[show((s:Int)==0)=false by simp_all,Wa,Wa,Xe ab ab,show(i:Int)+(s:Int)=((i+s:Nat):Int) by omega];exact Xco o hN e f j ws b n (i+s) ab
structure OZ(h:Wh):Prop where
 conf:X8 h.c=true
 words:(h.w.length:Int)=h.c.p*h.c.W
 pages:(h.p.length:Int)=h.c.p
 space:0<=h.s/\h.s<=1
 bump:h.b = -1\/(0<=h.b/\h.b<h.p.length/\(pg h.p h.b).k=1)
def Uy.pre{h:Wh}(hp:Uy h):OZ h:=⟨hp.conf,hp.words,hp.pages,hp.space,hp.bump⟩
def KA{h:Wh}(hp:OZ h):QbZ N h=bnd (Qae N h N 0) λe=>exK e (λr=>some r) λ_=>some true:=by
 have q:=Xh.1 hp.conf;have u:=XO hp.conf (i:=0) ab ab;have hw:=hp.words;have f:=hp.pages;have g:((h.w.length:Int) != wI (h.c.W*h.c.p))=false:=by rw[Int.mul_comm,Xe ab ab];simpa using hw
 have j:((h.p.length:Int) != h.c.p)=false:=by simpa using f
 have e3:∀{α:Type} (x y z:α),(bif h.s != 0 then(bif h.s != 1 then x else y)else y)=y:=by
  intro α x y z;by_cases v:h.s=0
  .simp_all
  have A:h.s=1:=by have:=hp.space;omega
  simp_all
 rw[QbZ];simp only[XF,Jj,Xa,hp.conf,Wi,Wa,g,j];rw[e3 _ _ (some true)];rcases hp.bump with hb|⟨b0,o,b2⟩
 .simp_all
 rw[show(h.b != -1)=true by grind,Wc,X5 (show¬h.b<0 by omega),Wa,X5 (show¬h.b>=(h.p.length:Int) by omega),Wa,Xq b0 o,Xa,b2];rfl
def V5{h:Wh}(hN:NB N)(hb:HB h)(ep:Qaa N h=some true){e:List Wr}(f:e.length=h.p.length)(o:∀i(q:i<h.p.length),Yg h.c e i (e[i]'ab)=Yg h.c h.p i h.p[i]){ws:List Int}(hw:ws.length=h.w.length){b:Int}(g:b = -1\/(0<=b/\b<e.length/\(pg e b).k=1)):Qaa N ⟨h.c,ws,e,h.s,b⟩=some true:=by
 have j:1000000<N:=by unfold NB at hN;omega
 have hp:=Xz hN hb ep;rw[←YJ (by rw[f];exact hb.2) j,KA (h:=⟨h.c,ws,e,h.s,b⟩) ⟨hp.conf,by rw[hw];exact hp.words,by rw[f];exact hp.pages,hp.space,g⟩];have:=Xco hb.2 j e f o ws b N 0 ab;rw[show((0:Nat):Int)=0 from rfl]at this;rw[this,←KA hp.pre,YJ hb.2 j,ep]
end
section
variable {N:Nat}
def XjV(hN:1000000<N){ps:List Wr}(h:ps.length<=100000){i:Int}(f r:Wr)(k:Nat)(y:1<=k)(q:k<=1000)(s:RunOK ps i (k:Int)):QdE N ps i (k:Int) f r=some (Km ps (f::List.replicate (k-1) r) i.toNat,0):=by
 have⟨z,_,A,u⟩:=s;obtain⟨j,rfl⟩:∃j:Nat,i=(j:Int):=⟨i.toNat,ab⟩
 have g:((ps.drop j).take k).any Yc=false:=by
  rw[List.any_eq_false];intro p hp hb;obtain⟨m,v,rfl⟩:=WA hp;rw[Wl,Wo]at v;rw[Iy,IQ]at hb;have:=u (m:Int) ab ab;have e:pg ps ((j:Int)+(m:Int))=ps[j+m]'ab:=by unfold pg;rw[show((j:Int)+(m:Int)).toNat=j+m by omega,Wj,Wb ab];rfl
  rw[e]at this;unfold Yc at hb;rw[this]at hb;cases hb
 have ht:=Xf1 (N:=N) 0 j k f r ps h ab N 0 ab ab;have o:Km ps (List.replicate 0 r) j=ps:=by unfold Km;simp
 rw[o,IW,Nat.sub_zero,show((0:Nat):Int)=0 from rfl,g,Wk ac]at ht;rw[QdE,X5 (show¬(j:Int)<0 by omega),Wa,X5 (show¬(j:Int)>=(ps.length:Int) by omega),Wa,Xe (n:=(ps.length:Int)-(j:Int)) ab ab,X5 (show¬(k:Int)>(ps.length:Int)-(j:Int) by omega),Wa,Xb ab,ht,Xa,Xo];have x:(Km ps (List.replicate k r) j).length=ps.length:=Vf (by grind);rw[Xf,Wb ab,Xa,show(j:Int).toNat=j from rfl];unfold Km;obtain⟨m,rfl⟩:∃m,k=m+1:=⟨k-1,ab⟩
 rw[W6,IK,Uu,W6,List.replicate_succ,List.set_append_left _ _ (by grind),I7 _ _ (by grind)];simp only[Wl];rw[show j-min j ps.length=0 by omega,IF]
end
section
variable {N:Nat}
def Xe2{c:WR}{ps:List Wr}{j:Nat}{p:Wr}(e:p.k=1)(f:0<=p.s/\p.s<=1)(hp:0<=p.P/\p.P<=2147483647)(g:0<=p.u/\p.u<=c.W):Yg c ps j p=1:=by unfold Yg;grind
def XiN{c:WR}{ps:List Wr}{j:Nat}:Yg c ps j Zb=1:=rfl
def Xbu{ps:List Wr}{j:Nat}(e:j<ps.length):pg ps (j:Int)=ps[j]:=by unfold pg;simp_all
def Xhx(hN:NB N){h:Wh}(hb:HB h)(ep:Qaa N h=some true){j:Nat}(f:j<h.p.length){x:Wr}(r:x.k=1)(v:0<=x.s/\x.s<=1)(o:0<=x.P/\x.P<=2147483647)(y:0<=x.u/\x.u<=h.c.W)(g:h.p[j].k=0\/h.p[j].k=1){b:Int}(q:b=(j:Int)):Qaa N ⟨h.c,h.w,h.p.set j x,h.s,b⟩=some true:=by
 have hp:=Xz hN hb ep;have e:=hp.pgs (j:Int) ab ab;have z:Yg h.c h.p j h.p[j]=1:=by
  rcases g with g|g
  .have:=e.free (by simp_all[Xbu,f]);rw[Xbu f]at this;rw[this];rfl
  have a:=e.space;have b:=e.pins;have c:=e.small (by simp_all[Xbu,f]);rw[Xbu f]at a b c;exact Xe2 g a b c
 have B:∀(p:Wr) (sp:Int),p.k=0\/p.k=1->Yj sp p=false:=by intro p sp h;unfold Yj Kf;rw[show(p.k==3)=false by grind];rfl
 refine V5 hN hb ep ac (λi A=>Xnx f (λsp=>by simp_all) ?_ i A) rfl (.inr ⟨ab,by simp_all,?_⟩)
 .rw[z];exact Xe2 r v o y
 unfold pg;simp_all
def Xhy(N:Nat)(h:Wh)(n u first:Int):Option (Nat×Int):=
 if 0<=h.b/\u<=XbO h.c/\(pg h.p h.b).s=h.s/\(pg h.p h.b).u+n<=h.c.W then some (h.b.toNat,(pg h.p h.b).u)
 else if 0<=first/\u<XbO h.c then some (first.toNat,0)else none
def Kh(h:Wh)(n:Int)(j:Nat)(at_:Int):Wh:=⟨h.c,h.w,h.p.set j ⟨1,h.s,at_+n,(pg h.p (j:Int)).P⟩,h.s,(j:Int)⟩
def Xlo(hN:NB N){h:Wh}(hb:HB h)(hp:Uy h){n u f:Int}(Y:0<=n/\n<=300)(I:QcZ N h.p=some u)(G:Qbn N h.p 1=some f):
 Qek N h n=some (match Xhy N h n u f with|some (j,a)=>(Kh h n j a,Xc h.c (j:Int) a,true)|none=>(zHp,0,false)):=by
 have v:1000000<N:=by unfold NB at hN;omega
 have x:=hb.2;have hpages:=hp.pages;have J:=Xh.1 hp.conf;have fresh:(bif decide (f<0)then some (zHp,(0:Int),false)else bif decide (u>=XbO h.c)then some (zHp,0,false)else bnd (QbU N h.p f h.s) λr=>bnd (Xd r.1 f) λy=>bnd (Xd r.1 f) λz=>bnd (Xd r.1 f) λo=>some ((Wh.mk h.c h.w (r.1.set f.toNat (Wr.mk o.k o.s (wI (z.u+n)) o.P)) h.s f),(wU (wI ((wI (4096+(wI (f*h.c.W))))+y.u))),true))=some (match (if 0<=f/\u<XbO h.c then some (f.toNat,(0:Int))else none)with|some (j,a)=>(Kh h n j a,Xc h.c (j:Int) a,true)|none=>(zHp,0,false)):=by
  by_cases K:f<0
  .grind
  by_cases L:u>=XbO h.c
  .grind
  rw[X5 K,Wa,X5 L,Wa,Wn ab]
  have g:RunOK h.p f 1:=by
   rcases(KL (N:=N) (ps:=h.p) 1 ab ab).get_eq G with A|A
   .omega
   .omega
  obtain⟨j,rfl⟩:∃j:Nat,f=(j:Int):=⟨f.toNat,ab⟩
  have H:j<h.p.length:=by have:=g.2.2.1;omega
  have M:=hp.space
  have O:=XO hp.conf (i:=(j:Int)) ab ab
  have et:=XjV v x (Wr.mk 1 h.s 0 0) (Wr.mk 0 0 0 0) 1 ab ab g
  have B:QdE N h.p (j:Int) 1 (Wr.mk 1 h.s 0 0) (Wr.mk 0 0 0 0)=_:=et
  have q:Km h.p (Wr.mk 1 h.s 0 0::List.replicate (1-1) (Wr.mk 0 0 0 0)) j=h.p.set j (Wr.mk 1 h.s 0 0):=by
   unfold Km
   rw[List.set_eq_take_append_cons_drop,Wn H];simp
  rw[QbU,X5 (show¬h.s<0 by omega),Wa,X5 (show¬h.s>1 by omega),Wa,B,show(j:Int).toNat=j from rfl,q,Xa,Xa]
  have R:Xd (h.p.set j (Wr.mk 1 h.s 0 0)) (j:Int)=some (Wr.mk 1 h.s 0 0):=by
   rw[Xf,List.getElem?_set_self H]
  dsimp only
  have S:(pg h.p (j:Int)).P=0:=by
   have:=(hp.pgs (j:Int) ab ab).free (by have:=g.2.2.2 0 ab ab;assumption)
   rw[this];rfl
  simp only[R,Xa]
  unfold Kh Xc
  rw[List.set_set,S,Xe (n:=0+n) ab ab,Xe (n:=(j:Int)*h.c.W) ab ab,Xe (n:=4096+(j:Int)*h.c.W) ab ab,Xe (n:=4096+(j:Int)*h.c.W+0) ab ab,XE ab ab]
 rw[Qek,Xb ab,XfA,Xa,I,Xa,XF,G];simp only[Xa];unfold Xhy;by_cases b0:h.b<0
 .grind
 have e:0<=h.b/\h.b<h.p.length/\(pg h.p h.b).k=1:=by
  rcases hp.bump with A|A
  .omega
  omega
 have D:=hp.pgs h.b e.1 e.2.1;have T:=D.small e.2.2;have O:=XO hp.conf (i:=h.b) ab ab;rw[X5 b0,Wa,Xq e.1 e.2.1];simp only[Xa];rw[Xe (n:=(pg h.p h.b).u+n) ab ab];by_cases U:(pg h.p h.b).s=h.s;case neg=>grind
 rw[show((pg h.p h.b).s != h.s)=false by simp_all,Wa];by_cases b2:(pg h.p h.b).u+n>h.c.W
 .grind
 by_cases V:u>XbO h.c
 .grind
 rw[X5 b2,Wa,X5 V,Wa,Wn (c:=0<=h.b/\u<=XbO h.c/\_) ab];dsimp only;unfold Kh Xc;have E:(h.b.toNat:Int)=h.b:=ab;rw[E,e.2.2,U,Xe (n:=h.b*h.c.W) ab ab,Xe (n:=4096+h.b*h.c.W) ab ab,Xe (n:=4096+h.b*h.c.W+(pg h.p h.b).u) ab ab,XE ab ab]
end
section
variable {N:Nat}
def XrP(hN:NB N){h:Wh}(hb:HB h)(ep:Qaa N h=some true){n u f:Int}(G:1<=n/\n<=h.c.W)(E:Qbn N h.p 1=some f){j:Nat}{a:Int}(g:Xhy N h n u f=some (j,a)):j<h.p.length/\0<=a/\a+n<=h.c.W/\Qaa N (Kh h n j a)=some true:=by
 have hp:=Xz hN hb ep;have H:=hb.2;have z:=hp.space;unfold Xhy at g;split at g
 .cases g;have e:0<=h.b/\h.b<h.p.length/\(pg h.p h.b).k=1:=by
   rcases hp.bump with A|A
   .omega
   exact A
  have o:=hp.pgs h.b e.1 e.2.1;have B:=o.small e.2.2;have r:(h.b.toNat:Int)=h.b:=ab;have v:h.b.toNat<h.p.length:=ab;refine⟨v,B.1,ab,?_⟩;unfold Kh;rw[r];refine Xhx (x:=⟨1,h.s,(pg h.p h.b).u+n,(pg h.p h.b).P⟩) hN hb ep v rfl z o.pins (by show 0<=(pg h.p h.b).u+n/\_;exact⟨ab,by show(pg h.p h.b).u+n<=_;omega⟩) (.inr ?_) r.symm;rw[←Xbu v,r];omega
 split at g
 .cases g;have q:RunOK h.p f 1:=by
   rcases(KL (N:=N) (ps:=h.p) 1 ab (by unfold NB at hN;omega)).get_eq E with A|A
   .omega
   exact A
  have I:=q.2.2.1;have y:(f.toNat:Int)=f:=ab;have v:f.toNat<h.p.length:=ab;have D:(pg h.p f).k=0:=by have:=q.2.2.2 0 ab ab;simpa using this
  refine⟨v,ab,ab,?_⟩;unfold Kh;have o:=hp.pgs f ab ab;rw[y];refine Xhx (x:=⟨1,h.s,0+n,(pg h.p f).P⟩) hN hb ep v rfl z o.pins (by show 0<=0+n/\_;exact⟨ab,by show 0+n<=_;omega⟩) (.inl ?_) y.symm;rw[←Xbu v,y];exact D
 simp_all
end
section
variable {N:Nat}
def Xny(hN:1000000<N)(c:WR)(d:Wx):Qda N c d=some (XN d&&(d.k != 0&&XH c (XM d) != -1)):=by rw[Qda,ZM,Xa,X4];simp only[Xa,K2 (show 10<=N by omega)];grind
def Xnz{h:Wh}(hb:HB h)(n:Int)(j:Nat)(a:Int):HB (Kh h n j a):=⟨hb.1,by show(h.p.set j _).length<=_;rw[WL];exact hb.2⟩
end
section
variable {N:Nat}
def Xhz{ps l:List Wr}{j:Nat}(h:j+l.length<=ps.length)(i:Nat):(Km ps l j)[i]? = if i<j then ps[i]? else if i<j+l.length then l[i-j]? else ps[i]?:=by unfold Km;grind
def Xlp{α:Type}(q:α->Bool){l e:List α}(f:l.length=e.length)(h:(∀i:Nat,l[i]? = e[i]?)\/∃(i:Nat) (x y:α),l[i]? = some x/\e[i]? = some y/\q x=false/\q y=false):l.all q=e.all q:=by
 rcases h with h|⟨i,x,y,g,j,o,p⟩
 .rw[List.ext_getElem? h]
 grind
def XnA{c:WR}{ps:List Wr}{i:Nat}{p:Wr}{s:Nat}(h:Yg c ps i p=s)(e:2<=s):((ps.drop (i+1)).take (s-1)).all (Yj p.s)=true/\s<=ps.length-i:=by unfold Yg at h;grind
def XnB{c:WR}{ps e:List Wr}(f:e.length=ps.length){i:Nat}(hd:∀m sp,((e.drop (i+1)).take m).all (Yj sp)=((ps.drop (i+1)).take m).all (Yj sp))(p:Wr):Yg c e i p=Yg c ps i p:=by unfold Yg;simp_all
def XdU{h:Wh}(e:h.p.length<=100000)(hN:1000000<N):∀(k n j:Nat),j+k<=h.p.length->(∀m,m<k->∀(g:j+m<h.p.length),h.p[j+m]=Zb)->Qae N h (n+k) (j:Int)=Qae N h n ((j+k:Nat):Int)
 |0,n,j,_,_=>rfl
 |k+1,n,j,q,f=>by rw[show n+(k+1)=(n+k)+1 from rfl,Qae,Wg ab,Wc,Kg e hN (show j<h.p.length by omega),Xa];have:=f 0 ab ab;simp at this;rw[this,XiN,show((((1:Nat)):Int)==0)=false from rfl,Wa,show((1:Nat):Int)=1 from rfl,Xg ab,XdU e hN k n (j+1) ab (λm g o=>by have:=f (m+1) ab ab;simpa only[show j+(m+1)=j+1+m by omega]using this)];grind
def XiO(hN:NB N){h:Wh}(hb:HB h)(ep:Qaa N h=some true){j k:Nat}(hk:1<=k)(hr:RunOK h.p (j:Int) (k:Int)){w:Int}(hw:XH h.c w=(k:Int)):Qaa N ⟨h.c,h.w,Km h.p (Wr.mk 2 h.s w 0::List.replicate (k-1) (Wr.mk 3 h.s 0 0)) j,h.s,h.b⟩=some true:=by
 have o:1000000<N:=by unfold NB at hN;omega
 have hp:=Xz hN hb ep;have I:=hb.2;have hsp:=hp.space;have⟨_,_,hfit,z⟩:=hr;generalize H:(Wr.mk 2 h.s w 0::List.replicate (k-1) (Wr.mk 3 h.s 0 0))=L;have J:L.length=k:=by rw[←H];simp;omega
 have B:j+L.length<=h.p.length:=ab;have r:(Km h.p L j).length=h.p.length:=Vf B;have K:∀m,m<k->∀(M:j+m<h.p.length),h.p[j+m]=Zb:=by intro m M v;have:=(hp.pgs ((j:Int)+m) ab ab).free (z m ab ab);rw[show(j:Int)+(m:Int)=((j+m:Nat):Int) by omega,Xbu v]at this;exact this
 generalize hq:Km h.p L j=e at *;have g:∀i,e[i]? = if i<j then h.p[i]? else if i<j+k then L[i-j]? else h.p[i]?:=by intro i;rw[←hq,Xhz B,J]
 have x:∀i(hi:i<h.p.length),(i<j\/j+k<=i)->e[i]'ab=h.p[i]:=by
  intro i hi u;have a:=g i;rw[Wb ab,Wb hi]at a;rcases u with u|u
  .simp_all
  grind
 have D:∀i,(i<j\/j+k<=i)->∀m sp,((e.drop (i+1)).take m).all (Yj sp)=((h.p.drop (i+1)).take m).all (Yj sp):=by
  intro i u m sp;refine Xlp _ (by simp_all) ?_;by_cases hcov:i<j/\j<i+1+m
  .right;refine⟨j-(i+1),Wr.mk 2 h.s w 0,Zb,?_,?_,rfl,rfl⟩
   .rw[Ut,Wn ab,UM,show i+1+(j-(i+1))=j by omega,g,Wk ab,Wn ab,Ie,←H];rfl
   grind
  grind
 have main:∀(m i n f:Nat),h.p.length-i<=m->i<=h.p.length->(i<=j\/j+k<=i)->h.p.length-i+200<n->h.p.length-i+200<f->Qae N ⟨h.c,h.w,e,h.s,h.b⟩ n (i:Int)=Qae N h f (i:Int):=by
  intro m;induction m with
  |zero=>
   intro i n f h1 h2 h3 h4 h5;obtain⟨n,rfl⟩:∃q,n=q+1:=⟨n-1,ab⟩
   obtain⟨f,rfl⟩:∃q,f=q+1:=⟨f-1,ab⟩
   rw[Qae,Qae];grind
  |succ m ih=>
   intro i n f h1 h2 h3 h4 h5;by_cases v:i<h.p.length;case neg=>
    grind
   by_cases O:i=j
   .subst O;obtain⟨n,rfl⟩:∃q,n=q+1:=⟨n-1,ab⟩
    obtain⟨f,rfl⟩:∃q,f=q+k:=⟨f-k,ab⟩
    rw[XdU I o k f i ab K,Qae];dsimp only;have hx:e[i]'ab=Wr.mk 2 h.s w 0:=by have a:=g i;rw[Wb ab,Wk ab,Wn ab,Ie,←H]at a;exact WE a
    have R:((e.drop (i+1)).take (k-1)).all (Yj h.s)=true:=by
     rw[W0];intro y hy;obtain⟨q,S,rfl⟩:=WA hy;rw[Wl,Wo]at S;have a:=g (i+1+q);have T:L[i+1+q-i]? = some (Wr.mk 3 h.s 0 0):=by rw[←H,show i+1+q-i=q+1 by omega,Ig,Iw,Wn ab]
     rw[Wb ab,Wk ab,Wn ab,T]at a;rw[Iy,IQ,WE a];simp[Yj,Kf]
    have U:Yg h.c e i (e[i]'ab)=k:=by rw[hx];unfold Yg;have V:(XH h.c w).toNat=k:=ab;rw[Wk (show¬(2:Int)=0 by omega),Wn (by grind),Wk (show¬(2:Int)=1 by omega),Wn rfl];dsimp only;rw[V,Wn ⟨ab,ab,R⟩]
    rw[Wg ab,Wc,Kg ab o ab,U,Xa,show((k:Int)==0)=false by grind,Wa,Xe ab ab,show(i:Int)+(k:Int)=((i+k:Nat):Int) by omega];exact ih (i+k) n f ab ab (.inr ab) ab ab
   have u:i<j\/j+k<=i:=ab;obtain⟨n,rfl⟩:∃q,n=q+1:=⟨n-1,ab⟩
   obtain⟨f,rfl⟩:∃q,f=q+1:=⟨f-1,ab⟩
   rw[Qae,Qae];dsimp only;rw[r,Wg ab,Wc,Wc,Kg ab o ab,Kg I o v,x i v u,XnB r (D i u),Xa,Xa];have E:=XnA (c:=h.c) (ps:=h.p) (i:=i) (p:=h.p[i]) rfl;generalize Yg h.c h.p i h.p[i]=s at *;by_cases h0:s=0
   .simp_all
   rw[show((s:Int)==0)=false by simpa using h0,Wa,Wa,Xe ab ab,show(i:Int)+(s:Int)=((i+s:Nat):Int) by omega];refine ih (i+s) n f ab ab ?_ ab ab;rcases u with u|u
   .left;by_cases W:2<=s
    .have⟨ha,_⟩:=E W;by_cases Y:i+s<=j
     .exact Y
     rw[W0]at ha;have M:Zb∈(h.p.drop (i+1)).take (s-1):=by refine W7 (i:=j-(i+1)) ?_;rw[Ut,Wn ab,UM,show i+1+(j-(i+1))=j by omega,Wb ab];have:=K 0 ab ab;simp only[IW]at this;rw[this]
     have:=ha _ M;cases this
    omega
   omega
 have A:h.b = -1\/(0<=h.b/\h.b<e.length/\(pg e h.b).k=1):=by
  rcases hp.bump with hh|⟨b0,b1,b2⟩
  .omega
  have⟨q,Z⟩:∃q:Nat,h.b=(q:Int):=⟨h.b.toNat,ab⟩
  rw[Z]at b1 b2⊢;have G:q<h.p.length:=ab;rw[Xbu G]at b2;by_cases hin:q<j\/j+k<=q
  .rw[Xbu ab,x q G hin];omega
  have:=K (q-j) ab ab;simp only[show j+(q-j)=q by omega]at this;rw[this]at b2;cases b2
 rw[←YJ (by simp_all) o,KA (h:=⟨h.c,h.w,e,h.s,h.b⟩) ⟨hp.conf,hp.words,by rw[r];exact hp.pages,hp.space,A⟩];have:=main h.p.length 0 N N ab ab (.inl ab) ab ab;rw[show((0:Nat):Int)=0 from rfl]at this;rw[this,←KA hp.pre,YJ I o,ep]
end
section
variable {N:Nat}
def XaX(h:Wh)(n:Int)(j k:Nat):Wh:=⟨h.c,h.w,Km h.p (Wr.mk 2 h.s n 0::List.replicate (k-1) (Wr.mk 3 h.s 0 0)) j,h.s,h.b⟩
def XnC(hN:1000000<N){h:Wh}(e:h.p.length<=100000)(hp:Uy h){n:Int}{j k:Nat}(f:1<=k)(g:k<=4)(hw:XH h.c n=(k:Int))(o:RunOK h.p (j:Int) (k:Int)):QeY N h.c h.p (j:Int) h.s n=some ((XaX h n j k).p,0):=by have q:=hp.space;rw[QeY,K2 ab,Xa,hw,X5 (show¬(k:Int)<1 by omega),Wa,X5 (show¬h.s<0 by omega),Wa,X5 (show¬h.s>1 by omega),Wa,XjV hN e _ _ k f ab o,Xa];rfl
def XnD{h:Wh}(hb:HB h)(n:Int){j k:Nat}(e:1<=k)(f:j+k<=h.p.length):HB (XaX h n j k):=⟨hb.1,by
 show(Km h.p _ j).length<=_
 rw[Vf (by simp_all)];exact hb.2⟩
end
def GR{β:Type}(N:Nat)(c:WR)(sp n:Int)(ps:List Wr)(tk:List Int)(g:Int->Int->Int->List Wr->List Int->Option β):Option β:=
 grd (tk.length<=140737488355328) <|
 jn (λ(_:Unit)=>
  bnd (QdG N ps 1) λe=>
  bif (decide (e<0))then g 0 0 3 ps tk
  else bnd (Qef N ps e (wI (1-sp))) λh=>
  bif (h.2 != 0)then none
  else grd ((tk.length+1)*8<=140737488355328) <|
  g e 0 0 h.1 (tk++[e])) λf=>
 bif (decide ((tk.length:Int)>0))then(bnd (Xd tk (wI ((tk.length:Int)-1))) λp=>
  bif (decide (p>=0))then(bnd (Xd tk (wI ((tk.length:Int)-1))) λq=>
   grd (ps.length<=140737488355328) <|
   bif (decide (q<(ps.length:Int)))then(bnd (Xd tk (wI ((tk.length:Int)-1))) λj=>
    bnd (Xd ps j) λo=>
    bif (decide (n<=(wI (c.W-o.u))))then g j o.u 0 ps tk
    else f ())
   else f ())
  else f ())
 else f ()
def FT{β:Type}(N:Nat)(c:WR)(cp:Int)(ws:List Int)(ps:List Wr)(q:List Int)(f h:Int)(o:Int->Int->Int->List Int->List Wr->List Int->Option β)(i u:Int):Option β:=
 bnd (Qdd N c i u) λg=>
 bif (g.2 != 0)then o 0 g.2 cp ws ps q
 else grd ((h.toNat-f.toNat)<=140737488355328) <|
 bnd (Qck N c g.1) λe=>
 bif (e.2.2 != 0)then(bnd (Qb1 N g.1) λv=>
  o 0 19 cp ws ps q)
 else grd (ws.length<=140737488355328) <|
 bif (decide ((((h.toNat-f.toNat):Nat):Int)>(wI ((ws.length:Int)-(wI ((wI (e.1*c.W))+e.2.1))))))then(bnd (Qb1 N g.1) λx=>
  o 0 19 cp ws ps q)
 else grd (0<=(wI ((wI (e.1*c.W))+e.2.1))/\(wI ((wI (e.1*c.W))+e.2.1))<=(wI ((wI ((wI (e.1*c.W))+e.2.1))+(((h.toNat-f.toNat):Nat):Int)))/\(wI ((wI ((wI (e.1*c.W))+e.2.1))+(((h.toNat-f.toNat):Nat):Int)))<=(ws.length:Int)) <|
 bnd (Qb1 N g.1) λp=>
 bif (p.2 != 0)then o 0 19 cp ws ps q
 else grd ((h.toNat-f.toNat)<=((wI ((wI ((wI (e.1*c.W))+e.2.1))+(((h.toNat-f.toNat):Nat):Int))).toNat-(wI ((wI (e.1*c.W))+e.2.1)).toNat)) <|
 bnd (KP (((ws.take (wI ((wI (e.1*c.W))+e.2.1)).toNat)++((ws.drop f.toNat).take (h.toNat-f.toNat)))++(ws.drop ((wI ((wI (e.1*c.W))+e.2.1)).toNat+(h.toNat-f.toNat)))) (f.toNat) (h.toNat-f.toNat) 0) λy=>
 bnd (Xd ps i) λr=>
 grd ((h.toNat-f.toNat)<=140737488355328) <|
 bnd (Xd ps i) λj=>
 grd ((q.length+1)*8<=140737488355328) <|
 o g.1 0 (wI (cp+1)) ((((ws.take (wI ((wI (e.1*c.W))+e.2.1)).toNat)++((ws.drop f.toNat).take (h.toNat-f.toNat)))++(ws.drop ((wI ((wI (e.1*c.W))+e.2.1)).toNat+(h.toNat-f.toNat)))).set f.toNat p.1) (ps.set i.toNat (Wr.mk j.k j.s (wI (r.u+(((h.toNat-f.toNat):Nat):Int))) j.P)) (q++[g.1])
section
variable {N:Nat}
def V6(l:List Int)(x:Int)(f:l.length<=1000000)(hN:1000000<N):Qai N l x=some (l.contains x):=by
 rw[Qai,QbR];rw[JR (p:=λy:Int=>(x==y)) f hN (λn j y e=>by
  have g:=XD e
  rw[Qay,Xl g,Wc,Xf,e,Xa,Xg ab]) (λn=>by rw[Qay,XG,Wa])]
 rw[Xa,Ky,List.contains_eq_any_beq]
def Xlq(l:List Int)(x:Int)(f:l.length<=1000000)(hN:1000000<N):Qba N l x=some (l.contains x):=by
 rw[Qba,Qee];rw[JR (p:=λy:Int=>(x==y)) f hN (λn j y e=>by
  have g:=XD e
  rw[QbH,Xl g,Wc,Xf,e,Xa,Xg ab]) (λn=>by rw[QbH,XG,Wa])]
 rw[Xa,Ky,List.contains_eq_any_beq]
def Xe3(w:Wu)(i:Int)(g:w.t.length<=1000000)(hN:1000000<N):Qgk N w i=some (w.t.contains i):=by
 have h:∀(n k:Nat),k<=w.t.length->w.t.length-k<n->QcR N w i n (k:Int)=some (bif (w.t.drop k).contains i then .ret true else .nxt ()):=by
  intro n;induction n with
  |zero=>omega
  |succ n f=>
   intro k j o;by_cases h:k<w.t.length
   .rw[QcR,Xl h,Wc,Xf,Wb h,Xa,Xg ab,Wm h,List.contains_cons];by_cases e:w.t[k]=i
    .rw[Xv e,Wc,Xv e.symm,Bool.true_or,Wc]
    rw[Xm e,Wa,Xm (λh=>e h.symm),Is];exact f (k+1) ab ab
   obtain rfl:k=w.t.length:=ab;rw[QcR,XG,Wa,W5 (Un _)];rfl
 have h:=h N 0 ab ab;rw[show((0:Nat):Int)=0 from rfl,W3]at h;rw[Qgk,h,Xa];cases w.t.contains i
 .rw[Wa,Xo]
 simp[Wc,Xy]
def XdV(hN:1000000<N){v:Int}(r:tU v):QeI N v=Qcx N v:=by
 obtain⟨m,rfl⟩:∃m,N=m+5:=⟨N-5,ab⟩
 have⟨f,s⟩:=r;have j:wI (0+1)=1:=Xe ab ab;have o:wI (1+1)=2:=Xe ab ab;have u:wI (64-2)=62:=Xe ab ab;have x:wI (62-32)=30:=Xe ab ab;have e:([(2:Int),32].length:Nat)=2:=rfl;have p:Xd [(2:Int),32] 0=some 2:=by unfold Xd;rfl
 have g1:Xd [(2:Int),32] 1=some 32:=by unfold Xd;rfl
 have y:QaU (m+5) v [2,32] (m+5) 64 0=some (.nxt ()):=by rw[QaU,e,p];simp only[Xa,j,u];rw[QaU,e,g1];simp only[Xa,o,x];rw[QaU,e];rfl
 have z:QcU (m+5) 2=some 3:=JG ab ab ab;have A:QcU (m+5) 32=some 4294967295:=JG ab ab ab;have q:YL .u64 v 2=v / 4:=Y8 v 2 ab f;have B:YL .u64 (v / 4) 32=v / 4 / 4294967296:=Y8 (v / 4) 32 ab ab;have D:Zu .u64 v 3=v % 4:=Y9 v 2 ab f s;have E:Zu .u64 (v / 4) 4294967295=v / 4 % 4294967296:=Y9 (v / 4) 32 ab ab ab;have G:QaV (m+5) [2,32] (m+5) v 0 []=some (v / 4 / 4294967296,[v % 4,v / 4 % 4294967296]):=by rw[QaV,e,p];rw[Wg ab,Wc,Xa,z,Xa,Xb ac,Xb ab,q,D,j];rw[QaV,e,g1];rw[Wg ab,Wc,Xa,A,Xa,Xb ac,Xb ab,B,E,o];rw[QaV,e];rw[We ab,Wa];rfl
 rw[QeI,Qe1,y,Xa,Xo,G,Xa,Qcx,q,IJ f];by_cases h:v / 4 / 4294967296=0
 .rw[h];by_cases g:v % 4=2
  .rw[g];have:v / 4 % 4294967296=v / 4:=ab;rw[this,We ab];rw[show((0:Int) != 0)=false from rfl,Wa,Xa];rw[show Xd [(2:Int),v / 4] 0=some 2 by unfold Xd;rfl,Xa,show Xd [(2:Int),v / 4] 1=some (v / 4) by unfold Xd;rfl,Xa];rfl
  rw[Xn g,Wc];rw[show((0:Int) != 0)=false from rfl,Wa,Xa];show bnd (Xd [v % 4,v / 4 % 4294967296] 0) _=_;rw[show Xd [v % 4,v / 4 % 4294967296] 0=some (v % 4) by unfold Xd;rfl,Xa,Xn g,Wc]
 rw[Xn h,Wc,Xa];grind
def XhA(hN:1000000<N){a:Int}(g:0<=a)(A:a<4294967296):Qb1 N a=QcM N a:=by
 rw[Qb1,JG ab ab ab,Xa,QcM,We (by show¬a>4294967295;omega),We ab,Wa,Wa];obtain⟨n,rfl⟩:∃n,N=n+5:=⟨N-5,ab⟩
 generalize f:[(Ih.mk 2 2),(Ih.mk 32 a)]=L;have e:L.length=2:=by rw[←f];rfl
 have h:Xd L 0=some (Ih.mk 2 2):=by rw[←f];unfold Xd;rfl
 have g1:Xd L 1=some (Ih.mk 32 a):=by rw[←f];unfold Xd;rfl
 have j:wI (0+1)=1:=Xe ab ab;have o:wI (1+1)=2:=Xe ab ab;have p:wI (64-2)=62:=Xe ab ab;have q:wI (62-32)=30:=Xe ab ab;have k2:wI (0+2)=2:=Xe ab ab;have r:wI (2+32)=34:=Xe ab ab;have s:Qbl (n+5) L (n+5) 64 0=some (.nxt ()):=by rw[Qbl,e,h];simp only[Xa,j,p];rw[Qbl,e,g1];simp only[Xa,o,q];rw[Qbl,e];rfl
 have f0:QdP (n+5) 2 2=some true:=Xb2 ab ab ab ab ag;have f1:QdP (n+5) a 32=some true:=Xb2 ab ab ab g (by show a<4294967296;omega);have u:Kj .u64 2 0=2:=by decide +kernel
 have v:Kj .u64 a 2=a*2 ^ 2:=by show wU (a*4)=a*4;exact XE ab ab
 have x:bOr .u64 0 2=2:=by decide +kernel
 have y:bOr .u64 2 (a*2 ^ 2)=2+a*2 ^ 2:=XcL ab ab ag g ab;have z:Qbm (n+5) L (n+5) 0 0 0=some (.nxt (2+a*2 ^ 2)):=by rw[Qbm,e,h];simp only[Xa,f0,j,k2,u,x];rw[Wg ab,Wc,Wi,Wa,Xb ab];rw[Qbm,e,g1];simp only[Xa,f1,o,r,v,y];rw[Wg ab,Wc,Wi,Wa,Xb ab];rw[Qbm,e];rw[We ab,Wa]
 rw[Qf1,s,Xa,Xo,z,Xa,Xo,Xa,XE (n:=4*a) ab ab,XE ab ab];grind
end
section
variable {N:Nat}{h0:Wh}{l:List Int}
structure Si(h0:Wh)(w:Wu)(n j u:Int)(ps:List Wr):Prop where
 rng:0<=j/\j<ps.length
 len:ps.length=w.h.p.length
 fit:0<=u/\u+n<=h0.c.W
 used:(pg ps j).u=u
 sp:∀i,0<=i->pg ps i=pg w.h.p i\/(pg ps i).s=1-h0.s
def XrQ(hN:NB N)(hb:HB h0)(hp:Uy h0){w:Wu}(E:CI h0 l w){n:Int}(hn:1<=n)(hn2:n<=h0.c.W){β:Type}(A:Int->Int->Int->List Wr->List Int->Option β):
 (∃r,Qcy N w n=some r/\r.2.2=false/\GR N h0.c h0.s n w.h.p w.t A=A 0 0 3 w.h.p w.t) \/
 ∃j u ps tk,Si h0 w n j u ps/\Qcy N w n=some (⟨⟨w.h.c,w.h.w,ps.set j.toNat ⟨(pg ps j).k,(pg ps j).s,wI ((pg ps j).u+n),(pg ps j).P⟩,w.h.s,w.h.b⟩,w.o,tk,w.q,w.d,w.r⟩,Xc h0.c j u,true) /\
  GR N h0.c h0.s n w.h.p w.t A=A j u 0 ps tk:=by
 have R:=hN;unfold NB at R;have hpl:=E.plen;have hv:=Xh.1 hp.conf;have htl:=E.tl hb;have hpp:=hp.pages;have hsp:=hp.space;have S:=E.spc;have U:∀j u:Int,0<=j->j<w.h.p.length->0<=u->u+n<=h0.c.W->wU (wI (wI (4096+wI (j*w.h.c.W))+u))=Xc h0.c j u:=by intro j u h1 h2 h3 h4;have hm:=XO hp.conf (i:=j) h1 ab;rw[E.conf,Xe (n:=j*h0.c.W) ab ab,Xe (n:=4096+j*h0.c.W) ab ab,Xe ab ab,XE ab ab];rfl
 rw[Qcy,GR];rw[Xb ab,Xb ab,XF,XF];have new:(∃r,(bnd (Qbn N w.h.p 1) λv=>
  bif (decide (v<0))then some ((Wu.mk zHp [] [] [] 0 (WV.mk 0 0 0 0 0 0)),0,false)
  else bnd (QbU N w.h.p v (wI (1-w.h.s))) λB=>
  grd (w.t.length*8<=140737488355328) <|
  grd ((w.t.length+1)*8<=140737488355328) <|
  bnd (Xd B.1 v) λG=>
  bnd (Xd B.1 v) λH=>
  bnd (Xd B.1 v) λx=>
  some ((Wu.mk (Wh.mk w.h.c w.h.w (B.1.set v.toNat (Wr.mk x.k x.s (wI (H.u+n)) x.P)) w.h.s w.h.b) w.o (w.t++[v]) w.q w.d w.r),(wU (wI ((wI (4096+(wI (v*w.h.c.W))))+G.u))),true))=some r/\r.2.2=false /\
   (bnd (QdG N w.h.p 1) λf=>
    bif (decide (f<0))then A 0 0 3 w.h.p w.t
    else bnd (Qef N w.h.p f (wI (1-h0.s))) λz=>
    bif (z.2 != 0)then none
    else grd ((w.t.length+1)*8<=140737488355328) <|
    A f 0 0 z.1 (w.t++[f]))=A 0 0 3 w.h.p w.t) \/
  ∃j u ps tk,Si h0 w n j u ps/\(bnd (Qbn N w.h.p 1) λv=>
  bif (decide (v<0))then some ((Wu.mk zHp [] [] [] 0 (WV.mk 0 0 0 0 0 0)),0,false)
  else bnd (QbU N w.h.p v (wI (1-w.h.s))) λB=>
  grd (w.t.length*8<=140737488355328) <|
  grd ((w.t.length+1)*8<=140737488355328) <|
  bnd (Xd B.1 v) λG=>
  bnd (Xd B.1 v) λH=>
  bnd (Xd B.1 v) λx=>
  some ((Wu.mk (Wh.mk w.h.c w.h.w (B.1.set v.toNat (Wr.mk x.k x.s (wI (H.u+n)) x.P)) w.h.s w.h.b) w.o (w.t++[v]) w.q w.d w.r),(wU (wI ((wI (4096+(wI (v*w.h.c.W))))+G.u))),true))=some (⟨⟨w.h.c,w.h.w,ps.set j.toNat ⟨(pg ps j).k,(pg ps j).s,wI ((pg ps j).u+n),(pg ps j).P⟩,w.h.s,w.h.b⟩,w.o,tk,w.q,w.d,w.r⟩,Xc h0.c j u,true) /\
   (bnd (QdG N w.h.p 1) λf=>
    bif (decide (f<0))then A 0 0 3 w.h.p w.t
    else bnd (Qef N w.h.p f (wI (1-h0.s))) λz=>
    bif (z.2 != 0)then none
    else grd ((w.t.length+1)*8<=140737488355328) <|
    A f 0 0 z.1 (w.t++[f]))=A j u 0 ps tk:=by
  obtain⟨j,ej,hj⟩:=KL (N:=N) (ps:=w.h.p) 1 ab ab
  rw[Xlj ab ab,ej,Xa,Xa]
  rcases hj with rfl|hr
  .exact .inl ⟨_,rfl,rfl,rfl⟩
  .refine .inr ?_
   obtain⟨y,ey,V⟩:=Xdk (N:=N) (ps:=w.h.p) j (1-h0.s) ab ab
   have I:=V.2.2 hr ab ab
   have⟨L,q1,q2,Y⟩:=V.1 I
   have J:j<y.1.length:=ab
   have g:pg y.1 j=⟨1,1-h0.s,0,0⟩:=by rw[Y j L,Wn rfl]
   rw[Xe (n:=1-h0.s) ab ab,Xlm ab ab,S,Xe (n:=1-h0.s) ab ab,ey,Xa,Xa,We ab,Wa,Wa,Xb ab,Xb ab,Xq L J,Xa,Xa,Xa,I,Xb ab]
   refine⟨j,0,y.1,w.t++[j],⟨⟨L,J⟩,ab,⟨ab,ab⟩,by rw[g],λi K=>?_⟩,?_,rfl⟩
   .by_cases e:i=j
    .subst e;rw[g];exact .inr rfl
    .rw[Y i K,Wk e,Wk ab];exact .inl rfl
   .rw[show(pg y.1 j).u=0 by rw[g],U j 0 L ab ab ab]
 by_cases ht:0<(w.t.length:Int)
 .rw[Wg ab,Wc,Wc,Xe (n:=(w.t.length:Int)-1) ab ab];have K:=Yi (l:=w.t) (i:=(w.t.length:Int)-1) ab ab;generalize w.t[((w.t.length:Int)-1).toNat]'ab=j at K;have⟨M,O,t2,Z,t4⟩:=E.tk j (YC K);rw[K,Xa,Xa,Xa,Xa,Xa,Xq M O,Xa,Xa,Xa,Xa,Xa,Wg (p:=j>=0) M,Wc,Xb ab,Wg (p:=j<_) O,Wc,E.conf];have T:=Xe (n:=(pg w.h.p j).u+n) ab ab;have e2:=Xe (n:=h0.c.W-(pg w.h.p j).u) ab ab;by_cases D:(pg w.h.p j).u+n<=h0.c.W
  .rw[T,e2,Wg (p:=(pg w.h.p j).u+n<=h0.c.W) D,Wg (p:=n<=h0.c.W-(pg w.h.p j).u) ab,Wc,Wc];refine .inr ⟨j,(pg w.h.p j).u,w.h.p,w.t,⟨⟨M,O⟩,rfl,⟨Z,D⟩,rfl,λi _=>.inl rfl⟩,?_,rfl⟩;have:=U j (pg w.h.p j).u M O Z D;rw[E.conf]at this;rw[this,T]
  rw[T,e2,We (p:=(pg w.h.p j).u+n<=h0.c.W) D,We (p:=n<=h0.c.W-(pg w.h.p j).u) ab,Wa,Wa];rw[E.conf]at new;exact new
 grind
def XrR(hN:NB N)(hb:HB h0)(hp:Uy h0){w:Wu}(v:CI h0 l w){n:Int}(B:1<=n)(x:n<=h0.c.W):
 (∃r,Qcy N w n=some r/\r.2.2=false/\Qcr N w n=some (0,0,3,w.h.p,w.t)) \/
 ∃j u ps tk,Si h0 w n j u ps/\Qcy N w n=some (⟨⟨w.h.c,w.h.w,ps.set j.toNat ⟨(pg ps j).k,(pg ps j).s,wI ((pg ps j).u+n),(pg ps j).P⟩,w.h.s,w.h.b⟩,w.o,tk,w.q,w.d,w.r⟩,Xc h0.c j u,true) /\
  Qcr N w n=some (j,u,0,ps,tk):=by
 have h:=XrQ hN hb hp v B x λy z A f g=>some (y,z,A,f,g);have e:Qcr N w n=GR N h0.c h0.s n w.h.p w.t λy z A f g=>some (y,z,A,f,g):=by rw[←v.conf,←v.spc,Qcr,XF];rfl
 simp_all
end
section
variable {N:Nat}
def ZH{ps:List Wr}{i:Nat}(h:i<ps.length):pg ps (i:Int)=ps[i]:=by unfold pg;simp_all
def XrS{ps e:List Wr}(f:e.length=ps.length)(h:∀i,0<=i->pg e i=pg ps i):e=ps:=by refine Ol f λi g j=>?_;rw[←ZH g,←ZH j];simp_all
def XrT{ps:List Wr}(q:Wr->Bool){i k:Nat}(h:i+1+k<=ps.length):((ps.drop (i+1)).take k).all q=true↔∀m:Int,1<=m->m<=k->q (pg ps (i+m))=true:=by
 rw[W0];constructor
 .intro f m o p;have e:pg ps (i+m)=((ps.drop (i+1)).take k)[m.toNat-1]'(by rw[Wl,Wo];omega):=by rw[Iy,IQ,←ZH];congr 1;omega
  grind
 intro f x g;obtain⟨m,j,rfl⟩:=WA g;rw[Wl,Wo]at j;rw[Iy,IQ,←ZH];have:=f (m+1) ab ab;grind
structure O3(c:WR)(ps:List Wr)(i:Int):Prop where
 sp:0<=(pg ps i).s/\(pg ps i).s<=1
 pn:0<=(pg ps i).P/\(pg ps i).P<=2147483647
 k0:(pg ps i).k=0->pg ps i=Zb
 k1:(pg ps i).k=1->0<=(pg ps i).u/\(pg ps i).u<=c.W
 k2:(pg ps i).k=2->1<=XH c (pg ps i).u/\i+XH c (pg ps i).u<=ps.length/\∀m,1<=m->m<XH c (pg ps i).u->(pg ps (i+m)).k=3/\(pg ps (i+m)).s=(pg ps i).s/\(pg ps (i+m)).u=0/\(pg ps (i+m)).P=0
 kd:(pg ps i).k=0\/(pg ps i).k=1\/(pg ps i).k=2
def Xe4{s:Int}{p:Wr}:Yj s p=true↔p.k=3/\p.s=s/\p.u=0/\p.P=0:=by unfold Yj Kf;grind
def Xbv{c:WR}{ps:List Wr}{i:Nat}(z:i<ps.length):(Yg c ps i ps[i]≠0↔O3 c ps i)/\(O3 c ps i->Yg c ps i ps[i]=if ps[i].k=2 then(XH c ps[i].u).toNat else 1):=by
 have e:=ZH z;generalize hp:ps[i]=p at *;have tl:∀(h:i+XH c p.u<=ps.length) (g:1<=XH c p.u),((ps.drop (i+1)).take ((XH c p.u).toNat-1)).all (Yj p.s)=true↔∀m,1<=m->m<XH c p.u->(pg ps (i+m)).k=3/\(pg ps (i+m)).s=p.s/\(pg ps (i+m)).u=0/\(pg ps (i+m)).P=0:=λh g=>by rw[XrT _ ab];exact⟨λq m a b=>Xe4.1 (q m a ab),λq m a b=>Xe4.2 (q m a ab)⟩
 unfold Yg;constructor
 .constructor
  .intro h;by_cases h0:p.k=0
   .rw[Wn h0]at h;by_cases g:p.s=0/\p.u=0/\p.P=0
    .obtain⟨a,b,d⟩:=g;refine⟨?_,?_,?_,?_,?_,?_⟩<;>rw[e]
     .omega
     .omega
     .intro _;obtain⟨k,s,u,q⟩:=p;simp_all[Zb]
     .intro h;omega
     .intro h;omega
     exact .inl h0
    rw[Wk g]at h;exact absurd rfl h
   rw[Wk h0]at h;by_cases g:(p.s=0\/p.s=1)/\0<=p.P/\p.P<=2147483647;rotate_left
   .rw[Wk g]at h;exact absurd rfl h
   rw[Wn g]at h;by_cases v:p.k=1
   .rw[Wn v]at h;by_cases j:0<=p.u/\p.u<=c.W
    .refine⟨?_,?_,?_,?_,?_,?_⟩<;>rw[e]
     .omega
     .omega
     .intro h;omega
     .exactλ_=>j
     .intro h;omega
     exact .inr (.inl v)
    rw[Wk j]at h;exact absurd rfl h
   rw[Wk v]at h;by_cases j:p.k=2;rotate_left
   .rw[Wk j]at h;exact absurd rfl h
   by_cases x:1<=XH c p.u/\(XH c p.u).toNat<=ps.length-i/\((ps.drop (i+1)).take ((XH c p.u).toNat-1)).all (Yj p.s)=true
   .refine⟨?_,?_,?_,?_,?_,?_⟩<;>rw[e]
    .omega
    .omega
    .omega
    .omega
    .exactλ_=>⟨x.1,ab,(tl ab x.1).1 x.2.2⟩
    exact .inr (.inr j)
   simp_all
  intro b;have f:=b.kd;have y:=b.sp;have o:=b.pn;have b0:=b.k0;have r:=b.k1;have b2:=b.k2;rw[e]at f y o b0 r b2;rcases f with f|f|f
  .rw[Wn f,b0 f,Wn ⟨rfl,rfl,rfl⟩];omega
  .rw[Wk ab,Wn ⟨ab,o⟩,Wn f,Wn (r f)];omega
  grind
 intro b;have f:=b.kd;have y:=b.sp;have o:=b.pn;have b0:=b.k0;have r:=b.k1;have b2:=b.k2;rw[e]at f y o b0 r b2;rcases f with f|f|f
 .rw[Wn f,b0 f,Wn ⟨rfl,rfl,rfl⟩];rfl
 .rw[Wk ab,Wn ⟨ab,o⟩,Wn f,Wn (r f),Wk ab]
 grind
structure OM(c:WR)(ps:List Wr):Prop where
 hd:∀i:Int,0<=i->i<ps.length->(pg ps i).k≠3->O3 c ps i
 tl:∀i:Int,0<=i->i<ps.length->(pg ps i).k=3->∃k:Int,0<=k/\k<i/\O3 c ps k/\(pg ps k).k=2/\i<k+XH c (pg ps k).u
def XhB{h:Wh}(o:h.p.length<=100000)(hN:1000000<N):∀(n i:Nat),i<=h.p.length->Qae N h n (i:Int)=some (.nxt ())->∀j:Nat,i<=j->j<h.p.length->∃k s:Nat,i<=k/\k<=j/\j<k+s/\∃r:k<h.p.length,Yg h.c h.p k h.p[k]=s
 |0,i,_,e,_,_,_=>by simp_all[Qae]
 |n+1,i,u,e,j,v,q=>by
  have g:i<h.p.length:=ab;rw[Qae,Wg (show(i:Int)<_ by omega),Wc,Kg o hN g,Xa]at e;have x:=Xbs (c:=h.c) g (p:=h.p[i]);generalize y:Yg h.c h.p i h.p[i]=s at *;by_cases h0:s=0
  .simp_all
  rw[show((s:Int)==0)=false by simp_all,Wa,Xe ab ab,show(i:Int)+(s:Int)=((i+s:Nat):Int) by omega]at e;by_cases z:j<i+s
  .grind
  have⟨k,t,a,b,d,f⟩:=XhB o hN n (i+s) ab e j ab q;grind
def XhC{h:Wh}:∀(n:Nat) (i:Int) {b:Bool},Qae N h n i=some (.ret b)->b=false
 |0,i,b,e=>by simp_all[Qae]
 |n+1,i,b,e=>by
  rw[Qae]at e;cases g:decide (i<(h.p.length:Int))with
  |false=>simp_all
  |true=>
   rw[g,Wc]at e;cases f:QgB N h.c h.p i with
   |none=>simp_all[f,Kv]
   |some y=>
    rw[f,Xa]at e;cases j:y==0 with
    |true=>simp_all
    |false=>rw[j,Wa]at e;exact XhC n _ e
def VA(hN:NB N){h:Wh}(hb:HB h)(ep:Qaa N h=some true):OM h.c h.p:=by
 have o:1000000<N:=by unfold NB at hN;omega
 have hp:=Xz hN hb ep;have e:=ep;rw[←YJ hb.2 o,KA hp.pre]at e;have A:Qae N h N 0=some (.nxt ()):=by
  cases q:Qae N h N 0 with
  |none=>simp_all[q,Kv]
  |some x=>
   rw[q,Xa]at e;cases x with
   |ret a=>rw[Xy]at e;cases e;exact absurd (XhC N 0 q) ac
   |nxt u=>rfl
 have y:=XhB hb.2 o N 0 ab A;refine⟨λi h0 q z=>?_,λi h0 q z=>?_⟩
 .obtain⟨j,rfl⟩:∃j:Nat,i=(j:Int):=⟨i.toNat,ab⟩
  have⟨k,s,_,B,D,g,E⟩:=y j ab ab;have r:=Xbv (c:=h.c) g;have hb:=r.1.1 ab;by_cases v:j=k
  .simp_all
  have:=r.2 hb;by_cases f:h.p[k].k=2
  .rw[Wn f]at this;have:=(hb.k2 (by rw[ZH g];exact f)).2.2 ((j:Int)-k) ab (by rw[ZH g];omega);rw[show(k:Int)+((j:Int)-k)=j by omega]at this;exact absurd this.1 z
  grind
 obtain⟨j,rfl⟩:∃j:Nat,i=(j:Int):=⟨i.toNat,ab⟩
 have⟨k,s,_,B,D,g,E⟩:=y j ab ab;have r:=Xbv (c:=h.c) g;have hb:=r.1.1 ab;have G:=r.2 hb;have H:=hb.kd;have v:j≠k:=by rintro rfl;omega
 by_cases f:h.p[k].k=2
 .rw[Wn f]at G;exact⟨k,ab,ab,hb,by rw[ZH g];exact f,by rw[ZH g];omega⟩
 grind
def SpanS(c:WR)(ps e:List Wr):Prop:=e.length=ps.length/\∀i(f:i<ps.length)(g:i<e.length),Yg c e i e[i]=Yg c ps i ps[i]
def SpanS.refl(c:WR)(ps:List Wr):SpanS c ps ps:=⟨rfl,λ_ _ _=>rfl⟩
def SpanS.trans{c:WR}{a b d:List Wr}(e:SpanS c a b)(f:SpanS c b d):SpanS c a d:=⟨f.1.trans e.1,λi g h=>(f.2 i (by rw[e.1];omega) h).trans (e.2 i g (by rw[e.1];omega))⟩
def Xbw{c:WR}{ps qs:List Wr}(hN:OM c ps)(o:qs.length=ps.length)(h:∀i:Int,0<=i->i<ps.length->((pg ps i).k<=1/\(pg qs i).k=1/\(0<=(pg qs i).s/\(pg qs i).s<=1)/\(0<=(pg qs i).P/\(pg qs i).P<=2147483647)/\0<=(pg qs i).u/\(pg qs i).u<=c.W) \/
  ((pg qs i).k=(pg ps i).k/\(pg qs i).u=(pg ps i).u/\(pg qs i).P=(pg ps i).P/\((pg qs i).s=(pg ps i).s\/2<=(pg ps i).k/\0<=(pg qs i).s/\(pg qs i).s<=1)))(ht:∀i m:Int,0<=i->(pg ps i).k=2->1<=m->m<XH c (pg ps i).u->i+m<ps.length->(pg qs (i+m)).s=(pg qs i).s):SpanS c ps qs:=by
 refine⟨o,λi p q=>?_⟩;have x:=ZH p;have y:=ZH q;have z:=Xbv (c:=c) p;have A:=Xbv (c:=c) q;by_cases B:(pg ps i).k=3
 .have n1:¬O3 c ps i:=λb=>by have:=b.kd;omega
  have n2:¬O3 c qs i:=λb=>by have:=b.kd;have:=h i ab ab;omega
  simp_all
 have b:=hN.hd i ab ab B;have hb:=b.kd;have b0:=b.k0;have I:=b.k1;have b2:=b.k2;have J:=b.sp;have bp:=b.pn;have e:=h i ab ab;have D:O3 c qs i:=by
  refine⟨ab,ab,λj=>?_,λj=>?_,λj=>?_,ab⟩
  .rcases e with g|⟨g1,g2,g3,g4⟩
   .omega
   have:=b0 ab;rw[this]at g1 g2 g3 g4;have g4:(pg qs i).s=0:=by rcases g4 with g|g;exact g;exact absurd g.1 ag
   have E:pg qs i=⟨(pg qs i).k,(pg qs i).s,(pg qs i).u,(pg qs i).P⟩:=rfl;rw[E,g1,g2,g3,g4];rfl
  .omega
  rcases e with g|⟨g1,g2,g3,g4⟩
  .omega
  have f:(pg ps i).k=2:=ab;have⟨c1,G,H⟩:=b2 f;rw[g2,o];refine⟨c1,G,λm r v=>?_⟩;have⟨K,L,M,O⟩:=H m r v;have R:=h (i+m) ab ab;refine⟨ab,ht i m ab f r v ab,ab,ab⟩
 rw[z.2 b,A.2 D];rw[x]at e hb;rw[y]at e;by_cases j:ps[i].k=2
 .simp_all
 rw[Wk j,Wk ab]
def SpanS.proper(hN:NB N){h:Wh}(hb:HB h)(ep:Qaa N h=some true){f:List Wr}(g:SpanS h.c h.p f){ws:List Int}(hw:ws.length=h.w.length){b:Int}(e:b = -1\/(0<=b/\b<f.length/\(pg f b).k=1)):Qaa N ⟨h.c,ws,f,h.s,b⟩=some true:=
 V5 hN hb ep g.1 (λi j=>g.2 i j (by rw[g.1];omega)) hw e
end
section
variable {N:Nat}{h0:Wh}{l:List Int}
def XcM{α:Type}{l:List α}{o n:Nat}{i:Int}(f:0<=i)(g:i<n)(e:o+i.toNat<l.length):KP l o n i=some (l[o+i.toNat]'e):=by unfold KP;simp_all
def XjW{c:WR}(f:X8 c=true){a:Int}(g:4096<=a/\a<4096+c.p*c.W):Qck N c a=some (pgi c a,pgo c a,0)/\wI (wI (pgi c a*c.W)+pgo c a)=a-4096:=by
 have⟨e,h,j,o,q⟩:=XZ f g;have r:=XO f (i:=pgi c a) h j;refine⟨?_,?_⟩
 .rw[XiI _ _ _ ab,KX,f,Wk ac,Wn g];rfl
 rw[Xe (n:=pgi c a*c.W) ab ab,Xe ab ab];unfold Xc at e;omega
def Xuj{c c':WR}(e:c=c')(f:X8 c=true)(hN:1000000<N){cp X n i u:Int}{ws q:List Int}{ps:List Wr}{β:Type}(j:Int->Int->Int->List Int->List Wr->List Int->Option β)(hw:(ws.length:Int)=c.p*c.W)(r:0<=X)(B:1<=n)(D:X+n<=ws.length)(g:0<=i)(o:i<c.p)(v:0<=u)(E:u+n<=c.W)(x:(ps.length:Int)=c.p)(G:q.length<=100000):
 FT N c' cp ws ps q X (X+n) j i u=j (Xc c i u) 0 (wI (cp+1)) ((ovr ws ((ws.drop X.toNat).take n.toNat) (ix (Xc c i u))).set X.toNat (wU (wU (4*Xc c i u)+2))) (ps.set i.toNat ⟨(pg ps i).k,(pg ps i).s,wI ((pg ps i).u+n),(pg ps i).P⟩) (q++[Xc c i u]):=by
 subst e;have H:=XO f (i:=i) g o;have I:Xc c i u=4096+i*c.W+u:=rfl;have y:4096<=Xc c i u/\Xc c i u<4096+c.p*c.W:=ab;have⟨z,A⟩:=XjW (N:=N) f y;have eL:((X+n).toNat-X.toNat)=n.toNat:=ab;have eN:(n.toNat:Int)=n:=ab;have h:ovr ws ((ws.drop X.toNat).take n.toNat) (ix (Xc c i u))=(ws.take (Xc c i u-4096).toNat++(ws.drop X.toNat).take n.toNat)++ws.drop ((Xc c i u-4096).toNat+n.toNat):=by unfold ovr ix;rw[Wl,Wo,I4 ab]
 rw[FT,XdJ,Kb,f,Wk ac,Wn ⟨g,o,v,ab⟩,Xa];rw[show((0:Int) != 0)=false from rfl,Wa,eL,eN,Xb ab,z,Xa];rw[show((0:Int) != 0)=false from rfl,Wa,Xb ab];rw[A,Xe (n:=(ws.length:Int)-(Xc c i u-4096)) ab ab,We (p:=n>_) ab,Wa];rw[Xe (n:=Xc c i u-4096+n) ab ab,Xb ab,XhA hN ab ab,Vt,Wk ab,Xa];rw[show((0:Int) != 0)=false from rfl,Wa,Xb ab,←h,XcM ab ab (by grind),Xa,Xq g ab,Xa,Xb ab,Xa,Xb ab]
def Xs3(w:Wu)(a:Int)(lp:Nat->Int->List Wr->Option (List Wr))(h0:∀i ps,lp 0 i ps=none)(g:∀n i ps,lp (n+1) i ps=(grd (ps.length<=140737488355328) <|
 bif (decide (i<(ps.length:Int)))then(bnd (Xd ps i) λf=>
  bif (f.k==3)then(bnd (Xd ps i) λe=>
   lp n (wI (i+1)) (ps.set i.toNat (Wr.mk e.k (wI (1-w.h.s)) e.u e.P)))
  else some ps)
 else some ps)):∀(n:Nat) (i:Int) (ps:List Wr),lp n i ps=QaH N w a n i ps
 |0,i,ps=>by rw[h0,QaH]
 |n+1,i,ps=>by rw[g,QaH];have:=Xs3 w a lp h0 g n;simp_all
def Prm(w:Wu)(i:Int):Prop:=(0<=i/\i<w.h.p.length)/\(pg w.h.p i).k=1/\(pg w.h.p i).s≠w.h.s/\i∉w.t
def Xp8(hN:NB N){w:Wu}{i:Int}(A:w.t.length<=100000)(hp:w.h.p.length<=100000)(z:0<=w.h.s/\w.h.s<=1)(g:∀i,0<=i->(pg w.h.p i).k=1->0<=(pg w.h.p i).s/\(pg w.h.p i).s<=1){β:Type}:
 ∃b,(b=true↔Prm w i)/\QbT N w i=some b/\∀K:Bool->Option β,(jn K λj=>bif (decide (i<0))then j false
  else grd (w.h.p.length<=140737488355328) <|
  bif (decide (i>=(w.h.p.length:Int)))then j false
  else bnd (Xd w.h.p i) λf=>
  jn (λ(o:Bool)=>
   j o) λq=>
  bif (f.k==1)then(bif (f.s==(wI (1-w.h.s)))then(bnd (Qba N w.t i) λr=>
      q (!r))
   else q false)
  else q false)=K b:=by
 have u:=hN;unfold NB at u;rw[QbT];by_cases v:i<0
 .exact⟨false,⟨λh=>(by grind),λh=>by have:=h.1;omega⟩,by simp_all,λK=>by rw[XF,Wg v,Wc]⟩
 by_cases y:i>=(w.h.p.length:Int)
 .exact⟨false,⟨λh=>(by grind),λh=>by have:=h.1;omega⟩,by simp_all,λK=>by rw[XF,We v,Wa,Xb ab,Wg y,Wc]⟩
 rw[We v,Wa,We y,Wa,Xq ab ab,Xa];by_cases e:(pg w.h.p i).k=1
 .have:=g i ab e;rw[Xv e,Wc];by_cases x:(pg w.h.p i).s=w.h.s
  .exact⟨false,⟨λh=>(by grind),λh=>absurd x h.2.2.1⟩,by simp_all,λK=>by rw[XF,Wa,Xb ab,Wa,Xa,XF,Xv e,Wc,Xe (n:=1-w.h.s) ab ab,Xm ab,Wa]⟩
  exact⟨!w.t.contains i,⟨λh=>⟨ab,e,x,by simp_all⟩,λh=>by simpa using h.2.2.2⟩,by rw[Xn x,Wc,Xe3 _ _ ab ab,Xa],λK=>by rw[XF,Wa,Xb ab,Wa,Xa,XF,Xv e,Wc,Xe (n:=1-w.h.s) ab ab,Xv ab,Wc,Xlq _ _ ab ab,Xa]⟩
 exact⟨false,⟨λh=>(by grind),λh=>absurd h.2.1 e⟩,by grind,λK=>by rw[XF,Wa,Xb ab,Wa,Xa,XF,Xm e,Wa]⟩
def Xf2(hN:NB N){w:Wu}{i:Int}(g:w.t.length<=100000)(hp:w.h.p.length<=100000)(e:0<=w.h.s/\w.h.s<=1)(f:∀i,0<=i->(pg w.h.p i).k=1->0<=(pg w.h.p i).s/\(pg w.h.p i).s<=1):
 ∃b,(b=true↔Prm w i)/\QbT N w i=some b/\QcV N w i=some b:=by have⟨b,j,o,q⟩:=Xp8 (β:=Bool) (i:=i) hN g hp e f;exact⟨b,j,o,q some⟩
end
end Go.Sx
