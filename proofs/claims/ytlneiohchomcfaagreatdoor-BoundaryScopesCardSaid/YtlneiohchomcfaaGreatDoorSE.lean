import Derived.Test.YtlneiohchomcfaaGreatDoorSD
set_option linter.all false
namespace Go.Sx
def zTh:Ii:=⟨⟨0,0,0⟩,[]⟩
def thg(w:WM)(id:Int):Ii:=w.T.getD (id-1).toNat zTh
def JQ(a:Wp)(id:Int):Int:=if id=0 then 0 else(XU a id).2.2.2
def okW(op a b:Int):Prop:=a<=2147483647/\(op=1->b<=4294967295)
instance(op a b:Int):Decidable (okW op a b):=by unfold okW;infer_instance
def hdW(op a b:Int):Wv:=⟨op,a,if op=1 then b else 0⟩
def V5(c:WN)(d:Wv):Bool:=XN d&&(d.k != 0&&XF c (Xw d) != -1)
def Xbt(w:WM)(op a b:Int)(failed:Bool):Int:=
 if w.m.length>0 then 15 else if¬okW op a b then 1 else if V5 w.c (hdW op a b)=false then 1 else
 if JQ w.l 1≠0 then JQ w.l 1 else if failed then 3 else 0
def XdE(op:Int):Bool:=op==8||op==9
def XcL(w:WM)(op a b c:Int):Int:=
 if(XR w a).2≠0 then(XR w a).2 else if b>=(thg w (XR w a).1).H.n then 2 else
 if KI (thg w (XR w a).1).H b≠XdE op then 4 else
 if op=8 then JQ w.l ((thg w (XR w a).1).D.getD b.toNat 0)else if op=9 then(Kk w c).2 else 0
def XdF(w:WM)(op a:Int):Int:=
 if a=0 then 5 else if(Kk w a).2≠0 then(Kk w a).2 else
 if(Yk a).1.Tag≠(if op=16 then 3 else if op=14 then 2 else 1)then 4 else 0
def XiM(w:WM)(op a:Int):Int:=
 if(XR w a).2≠0 then(XR w a).2 else(ZI (if op=15 then w.v else w.g) (XR w a).1).2.2.2
def XfU(w:WM)(op a:Int):Int:=
 if op=17 then(if a>64 then 1 else(Zs w.l a).2)else
 if(Kk w a).2≠0 then(Kk w a).2 else if(YV w.l).2≠0 then(YV w.l).2 else JQ (YV w.l).1 (Kk w a).1
def Xho(l:List Ix)(i:Int):Ix:=l.getD i.toNat ⟨0,0,0⟩
def XjQ(w:WM)(op a:Int)(failed:Bool):Int:=
 if(XR w a).2≠0 then(XR w a).2 else
 if op=20 then(if ZW w.m (XR w a).1<0 then 12 else 0)else
 if 0<=ZW w.m (XR w a).1/\(Xho w.m (ZW w.m (XR w a).1)).M=1000 then 18 else
 if ZW w.m (XR w a).1<0/\w.m.length=64 then 18 else if failed then 18 else 0
def XdG(w:WM)(op a b:Int):Int:=
 if op=4\/op=5 then(XR w a).2 else if(Kk w a).2≠0 then(Kk w a).2 else
 if op=10 then(Kk w b).2 else JQ w.l (Kk w a).1
def Xm8(w:WM)(op a b c:Int)(failed:Bool):Int:=
 if YX w=false then 19 else
 if op=1\/op=2\/op=3 then Xbt w op a b failed else
 if op=6\/op=7\/op=8\/op=9 then XcL w op a b c else
 if op=12\/op=14\/op=16 then XdF w op a else
 if op=13\/op=15 then XiM w op a else
 if op=17\/op=18 then XfU w op a else
 if op=19\/op=20 then XjQ w op a failed else
 if op=4\/op=5\/op=10\/op=11 then XdG w op a b else 1
def Xk{a b:Int}(h:¬a=b):(a==b)=false:=by simp_all
def XC{a b:Int}(h:a=b):(a==b)=true:=by simp_all
def Kh{a b:Int}(h:a=b):(a != b)=false:=by simp_all
def Xl{a b:Int}(h:¬a=b):(a != b)=true:=by simp_all
section
variable {N:Nat}{w:WM}{k:Nat}
def XpJ(hw:WB k w)(f:YX w=true)(tw:X3 w){v:Int}(e:tU v):tU (Kk w v).1:=by have:=QiW (N:=1000001) tw e;exact this _ (JP (N:=1000001) hw aa f e)
def XeW(hw:WB k w)(e:YX w=true)(tw:X3 w){v:Int}(f:tU v)(h:(XR w v).2=0):1<=(XR w v).1/\(XR w v).1<=w.T.length/\XR w v=Kk w v:=by
 have g:=XpJ hw e tw f;have j:=XpI (Jn e) v;unfold XR at h⊢;by_cases o:(Kk w v).2=0/\(Kk w v).1=0
 .simp_all
 unfold tU at g;grind
def JJ(hw:WB k w){id:Int}(g:1<=id)(h:id<=w.T.length):Xe w.T (wU (id-1))=some (thg w id)/\thg w id∈w.T:=by
 have j:=hw.kk;have ht:=hw.things;have e:=Wc (show(id-1).toNat<w.T.length by omega);have f:thg w id=w.T[(id-1).toNat]'aa:=by unfold thg;rw[Wj,e];rfl
 rw[Xp aa aa,Yd aa aa,f];simp
def Vx(e:LBp w.l)(hN:1000000<N)(id:Int):Qdd N w.l id=some (JQ w.l id):=by
 rw[Qdd,JQ];by_cases h:id=0
 .rw[Wm h,h];rfl
 simp[Wi,h,Xk,Wa,Ku,e,hN,Xa]
def Xhp{a:Wp}(e:LBp a)(hN:1000000<N)(id:Int):Qdd N a id=some (JQ a id):=Vx (w:=⟨⟨0,0⟩,[],a,zT,zT,[],[]⟩) e hN id
def Xbu(op:Int){a b:Int}(ta:tU a)(tb:tU b):∃d,Qcs N op a b=some (d,decide (okW op a b))/\(okW op a b->d=hdW op a b):=by
 unfold tU at ta tb;have f:a<=2147483647->wI (Zc .u64 a 2147483647)=a:=λh=>by have:Zc .u64 a 2147483647=a % 2147483648:=YF a 31 aa ta.1 ta.2;rw[this,Xc aa aa];omega
 rw[Qcs];by_cases g:op=1
 .rw[XC g,Wb];by_cases j:a<=2147483647
  .rw[Wd j,Wb];refine⟨⟨op,wI (Zc .u64 a 2147483647),wW b⟩,?_,λh=>?_⟩
   .exact congrArg (λx=>some (_,x)) (decide_eq_decide.2 ⟨λh=>⟨j,λ_=>h⟩,λh=>h.2 g⟩)
   rw[f j,XqJ aa (by have:=h.2 g;omega),hdW,Wm g]
  rw[Wg j,Wa];refine⟨⟨op,wI (Zc .u64 a 2147483647),wW b⟩,?_,λh=>absurd h.1 j⟩;rw[Wg (show¬okW op a b fromλh=>j h.1)]
 rw[Xk g,Wa];refine⟨⟨op,wI (Zc .u64 a 2147483647),0⟩,?_,λh=>?_⟩
 .exact congrArg (λx=>some (_,x)) (decide_eq_decide.2 ⟨λh=>⟨h,λe=>absurd e g⟩,λh=>h.1⟩)
 rw[f h.1,hdW,Wi g]
def XcM(hN:10<=N)(c:WN)(d:Wv):Qcv N c d=some (V5 c d):=by rw[Qcv,Zz,Xa,V5,XW,Xa,ZS hN,Xa];grind
def XiN(hw:WB k w)(hN:1000000<N)(op:Int){a b:Int}(ta:tU a)(tb:tU b)(f:Bool):QfX N w op a b f=some (Xbt w op a b f):=by
 have⟨d,hd,g⟩:=Xbu (N:=N) op ta tb;rw[QfX,Xbt];by_cases j:w.m.length>0
 .rw[Wd (show(w.m.length:Int)>0 by omega),Wb,Wm j]
 rw[Wg (show¬(w.m.length:Int)>0 by omega),Wa,Wi j,hd,Xa];by_cases h:okW op a b
 .rw[Wd h,Wh,Wa,Wi (by simpa using h),XcM aa,Xa,g h];cases o:V5 w.c (hdW op a b)
  .rfl
  rw[Wh,Wa,Wi ab,Vx hw.loc hN,Xa];by_cases e:JQ w.l 1=0
  .rw[Kh e,Wa,Wi (by simpa using e)];cases f<;>rfl
  rw[Xl e,Wb,Wm e]
 simp_all
def Xk9(hw:WB k w)(hN:1000000<N)(e:YX w=true)(tw:X3 w)(op:Int){a b c:Int}(ta:tU a)(tb:tU b)(tc:tU c):Qgl N w op a b c=some (XcL w op a b c):=by
 rw[Qgl,Xbs hw hN e ta,Xa,XcL];by_cases g:(XR w a).2=0;rotate_left
 .grind
 have⟨q,r,_⟩:=XeW hw e tw ta g;have⟨g1,g2⟩:=JJ hw q r;have⟨s,B,E,G⟩:=(Jn e).thing _ g2;have vb:=XO s;unfold tU at tb;rw[Kh g,Wa,Wi aa,g1,Xa,Xp (n:=(thg w (XR w a).1).H.n) aa aa];by_cases h:b>=(thg w (XR w a).1).H.n
 .simp_all
 rw[Wg h,Wa,Wi h,Xc (n:=b) aa aa];have key:∀x:Bool,x=XdE op->(bnd (Qcm N (thg w (XR w a).1).H b) λu=>
  bif (!(u==x))then some 4
  else bif (op==8)then(bnd (Xe (thg w (XR w a).1).D b) λv=>
   bnd (Qdd N w.l v) λy=>
   some y)
  else bif (op==9)then(bnd (QaM N w c) λz=>
   some z.2)
  else some (XR w a).2)=some (if KI (thg w (XR w a).1).H b≠XdE op then 4 else
 if op=8 then JQ w.l ((thg w (XR w a).1).D.getD b.toNat 0)else if op=9 then(Kk w c).2 else 0):=by
  intro x A
  subst A
  rw[KP,Xa]
  by_cases j:KI (thg w (XR w a).1).H b=XdE op
  .rw[show(KI (thg w (XR w a).1).H b==XdE op)=true by simpa using j,Wh,Wa,Wi (by simpa using j)]
   by_cases f:op=8
   .rw[XC f,Wb,Wm f,Yd aa aa,Xa,Vx hw.loc hN,Xa,Wj,Wc aa];rfl
   rw[Xk f,Wa,Wi f]
   by_cases o:op=9
   .rw[XC o,Wb,Wm o,JP hw hN e tc,Xa]
   grind
  .grind
 rw[Xs];cases p:(op==8)
 .have:=key (op==9) (by unfold XdE;rw[p,In]);grind
 have:=key true (by unfold XdE;rw[p,Bool.true_or]);simp_all
def XiO(hw:WB k w)(hN:1000000<N)(g:YX w=true)(op:Int){a:Int}(ta:tU a):QfY N w op a=some (XdF w op a):=by
 rw[QfY,XdF];by_cases e:a=0
 .rw[XC e,Wb,Wm e]
 rw[Xk e,Wa,Wi e,JP hw hN g ta,Xa];by_cases f:(Kk w a).2=0;rotate_left
 .rw[Xl f,Wb,Wm f]
 rw[Kh f,Wa,Wi (by simpa using f),XbY ta,Xa,Xs];grind
def Xm9(hw:WB k w)(hN:1000000<N)(g:YX w=true)(op:Int){a:Int}(ta:tU a):QgF N w op a=some (XiM w op a):=by
 rw[QgF,Xbs hw hN g ta,Xa,XiM];by_cases e:(XR w a).2=0;rotate_left
 .rw[Xl e,Wb,Wm e]
 rw[Kh e,Wa,Wi (by simpa using e),Xs];by_cases f:op=15
 .rw[Wm f,XC f,Wb];show bnd (Qc7 N w.v (XR w a).1) _=_;rw[JI hw.wea hN,Xa]
 simp[Wi,f,Xk,Wa,JI,hw.glo,hN,Xa]
def Xla(hw:WB k w)(hN:1000000<N)(g:YX w=true)(op:Int){a:Int}(ta:tU a):Qgm N w op a=some (XfU w op a):=by
 rw[Qgm,XfU];by_cases e:op=17
 .rw[XC e,Wb,Wm e];by_cases f:a>64
  .simp_all
  unfold tU at ta;rw[Wg f,Wa,Wi f,Xc (n:=a) aa aa,Vc hw.loc hN,Xa]
 rw[Xk e,Wa,Wi e,JP hw hN g ta,Xa];by_cases f:(Kk w a).2=0;rotate_left
 .grind
 rw[Kh f,Wa,Wi aa,Xat hw.loc hN,Xa];by_cases h:(YV w.l).2=0;rotate_left
 .grind
 rw[Kh h,Wa,Wi aa,Xhp (XcJ hw.loc) hN,Xa]
def XbZ{l:List Ix}{id:Int}(h:0<=ZW l id):ZW l id<l.length/\Xe l (ZW l id)=some (Xho l (ZW l id))/\(Xho l (ZW l id)).I=id:=by
 unfold ZW at h⊢;cases e:l.findIdx? (λm=>m.I==id)with
 |none=>simp_all
 |some j=>have f:=UV.1 e;have⟨g,hp,_⟩:=f;simp_all[Xf,Xho,Wj,Iq,Wc,g]
def Xlb(hw:WB k w)(hN:1000000<N)(p:YX w=true)(op:Int){a:Int}(ta:tU a)(f:Bool):Qg3 N w op a f=some (XjQ w op a f):=by
 have r:=hw.marks;rw[Qg3,Xbs hw hN p ta,Xa,XjQ];by_cases g:(XR w a).2=0;rotate_left
 .rw[Xl g,Wb,Wm g]
 rw[Kh g,Wa,Wi (by simpa using g),XfT aa hN,Xa];by_cases j:op=20
 .rw[XC j,Wb,Wm j];by_cases e:ZW w.m (XR w a).1<0
  .rw[Wd e,Wb,Wm e]
  rw[Wg e,Wa,Wi e]
 rw[Xk j,Wa,Wi j];by_cases e:0<=ZW w.m (XR w a).1
 .have⟨s,q,u⟩:=XbZ e;rw[Wd (show ZW w.m (XR w a).1>=0 from e),Wb,q,Xa,Wg (show¬ZW w.m (XR w a).1<0 by omega),Wa];rw[Wi (show¬(ZW w.m (XR w a).1<0/\w.m.length=64) by omega)];by_cases o:(Xho w.m (ZW w.m (XR w a).1)).M=1000
  .rw[XC o,Wb,Wm ⟨e,o⟩]
  rw[Xk o,Wa,Wi (λh=>o h.2)];cases f<;>rfl
 grind
def Xna(hw:WB k w)(hN:1000000<N)(g:YX w=true)(op:Int){a b:Int}(ta:tU a)(tb:tU b):QgG N w op a b=some (XdG w op a b):=by
 rw[QgG,XdG,Xs,Xbs hw hN g ta,Xa];by_cases h:op=4
 .rw[XC h,Wb,Wm (.inl h)]
 rw[Xk h,Wa];by_cases j:op=5
 .rw[XC j,Wb,Wm (.inr j)]
 rw[Xk j,Wa,Wi aa,JP hw hN g ta,Xa];by_cases f:(Kk w a).2=0;rotate_left
 .rw[Xl f,Wb,Wm f]
 rw[Kh f,Wa,Wi (by simpa using f)];by_cases e:op=10
 .rw[XC e,Wb,Wm e,JP hw hN g tb,Xa]
 simp[Xk,e,Wa,Wi,Vx,hw.loc,hN,Xa]
end
def XqN{β:Type}(K:Bool->β)(c1 e:Bool):(jn K λj=>bif c1 then j true else j e)=K (c1||e):=by grind[Xs]
def b2(op a b:Int):(op==a||op==b)=decide (op=a\/op=b):=by grind
def bd(op a:Int)(p:Prop)[Decidable p]:(op==a||decide p)=decide (op=a\/p):=by grind
def XqO{β:Type}{p:Prop}[Decidable p](x y:β):(bif decide p then x else y)=if p then x else y:=by simp
def XpK{β:Type}(o:Option β):(bnd o λy=>some y)=o:=by
 cases o
 .exact KH _
 exact Xa _ _
def XpL{β:Type}{p:Prop}[Decidable p](x y:β):(if p then some x else some y)=some (if p then x else y):=by grind
section
variable {N:Nat}{w:WM}{k:Nat}
def XrP(hw:WB k w)(hN:1000000<N)(tw:X3 w)(op:Int){a b c:Int}(ta:tU a)(tb:tU b)(tc:tU c)(f:Bool):QfZ N w op a b c f=some (Xm8 w op a b c f):=by
 rw[QfZ,XcK hw hN,Xa,Xm8];cases e:YX w
 .rfl
 rw[Wh,Wa,Wi ab];simp only[XqN,XpK,XiN hw hN op ta tb f,Xk9 hw hN e tw op ta tb tc,XiO hw hN e op ta,Xm9 hw hN e op ta,Xla hw hN e op ta,Xlb hw hN e op ta f,Xna hw hN e op ta tb,b2,bd,XqO,XpL]
end
def Xb0(d:Wv):∀(k:Nat) (l:List Int),∀r∈V4 d k l,r∈l
 |k,[],r,h=>by assumption
 |k,f::e,r,h=>by
  unfold V4 at h;split at h
  .rcases U6.1 h with h|h
   .simp_all
   exact WZ _ (Xb0 d (k+1) e r h)
  exact WZ _ (Xb0 d (k+1) e r h)
def zWo:WM:=⟨⟨0,0⟩,[],zL,zT,zT,[],[]⟩
def Xnb{k:Nat}(e:k<=900):WB k zWo:=⟨e,by simp[zWo],λx f=>by simp_all[zWo],Z4,by simp[zWo,zT],by simp[zWo,zT],by simp[zWo],by simp[zWo]⟩
section
variable {N:Nat}{w:WM}{k:Nat}
def XdH(q:w.m.length<=1000):∀(n:Nat) (i:Int) (v:List Int),0<=i->i<=w.m.length->(w.m.length-i).toNat<n->v.length<=100000+i->(∀x∈v,0<=x/\x<=w.T.length)->(∀m∈w.m,0<=m.I/\m.I<=w.T.length)->Ok (Qe7 N w n i v) λr=>r.length<=v.length+(w.m.length-i)/\∀x∈r,0<=x/\x<=w.T.length
 |0,i,v,_,_,s,_,_,_=>by omega
 |n+1,i,v,u,z,s,A,o,e=>by
  refine Wq (λf=>?_) λf=>We ⟨aa,o⟩;have f:i<w.m.length:=Wy f;rw[Xc (n:=i+1) aa aa];refine Ok.get u f λp hp=>Uc aa ?_;have g:=YI hp;refine(XdH q n (i+1) _ aa aa aa ah (λx j=>?_) e).mono λr y=>⟨?_,y.2⟩
  .rcases Wt.1 j with h|h
   .exact o x h
   rw[Ui.1 h];exact e p g
  grind
def XiP(hN:NB N)(hw:WB k w)(o:YX w=true)(tw:X3 w):Ok (Qg2 N w) λr=>r.length<=10000/\∀x∈r,0<=x/\x<=w.T.length:=by
 have f:=hN;unfold NB at f;have z:=hw.roots;have q:=hw.marks;have wf:=Jn o;have⟨A,s,u,B,D,v⟩:=tw;have E:=Xhn wf.loc;have G:=Xbr wf.glo;refine Uc aa ?_;rw[Y3 hw.loc aa,Xa,wf.loc,Wb];refine Uc aa ?_;rw[X7 hw.glo aa,Xa,wf.glo,Wb];refine Uc aa (WI (XdH q N 0 _ aa aa aa ah (λx j=>?_) λm g=>?_) λr _ h=>We ⟨?_,h.2⟩)
 .simp only[Wt]at j;rcases j with(h|h)|h
  .exact⟨(v x h).1,wf.roots x h⟩
  .refine⟨?_,wf.rloc x h⟩;obtain⟨p,hp,rfl⟩:=WU.1 h;exact(s p (W8.1 hp).1).1
  refine⟨?_,wf.rglo x h⟩;obtain⟨p,hp,rfl⟩:=WU.1 h;exact(u p (W8.1 hp).1).1
 .have⟨i,y,e⟩:=WE g;have:=wf.mk_ (k:=i) (m:=m) (by rw[Wc y,e]);omega
 grind
def Xbv(hN:NB N)(hw:WB k w)(g:YX w=true)(tw:X3 w)(M:Nat)(o:M<=2000000):∀(n:Nat) (i:Int) (v:List Bool) (q:List Int),0<=i->i<=q.length->(M-i).toNat<n->v.length=w.T.length->(∀x∈q,0<=x/\x<=w.T.length)->q.length+1000*v.countP (λb=>!b)<=M->Ok (Qc1 N w n i v q) λr=>r.length=w.T.length
 |0,i,v,q,_,_,V,_,_,_=>by omega
 |n+1,i,v,q,j,hi,V,s,u,L=>by
  have y:=hN;unfold NB at y;have hk:=hw.kk;have ht:=hw.things;refine Uc aa (Wq (λf=>?_) λ_=>We s);have f:i<q.length:=Wy f;rw[Xc (n:=i+1) aa aa];refine Ok.get j f λp hp=>?_;have same:∀z,Xe q i=some z->z=p:=λz h=>WA (h.symm.trans hp);have W:=u p (YI hp);refine Wq (λ_=>Xbv hN hw g tw M o n (i+1) v q aa aa aa s u L) λO=>?_;have O:¬p=0:=by simpa using O
  refine Ok.get j f λR A=>?_;obtain rfl:=same R A;rw[Xp (n:=R-1) aa aa];refine Ok.get aa aa λb hb=>Wq (λ_=>Xbv hN hw g tw M o n (i+1) v q aa aa aa s u L) λB=>?_;refine Ok.get j f λS E=>?_;obtain rfl:=same S E;rw[Xp (n:=S-1) aa aa];refine Ok.get aa aa λ_ _=>Ok.get j f λe G=>?_;obtain rfl:=same e G;have⟨g1,g2⟩:=JJ hw (id:=e) aa aa;have hf:=hw.fields _ g2;have⟨v1,v2,v3,Y⟩:=(Jn g).thing _ g2;have I:=XbX (thg w e).H 0 (thg w e).D;have I:(XeV (thg w e)).length<=1000:=by unfold XeV;omega
  rw[g1,Xa,Xhm aa aa,Xa];have J:(e-1).toNat<v.length:=aa;have K:v[(e-1).toNat]=false:=by rw[Yd aa aa]at hb;rw[WA hb];exact B
  have hcount:(v.set (e-1).toNat true).countP (λb=>!b)+1<=v.countP (λb=>!b):=by have U:0<v.countP (λb=>!b):=List.countP_pos_iff.2 ⟨v[(e-1).toNat],WG _,by simp_all⟩;rw[List.countP_set J,K];simp;omega
  refine Uc aa (Xbv hN hw g tw M o n (i+1) _ _ aa (by rw[WJ];omega) aa (by simp_all) (λx Z=>?_) (by rw[WJ];omega));rcases Wt.1 Z with h|h
  .simp_all
  refine⟨?_,Y x h⟩;exact((tw.1 _ g2).2 x (Xb0 _ _ _ x h)).1
def XiQ(hN:NB N)(hw:WB k w)(e:YX w=true)(tw:X3 w):Ok (QfW N w) λr=>r.length=w.T.length:=by have f:=hN;unfold NB at f;have j:=hw.kk;have ht:=hw.things;rw[QfW,XcK hw aa,Xa,e,Wh,Wa];refine Uc aa (WI (XiP hN hw e tw) λy _ g=>WI (Xbv hN hw e tw 1100000 aa N 0 _ y aa aa aa (by rw[WY];omega) g.2 ?_) λr _ h=>We h);grind[WY]
def XfV(y:List Bool)(h:y.length=w.T.length)(hw:WB k w):∀(n:Nat) (i:Int) (v:List Int),0<=i->i<=v.length->(v.length-i).toNat<n->v.length<=1000->(∀x∈v,0<=x/\x<=w.T.length)->Ok (Qbu N w y n i v) λr=>r.length=v.length
 |0,i,v,_,_,s,_,_=>by omega
 |n+1,i,v,f,B,s,j,o=>by
  have D:=hw.kk;have ht:=hw.things;refine Uc aa (Wq (λe=>?_) λ_=>We rfl);have e:i<v.length:=Wy e;rw[Xc (n:=i+1) aa aa];have next:=XfV y h hw n (i+1) v aa aa aa j o
  refine Ok.get f e λp hp=>Wq (λq=>Ok.get f e λp2 g=>?_) λ_=>next
  obtain rfl:p=p2:=WA (hp.symm.trans g);have u:=o p (YI hp);have q:¬p=0:=by simpa using q
  rw[Xp (n:=p-1) aa aa];refine Ok.get aa aa λ_ _=>Wq (λ_=>Ok.get f e λ_ _=>?_) λ_=>next
  refine(XfV y h hw n (i+1) _ aa (by rw[WL];omega) (by rw[WL];omega) (by rw[WL];exact j) λx z=>?_).mono λr A=>by rw[A,WL]
  grind
def V6(hN:NB N)(hw:WB k w)(tw:X3 w):Ok (Qdx N w) λr=>WB k r.1:=by
 have f:=hN;unfold NB at f;rw[Qdx,XcK hw aa,Xa];refine Wq (λ_=>We (Xnb hw.kk)) λe=>?_;have e:YX w=true:=by simpa using e
 have wf:=Jn e;have j:=Xbr wf.wea;refine WI (XiQ hN hw e tw) λy _ h=>?_;rw[X7 hw.wea aa,Xa,wf.wea,Wb];refine WI (XfV y h hw N 0 _ aa aa aa aa λx g=>⟨?_,wf.rwea x g⟩) λz _ o=>WI (XeS hw.wea aa aa) λt _ ht=>We ⟨hw.kk,hw.things,hw.fields,hw.loc,hw.gloK,UO ht hw.weaK,hw.marksK,hw.rootsK⟩;obtain⟨p,hp,rfl⟩:=WU.1 g;exact(tw.2.2.2.1 p (W8.1 hp).1).1
end
def Sa{β κ:Type}{P:β->Prop}{k:κ->Option β}{f:(κ->Option β)->Option β}(Q:κ->Prop)(h:∀x,Q x->Ok (k x) P)(g:∀j:κ->Option β,(∀x,Q x->Ok (j x) P)->Ok (f j) P):Ok (Sx.jn k f) P:=by simp_all[Xs]
section
variable {N:Nat}{w:WM}{k:Nat}
def Xax(hw:WB k w)(hN:1000000<N)(id:Int):Ok (Qde N w id) λr=>WB k r.1:=by refine Uv (We hw) ?_;rw[Ku hw.loc hN,Xa];exact Uw (Y0 _) λy _=>We ⟨hw.kk,hw.things,hw.fields,XjI hw.loc id,hw.gloK,hw.weaK,hw.marksK,hw.rootsK⟩
def XjR(hw:WB k w){id i v:Int}(e:1<=id)(f:id<=w.T.length)(g:0<=i)(o:i<(thg w id).D.length):Ok (QfF N w id i v) λr=>WB k r:=by
 have p:=hw.kk;have ht:=hw.things;have⟨g1,g2⟩:=JJ hw e f;have q:=hw.fields _ g2;rw[QfF,Xb aa,g1,Xa,Xb aa];refine Ok.get g aa λ_ _=>?_;rw[Xa];refine We ⟨hw.kk,?_,λx j=>?_,hw.loc,hw.gloK,hw.weaK,hw.marksK,hw.rootsK⟩
 .simp_all
 rcases W0 j with h|h
 .exact hw.fields x h
 simp_all
def Xhq(hw:WB k w)(hN:1000000<N)(op id:Int):Ok (QeY N w op id) λr=>WB k r.1:=by
 refine Im (Uv ?_ ?_)
 .rw[JI hw.wea hN,Xa];exact Uw (Y0 _) λy _=>We ⟨hw.kk,hw.things,hw.fields,hw.loc,hw.gloK,Xhe hw.weaK id,hw.marksK,hw.rootsK⟩
 rw[JI hw.glo hN,Xa];exact Uw (Y0 _) λy _=>We ⟨hw.kk,hw.things,hw.fields,hw.loc,Xhe hw.gloK id,hw.weaK,hw.marksK,hw.rootsK⟩
def XiR(hw:WB k w)(hN:1000000<N)(v:Int):Ok (Qfx N w v) λr=>WB k r:=by
 refine Uw (XbW _) λy _=>Uv ?_ (Uv ?_ ?_)
 .rw[XfP hw.loc hN,Xa];exact We ⟨hw.kk,hw.things,hw.fields,XjJ hw.loc _ _,hw.gloK,hw.weaK,hw.marksK,hw.rootsK⟩
 .rw[Xau hw.glo hN,Xa];exact We ⟨hw.kk,hw.things,hw.fields,hw.loc,Xhf hw.gloK _ _,hw.weaK,hw.marksK,hw.rootsK⟩
 rw[Xau hw.wea hN,Xa];exact We ⟨hw.kk,hw.things,hw.fields,hw.loc,hw.gloK,Xhf hw.weaK _ _,hw.marksK,hw.rootsK⟩
def Xnc(hw:WB k w)(hN:1000000<N)(o:w.m.length<=64)(op id b:Int)(j:op=20->0<=ZW w.m id):Ok (QfL N w op id b) λr=>WB k r.1:=by
 have setM:∀l:List Ix,l.length<=100+k->WB k ⟨w.c,w.T,w.l,w.g,w.v,l,w.R⟩:=λl p=>⟨hw.kk,hw.things,hw.fields,hw.loc,hw.gloK,hw.weaK,p,hw.rootsK⟩
 rw[QfL,Qg4,XfT aa hN,Xa,Xa];refine Uc aa (Wq (λh=>?_) λ_=>Wq (λh=>?_) λh=>Uc aa (We (setM _ (by grind))))
 .have h:=j (by simp_all);have⟨f,_,_⟩:=XbZ h;refine Ok.get h f λ_ _=>Ok.get h f λ_ _=>Ok.get h (by simp_all) λ_ _=>Wq (λ_=>?_) λ_=>We (setM _ (by grind));have e:=Xc (n:=ZW w.m id+1) aa aa;refine Uc aa (Uc aa (Uc aa (We (setM _ ?_))));simp;omega
 have h:0<=ZW w.m id:=Wy h;have⟨f,_,_⟩:=XbZ h;exact Ok.get h f λ_ _=>Ok.get h f λ_ _=>Ok.get h (by simp_all) λ_ _=>We (setM _ (by grind))
def WB.up(hw:WB k w)(e:k+1<=900):WB (k+1) w:=⟨e,by have:=hw.things;omega,hw.fields,hw.loc,by have:=hw.gloK;omega,by have:=hw.weaK;omega,by have:=hw.marksK;omega,by have:=hw.rootsK;omega⟩
def Xhr(hN:NB N)(hw:WB k w)(V:k+1<=900)(tw:X3 w)(op:Int){a b c:Int}(ta:tU a)(tb:tU b)(tc:tU c)(ft:Oy):Ok (QfM N w op a b c ft) λr=>WB (k+1) r.1:=by
 have Z:=hN;unfold NB at Z;have j:1000000<N:=aa;have zero:WB (k+1) zWo:=Xnb V;rw[QfM,XrP hw j tw op ta tb tc,Xa];refine Wq (λ_=>We zero) λf=>?_;have f:Xm8 w op a b c ft.Failed=0:=by simpa using f
 have B:YX w=true:=by
  cases h:YX w
  .unfold Xm8 at f;rw[h]at f;cases f
  rfl
 have wf:=Jn B;unfold Xm8 at f;rw[B,Wi ab]at f;have thing:(XR w a).2=0->1<=(Kk w a).1/\(Kk w a).1<=w.T.length/\XR w a=Kk w a:=λh=>by obtain⟨E,G,Y⟩:=XeW hw B tw ta h;rw[Y]at E G;exact⟨E,G,Y⟩
 refine Sa (λx=>¬(op<=3\/op=17)->x=(Kk w a).1) (λz hx3=>?_) λj1 s=>?_;rotate_left
 .refine Wq (λhg=>Wq (λI=>?_) λI=>s _ λh=>absurd (Or.inr (by simpa using I)) h) λhg=>s _ λh=>absurd (Or.inl (by have:=WV hg;omega)) h;rw[JP hw j B ta,Xa];exact s _ λ_=>rfl
 simp only[XqN];refine Wq (λJ=>?_) λJ=>?_
 ·
  have J:op=1\/op=2\/op=3:=by simpa using J
  rw[Wm J]at f;obtain⟨d,hd,hd2⟩:=Xbu (N:=N) op ta tb;have A:okW op a b/\V5 w.c (hdW op a b)=true:=by
   unfold Xbt at f;split at f
   .cases f
   split at f
   .cases f
   rename_i _ h2;split at f
   .cases f
   rename_i h3;exact⟨Classical.not_not.1 h2,by simpa using h3⟩
  have hdd:=hd2 A.1;have hvd:XN d=true:=by have:=A.2;unfold V5 at this;rw[WK]at this;rw[hdd];exact this.1
  have hb:=XO hvd;have main:∀w':WM,WB k w'->Ok (α:=WM×Int×Int) (bnd (Qcs N op a b) λu=>
   grd (w'.T.length*48<=140737488355328) <|
   grd (0<=u.1.n/\u.1.n.toNat*8<=140737488355328) <|
   grd ((w'.T.length+1)*48<=140737488355328) <|
   grd ((w'.T.length+1)<=140737488355328) <|
   bnd (Qde N (WM.mk (WN.mk w'.c.W w'.c.p) (w'.T++[(Ii.mk u.1 (List.replicate u.1.n.toNat 0))]) (Wp.mk w'.l.S w'.l.x w'.l.i) (Wu.mk w'.g.e) (Wu.mk w'.v.e) w'.m w'.R) (wU (((w'.T.length+1):Nat):Int))) λK=>
   some (K.1,K.2,0)) λr=>WB (k+1) r.1:=by
   intro w' q
   have ht:=q.things
   rw[hd,Xa]
   refine Uc aa (Uc (by constructor<;>simp only<;>omega) (Uc aa (Uc aa (Uw (Xax (k:=k+1) (w:=⟨w'.c,w'.T++[⟨d,List.replicate d.n.toNat 0⟩],w'.l,w'.g,w'.v,w'.m,w'.R⟩) ⟨V,?_,λx hx=>?_,q.loc,IN q.gloK,IN q.weaK,IN q.marksK,IN q.rootsK⟩ j _) λy o=>We o))))
   .show(w'.T++[_]).length<=_;rw[WJ];simp;omega
   .rcases Wt.1 hx with h|h
    .exact q.fields x h
    .rw[Ui.1 h];show(List.replicate _ _).length<=_;rw[WY];omega
  refine Im (Wq (λ_=>WI (V6 hN hw tw) λy _ o=>?_) λ_=>?_)
  .exact main y.1 o
  exact main w hw
 have hn1:¬(op=1\/op=2\/op=3):=by simpa using J
 rw[Wi hn1]at f;have L:∀v e:Int,Ok (α:=WM×Int×Int) (some (w,v,e)) λr=>WB (k+1) r.1:=λv e=>We (hw.up V);have up:∀{w':WM},WB k w'->WB (k+1) w':=λh=>WB.up h V;have pl:(op=4\/op=5\/op=10\/op=11)->XdG w op a b=0:=λh=>by rw[Wi aa,Wi aa,Wi aa,Wi aa,Wi aa,Wm h]at f;exact f
 have len:(op=4\/op=5)->1<=z/\z<=w.T.length:=λh=>by have s:=pl aa;unfold XdG at s;rw[Wm h]at s;have:=thing s;rw[hx3 aa];exact⟨this.1,this.2.1⟩
 have fld:(op=6\/op=7\/op=8\/op=9)->(1<=z/\z<=w.T.length)/\b<(thg w z).D.length/\wI b=b:=λh=>by
  rw[Wm h]at f;unfold XcL at f;by_cases s:(XR w a).2=0;rotate_left
  .rw[Wm s]at f;exact absurd f s
  rw[Wi (by simpa using s)]at f;obtain⟨E,G,Y⟩:=thing s;have e:z=(Kk w a).1:=hx3 aa;rw[Y,←e]at f;rw[←e]at E G;obtain⟨g1,g2⟩:=JJ hw E G;obtain⟨v1,v2,v3,v4⟩:=wf.thing _ g2;have vb:=XO v1;by_cases h2:b>=(thg w z).H.n
  .rw[Wm h2]at f;cases f
  have:=tb.1;exact⟨⟨E,G⟩,aa,Xc aa aa⟩
 refine Wq (λh4=>?_) λn4=>Wq (λh5=>?_) λn5=>Wq (λh6=>?_) λn6=>Wq (λh7=>?_) λn7=>Wq (λh8=>?_) λn8=>Wq (λh9=>?_) λn9=>Wq (λh10=>?_) λn10=>Wq (λh11=>?_) λn11=>?_
 .have h4:op=4:=by simpa using h4
  have:=len (.inl h4);rw[(JJ hw this.1 this.2).1,Xa];exact L _ _
 .have h5:op=5:=by simpa using h5
  have:=len (.inr h5);rw[(JJ hw this.1 this.2).1,Xa];exact L _ _
 .have h6:op=6:=by simpa using h6
  obtain⟨f1,f2,M⟩:=fld aa;rw[(JJ hw f1.1 f1.2).1,Xa];exact Ok.get tb.1 f2 λ_ _=>L _ _
 .have h7:op=7:=by simpa using h7
  obtain⟨f1,f2,M⟩:=fld aa;rw[M];exact Uw (XjR hw f1.1 f1.2 tb.1 f2) λy o=>We (up o)
 .have h8:op=8:=by simpa using h8
  obtain⟨f1,f2,M⟩:=fld aa;rw[(JJ hw f1.1 f1.2).1,Xa];exact Ok.get tb.1 f2 λ_ _=>Uw (Xax hw j _) λy o=>We (up o)
 .have h9:op=9:=by simpa using h9
  obtain⟨f1,f2,M⟩:=fld aa;rw[JP hw j B tc,Xa,M];exact Uw (XjR hw f1.1 f1.2 tb.1 f2) λy o=>We (up o)
 .rw[JP hw j B tb,Xa];exact Uv (L _ _) (L _ _)
 .exact Uw (Xax hw j _) λy o=>We (up o)
 have n6:¬op=6:=by simpa using n6
 have n7:¬op=7:=by simpa using n7
 have n8:¬op=8:=by simpa using n8
 have n9:¬op=9:=by simpa using n9
 refine Wq (λ_=>Uw (Xhq hw j _ _) λy o=>We (up o)) λnl=>?_;have nl:¬(op=13\/op=15):=by simpa using nl
 refine Wq (λ_=>Uw (XiR hw j _) λy o=>We (up o)) λnr=>?_;have nr:¬(op=12\/op=14\/op=16):=by simpa using nr
 refine Wq (λ_=>?_) λO=>Wq (λ_=>?_) λU=>?_
 .rw[Vc hw.loc j,Xa];exact We (up ⟨hw.kk,hw.things,hw.fields,Xhb hw.loc _,hw.gloK,hw.weaK,hw.marksK,hw.rootsK⟩)
 .rw[Xat hw.loc j,Xa];exact Uw (Xax (w:=⟨w.c,w.T,(YV w.l).1,w.g,w.v,w.m,w.R⟩) ⟨hw.kk,hw.things,hw.fields,XcJ hw.loc,hw.gloK,hw.weaK,hw.marksK,hw.rootsK⟩ j _) λy o=>We (up o)
 have O:¬op=17:=by simpa using O
 have U:¬op=18:=by simpa using U
 rw[Wi aa,Wi aa,Wi aa,Wi aa]at f;refine Uw (Xnc hw j wf.m64 op z _ λh20=>?_) λy o=>We (up o);unfold XjQ at f;grind
end
def XjS{α:Type}{l:List α}{F:Nat->Int->Option (Ex Int Unit)}{p:α->Bool}(g:l.length<=1000000)(e:∀(n k:Nat) (x:α),l[k]? = some x->F (n+1) (k:Int)=bif p x then some (.ret (k:Int))else F n ((k+1:Nat):Int))(f:∀n:Nat,F (n+1) (l.length:Int)=some (.nxt ())):∀(n k:Nat),k<=l.length->l.length-k<n->F n (k:Int)=some (match (l.drop k).findIdx? p with|some j=>.ret ((k+j:Nat):Int)|none=>.nxt ())
 |0,k,_,o=>by omega
 |n+1,k,q,o=>by
  by_cases h:k<l.length
  .rw[e n k _ (Wc h),Wo h,List.findIdx?_cons];cases hp:p l[k]
   .rw[Wa,XjS g e f n (k+1) aa aa,Wi ab];cases (l.drop (k+1)).findIdx? p with
    |none=>rfl
    |some j=>simp only[U7];rw[show k+1+j=k+(j+1) by omega]
   simp
  grind
def Zv{α:Type}(p:α->Bool)(l:List α):Int:=match l.findIdx? p with|some j=>(j:Int)|none=>-1
def JR{α:Type}{l:List α}{F:Nat->Int->Option (Ex Int Unit)}{p:α->Bool}{N:Nat}(o:l.length<=1000000)(hN:1000000<N)(f:∀(n k:Nat) (x:α),l[k]? = some x->F (n+1) (k:Int)=bif p x then some (.ret (k:Int))else F n ((k+1:Nat):Int))(g:∀n:Nat,F (n+1) (l.length:Int)=some (.nxt ())):(bnd (F N 0) λe=>exK e (λr=>some r) λ_=>some (-1))=some (Zv p l):=by
 have h:=XjS o f g N 0 aa aa;rw[show((0:Nat):Int)=0 from rfl,W4]at h;rw[h,Xa,Zv];cases l.findIdx? p with
 |none=>simp[Xo]
 |some j=>simp[XA,UN]
def KL{α:Type}(p:α->Bool)(l:List α):decide (Zv p l>=0)=l.any p:=by unfold Zv;grind
section
variable {N:Nat}
def XpM(e:W5):Qf2 N e=some (!JA e):=by rw[Qf2];unfold JA;grind
def XfW{α:Type}(p:α->Bool)(l:List α):(!l.any λx=>!p x)=l.all p:=by grind
def V7{t:Wu}(f:TB t)(hN:1000000<N):QdV N t=some (Yr t.e):=by
 unfold TB at f;rw[QdV,QaN,QaU];rw[JR (p:=λe=>!JA e) f hN (λn k x e=>by
  have g:=XG e
  rw[Qan,Xn g,Wb,Xf,e,Xa,XpM,Xa,Xg aa]) (λn=>by rw[Qan,XI,Wa])]
 rw[Xa,Xa,KL,XfW,Yr,show decide ((t.e.length:Int)<=64)=decide (t.e.length<=64)from decide_eq_decide.2 aa];grind
def Xb1{t:Wu}(f:t.e.length<=1000000):∀(n k:Nat) (v:List Int),k<=t.e.length->t.e.length-k<n->v.length<=k ->
 Qei N t n (k:Int) v=some (v++Xz (t.e.drop k))
 |0,k,v,_,g,_=>by omega
 |n+1,k,v,o,g,j=>by
  rw[Qei];by_cases h:k<t.e.length
  .rw[Xn h,Wb,Xf,Wc h,Xa,Xg aa,Wo h,Xz];cases p:t.e[k].V
   .rw[Wa,Xb1 f n (k+1) v aa aa aa,UC (by simp_all)];rfl
   rw[Wb,Xb aa,Xb1 f n (k+1) _ aa aa (by simp_all),Uq aa];simp[Xz]
  obtain rfl:k=t.e.length:=aa;simp[Xz]
def Jo{t:Wu}(f:TB t)(hN:1000000<N):QdW N t=some (bif Yr t.e then Xz t.e else[]):=by
 rw[QdW,V7 f hN,Xa];cases g:Yr t.e
 .rfl
 have h:=Xb1 (N:=N) (t:=t) f N 0 [] aa (by unfold TB at f;omega) ab;rw[show((0:Nat):Int)=0 from rfl,W4,Ue]at h;simp[Wh,Wa,h,Xa]
def Xlc(x:Int):Qf1 N x=some (!(!decide (x<0)&&!decide (x>4095))):=by rw[Qf1,show decide (x>=4096)=decide (x>4095)from decide_eq_decide.2 aa];cases decide (x<0)<;>cases decide (x>4095)<;>rfl
def XeX{a:Wp}:∀(n:Nat) (s i:Int),Qa6 N ⟨a⟩ n s i=Qax N a n s i
 |0,s,i=>by rfl
 |n+1,s,i=>by rw[Qa6,Qax];have e:∀s i,Qa6 N ⟨a⟩ n s i=Qax N a n s i:=XeX n;simp_all
def XdI{a:Wp}:∀(n:Nat) (s i:Int),Qbi N ⟨a⟩ n s i=QaD N a n s i
 |0,s,i=>by rfl
 |n+1,s,i=>by rw[Qbi,QaD];have e:∀s i,Qbi N ⟨a⟩ n s i=QaD N a n s i:=XdI n;grind
def Xld{a:Wp}(g:LBp a)(e:neB a.S.length a.x=true){k:Nat}{p:UM}(hp:a.x[k]? = some p):Qd8 N ⟨a⟩ (k:Int)=some ((a.S.drop p.O.toNat).take ((toL a k).toNat-p.O.toNat)):=by
 have j:=KU e hp;have s:=XG hp;have o:=g.2.1;have q:(IG.mk a).l.S.length=a.S.length:=rfl;rw[Qd8,Xg aa,toL];by_cases h:k+1<a.x.length
 .have f:=Wc h;have r:=KU e f;have:=j.2.2.2.2.2 _ f;rw[Xn h,Wb,Xf,hp,Xa,Xf,f,Xa,Xb aa]
 rw[show decide (((k+1:Nat):Int)<(a.x.length:Int))=false from Wg aa,Wa,Xf,hp,Xa,Xb aa,WS aa];simp[Ul,Wn]
def XdJ(l:List UB)(e:l.length<=1000000):∀(n k c:Nat),k<=l.length->l.length-k<n->c<=k->QbU N l n (c:Int) (k:Int)=some (((c+(l.drop k).countP (·.V):Nat):Int))
 |0,k,c,_,f,_=>by omega
 |n+1,k,c,g,f,j=>by
  rw[QbU];by_cases h:k<l.length
  .rw[Xn h,Wb,Xf,Wc h,Xa,Xg aa,Xg aa,Wo h,Ic];cases o:l[k].V
   .rw[Wa,XdJ l e n (k+1) c aa aa aa];simp
   rw[Wb,XdJ l e n (k+1) (c+1) aa aa aa];simp;omega
  grind
def Xhs{a:Wp}(g:LBp a)(hN:1000000<N)(f:neB a.S.length a.x=true){k:Nat}{p:UM}(hp:a.x[k]? = some p):Qds N ⟨a⟩ (k:Int)=some ((YL a.S p.O.toNat (toL a k).toNat:Nat):Int):=by
 have j:=g.1;rw[Qds,Xld g f hp,Xa];have e:((a.S.drop p.O.toNat).take ((toL a k).toNat-p.O.toNat)).length<=1000000:=by rw[Wl,Wn];omega
 have h:=XdJ (N:=N) _ e N 0 0 aa aa aa;rw[show((0:Nat):Int)=0 from rfl,W4,UN]at h;rw[h,Xa];rfl
def JD{a:Wp}(j:LBp a)(hN:1000000<N):QcR N a=some (Yb a):=by
 have g:=j;have⟨u,v,hl3⟩:=j;rw[QcR,QbD,Qb3];rw[JR (p:=λx=>!(!decide (x<0)&&!decide (x>4095))) hl3 hN (λn k x e=>by
  have f:=XG e
  rw[QaK,Xn f,Wb,Xf,e,Xa,Xlc,Xa,Xg aa]) (λn=>by rw[QaK,XI,Wa])]
 have y:=J9 (l:=a.S) (F:=λn s i=>QaD N a n s i) (q:=stQ a.i) (nxp:=λ_ p=>p.J) (I:=λs=>0<=s) (λn s k p o e=>by
  have f:=XG e
  rw[QaD,Xn f,Wb,Xf,e,Xa,Xg aa]
  unfold stQ
  cases g1:decide (p.J<=s)
  .cases g2:decide (p.J>(a.i.length:Int))
   .have g1:=WV g1
    have g2:=WV g2
    rw[Wa,Wa,Xc aa aa,Yd aa aa,Xa]
    have ge:a.i[(p.J-1).toNat]'aa=a.i.getD (p.J-1).toNat 0:=by
     rw[Wj,Wc aa];rfl
    rw[ge]
    cases (a.i.getD (p.J-1).toNat 0 != (k:Int))<;>cases (p.V==(p.a != 0))<;>rfl
   .rfl
  .rfl) (λn s=>by rw[QaD,XI,Wa]) (λs k p o e r=>by
   unfold stQ at r
   simp at r
   omega) N 0 0 aa aa aa
 have z:=J9 (l:=a.x) (F:=λn s i=>Qax N a n s i) (q:=neQ a.S.length) (nxp:=λ_ p=>p.O) (I:=λ_=>True) (λn s k p o e=>by
  have f:=XG e
  rw[Qax,Xn f,Wb,Xf,e,Xa,Xg aa]
  unfold neQ
  cases ((k:Int)==0)<;>cases (p.O != 0)<;>cases p.B0<;>cases decide (p.O<s)<;>cases decide (p.O>(a.S.length:Int))<;>cases decide (p.C0<0)<;>cases decide (p.C0>64)<;>rfl) (λn s=>by rw[Qax,XI,Wa]) (λ_ _ _ _ _ _=>trivial) N 0 0 trivial aa aa
 have A:QaD N a N 0 0=some (bif stB a.i a.S then .nxt ()else .ret false):=y;have e3:Qax N a N 0 0=some (bif neB a.S.length a.x then .nxt ()else .ret false):=z;have B:QdC N ⟨a⟩=some (!decide ((a.x.length:Int)>64)&&((!((a.x.length:Int)==0)||!decide ((a.S.length:Int)>0))&&neB a.S.length a.x)):=by rw[QdC,Xs,XeX,e3,Xa];cases neB a.S.length a.x<;>cases decide ((a.x.length:Int)>64)<;>cases ((a.x.length:Int)==0)<;>cases decide ((a.S.length:Int)>0)<;>simp only[Wb,Wa,XA,Xo]<;>rfl
 have D:Qdn N ⟨a⟩=some (stB a.i a.S):=by rw[Qdn,XdI,A,Xa];cases stB a.i a.S<;>simp only[Wb,Wa,XA,Xo]
 rw[Xa,Xa,KL,B,Xa,D,Xa,Yb,Xm3];have E:(a.i.any λx=>!(!decide (x<0)&&!decide (x>4095))) = !(a.i.all λp=>!decide (p<0)&&!decide (p>4095)):=by rw[←XfW,Bool.not_not]
 rw[E];cases decide ((a.i.length:Int)>4096);rotate_left
 .rfl
 cases (a.i.all λp=>!decide (p<0)&&!decide (p>4095))
 .cases decide ((a.x.length:Int)>64)<;>cases (!((a.x.length:Int)==0)||!decide ((a.S.length:Int)>0))<;>rfl
 cases decide ((a.x.length:Int)>64);rotate_left
 .rfl
 cases (!((a.x.length:Int)==0)||!decide ((a.S.length:Int)>0))
 .rfl
 cases h:neB a.S.length a.x
 .cases stB a.i a.S<;>rfl
 cases stB a.i a.S
 .rfl
 simp;have G:=JH (l:=a.x) (F:=QdO N a) (q:=Xha a ()) (λn k p e=>by
  have f:=XG e
  rw[QdO,Xn f,Wb,Xf,e,Xa,Xhs g hN h e,Xa,Xg aa]
  unfold Xha
  cases decide (((YL a.S p.O.toNat (toL a k).toNat:Nat):Int)>p.C0)<;>rfl) (λn=>by rw[QdO,XI,Wa]) (n:=N) aa
 rw[G,Xa];show exK (bif XbV a then Ex.nxt ()else Ex.ret false) _ _=_;cases XbV a
 .rw[Wa,XA]
 simp[Wb,Xo]
def Xb2{a:Wp}(e:a.S.length<=1000000):∀(n k:Nat) (v:List Int),k<=a.S.length->a.S.length-k<n->v.length<=k ->
 Qej N a n (k:Int) v=some (v++XM (a.S.drop k))
 |0,k,v,_,f,_=>by omega
 |n+1,k,v,j,f,g=>by
  rw[Qej];by_cases h:k<a.S.length
  .rw[Xn h,Wb,Xf,Wc h,Xa,Xg aa,Wo h,XM];cases o:a.S[k].V
   .rw[Wa,Xb2 e n (k+1) v aa aa aa,UC (by simp_all)];rfl
   rw[Wb,Xb aa,Xb2 e n (k+1) _ aa aa (by simp_all),Uq aa];simp[XM]
  obtain rfl:k=a.S.length:=aa;simp[XM]
def Xb3{a:Wp}(e:LBp a)(hN:1000000<N):QfP N a=some (bif Yb a then XM a.S else[]):=by
 rw[QfP,JD e hN,Xa];cases f:Yb a
 .rfl
 have h:=Xb2 (N:=N) (a:=a) e.1 N 0 [] aa (by have:=e.1;omega) ab;rw[show((0:Nat):Int)=0 from rfl,W4,Ue]at h;simp[Wh,Wa,h,Xa]
end
def Jp(N:Nat)(c:WN):Qcw N c=some (X9 c):=by exact Zu N c
def Xnd(N:Nat)(c:WN):Qfa N c=some (smC c):=by exact XgZ N c
def V8(N:Nat)(c:WN)(w:Int):Qfb N c w=some (XF c w):=by
 simp only[Qfb,Jp,Xnd,Xa,XF,smC];cases j:X9 c with
 |false=>simp
 |true=>
  have h:=Xj.1 j;simp only[Wh,Wa,if_true,UI];rw[Xc (n:=4*c.W) aa aa];by_cases f:w<1
  .rw[Wm f,Wi (show¬(True/\1<=w)fromλh=>aa)]
  rw[Wi f,Wm (show True/\1<=w from⟨trivial,aa⟩)];by_cases g:w>4*c.W
  .rw[Wm g];simp only[Wi (show¬w<=c.W / 4 by omega),Wi (show¬c.W>=w by omega),Wi (show¬2*c.W>=w by omega),Wi (show¬3*c.W>=w by omega),Wi (show¬4*c.W>=w by omega)]
  rw[Wi g];by_cases e:w<=c.W / 4
  .rw[Wm e,Wm e]
  rw[Wi e,Wi e,Xb aa,Xc (n:=w+c.W) aa aa,Xc (n:=w+c.W-1) aa aa,UQ aa];have key:∀k:Int,k*c.W<=w+c.W-1->w+c.W-1<(k+1)*c.W->(w+c.W-1) / c.W=k:=by intro k a b;have o:=Int.ediv_lt_of_lt_mul (show 0<c.W by omega) b;have p:=Int.le_ediv_of_mul_le (show 0<c.W by omega) a;omega
  split
  .rw[key 1 aa aa];rfl
  split
  .rw[key 2 aa aa];rfl
  split
  .rw[key 3 aa aa];rfl
  split
  .rw[key 4 aa aa];rfl
  omega
def XiS(N:Nat)(c:WN)(a:Int)(j:a<=18446744073709551615):Qcy N c a=Qch N c a:=by
 rw[K5];simp only[Qcy,Jp,Xa,UI];cases e:X9 c with
 |false=>simp
 |true=>
  have h:=Xj.1 e;have o:=XP e (i:=0) aa aa;simp only[Wh,Wa];rw[Wi (show¬(true=false) by simp),Int.mul_comm c.W c.p];rw[Xc (n:=c.p*c.W) aa aa,Xp (n:=c.p*c.W) aa aa];by_cases f:a<4096
  .grind
  rw[Wi f,Xp (n:=a-4096) aa aa];by_cases q:a>=4096+c.p*c.W
  .grind
  rw[Wi aa,Wm aa,Xb aa,Xb aa];rw[Xc (n:=a-4096) aa aa,UQ aa,IE aa];have hd:0<=(a-4096) / c.W:=Int.ediv_nonneg aa aa;have g:(a-4096) / c.W<=a-4096:=Int.ediv_le_self _ aa;rw[Xc aa aa]
def V9(N:Nat)(c:WN)(p o:Int):Qdm N c p o=QbE N c p o:=by
 rw[ZT];simp only[Qdm,Jp,Xa,UI];cases h:X9 c with
 |false=>simp
 |true=>
  simp only[Wh,Wa];rw[Wi (show¬(true=false) by simp)];by_cases e:p<0
  .rw[Wm e,Wi aa]
  rw[Wi e];by_cases f:p>=c.p
  .rw[Wm f,Wi aa]
  rw[Wi f];by_cases g:o<0
  .rw[Wm g,Wi aa]
  rw[Wi g];by_cases j:o>=c.W
  .rw[Wm j,Wi aa]
  have q:=XP h (i:=p) aa aa;rw[Xc (n:=p*c.W) aa aa,Xc (n:=p*c.W+o) aa aa,Xp (n:=p*c.W+o) aa aa,Xp aa aa];unfold Xd;grind
def Kw(sp:Int)(p:Ws):Bool:=p.k==3&&p.s==sp
def Xaa(ps:List Ws)(sp:Int)(i:Nat):Nat:=((ps.drop i).takeWhile (Kw sp)).length
def Xht(N:Nat)(ps:List Ws)(sp:Int)(j:ps.length<=1000000):∀(n c i:Nat),i<=ps.length->c<=i->ps.length-i<n->QdE N ps sp n (c:Int) (i:Int)=some (((c+Xaa ps sp i:Nat):Int))
 |0,c,i,_,_,h=>by omega
 |n+1,c,i,h,o,p=>by
  rw[QdE];by_cases e:i<ps.length
  .rw[Wd aa,Wb,Xf,Wc e,Xa,Xa];have hd:ps.drop i=ps[i]::ps.drop (i+1):=Wo e;unfold Xaa;rw[hd,List.takeWhile_cons];cases f:(ps[i].k==3)with
   |false=>simp[Kw,f]
   |true=>
    cases g:(ps[i].s==sp)with
    |false=>simp[Kw,f,g]
    |true=>rw[Wb,show Kw sp ps[i]=true by simp[Kw,f,g],Wm rfl];rw[Xg aa,Xg aa,Xht N ps sp j n (c+1) (i+1) aa aa aa];unfold Xaa;grind
  have:ps.drop i=[]:=Ub aa;rw[Wg aa,Wa];simp[Xaa,this]
def Xne{N:Nat}(ps:List Ws)(sp:Int)(e:ps.length<=1000000)(hN:1000000<N)(i:Nat)(f:i<ps.length):Qfh N ps (i:Int) sp=some ((Xaa ps sp (i+1):Nat):Int):=by rw[Qfh,Xg aa,show(0:Int)=((0:Nat):Int)from rfl,Xht N ps sp e N 0 (i+1) aa aa aa,Xa,UN]
def Xbw{α:Type}(q:α->Bool):∀(l:List α) (k:Nat),k<=(l.takeWhile q).length↔k<=l.length/\(l.take k).all q=true
 |[],k=>by simp
 |a::l,0=>by simp
 |a::l,k+1=>by
  rw[List.takeWhile_cons];cases h:q a with
  |false=>grind
  |true=>simp[h];exact Xbw q l k |>.trans ab
def Yl(sp:Int)(p:Ws):Bool:=Kw sp p&&(p.u==0&&p.P==0)
def XjT(N:Nat)(o:List Ws)(f:Int)(g:Ws)(q p:Int)(l:List Ws)(v:l.length<=1000000)(hd:((o.drop (wI (f+1)).toNat).take ((wI (f+p)).toNat-(wI (f+1)).toNat))=l)(r:min ((wI (f+p)).toNat-(wI (f+1)).toNat) (o.length-(wI (f+1)).toNat)=l.length):
 ∀(n k:Nat),k<=l.length->l.length-k<n->Qfy N o f g q p n (k:Int)=some (if(l.drop k).all (Yl g.s)=true then .nxt ()else .ret 0)
 |0,k,_,h=>by omega
 |n+1,k,h,y=>by
  rw[Qfy,hd,r];by_cases j:k<l.length
  .rw[Wd aa,Wb,Xf,Wc j,Xa,Qfr,Xa,Wo j,I7];have e:((l[k].k==3)&&((l[k].s==g.s)&&((l[k].u==0)&&(l[k].P==0))))=Yl g.s l[k]:=by unfold Yl Kw;rw[Bool.and_assoc]
   rw[e];cases z:Yl g.s l[k]with
   |false=>simp
   |true=>rw[Wh,Wa,Xg aa,XjT N o f g q p l v hd r n (k+1) aa aa,W9]
  grind
def Yi(c:WN)(ps:List Ws)(i:Nat)(p:Ws):Nat:=
 if p.k=0 then(if p.s=0/\p.u=0/\p.P=0 then 1 else 0)
 else if(p.s=0\/p.s=1)/\0<=p.P/\p.P<=2147483647 then
  (if p.k=1 then(if 0<=p.u/\p.u<=c.W then 1 else 0)
   else if p.k=2 then(if 1<=XF c p.u/\(XF c p.u).toNat<=ps.length-i/\((ps.drop (i+1)).take ((XF c p.u).toNat-1)).all (Yl p.s)=true then(XF c p.u).toNat else 0)
   else 0)
 else 0
def Ki(N:Nat)(p:Ws):Qcd N p=some (decide (p.s=0\/p.s=1)):=by rw[Qcd];grind
def Xay(N:Nat)(p:Ws):Qdq N p=some (decide (0<=p.P/\p.P<=2147483647)):=by grind[Qdq]
def Kx{N:Nat}{c:WN}{ps:List Ws}(E:ps.length<=100000)(hN:1000000<N){i:Nat}(A:i<ps.length):QgT N c ps (i:Int)=some ((Yi c ps i ps[i]:Nat):Int):=by
 rw[QgT,Xf,Wc A,Xa,Xs];generalize hp:ps[i]=p;unfold Yi;by_cases k0:p.k<0
 .grind
 rw[Wg k0,Wa];by_cases B:p.k>=3
 .grind
 rw[Wg B,Wa];by_cases r:p.k=0
 .rw[show(p.k==0)=true by simpa using r,Wb,Wm r,Qgg,Xa];grind
 rw[show(p.k==0)=false by simp_all,Wa,Wi r];by_cases e:(p.s=0\/p.s=1);case neg=>
  rw[Wi (λh=>e h.1)]
  by_cases j:p.k=1
  .rw[show(p.k==1)=true by simp_all,Wb,QdL,Ki,Xa,Wg e,Wa,Xa];rfl
  .have v:p.k=2:=aa
   rw[show(p.k==1)=false by simp_all,Wa,show(p.k==2)=true by simp_all,Wb,QdM,Ki,Xa,Wg e,Wa,Xa];rfl
 by_cases g:0<=p.P/\p.P<=2147483647;case neg=>
  rw[Wi (λh=>g h.2)]
  by_cases j:p.k=1
  .rw[show(p.k==1)=true by simp_all,Wb,QdL,Ki,Xa,Wd e,Wb,Xay,Xa,Wg g,Wa,Xa];rfl
  .have v:p.k=2:=aa
   rw[show(p.k==1)=false by simp_all,Wa,show(p.k==2)=true by simp_all,Wb,QdM,Ki,Xa,Wd e,Wb,Xay,Xa,Wg g,Wa,Xa];rfl
 rw[Wm ⟨e,g⟩];by_cases j:p.k=1
 .rw[show(p.k==1)=true by simpa using j,Wb,QdL,Ki,Xa,Wd e,Wb,Xay,Xa,Wd g,Wb,Wm j];by_cases y:0<=p.u
  .by_cases z:p.u<=c.W
   .simp[y,z,Xa]
   simp[y,z,Xa]
  simp[y,Xa]
 have v:p.k=2:=aa;rw[show(p.k==1)=false by simp_all,Wa,show(p.k==2)=true by simp_all,Wb,QdM,Ki,Xa,Wd e,Wb,Xay,Xa,Wd g,Wb,Wi j,Wm v];simp only[V8,Xa];by_cases o:XF c p.u>=1;case neg=>grind
 rw[Wd o,Wh,Wa,show((2:Int) != 2)=false from rfl,Wa,Xc (n:=(ps.length:Int)-i) aa aa];by_cases q:XF c p.u>(ps.length:Int)-i
 .grind
 rw[Wg q,Wa];have w1:wI ((i:Int)+1)=((i+1:Nat):Int):=Xg aa;have w2:wI ((i:Int)+XF c p.u)=(i:Int)+XF c p.u:=Xc aa aa;rw[Xb aa];have D:(wI ((i:Int)+1)).toNat=i+1:=by rw[w1];omega
 have G:(wI ((i:Int)+XF c p.u)).toNat-(wI ((i:Int)+1)).toNat=(XF c p.u).toNat-1:=by rw[D,w2];omega
 rw[show(0:Int)=((0:Nat):Int)from rfl,XjT N ps (i:Int) p 2 (XF c p.u) ((ps.drop (i+1)).take ((XF c p.u).toNat-1)) (by grind) (by simp_all) (by simp_all) N 0 aa (by grind),Xa,W4];by_cases f:((ps.drop (i+1)).take ((XF c p.u).toNat-1)).all (Yl p.s)=true
 .rw[Wm f,Xo,Wm ⟨o,aa,f⟩];grind
 rw[Wi f,XA,Wi (λh=>f h.2.2)];rfl
def XX{p:Prop}[Decidable p](h:¬p):decide p=false:=Wg h
def XeY{N:Nat}{h:Wk}(z:h.p.length<=100000){sp:Int}(o:sp=0\/sp=1):∀(k n i:Nat),i+k<=h.p.length->((h.p.drop i).take k).all (Kw sp)=true ->
 QaG N h (n+k) (k:Int) (i:Int)=if((h.p.drop i).take k).all (Yl sp)=true then QaG N h n 0 ((i+k:Nat):Int)else some (.ret false)
 |0,n,i,q,f=>by simp
 |k+1,n,i,q,f=>by
  have g:i<h.p.length:=aa;have hd:(h.p.drop i).take (k+1)=h.p[i]::(h.p.drop (i+1)).take k:=by rw[Wo g,List.take_succ_cons]
  rw[hd,I7,WK]at f;rw[hd,I7,show n+(k+1)=(n+k)+1 from rfl,QaG,Wd aa,Wb,Xf,Wc g,Xa];have D:=XeY (N:=N) z o k n (i+1) aa f.2;generalize h.p[i]=p at *;have A:p.k=3/\p.s=sp:=by have:=f.1;simp only[Kw,WK,beq_iff_eq]at this;exact this
  have⟨e,B⟩:=A;have r:(p.k==3)=true:=by simpa using e
  rw[r,Wd (show(((k+1:Nat):Int)>0) by omega),show(!(true==true))=false from rfl,Wa,XX (show¬p.s<0 by omega),Wa,XX (show¬p.s>1 by omega),Wa,XfF,Xa];by_cases hp:p.P=0;case neg=>
   have j:Yl sp p=false:=by simp[Yl,hp]
   rw[j,UH,Wi ab]
   by_cases v:0<=p.P/\p.P<=2147483647
   .rw[Wd v,Wh,Wa]
    simp only[Xs,show(p.k==0)=false by rw[e];rfl,show(p.k==1)=false by rw[e];rfl,show(p.k==2)=false by rw[e];rfl,r,Wa,Wb,show(p.P != 0)=true by simpa using hp,Bool.cond_self]
   grind
  simp only[Xs,show(p.k==0)=false by simp_all,show(p.k==1)=false by simp_all,show(p.k==2)=false by simp_all,r,Wa,Wb,show(p.P != 0)=false by simp_all];by_cases y:p.u=0
  .have j:Yl sp p=true:=by unfold Yl;rw[f.1];simp[y,hp]
   rw[show(p.u != 0)=false by simpa using y,Wa,j,W9,Xc (n:=((k+1:Nat):Int)-1) aa aa,Xg aa];grind
  have j:Yl sp p=false:=by simp[Yl,y]
  grind
def Xnf{α:Type}{p q:α->Bool}(h:∀x,q x=true->p x=true):∀{l:List α},l.all q=true->l.all p=true:=by simp_all
def Xle{N:Nat}{h:Wk}(hc:X9 h.c=true)(V:h.p.length<=100000)(hN:1000000<N){i:Nat}(L:i<h.p.length)(n:Nat)(hn:10<=n):
 QaG N h n 0 (i:Int)=if Yi h.c h.p i h.p[i]=0 then some (.ret false)else QaG N h (n-Yi h.c h.p i h.p[i]) 0 ((i+Yi h.c h.p i h.p[i]:Nat):Int):=by
 obtain⟨n,rfl⟩:∃m,n=m+1:=⟨n-1,aa⟩
 rw[QaG,Wd (show(i:Int)<(h.p.length:Int) by omega),Wb,Xf,Wc L,Xa];generalize h.p[i]=p;have M:(if(0:Int)<wI (0-1)then wI (0-1)else 0)=0:=by rw[Xc aa aa];rfl
 have ge:wI ((i:Int)+1)=((i+1:Nat):Int):=Xg aa;generalize f:Yi h.c h.p i p=s;unfold Yi at f;have no:s=0->(if s=0 then some (.ret false)else QaG N h (n+1-s) 0 ((i+s:Nat):Int))=some (.ret false):=λe=>Wm e;rw[Wg (show¬(0:Int)>0 by omega)];by_cases O:p.k=3
 .rw[show(p.k==3)=true by simpa using O,show(!(true==false))=true from rfl,Wb];rw[Wi (show¬p.k=0 by omega),Wi (show¬p.k=1 by omega),Wi (show¬p.k=2 by omega),ite_self]at f;exact(no f.symm).symm
 have v:(p.k==3)=false:=by simpa using O
 rw[v,show(!(false==false))=false from rfl,Wa];by_cases o:p.s=0\/p.s=1;case neg=>
  have z:s=0:=by
   rw[←f,Wi (c:=(p.s=0\/p.s=1)/\_) (λg=>o g.1)]
   split
   .rw[Wi (λg=>o (.inl g.1))]
   .rfl
  rw[no z]
  by_cases R:p.s<0
  .rw[Wd R,Wb]
  .rw[XX R,Wa,Wd (show p.s>1 by omega),Wb]
 rw[XX (show¬p.s<0 by omega),Wa,XX (show¬p.s>1 by omega),Wa,XfF,Xa];by_cases j:0<=p.P/\p.P<=2147483647;case neg=>
  have z:s=0:=by
   rw[←f,Wi (c:=(p.s=0\/p.s=1)/\_) (λg=>j g.2)]
   split
   .rw[Wi (λg=>j aa)]
   .rfl
  rw[no z,XX j,W6,Wb]
 rw[Wm (c:=(p.s=0\/p.s=1)/\_) ⟨o,j⟩]at f;rw[Wd j,Wh,Wa];by_cases r:p.k=0
 .have E:(p.k==1)=false:=by rw[r];rfl
  have y:(p.k==2)=false:=by rw[r];rfl
  rw[Wm r]at f;simp only[Xs,show(p.k==0)=true by simpa using r,E,y,v,Wb,Wa,W9];by_cases G:p.s=0/\p.u=0/\p.P=0
  .rw[Wm G]at f;subst f;obtain⟨Y,Z,z3⟩:=G;rw[Wi (show¬(1:Nat)=0 by omega)];simp only[Y,Z,z3,show((0:Int)==0)=true from rfl,Bool.and_self,Wh,Wa,M,ge,IF]
  rw[Wi G]at f;rw[no f.symm,show((p.s==0)&&((p.u==0)&&(p.P==0)))=false by
   rw[Bool.eq_false_iff];intro g;simp only[WK,beq_iff_eq]at g;exact G ⟨g.1,g.2.1,g.2.2⟩]
  rfl
 have I:(p.k==0)=false:=by simpa using r
 rw[Wi r]at f;by_cases A:p.k=1
 .have y:(p.k==2)=false:=by rw[A];rfl
  rw[Wm A]at f;simp only[Xs,show(p.k==1)=true by simpa using A,I,y,v,Wb,Wa];by_cases S:p.u<0
  .rw[Wi aa]at f;rw[Wd S,Wb,no f.symm]
  rw[XX S,Wa];by_cases T:p.u>h.c.W
  .rw[Wi aa]at f;rw[Wd T,Wb,no f.symm]
  rw[Wm aa]at f;subst f;rw[XX T,Wa,Wi (show¬(1:Nat)=0 by omega),M,ge,IF]
 have E:(p.k==1)=false:=by simpa using A
 rw[Wi A]at f;by_cases H:p.k=2;case neg=>
  have y:(p.k==2)=false:=by simpa using H
  rw[Wi H]at f
  simp only[Xs,I,E,y,v,Wa]
  rw[no f.symm]
 rw[Wm H]at f;simp only[Xs,show(p.k==2)=true by simpa using H,I,E,v,Wb,Wa,ZS (show 10<=N by omega),Xa];by_cases B:XF h.c p.u<1
 .rw[Wi (λg=>aa)]at f;rw[Wd B,Wb,no f.symm]
 have hr:=Ja h.c p.u;rw[XX B,Wa,Xne h.p p.s aa hN i L,Xa,Xc (n:=XF h.c p.u-1) aa aa];obtain⟨k,U⟩:∃k:Nat,XF h.c p.u=((k+1:Nat):Int):=⟨(XF h.c p.u).toNat-1,aa⟩
 have J:(XF h.c p.u).toNat=k+1:=aa;have tw:=Xbw (Kw p.s) (h.p.drop (i+1)) k;rw[J,IF,U]at f;rw[U];by_cases ht:((Xaa h.p p.s (i+1):Nat):Int)<((k+1:Nat):Int)-1
 .have D:¬k<=((h.p.drop (i+1)).takeWhile (Kw p.s)).length:=by unfold Xaa at ht;omega
  rw[Wi (λg=>D (tw.2 ⟨by rw[Wn];omega,Xnf (λx K=>by unfold Yl at K;rw[WK]at K;exact K.1) g.2.2⟩))]at f;rw[Wd ht,Wb,no f.symm]
 have q:=tw.1 (by unfold Xaa at ht;omega);rw[Wn]at q;have e:(if(0:Int)<((k+1:Nat):Int)-1 then((k+1:Nat):Int)-1 else 0)=(k:Int):=by split<;>omega
 rw[e,ge];obtain⟨m,rfl⟩:∃m,n=m+k:=⟨n-k,aa⟩
 rw[XeY V o k m (i+1) aa q.2];grind
def Xbx{c:WN}{ps:List Ws}{i:Nat}(e:i<ps.length){p:Ws}:Yi c ps i p<=ps.length-i/\Yi c ps i p<=4:=by have f:=Ja c p.u;unfold Yi;grind
def XdK{N:Nat}{h:Wk}(o:X9 h.c=true)(g:h.p.length<=100000)(hN:1000000<N):∀(m i n e:Nat),i<=h.p.length->h.p.length-i<=m->h.p.length-i<n->h.p.length-i+10<=e->Qaf N h n (i:Int)=QaG N h e 0 (i:Int)
 |m,i,0,e,_,_,q,_=>by omega
 |m,i,n+1,e,u,v,q,y=>by
  by_cases f:i<h.p.length
  .rw[Qaf,Wd aa,Wb,Kx g hN f,Xa,Xle o g hN f e aa];have z:=Xbx (c:=h.c) f (p:=h.p[i]);generalize Yi h.c h.p i h.p[i]=s at *;by_cases r:s=0
   .simp_all
   rw[Wi r,show((s:Int)==0)=false by simp_all,Wa,Xc aa aa,show(i:Int)+(s:Int)=((i+s:Nat):Int) by omega];obtain⟨j,rfl⟩:∃j,m=j+1:=⟨m-1,aa⟩
   exact XdK o g hN j (i+s) n (e-s) aa aa aa aa
  rw[Qaf,Wg aa,Wa];obtain⟨k,rfl⟩:∃k,e=k+1:=⟨e-1,aa⟩
  rw[QaG,Wg aa,Wa]
def Yc{N:Nat}{h:Wk}(f:h.p.length<=100000)(hN:1000000<N):QbQ N h=Qab N h:=by
 rw[QbQ,Qab,Jp,Zu];simp only[Xa,Xs];cases g:X9 h.c with
 |false=>rfl
 |true=>
 have e:=XdK g f hN h.p.length 0 N N aa aa aa aa;grind
section
variable {N:Nat}
def XpN{m:Int}(f:0<=m)(o:2*m+1<=18446744073709551615):bOr .u64 (m*2) 1=m*2+1:=by
 obtain⟨n,rfl⟩:=UA f;have hb:IntKind.u64.bits=64:=rfl;show IntKind.u64.wrap ((BitVec.ofInt IntKind.u64.bits ((n:Int)*2) |||BitVec.ofInt IntKind.u64.bits 1).toNat:Int)=_;rw[hb];have g:BitVec.ofInt 64 ((n:Int)*2)=BitVec.ofNat 64 (n*2):=by rw[show(n:Int)*2=((n*2:Nat):Int) by omega];exact Of 64 (n*2)
 have h:BitVec.ofInt 64 (1:Int)=BitVec.ofNat 64 1:=ae;have j:n*2 % 2 ^ 64=n*2:=IC aa;have e:=Nat.shiftLeft_add_eq_or_of_lt (i:=1) (b:=1) ae n;rw[Nat.shiftLeft_eq,Nat.pow_one]at e;rw[g,h,BitVec.toNat_or,U9,U9,j,show 1 % 2 ^ 64=1 from rfl,←e];show wU _=_;rw[Xp aa aa];omega
def XjU{a:Int}(f:0<=a)(g:a<=64):∀(n k:Nat),(k:Int)<=a->(a-k).toNat<n->Qfz N a n ((2:Int) ^ k-1) (k:Int)=some ((2:Int) ^ a.toNat-1)
 |0,k,_,j=>by omega
 |n+1,k,q,j=>by
  rw[Qfz];have e:(if 64<(if a<0 then 0 else a)then 64 else(if a<0 then 0 else a))=a:=by rw[Wi (show¬a<0 by omega),Wi aa]
  rw[e];by_cases h:(k:Int)<a
  .have hp:(1:Int)<=2 ^ k:=Int.pow_pos (n:=(2:Int)) (m:=k) ae;have r:(2:Int) ^ k<=2 ^ 63:=by have:2 ^ k<=2 ^ 63:=IM aa aa;exact_mod_cast this
   have o:ZO .u64 ((2:Int) ^ k-1) 1=wU (((2:Int) ^ k-1)*2):=rfl;rw[Wd h,Wb,o,Xp aa aa,XpN aa aa,Xg aa];have p:((2:Int) ^ k-1)*2+1=2 ^ (k+1)-1:=by rw[Int.pow_succ];omega
   rw[p];exact XjU f g n (k+1) aa aa
  grind
def Zb{a:Int}(e:0<=a)(f:a<=64)(hN:1000<N):Qa1 N a=some ((2:Int) ^ a.toNat-1):=by have:=XjU (N:=N) e f N 0 aa aa;rw[Qa1];rw[show((2:Int) ^ 0-1)=0 from rfl,show((0:Nat):Int)=0 from rfl]at this;rw[this,Xa]
def JE(hN:1000<N)(d:Wv):Qdl N d=some (XN d):=by
 rw[Qdl,XN];by_cases e:d.k<0
 .rw[Wd e,Wb,Wg aa,UH]
 rw[Wg e,Wa];by_cases f:d.k>3
 .rw[Wd f,Wb,Wg aa,UH]
 rw[Wg f,Wa];by_cases g:d.n<0
 .rw[Wd g,Wb,Wg aa,UH]
 rw[Wg g,Wa];by_cases h:d.n>255
 .rw[Wd h,Wb,Wg (p:=0<=d.k/\d.k<=3/\0<=d.n/\d.n<=255) aa,UH]
 rw[Wg h,Wa,Wd (p:=0<=d.k/\d.k<=3/\0<=d.n/\d.n<=255) aa,W9];by_cases j:d.k=1
 .rw[Wm j,XC j,Wb,Xs];by_cases o:d.n<=32
  .rw[Wd o,Wb,Zb aa aa hN,Xa,W9,Xcm];exact congrArg some (decide_eq_decide.2 aa)
  rw[Wg o,Wa,UH]
 grind
def Y1(hN:1000<N)(d:Wv):Qbz N d=some (Xw d):=by
 rw[Qbz,JE hN,Xa,Xw];cases h:XN d with
 |false=>rfl
 |true=>have:=XO h;rw[Wh,Wa,Xc (n:=d.n+1) aa aa];rfl
def XdL(hN:1000<N)(d:Wv)(i:Int):QdN N d i=some (KI d i):=by
 rw[QdN,JE hN,Xa,KI];cases h:XN d with
 |false=>rfl
 |true=>
  have hb:=XO h;rw[Wh,Wa,W9];by_cases f:i<0
  .rw[Wd f,Wb,Wg aa,UH]
  rw[Wg f,Wa];by_cases g:i>=d.n
  .rw[Wd g,Wb,Wg aa,UH]
  rw[Wg g,Wa,Wd (p:=0<=i/\i<d.n) aa,W9,Xp (n:=i) aa aa];by_cases e:d.k=2
  .rw[XC e,Wb,Wd e,Bool.true_or]
  rw[Xk e,Wa,Wg e,In];by_cases j:d.k=1
  .rw[XC j,Wb,Wd j,W9,Xb aa]
  grind
def Xby(hN:1000<N)(d:Wv)(f:XN d=true):∀(n:Nat) (i:Int) (v:List Int),0<=i->i<=d.n+1->(d.n+1-i).toNat<n->v.length+(d.n+1-i).toNat<=1000->Qck N d (d.n+1) n i v=some (v++YC d (d.n-i).toNat i)
 |0,i,v,_,_,g,_=>by omega
 |n+1,i,v,o,q,g,r=>by
  have hb:=XO f;rw[Qck];by_cases h:i<d.n+1
  .rw[Wd h,Wb,XdL hN,Xa,Xc (n:=i+1) aa aa];by_cases s:i<d.n
   .obtain⟨k,j⟩:∃k,(d.n-i).toNat=k+1:=⟨(d.n-i).toNat-1,aa⟩
    have e:(d.n-(i+1)).toNat=k:=aa;rw[j,YC];cases hp:KI d i
    .rw[Wa,Xby hN d f n (i+1) v aa aa aa aa,e];simp
    rw[Wb,Xb aa,Xby hN d f n (i+1) _ aa aa aa (by grind),e];simp
   have hp:KI d i=false:=by unfold KI;rw[Wg (p:=0<=i/\i<d.n) aa];simp
   rw[hp,Wa,Xby hN d f n (i+1) v aa aa aa aa,show(d.n-i).toNat=0 by omega,show(d.n-(i+1)).toNat=0 by omega];rfl
  rw[Wg h,Wa,show(d.n-i).toNat=0 by omega];simp[YC]
def XeZ(hN:1000<N)(d:Wv)(e:XN d=true):Qea N d=some (X5 d):=by
 have hb:=XO e;have f:Xw d=d.n+1:=by unfold Xw;rw[e];rfl
 rw[Qea,Y1 hN,Xa,f,Xby hN d e N 0 [] aa aa aa (by grind),Xa,X5,e];simp
def XfX{l:List Int}(f:l.length<=1000000)(hN:1000000<N):Qai N l 0=some (!l.all λp=>!(p==0)):=by
 rw[Qai,Qb2];rw[JR (p:=λx:Int=>(0==x)) f hN (λn j x e=>by
  have g:=XG e
  rw[QaF,Xn g,Wb,Xf,e,Xa,Xg aa]) (λn=>by rw[QaF,XI,Wa])]
 rw[Xa,KL,←XfW,Bool.not_not];grind
def XaZ:List (List Int)->Nat
 |[]=>0
 |l::ls=>l.length+XaZ ls
def Xe0(ls:List (List Int))(e:ls.length<=1000):∀(n k s:Nat),k<=ls.length->ls.length-k<n->s+XaZ (ls.drop k)<=10000000->QaX N ls n (s:Int) (k:Int)=some (((s+XaZ (ls.drop k):Nat):Int))
 |0,k,s,_,f,_=>by omega
 |n+1,k,s,j,f,g=>by
  rw[QaX];by_cases h:k<ls.length
  .rw[Wo h,XaZ]at g⊢;rw[Xn h,Wb,Xf,Wc h,Xa,Xc (n:=(s:Int)+((ls[k].length:Nat):Int)) aa aa,Wg aa,Wa,Xg aa];have:=Xe0 ls e n (k+1) (s+ls[k].length) aa aa aa;grind
  obtain rfl:k=ls.length:=aa;rw[XI,Wa,Ub (Uo _)];rfl
def Xe1(ls:List (List Int))(e:ls.length<=1000):∀(n k:Nat) (v:List Int),k<=ls.length->ls.length-k<n->v.length+XaZ (ls.drop k)<=10000000->QaY N ls n (k:Int) v=some (v++(ls.drop k).flatten)
 |0,k,v,_,f,_=>by omega
 |n+1,k,v,j,f,g=>by
  rw[QaY];by_cases h:k<ls.length
  .rw[Wo h,XaZ]at g;rw[Wo h,Xn h,Wb,Xf,Wc h,Xa,Xb aa,Xg aa,Xe1 ls e n (k+1) _ aa aa (by rw[WJ];omega),List.flatten_cons,Ud]
  grind
def Xb4(ls:List (List Int))(f:ls.length<=1000)(p:XaZ ls<=10000000)(hN:1000000<N):QaT N ls=some ls.flatten:=by
 have g:=Xe0 (N:=N) ls f N 0 0 aa aa (by rw[W4];omega);have j:=Xe1 (N:=N) ls f N 0 [] aa aa (by rw[W4];simp;omega);rw[show((0:Nat):Int)=0 from rfl,UN]at g;rw[show((0:Nat):Int)=0 from rfl,Ue]at j;have o:QbA N ((XaZ ls:Nat):Int)=some []:=by
  rw[QbA,Wg aa,Wa,Xc (n:=(0:Int)) aa aa,Int.sub_zero];have e:=Xc (n:=((XaZ ls:Nat):Int)) aa aa;by_cases h:(wI ((XaZ ls:Nat):Int))>0
  .rw[Wd h,Wb,Xb ⟨rfl,rfl⟩,Xb aa,Xb aa,Xb aa,Oo]
  rw[Wg h,Wa]
 simp[QaT,g,Xa,o,j]
end
section
variable {N:Nat}
def XcN{w:Int}(hw:tU w):XbR w=⟨w / 4 % 4,w / 16 % 4096,w / 65536 % 4294967296⟩:=by have⟨e,f⟩:=hw;unfold XbR;rw[show YO .u64 w 2=w / 4 from YP w 2 aa e,show YO .u64 w 4=w / 16 from YP w 4 aa e,show YO .u64 w 16=w / 65536 from YP w 16 aa e];rw[show Zc .u64 (w / 4) 3=w / 4 % 4 from YF (w / 4) 2 aa aa aa,show Zc .u64 (w / 16) 4095=w / 16 % 4096 from YF (w / 16) 12 aa aa aa];rw[Xc aa aa,Xc aa aa,XmM]
def Xng{w:Int}(hw:tU w):okH w=(XN (XbR w)&&(decide (w / 281474976710656=0)&&decide (w % 4=1))):=by
 have⟨f,g⟩:=hw;unfold okH;cases h:XN (XbR w)with
 |false=>rfl
 |true=>
  have hb:=XO h;rw[XcN ⟨f,g⟩]at hb;have e:ZH (XbR w)=1+4*(w / 4 % 4)+16*(w / 16 % 4096)+w / 65536 % 4294967296*65536:=by rw[XcN ⟨f,g⟩];unfold ZH;have s:∀x:Int,ZO .u64 x 16=wU (x*65536):=λ_=>rfl;simp only[s];simp only[Xcm];omega
  grind
def XsY:Xe [(2:Int),2,12,32] 0=some 2:=by unfold Xe;rfl
def XsZ:Xe [(2:Int),2,12,32] 1=some 2:=by unfold Xe;rfl
def Xs0:Xe [(2:Int),2,12,32] 2=some 12:=by unfold Xe;rfl
def Xs1:Xe [(2:Int),2,12,32] 3=some 32:=by unfold Xe;rfl
def XiT(hN:1000000<N){v:Int}(f:0<=v)(q:v<=18446744073709551615):Qdf N v [2,2,12,32]=some (if v / 281474976710656=0 then([v % 4,v / 4 % 4,v / 16 % 4096,v / 65536 % 4294967296],0)else([],2)):=by
 obtain⟨m,rfl⟩:∃m,N=m+5:=⟨N-5,aa⟩
 have e:([(2:Int),2,12,32].length:Nat)=4:=rfl;have g:wI (0+1)=1:=Xc aa aa;have h:wI (1+1)=2:=Xc aa aa;have j:wI (2+1)=3:=Xc aa aa;have o:wI (3+1)=4:=Xc aa aa;have r:wI (64-2)=62:=Xc aa aa;have s:wI (62-2)=60:=Xc aa aa;have u:wI (60-12)=48:=Xc aa aa;have y:wI (48-32)=16:=Xc aa aa;have z:Qay (m+5) v [2,2,12,32] (m+5) 64 0=some (.nxt ()):=by rw[Qay,e,XsY];simp only[Xa,g,r];rw[Qay,e,XsZ];simp only[Xa,h,s];rw[Qay,e,Xs0];simp only[Xa,j,u];rw[Qay,e,Xs1];simp only[Xa,o,y];rw[Qay,e];rfl
 have p:Qa1 (m+5) 2=some 3:=Zb aa aa aa;have A:Qa1 (m+5) 12=some 4095:=Zb aa aa aa;have B:Qa1 (m+5) 32=some 4294967295:=Zb aa aa aa;have D:YO .u64 v 2=v / 4:=YP v 2 aa f;have E:YO .u64 (v / 4) 2=v / 4 / 4:=YP (v / 4) 2 aa aa;have s3:YO .u64 (v / 4 / 4) 12=v / 4 / 4 / 4096:=YP (v / 4 / 4) 12 aa aa;have s4:YO .u64 (v / 4 / 4 / 4096) 32=v / 4 / 4 / 4096 / 4294967296:=YP (v / 4 / 4 / 4096) 32 aa aa;have G:Zc .u64 v 3=v % 4:=YF v 2 aa f q;have H:Zc .u64 (v / 4) 3=v / 4 % 4:=YF (v / 4) 2 aa aa aa;have I:Zc .u64 (v / 4 / 4) 4095=v / 4 / 4 % 4096:=YF (v / 4 / 4) 12 aa aa aa;have J:Zc .u64 (v / 4 / 4 / 4096) 4294967295=v / 4 / 4 / 4096 % 4294967296:=YF (v / 4 / 4 / 4096) 32 aa aa aa;have K:Qaz (m+5) [2,2,12,32] (m+5) v 0 []=some (v / 4 / 4 / 4096 / 4294967296,[v % 4,v / 4 % 4,v / 4 / 4 % 4096,v / 4 / 4 / 4096 % 4294967296]):=by rw[Qaz,e,XsY];rw[Wd aa,Wb,Xa,p,Xa,Xb ab,Xb aa,D,G,g];rw[Qaz,e,XsZ];rw[Wd aa,Wb,Xa,p,Xa,Xb ab,Xb aa,E,H,h];rw[Qaz,e,Xs0];rw[Wd aa,Wb,Xa,A,Xa,Xb ab,Xb aa,s3,I,j];rw[Qaz,e,Xs1];rw[Wd aa,Wb,Xa,B,Xa,Xb ab,Xb aa,s4,J,o];rw[Qaz,e];rw[Wg aa,Wa];rfl
 rw[Qdf,z,Xa,Xo,K,Xa];grind
def XdM(hN:1000000<N){w:Int}(hw:tU w):Qeg N w=some (Zq w,okH w):=by
 have⟨e,f⟩:=hw;rw[Qeg,XiT hN e f,Xa];unfold Zq;rw[Xng ⟨e,f⟩];by_cases h:w / 281474976710656=0
 .have j:Xe [w % 4,w / 4 % 4,w / 16 % 4096,w / 65536 % 4294967296] 0=some (w % 4):=by unfold Xe;rfl
  have g1:Xe [w % 4,w / 4 % 4,w / 16 % 4096,w / 65536 % 4294967296] 1=some (w / 4 % 4):=by unfold Xe;rfl
  have g2:Xe [w % 4,w / 4 % 4,w / 16 % 4096,w / 65536 % 4294967296] 2=some (w / 16 % 4096):=by unfold Xe;rfl
  have g3:Xe [w % 4,w / 4 % 4,w / 16 % 4096,w / 65536 % 4294967296] 3=some (w / 65536 % 4294967296):=by unfold Xe;rfl
  rw[Wm h];simp only[j,g1,g2,g3,Xa,show((0:Int) != 0)=false from rfl,Wa,Xc (n:=w / 4 % 4) aa aa,Xc (n:=w / 16 % 4096) aa aa,XqJ (n:=w / 65536 % 4294967296) aa aa];rw[JE aa,Xa,←XcN ⟨e,f⟩,Wd h,W9];by_cases g:w % 4=1
  .rw[g,show((1:Int) != 1)=false from rfl,Wa,Wd rfl,Bool.and_true];cases XN (XbR w)<;>rfl
  rw[show(w % 4 != 1)=true by simpa using g,Wb,Wg g,Bool.and_false];rfl
 simp_all
def Xb5{ws:List Int}(f:ws.length<=1000000){a:Int}(g:a<=18446744073709551615)(n:Int):Qfk N ws a n=QdT N ws a n:=by
 rw[Qfk,QdT];by_cases e:a<4096
 .rw[Wd e,Wb,Wb]
 rw[XX e,Wa,Wa,Xp (n:=a-4096) aa aa,Xp (n:=(ws.length:Int)) aa aa,Xp (n:=4096+(ws.length:Int)) aa aa];grind
def XdN{ws:List Int}(e:ws.length<=1000000){a:Int}(f:a<=18446744073709551615):QfN N ws a=Qbr N ws a:=by simp[QfN,Qbr,Qhg,Qf6,Xb5,e,f]
def Xnh{ws:List Int}(e:ws.length<=1000000){a:Int}(f:a<=18446744073709551615)(n:Int):Qg5 N ws a n=Qdg N ws a n:=by
 rw[Qg5,Qdg,Xb5 e f];by_cases g:n<0
 .simp_all
 rw[XX g,Wa,Wa];congr 1;funext y;cases y.2 with
 |false=>rfl
 |true=>simp only[Wh,Wa,Qae,Xa];unfold grd;grind
structure HT(h:Wk):Prop where
 hb:HB h
 tw:X6 h
def HT.word{h:Wk}(t:HT h){i w:Int}(e:Xe h.w i=some w):tU w:=by have:=t.tw;exact this w (YI e)
def Xa0(hN:NB N){h:Wk}(ht:HT h){a:Int}(v:tU a):Qd6 N h a=Qal N h a:=by
 have f:1000000<N:=by unfold NB at hN;omega
 have hb:=ht.hb;unfold HB at hb;rw[Qd6,Qal,Yc aa f];have⟨b,eb,j⟩:=YZ (N:=N) aa (h:=h) aa aa;rw[eb,Xa,Xa];cases b with
 |false=>rfl
 |true=>
 have hp:=j rfl;rw[Wh,Wa,Wa,XiS _ _ _ v.2,K5,Wi (by simp[hp.conf])];by_cases g:4096<=a/\a<4096+h.c.p*h.c.W;case neg=>simp[Wi,g,Xa]
 rw[Wm g,Xa,Xa];have po:=XfE hp.conf g.1 g.2;have A:=hp.pages;generalize (a-4096) / h.c.W=pn at *;generalize (a-4096) % h.c.W=e at *;have o:=hp.pgs pn aa aa;have q:=o.small;rw[Xr aa aa,Xa,Xa];generalize pg h.p pn=p at q⊢;rw[QgM,XdN aa v.2];have B:=Xj.1 hp.conf;have D:=XP hp.conf (i:=0) aa aa;have r:∃w,Qbr N h.w a=some (w,0)/\tU w:=by rw[Qbr,Qf6,QdT,XX (show¬a<4096 by omega),Wa,Xp (n:=(h.w.length:Int)) aa aa,Xp (n:=4096+(h.w.length:Int)) aa aa,XX (show¬a>4096+(h.w.length:Int) by have:=hp.words;omega),Wa,Xp (n:=a-4096) aa aa,Xc (n:=a-4096) aa aa,Xc aa aa,Xa];rw[Wd (show 1<=(h.w.length:Int)-(a-4096) by have:=hp.words;omega),Wh,Wa,Xa];simp only[show((0:Int) != 0)=false from rfl,Wa];have y:=Yd (l:=h.w) (i:=a-4096) aa (by have:=hp.words;omega);exact⟨_,by rw[y,Xa],ht.word y⟩
 have⟨w,r,tw⟩:=r;rw[r,Xa,Xa,Xa,XdM f tw,ZR,Xa,Xa];simp only[Y1 (show 1000<N by omega),XW,Xa,Xs];have E:=XeM w;generalize Zq w=d at *;generalize Xw d=s at *;cases okH w with
 |false=>simp
 |true=>
  by_cases k1:p.k=1
  .have k2:(p.k==2)=false:=by rw[k1];rfl
   simp only[show(p.k != 1)=false by simpa using k1,show(p.k==1)=true by simpa using k1,k2,Wb,Wa];by_cases u:e>=p.u
   .rw[Wd u,Wb,Wb];rfl
   rw[XX u,Wa,Wa];by_cases z:wI (e+s)>p.u
   .rw[Wd z,Wb];rw[Xc (n:=e+s) aa aa]at z;have:¬s<=wI (p.u-e):=by rw[Xc aa aa];omega
    rw[XX this];rfl
   rw[XX z,Wa];rw[Xc (n:=e+s) aa aa]at z;rw[Xc (n:=p.u-e) aa aa,Wd aa];rfl
  grind
end
section
variable {N:Nat}
def fnd(h:Wk)(a:Int):UT:=⟨a,hdA h.w a⟩
def Xhu(l:List UT)(f:l.length<=1000000):∀(n k:Nat) (v:List Int),k<=l.length->l.length-k<n->v.length=k->Qdr N l n (k:Int) v=some (v++(l.drop k).map (·.addr))
 |0,k,v,_,h,_=>by omega
 |n+1,k,v,j,o,g=>by
  rw[Qdr];by_cases e:k<l.length
  .rw[Wd aa,Wb,Xf,Wc e,Xa,Xb aa,Xg aa,Xhu l f n (k+1) _ aa aa (by simp[g]),Wo e,Ud,US];rfl
  grind
def XdO(l:List UT)(e:l.length<=1000000)(hN:1000000<N):Qcx N l=some (l.map (·.addr)):=by rw[Qcx,show(0:Int)=((0:Nat):Int)from rfl,Xhu l e N 0 [] aa aa rfl,Xa];simp
def XpO(h:Wk)(l:List Int):(l.map (fnd h)).map (·.addr)=l:=by rw[List.map_map];exact List.map_id'' (λ_=>rfl) l
def XuA(h:Wk):Ex (List Int×Int) (List Int)->List UT×Int
 |.ret r=>([],19)
 |.nxt l=>(l.map (fnd h),0)
def Xe2(hN:NB N){h:Wk}(ht:HT h)(hp:Uy h){i:Int}(B:0<=i)(G:i<h.p.length)(g:(pg h.p i).k=1\/(pg h.p i).k=2):∀(n:Nat) (o:Int) (l:List Int),0<=o->(66-o).toNat<n->(l.length:Int)<=o->((pg h.p i).k=1->o<=64)->((pg h.p i).k=2->o=0) ->
 ∃e,Qah N h i (pg h.p i) n o l=some e/\Qb8 N h i (pg h.p i) n o (l.map (fnd h))=some (XuA h e)/\(∀r,e=.ret r->r=([],19))
 |0,o,l,H,I,J,k1,k2=>by omega
 |n+1,o,l,H,I,J,k1,k2=>by
  have K:1000000<N:=by unfold NB at hN;omega
  have V:=Xj.1 hp.conf;have L:=hp.pages;have M:=(hp.pgs i B G).small;rw[Qah,Qb8];by_cases j:o<(pg h.p i).u;case neg=>rw[XX j,Wa,Wa];exact⟨_,rfl,rfl,λr e=>by grind⟩
  have q:o<h.c.W:=by
   rcases g with g|g
   .omega
   omega
  rw[Wd j,Wb,Wb,V9,ZT,hp.conf,Xa,Xa,Wi ab,Wm aa];have O:=XP hp.conf (i:=i) B aa;have R:tU (Xd h.c i o):=by unfold Xd;exact⟨aa,aa⟩
  rw[show((0:Int)==0)=true from rfl,Wb,Xa0 hN ht R];have⟨y,S,T⟩:=Xcn hN ht.hb (Xd h.c i o);rw[S,Xa,Xa];by_cases D:y.2=0;case neg=>
   rw[show(y.2 != 0)=true by simp_all,show(y.2==0)=false by simp_all,Wb,Wa]
   exact⟨_,rfl,rfl,λr e=>by simp_all⟩
  have⟨_,_,s,E⟩:=T D;have v:=XL h.w (Xd h.c i o);have f:=YD hp.conf (p:=i) H q;rw[show(y.2 != 0)=false by simp_all,show(y.2==0)=true by simp_all,Wb,Wa,E,Xb aa];rw[Y1 aa,Xa,v.1,Xb (by grind)];rw[show UT.mk (Xd h.c i o) (hdA h.w (Xd h.c i o))=fnd h (Xd h.c i o)from rfl];have U:l.map (fnd h)++[fnd h (Xd h.c i o)]=(l++[Xd h.c i o]).map (fnd h):=by simp
  rw[U];rcases g with g|g
  .rw[show((pg h.p i).k==2)=false by simp_all,Wa,XW,Xa,v.1];have z:=s.small;rw[f.1,f.2]at z;rw[Xc (n:=o+szA h.w (Xd h.c i o)) aa aa];exact Xe2 hN ht hp B G (.inl g) n _ _ aa aa (by grind) (λ_=>aa) (λk=>aa)
  rw[show((pg h.p i).k==2)=true by simp_all,Wb];have A:=s.large;rw[f.1,f.2]at A;refine⟨_,rfl,?_,λr e=>by grind⟩;rw[Xc (n:=o+szA h.w (Xd h.c i o)) aa aa];obtain⟨m,rfl⟩:∃m,n=m+1:=⟨n-1,aa⟩
  rw[Qb8,XX aa,Wa];rfl
def XJ{h:Wk}(hN:NB N)(hb:HB h)(ep:Qab N h=some true):Uy h:=by have⟨b,eb,e⟩:=YZ (N:=N) (by unfold NB at hN;omega) hb.1 hb.2;simp_all
def ZU(hN:NB N){h:Wk}(hb:HB h):∃b,Qab N h=some b:=by have⟨b,eb,_⟩:=YZ (N:=N) (by unfold NB at hN;omega) hb.1 hb.2;simp_all
def XdP(hN:NB N){h:Wk}(ht:HT h)(ep:Qab N h=some true){i:Int}(f:0<=i)(g:i<h.p.length):∃r,Qag N h i=some r/\Qf9 N h i=some (r.1.map (fnd h),r.2)/\(r.2≠0->r=([],19)):=by
 have hb:=ht.hb;have hp:=XJ hN hb ep;rw[Qag,Qf9,ep,Xa,Xr f g,Xa,Xa,Wh,Wa,XX (show¬i<0 by omega),Wa,XX (show¬i>=_ by omega),Wa];have o:=(hp.pgs i f g).kind;have main:((pg h.p i).k=1\/(pg h.p i).k=2)->∃r,(bnd (Qah N h i (pg h.p i) N 0 []) λe=>exK e (λr=>some r) λq=>some (q,0))=some r/\Qb8 N h i (pg h.p i) N 0 []=some (r.1.map (fnd h),r.2)/\(r.2≠0->r=([],19)):=by
  intro s;obtain⟨e,u,j,e3⟩:=Xe2 hN ht hp f g s N 0 [] aa (by unfold NB at hN;omega) ab (λ_=>aa) (λ_=>rfl);rw[u,Xa];rw[IA]at j;rw[j];cases e with
  |ret r=>rw[e3 r rfl];rw[XA];exact⟨_,rfl,rfl,λ_=>rfl⟩
  |nxt l=>rw[Xo];exact⟨_,rfl,rfl,λh=>absurd rfl h⟩
 by_cases k1:(pg h.p i).k=1
 .simp_all
 by_cases k2:(pg h.p i).k=2
 .simp_all
 rw[show((pg h.p i).k != 1)=true by simpa using k1,show((pg h.p i).k != 2)=true by simpa using k2];refine⟨([],0),?_,rfl,λh=>absurd rfl h⟩;grind
def Qmz(hN:NB N){h:Wk}(hb:HB h)(i:Int){r:List Int×Int}(e:Qag N h i=some r):r.1.length<=64:=by have:=(QkO hN hb i).get_eq e;omega
def XdQ(hN:NB N){h:Wk}(ht:HT h)(i:Int):Qfc N h i=Qag N h i:=by
 have hb:=ht.hb;rw[Qfc,Yc (by have:=hb.2;omega) (by unfold NB at hN;omega)];have⟨b,eb⟩:=ZU (N:=N) hN hb;rw[eb,Xa];cases b with
 |false=>simp[Qag,eb,Xa]
 |true=>
 by_cases e:i<0
 .rw[Qag,eb,Xa,Wd e];rfl
 by_cases f:i>=h.p.length
 .rw[Qag,eb,Xa,XX e,Wd f];rfl
 have⟨r,g,j,e3⟩:=XdP hN ht eb (i:=i) aa aa;rw[Wh,Wa,XX e,Wa,XX f,Wa,j,Xa,g];have o:=Qmz hN hb i g;by_cases z:r.2=0
 .rw[show(r.2 != 0)=false by simpa using z,Wa,XdO _ (by rw[Um];omega) (by unfold NB at hN;omega),Xa,XpO];congr 1;exact Prod.ext rfl z.symm
 simp_all
def XjV(hN:NB N){h:Wk}(ht:HT h)(ep:Qab N h=some true):∀(n k:Nat) (l:List Int),k<=h.p.length->h.p.length-k<n->l.length<=64*k ->
 ∃e,QaO N h n (k:Int) l=some e/\Qgb N h n (k:Int) (l.map (fnd h))=some (match e with|.ret r=>.ret (r.1.map (fnd h),r.2)|.nxt l=>.nxt (l.map (fnd h)))/\(∀r,e=.ret r->r=([],19))/\(∀f,e=.nxt f->f.length<=64*h.p.length)
 |0,k,l,_,h,_=>by omega
 |n+1,k,l,s,u,v=>by
  have hb:=ht.hb;have j:=hb.2;rw[QaO,Qgb];by_cases o:k<h.p.length;case neg=>rw[Wg (show¬(k:Int)<_ by omega),Wa,Wa];refine⟨_,rfl,rfl,?_,?_⟩<;>intro r e<;>cases e;omega
  rw[Wd (show(k:Int)<_ by omega),Wb,Wb];have⟨r,g,q,e3⟩:=XdP hN ht ep (i:=(k:Int)) aa aa;rw[g,q,Xa,Xa];have y:=Qmz hN hb (k:Int) g;by_cases z:r.2=0
  .rw[show(r.2 != 0)=false by simpa using z,Wa,Wa,Xb aa,Xb ah,Xg aa,←U1];exact XjV hN ht ep n (k+1) _ aa aa (by rw[WJ];omega)
  simp_all
def XpP(hN:NB N){h:Wk}(ht:HT h):∃r,QbH N h=some r/\Qhy N h=some (r.1.map (fnd h),r.2)/\(r.2≠0->r.1=[])/\r.1.length<=6400000:=by
 have hb:=ht.hb;have g:=hb.2;rw[QbH,Qhy,Yc aa (by unfold NB at hN;omega)];have⟨b,eb⟩:=ZU (N:=N) hN hb;rw[eb,Xa,Xa];cases b with
 |false=>simp
 |true=>
 rw[Wh,Wa,Wa];have⟨e,j,f,e3,e4⟩:=XjV hN ht eb N 0 [] aa (by unfold NB at hN;omega) ab;rw[IA]at f;rw[show(0:Int)=((0:Nat):Int)from rfl,j,f,Xa,Xa];cases e with
 |ret r=>rw[XA];rw[XA,e3 r rfl];simp
 |nxt l=>rw[Xo];grind[Xo]
end
section
variable {N:Nat}
def Y8(f:UT):Bool:=!(f.hd.k==0)
def Yo(h:Wk)(l:List Int):List Int:=l.filter λa=>Y8 (fnd h a)
def XiU(e:List UT)(r:e.length<=1000000):∀(n i j:Nat) (v:List UT),i<=j->j<=e.length->e.length-j<n->v.length=e.length->v.drop j=e.drop j ->
 ∃(f:Nat) (g:List UT),QcD N n (i:Int) (j:Int) v=some ((f:Int),g)/\g.length=e.length/\f<=e.length/\g.take f=v.take i++(e.drop j).filter Y8
 |0,i,j,v,_,_,h,_,_=>by omega
 |n+1,i,j,v,s,A,B,u,hd=>by
  rw[QcD,Xb aa];by_cases o:j<e.length;case neg=>
   grind
  have p:v[j]'aa=e[j]:=by have a:=Wo (l:=v) (i:=j) aa;have b:=Wo (l:=e) (i:=j) aa;rw[hd,b]at a;exact(IP a).1.symm
  have q:v.drop (j+1)=e.drop (j+1):=by have a:=Wo (l:=v) (i:=j) aa;have b:=Wo (l:=e) (i:=j) aa;rw[hd,b]at a;exact(IP a).2.symm
  rw[Wd aa,Wb,Xf,Wc aa,Xa,QeG,Xa,p,Wo o];cases D:(e[j].hd.k==0)with
  |true=>rw[Wh,Wa,Xg aa,UC (by unfold Y8;simp_all)];exact XiU e r n i (j+1) v aa aa aa u q
  |false=>rw[W6,Wb,Xf,Wc aa,Xa,Xg aa,Xg aa,Uq (by unfold Y8;simp_all)];have⟨f,g,y,z,e3,e4⟩:=XiU e r n (i+1) (j+1) (v.set i e[j]) aa aa aa (by simp_all) (by rw[UP aa];omega);refine⟨f,g,y,z,e3,?_⟩;rw[e4,List.take_succ,IZ aa,IR (Uo _)];simp
def XpQ(l:List UT)(g:l.length<=1000000)(hN:1000000<N):Qaw N l=some (Zv (λf=>f.hd.k==0) l):=by
 exact JR (p:=λf:UT=>f.hd.k==0) g hN (λn k x e=>by
  have h:=XG e
  rw[Qak,Xn h,Wb,Xf,e,Xa,QeG,Xa,Xg aa]) (λn=>by rw[Qak,XI,Wa])
def Xlf(l:List UT)(o:l.length<=1000000)(hN:1000000<N):(bnd (Qaw N l) λp=>
 bif (p==(-1))then(bnd (Qcx N l) λq=>
  some (q,(0:Int)))
 else bnd (QcD N N p (wI (p+1)) l) λe=>
 grd (0<=e.1/\e.1<=(e.2.length:Int)/\(e.2.length:Int)<=(e.2.length:Int)) <|
 grd (0<=e.1/\e.1<=(((((min e.1.toNat e.2.length)+(e.2.length-e.1.toNat))+(e.2.length-(e.1.toNat+(e.2.length-e.1.toNat)))):Nat):Int)) <|
 bnd (Qcx N ((((e.2.take e.1.toNat)++(List.replicate (e.2.length-e.1.toNat) (UT.mk 0 (Wv.mk 0 0 0))))++(e.2.drop (e.1.toNat+(e.2.length-e.1.toNat)))).take e.1.toNat)) λr=>
 some (r,0))=some ((l.filter Y8).map (·.addr),0):=by
 rw[XpQ l o hN,Xa];unfold Zv;cases s:l.findIdx? (λf=>f.hd.k==0)with
 |none=>
  have g:l.filter Y8=l:=by rw[List.findIdx?_eq_none_iff]at s;rw[IQ];intro x u;unfold Y8;rw[s x u];rfl
  rw[show((-1:Int)==-1)=true from rfl,Wb,XdO l o hN,Xa,g]
 |some j=>
  have⟨v,hp,hb⟩:=UV.1 s;rw[show((j:Int)==-1)=false by simp,Wa,Xg aa];have⟨i',h,y,D,e3,e4⟩:=XiU (N:=N) l o N j (j+1) l aa aa aa rfl rfl;rw[y,Xa];dsimp only;rw[Xb aa,Xb aa,show((i':Int)).toNat=i' from rfl];have et:(((h.take i')++(List.replicate (h.length-i') (UT.mk 0 (Wv.mk 0 0 0))))++(h.drop (i'+(h.length-i')))).take i'=h.take i':=by rw[Ud,List.take_append_of_le_length (by grind),List.take_take,Wz]
  have z:l.filter Y8=l.take j++(l.drop (j+1)).filter Y8:=by
   conv=>lhs;rw[←IH j l,List.filter_append,Wo v,UC (by unfold Y8;simp_all)]
   congr 1;rw[IQ];intro x u;obtain⟨k,A,rfl⟩:=WE u;rw[Wl]at A;rw[Ir];have:=hb k aa;unfold Y8;simpa using this
  rw[et,e4,←z];have B:(l.filter Y8).length<=l.length:=List.length_filter_le _ _;rw[XdO _ aa hN,Xa]
def Xaz{h:Wk}(y:List Int×Int)(j:y.1.length<=1000000)(e:∀a∈y.1,Qal N h a=some (hdA h.w a,0)):∀(n k:Nat) (v:List Int),k<=y.1.length->y.1.length-k<n->v.length<=k ->
 Qbc N h y n (k:Int) v=some (v++Yo h (y.1.drop k))
 |0,k,v,_,o,_=>by omega
 |n+1,k,v,g,o,p=>by
  rw[Qbc];by_cases f:k<y.1.length
  .rw[Wd aa,Wb,Xf,Wc f,Xa,e _ (WG f),Xa,Xg aa,Wo f,Yo];by_cases g:(hdA h.w y.1[k]).k=0
   .rw[show((hdA h.w y.1[k]).k != 0)=false by simp_all,Wa,Xaz y j e n (k+1) v aa aa aa,UC (by simp[Y8,fnd,g])];rfl
   rw[show((hdA h.w y.1[k]).k != 0)=true by simp_all,Wb,Xa,Xb aa,Xaz y j e n (k+1) _ aa aa (by simp_all),Uq (by simp[Y8,fnd,g])];simp[Yo]
  rw[Wg aa,Wa,Ub aa];simp[Yo]
def JK(hN:NB N){h:Wk}(ht:HT h):Qd7 N h=Qap N h:=by
 have e:1000000<N:=by unfold NB at hN;omega
 have⟨r,f,o,e3,_⟩:=XpP hN ht;have⟨g,hp,_⟩:=(J8 hN ht.hb).get_eq f;have j:=g.len;rw[Qd7,Qap,f,o,Xa,Xa];rw[show(0:Int)=((0:Nat):Int)from rfl,Xaz r aa g.obj.ev N 0 [] aa aa ab,Xa,W4,Ue];by_cases z:r.2=0
 .rw[show(r.2 != ((0:Nat):Int))=false by simp_all,Wa];have:=Xlf (N:=N) (r.1.map (fnd h)) (by grind) e;rw[show((0:Nat):Int)=0 from rfl,this,z];congr 2;rw[List.filter_map,List.map_map];exact List.map_id'' (λ_=>rfl) _
 rw[show(r.2 != ((0:Nat):Int))=true by simp_all,Wb,e3 z];rfl
end
section
variable {N:Nat}
def exM{α β γ:Type}(f:α->γ):Ex α β->Ex γ β
 |.ret a=>.ret (f a)
 |.nxt b=>.nxt b
def Iz.tu{h:Wk}(hp:Uy h){a:Int}(e:Iz h a):tU a:=by have:=e.rng;have:=XP hp.conf (i:=0) aa (by have:=Xj.1 hp.conf;omega);exact⟨aa,aa⟩
def Xe3(hN:NB N){h:Wk}(ht:HT h)(hp:Uy h){i:Int}(r:0<=i)(s:i<h.p.length)(l:List Int)(u:l.length<=4096)(f:∀a∈l,Iz h a)(g:∀a∈l,Qal N h a=some (hdA h.w a,0)):∀(n k:Nat),k<=l.length->l.length-k<n ->
 ∃e,QaW N h i l n (k:Int)=some e/\Qcz N h i l n (k:Int)=some (exM (λa=>(a,true)) e)/\∀a,e=.ret a->a∈l
 |0,k,_,v=>by omega
 |n+1,k,y,v=>by
  rw[QaW,Qcz];by_cases j:k<l.length;case neg=>rw[Wg aa,Wa,Wa];exact⟨_,rfl,rfl,λa e=>by grind⟩
  have o:=WG j;have q:1000<N:=by unfold NB at hN;omega
  have nx:=Xe3 hN ht hp r s l u f g n (k+1) aa aa;simp only[Wd (show(k:Int)<(l.length:Int) by omega),Wb,Xf,Wc j,Xa,Xa0 hN ht ((f _ o).tu hp),g _ o,Y1 q,XW,Xnd,XgZ,Xr r s,Xg (show k<=140737488355328 by omega)];cases ((pg h.p i).k==1)<;>cases ((pg h.p i).k==2)<;>cases (decide (Xw (hdA h.w l[k])<=smC h.c))<;>cases ((hdA h.w l[k]).k==0);all_goals simp only[Wb,Wa,Wh,W6]
  all_goals first
   |exact nx
   |exact⟨_,rfl,rfl,λa e=>by cases e;exact o⟩
def Xlg(hN:NB N){h:Wk}(ht:HT h)(hp:Uy h){i:Int}(j:0<=i)(o:i<h.p.length)(l:List Int)(q:l.length<=4096)(f:∀a∈l,Iz h a)(g:∀a∈l,Qal N h a=some (hdA h.w a,0)):
 ∃a,Qey N h i l=some a/\∃b,Qga N h i l=some (b,a != 0):=by
 have⟨e,r,s,e3⟩:=Xe3 hN ht hp j o l q f g N 0 aa (by unfold NB at hN;omega);rw[Qey,Qga,show(0:Int)=((0:Nat):Int)from rfl,r,s,Xa,Xa];cases e with
 |ret a=>have:=(f a (e3 a rfl)).rng;simp only[exM,XA];exact⟨a,rfl,a,by rw[show(a != ((0:Nat):Int))=true by grind]⟩
 |nxt u=>simp[exM,Xo]
def Xhv{h:Wk}(e:(pg h.p 0).k≠3)(f:h.p.length<=100000):∀(n i:Nat),i<h.p.length->i<n->QeZ N h n (i:Int)=QcV N h n (i:Int)
 |0,i,_,g=>by omega
 |n+1,i,o,g=>by
  rw[QeZ,QcV,Xr aa aa,Xa,Xa];cases i with
  |zero=>grind
  |succ j=>rw[Wd aa,Wb,Xc aa aa,show((j+1:Nat):Int)-1=(j:Int) by omega,Xhv e f n j aa aa]
def Xni(hN:NB N){h:Wk}(hb:HB h)(hp:Uy h){i:Int}(e:0<=i)(f:i<h.p.length):Qg6 N h i=Qe6 N h i:=by
 obtain⟨k,rfl⟩:∃k:Nat,i=(k:Int):=⟨i.toNat,aa⟩
 have:=hb.2;rw[Qg6,Qe6,Xhv hp.first this N k aa (by unfold NB at hN;omega)]
def KB(h:Wk)(a:Int):Int:=if(hdA h.w a).k=0 then 1 else szA h.w a
def Xlh(h:Wk)(i:Int)(l:List Int)(k:Int):Bool:=l.any λa=>decide (a-Xd h.c i 0<=k/\k<a-Xd h.c i 0+KB h a)
def XjW(h:Wk)(hp:Uy h)(i:Int)(z:0<=i)(B:i<h.p.length)(l:List Int)(k:Nat)(a:Int)(A:l[k]? = some a)(x:Int)(D:x<=256)(E:4096<=a/\a<=8192):∀(n:Nat) (w:Int) (u:List Bool),0<=w->(x-w).toNat<n->u.length<=1000 ->
 ∃e,QbW N h i l (k:Int) x n w u=some e/\e.length=u.length/\∀j,j<u.length->e.getD j false=(u.getD j false||decide (a-Xd h.c i 0+w<=j/\(j:Int)<a-Xd h.c i 0+x))
 |0,w,u,_,G,_=>by omega
 |n+1,w,u,hw,G,K=>by
  have H:=hp.pages;have L:=Xj.1 hp.conf;have M:=XP hp.conf (i:=i) z aa;rw[QbW];by_cases f:w<x;case neg=>
   rw[XX f,Wa]
   exact⟨u,rfl,rfl,λj g=>by rw[XX (show¬_ by omega),Bool.or_false]⟩
  have O:Xd h.c i 0=4096+i*h.c.W:=by unfold Xd;omega
  rw[Wd f,Wb,Xf,A,Xa];rw[Xc (n:=a) aa aa,Xc (n:=a-4096) aa aa,Xc (n:=a-4096+w) aa aa,Xc (n:=i*h.c.W) aa aa,Xc (n:=a-4096+w-i*h.c.W) aa aa,Xc (n:=w+1) aa aa];generalize R:a-4096+w-i*h.c.W=q;have step:∀v:List Bool,v.length=u.length->(∀j,j<u.length->v.getD j false=(u.getD j false||decide ((j:Int)=q)))->∃e,QbW N h i l (k:Int) x n (w+1) v=some e/\e.length=u.length/\∀j,j<u.length->e.getD j false=(u.getD j false||decide (a-Xd h.c i 0+w<=j/\(j:Int)<a-Xd h.c i 0+x)):=by intro v o r;obtain⟨e,I,J,e3⟩:=XjW h hp i z B l k a A x D E n (w+1) v aa aa aa;refine⟨e,I,J.trans o,λj g=>?_⟩;rw[e3 j aa,r j g,Bool.or_assoc];congr 1;rw[←Bool.decide_or];exact decide_eq_decide.2 aa
  by_cases s:q>=0;case neg=>
   rw[XX s,Wa]
   exact step u rfl λj g=>by rw[XX (show¬(j:Int)=q by omega),Bool.or_false]
  rw[Wd s,Wb,Xb aa];by_cases y:q<u.length;case neg=>
   rw[XX y,Wa]
   exact step u rfl λj g=>by rw[XX (show¬(j:Int)=q by omega),Bool.or_false]
  rw[Wd y,Wb,Yd s y,Xa];refine step _ (by rw[WL]) λj g=>?_;rw[Wj,If];grind
end
section
variable {N:Nat}
def Xli(h:Wk)(i k a:Int):Bool:=decide (a-Xd h.c i 0<=k/\k<a-Xd h.c i 0+KB h a)
def XfY(h:Wk)(i:Int)(l:List Int)(k:Int):Xlh h i l k=l.any (Xli h i k):=rfl
def XfZ(h:Wk)(a:Int):1<=KB h a/\KB h a<=256:=by have:=XL h.w a;unfold KB;omega
def XjX(hN:NB N){h:Wk}(hp:Uy h)(i:Int)(y:0<=i)(z:i<h.p.length)(l:List Int)(D:l.length<=4096)(o:∀a∈l,Iz h a)(r:∀a∈l,Qal N h a=some (hdA h.w a,0)):∀(n k:Nat) (u:List Bool),k<=l.length->l.length-k<n->u.length<=1000 ->
 ∃s,Qdv N h i l n (k:Int) u=some s/\s.length=u.length/\∀j:Nat,j<u.length->s.getD j false=(u.getD j false||(l.drop k).any (Xli h i (j:Int)))
 |0,k,u,_,E,_=>by omega
 |n+1,k,u,L,E,G=>by
  have M:=Xj.1 hp.conf;have O:=XP hp.conf (i:=0) aa aa;have H:1000000<N:=by unfold NB at hN;omega
  rw[Qdv];by_cases f:k<l.length;case neg=>
   rw[Wg aa,Wa,Ub aa]
   exact⟨u,rfl,rfl,λj A=>ab⟩
  have g:=WG f;have R:=(o _ g).rng;have I:=XfZ h l[k];have v:=XL h.w l[k];have e:∀kk:Int->Option (List Bool),(jn kk λB=>bif ((hdA h.w l[k]).k==0)then B 1 else B (Xw (hdA h.w l[k])))=kk (KB h l[k]):=by
   intro kk;rw[Xs];unfold KB;rw[v.1];by_cases q:(hdA h.w l[k]).k=0
   .rw[Wm q,show((hdA h.w l[k]).k==0)=true by simpa using q,Wb]
   rw[Wi q,show((hdA h.w l[k]).k==0)=false by simpa using q,Wa]
  rw[Wd aa,Wb,Xf,Wc f,Xa,r _ g,Xa,XW,Xa];rw[e];have⟨J,f1,f2,K⟩:=XjW (N:=N) h hp i y z l k l[k] (Wc f) (KB h l[k]) I.2 aa N 0 u aa aa G;rw[f1,Xa,Xg aa];have⟨s,g1,g2,g3⟩:=XjX hN hp i y z l D o r n (k+1) J aa aa aa;refine⟨s,g1,g2.trans f2,λj A=>?_⟩;rw[g3 j aa,K j A,Bool.or_assoc,Wo f,List.any_cons];unfold Xli;simp
def XjY(hN:NB N){h:Wk}(hp:Uy h)(i:Int)(o:0<=i)(q:i<h.p.length)(l:List Int)(r:l.length<=4096)(e:∀a∈l,Iz h a)(f:∀a∈l,Qal N h a=some (hdA h.w a,0)):
 ∃u,Qg0 N h i l=some u/\u.length=h.c.W.toNat/\∀j:Nat,j<u.length->u.getD j false=Xlh h i l (j:Int):=by have v:=Xj.1 hp.conf;rw[Qg0,Xb aa,show(0:Int)=((0:Nat):Int)from rfl];have⟨u,s,g,e3⟩:=XjX hN hp i o q l r e f N 0 (List.replicate h.c.W.toNat false) aa (by unfold NB at hN;omega) (by grind);rw[s,Xa];rw[WY]at g e3;refine⟨u,rfl,g,λj y=>?_⟩;rw[e3 j aa,W4,XfY,show(List.replicate h.c.W.toNat false).getD j false=false by simp_all,In]
def wdP(h:Wk)(i:Int)(k:Nat):Int:=wd h.w (Xd h.c i 0+k)
def XpR(hN:NB N){h:Wk}(hb:HB h)(hp:Uy h){i:Int}(e:0<=i)(j:i<h.p.length){k:Nat}(o:(k:Int)<h.c.W):QfH N h i (k:Int)=some (wdP h i k):=by
 have f:=hp.pages;have q:=XP hp.conf (i:=i) e aa;rw[QfH,Qg1,ZT,hp.conf,Wi ab,Wm aa,Xa,Ye (by unfold BIG;have:=hb.1;omega),Xa,Xa];have g:Xd h.c i (k:Int)=Xd h.c i 0+k:=by unfold Xd;omega
 have hw:=hp.words;rw[g,Wm (by unfold inW Xd;omega)];rfl
def Xf0(hN:NB N){h:Wk}(hb:HB h)(hp:Uy h){i:Int}(g:0<=i)(q:i<h.p.length)(u:List Bool)(r:u.length=h.c.W.toNat):∀(n k:Nat),k<=u.length->u.length-k<n ->
 ∃e,QcW N h i u n (k:Int)=some e/\((∃j,k<=j/\j<u.length/\u.getD j false=false/\wdP h i j≠0)->∃a,e=.ret a/\a≠0)/\((¬∃j,k<=j/\j<u.length/\u.getD j false=false/\wdP h i j≠0)->e=.nxt ())
 |0,k,_,s=>by omega
 |n+1,k,D,s=>by
  have v:=hp.pages;have E:=XP hp.conf (i:=i) g aa;rw[QcW];by_cases f:k<u.length;case neg=>
   grind
  rw[Wd aa,Wb,Xf,Wc f,Xa,XpR hN hb hp g q aa,Xa,Xg aa];have G:u.getD k false=u[k]:=by rw[Wj,Wc f];rfl
  have skip:(u[k]=true\/wdP h i k=0)->∃e,QcW N h i u n ((k+1:Nat):Int)=some e/\((∃j,k<=j/\j<u.length/\u.getD j false=false/\wdP h i j≠0)->∃a,e=.ret a/\a≠0)/\((¬∃j,k<=j/\j<u.length/\u.getD j false=false/\wdP h i j≠0)->e=.nxt ()):=by
   intro H;obtain⟨e,y,z,e3⟩:=Xf0 hN hb hp g q u r n (k+1) aa aa;refine⟨e,y,λ⟨j,a,b,c,d⟩=>z ⟨j,?_,b,c,d⟩,λo=>e3 λ⟨j,a,b⟩=>o ⟨j,aa,b⟩⟩;by_cases A:j=k
   .simp_all
   omega
  cases I:u[k]with
  |true=>simp_all
  |false=>
   by_cases B:wdP h i k=0
   .simp_all
   rw[show(wdP h i k != 0)=true by simp_all,Wb,QfV,Xa];refine⟨_,rfl,λ_=>⟨_,rfl,?_⟩,λo=>absurd ⟨k,aa,f,by simp_all,B⟩ o⟩;rw[Xc (n:=i*h.c.W) aa aa,Xc (n:=4096+i*h.c.W) aa aa,Xc aa aa,Xp aa aa];omega
end
section
variable {N:Nat}
def K1(L x:Int):Int:=if L<(if x<0 then 0 else x)then L else(if x<0 then 0 else x)
def Xf1{v:List Int}{lo hi:Nat}(e:lo<=hi)(f:hi<=v.length):(((v.take lo)++(List.replicate (hi-lo) 0))++(v.drop (lo+(hi-lo)))).length=v.length:=by grind
def XjZ{v:List Int}{e f:Nat}(g:e<=f)(h:f<=v.length)(j:Nat):(((v.take e)++(List.replicate (f-e) 0))++(v.drop (e+(f-e)))).getD j 0=if e<=j/\j<f then 0 else v.getD j 0:=by grind
def Xhw(hN:NB N){h:Wk}(ht:HT h)(hp:Uy h)(i:Int)(z:0<=i)(E:i<h.p.length)(f:List Int×Int)(G:f.1.length<=4096)(o:∀a∈f.1,Iz h a)(s:∀a∈f.1,Qal N h a=some (hdA h.w a,0)):∀(n k:Nat) (v:List Int),k<=f.1.length->f.1.length-k<n->v.length<=1000 ->
 ∃u,Qeh N h (Xd h.c i 0,0) f n (k:Int) v=some u/\u.length=v.length/\∀j:Nat,j<v.length->u.getD j 0=if(f.1.drop k).any (Xli h i (j:Int))=true then 0 else v.getD j 0
 |0,k,v,_,H,_=>by omega
 |n+1,k,v,S,H,I=>by
  have J:=Xj.1 hp.conf;have K:=hp.pages;have T:=XP hp.conf (i:=i) z aa;have L:1000000<N:=by unfold NB at hN;omega
  rw[Qeh];by_cases r:k<f.1.length;case neg=>
   rw[Wg aa,Wa,Ub aa]
   exact⟨v,rfl,rfl,λj B=>ab⟩
  have g:=WG r;have U:=(o _ g).rng;have V:=XfZ h f.1[k];have y:=XL h.w f.1[k];have e:∀kk:Int->Option (List Int),(jn kk λD=>bif ((hdA h.w f.1[k]).k != 0)then(bnd (some (Xw (hdA h.w f.1[k]))) λM=>D M)else D 1)=kk (KB h f.1[k]):=by
   intro kk;rw[Xs];unfold KB;rw[y.1];by_cases q:(hdA h.w f.1[k]).k=0
   .rw[Wm q,show((hdA h.w f.1[k]).k != 0)=false by simpa using q,Wa]
   rw[Wi q,show((hdA h.w f.1[k]).k != 0)=true by simpa using q,Wb,Xa]
  rw[Wd (show(k:Int)<(f.1.length:Int) by omega),Wb,Xf,Wc r,Xa,Xa0 hN ht ((o _ g).tu hp),s _ g,Xa,Y1 aa];rw[e];have Y:Xd h.c i 0=4096+i*h.c.W:=by unfold Xd;omega
  have w0:wI f.1[k]=f.1[k]:=Xc aa aa;have w1:wI (Xd h.c i 0)=Xd h.c i 0:=Xc aa aa;have w2:wI (f.1[k]-Xd h.c i 0)=f.1[k]-Xd h.c i 0:=Xc aa aa;have O:wI (f.1[k]-Xd h.c i 0+KB h f.1[k])=f.1[k]-Xd h.c i 0+KB h f.1[k]:=Xc aa aa;simp only[w0,w1,w2,O,Xg (show k<=140737488355328 by omega)];rw[Xb aa,Xb aa];have cl:∀x:Int,(if(v.length:Int)<(if x<0 then 0 else x)then(v.length:Int)else(if x<0 then 0 else x))=K1 v.length x:=λ_=>rfl;have c1:∀x:Int,0<=K1 v.length x/\K1 v.length x<=v.length:=by intro x;unfold K1;split<;>split<;>omega
  generalize R:f.1[k]-Xd h.c i 0=A at *;have Z:=c1 A;have a2:=c1 (A+KB h f.1[k]);have a3:K1 v.length A<=K1 v.length (A+KB h f.1[k]):=by
   unfold K1;repeat' split
   all_goals omega
  rw[Xb aa];obtain⟨u,g1,g2,g3⟩:=Xhw hN ht hp i z E f G o s n (k+1) _ aa aa (by rw[Xf1 (v:=v) (lo:=(K1 v.length A).toNat) (hi:=(K1 v.length (A+KB h f.1[k])).toNat) aa aa];exact I);refine⟨u,g1,by rw[g2,Xf1 aa aa],λj B=>?_⟩;rw[g3 j (by rw[Xf1 aa aa];exact B),XjZ aa aa,Wo r,List.any_cons];have ec:Xli h i (j:Int) f.1[k]=decide ((K1 v.length A).toNat<=j/\j<(K1 v.length (A+KB h f.1[k])).toNat):=by
   unfold Xli;rw[R];refine decide_eq_decide.2 ?_;unfold K1;repeat' split
   all_goals omega
  grind
def XpS(l:List Int)(f:l.length<=1000000)(hN:1000000<N):Qbs N l=some (Zv (λx=>x != 0) l):=by
 exact JR (p:=λx:Int=>x != 0) f hN (λn k x e=>by
  have g:=XG e
  rw[QaB,Xn g,Wb,Xf,e,Xa,Qg7,Xa,Xg aa]) (λn=>by rw[QaB,XI,Wa])
def Xnj(hN:NB N){h:Wk}(ht:HT h)(ep:Qab N h=some true){i:Int}(q:0<=i)(s:i<h.p.length):
 ∃a,Qer N h i=some a/\∃b,Qgx N h i=some (b,a != 0):=by
 have G:1000000<N:=by unfold NB at hN;omega
 have hb:=ht.hb;have hp:=XJ hN hb ep;have V:=Xj.1 hp.conf;have Y:=hp.pages;have hm:=XP hp.conf (i:=i) q aa;have ad:Xd h.c i 0=4096+i*h.c.W:=by unfold Xd;omega
 have hw:=hp.words;have⟨pw,H⟩:∃pw:Nat,h.c.W=(pw:Int):=⟨h.c.W.toNat,aa⟩
 have y:YA h.w (Xd h.c i 0) pw:=by unfold YA;omega
 have erd:Qdg N h.w (Xd h.c i 0) h.c.W=some ((h.w.drop (ix (Xd h.c i 0))).take pw,0):=by rw[H,XcF (by unfold BIG;omega) N _ pw aa,Wm y]
 have eadr:QbE N h.c i 0=some (Xd h.c i 0,0):=by rw[ZT,hp.conf,Wi ab,Wm aa]
 have I:Xd h.c i 0<=18446744073709551615:=aa;have⟨hd,Z,J,K⟩:=XfI N (h:=h) hp.first N i q s hb.2 aa;have z:Qe6 N h i=some hd:=by rw[Qe6,Z,Xa]
 have⟨r,S,hr,T⟩:=QfT hN hb hp hd J K;have⟨⟨A,B,_⟩,_,_⟩:=hr;have⟨u,eu,L,M⟩:=XjY hN hp i q s r.1 aa A B;have⟨e,e1,U,e3⟩:=Xf0 hN hb hp q s u L N 0 aa aa;rw[Qer,z,Xa,S,Xa,eu,Xa,show(0:Int)=((0:Nat):Int)from rfl,e1,Xa];rw[Qgx,V9,eadr,Xa,Xnh aa I];rw[erd,Xa,Xni hN hb hp q s,z,Xa,XdQ hN ht,S,Xa];have hvl:((h.w.drop (ix (Xd h.c i 0))).take pw).length=pw:=by rw[Wl,Wn];unfold ix;unfold YA at y;omega
 have⟨v,g1,g2,g3⟩:=Xhw hN ht hp i q s r aa A B N 0 ((h.w.drop (ix (Xd h.c i 0))).take pw) aa aa aa;have O:Qeh N h (Xd h.c i 0,0) r N 0 ((h.w.drop (ix (Xd h.c i 0))).take pw)=some v:=g1;have hul:u.length=pw:=by clear U e3;omega
 rw[O,Xa,XpS v aa G,Xa];have D:decide (Zv (λx=>x != 0) v>=0)=v.any (λx=>x != 0):=KL _ v;rw[D];have f:∀j,j<pw->((h.w.drop (ix (Xd h.c i 0))).take pw).getD j 0=wdP h i j:=by intro j E;unfold wdP wd ix;rw[Wj,Us,Wm E,UK,Wj];congr 2;omega
 have iff1:v.any (λx=>x != 0)=true↔∃j,0<=j/\j<u.length/\u.getD j false=false/\wdP h i j≠0:=by
  rw[Oh];constructor
  .rintro⟨x,hx,hx0⟩;obtain⟨j,E,rfl⟩:=WE hx;have g:j<pw:=aa;have:=g3 j aa;rw[Wj,Wc E,Ia,f j g,W4,←XfY]at this;grind
  rintro⟨j,_,E,hc,hz⟩;have g:j<v.length:=aa;refine⟨v[j],WG g,?_⟩;have:=g3 j aa;rw[Wj,Wc g,Ia,f j aa,W4,←XfY,←M j E,hc,Wi ab]at this;grind
 by_cases o:∃j,0<=j/\j<u.length/\u.getD j false=false/\wdP h i j≠0
 .obtain⟨a,rfl,ha⟩:=U o;rw[XA,iff1.2 o];simp_all
 have R:=e3 o;subst R;rw[Xo,show v.any (λx=>x != 0)=false by rw[←IT];exactλhh=>o (iff1.1 hh)];simp
end
def Vy{α β:Type}{L:Nat}{F:Nat->Int->Option (Ex α β)}{p:Nat->Prop}{Q:α->Prop}{u:β}(f:∀n k,k<L->p k->∃a,F (n+1) (k:Int)=some (.ret a)/\Q a)(o:∀n k,k<L->¬p k->F (n+1) (k:Int)=F n ((k+1:Nat):Int))(g:∀n,F (n+1) (L:Int)=some (.nxt u)):∀(n k:Nat),k<=L->L-k<n ->
 ∃e,F n (k:Int)=some e/\((∃j,k<=j/\j<L/\p j)->∃a,e=.ret a/\Q a)/\((¬∃j,k<=j/\j<L/\p j)->e=.nxt u)
 |0,k,_,r=>by omega
 |n+1,k,z,r=>by
  by_cases h:k<L;case neg=>
   grind
  by_cases hp:p k
  .have⟨a,e,s⟩:=f n k h hp;exact⟨_,e,λ_=>⟨a,rfl,s⟩,λq=>absurd ⟨k,Uo _,h,hp⟩ q⟩
  have⟨e,v,y,e3⟩:=Vy f o g n (k+1) aa aa;refine⟨e,(o n k h hp).trans v,λ⟨j,a,b,c⟩=>y ⟨j,?_,b,c⟩,λq=>e3 λ⟨j,a,b⟩=>q ⟨j,aa,b⟩⟩;grind
section
variable {N:Nat}
def Xnk(l:List Int)(x:Int)(o:l.length<=1000000)(g:l.Pairwise (·<·)):∀(n e hi:Nat),e<=hi->hi<=l.length->hi-e<n->(∀i(h:i<l.length),i<e->l[i]<x)->(∀i(h:i<l.length),hi<=i->x<=l[i]) ->
 ∃k:Nat,Qat N l x n (e:Int) (hi:Int)=some (k:Int)/\k<=l.length/\(∀i(h:i<l.length),i<k->l[i]<x)/\(∀i(h:i<l.length),k<=i->x<=l[i])
 |0,e,hi,_,_,q,_,_=>by omega
 |n+1,e,hi,A,r,q,s,hb=>by
  rw[Qat];by_cases u:e<hi;case neg=>
   grind
  have f:wI (YO .u64 (wU (wI ((e:Int)+hi))) 1)=(((e+hi) / 2:Nat):Int):=by rw[Xc (n:=(e:Int)+hi) aa aa,Xp aa aa,show YO .u64 ((e:Int)+hi) 1=((e:Int)+hi) / 2 from YP _ 1 aa aa,Xc aa aa];omega
  have v:(e+hi) / 2<l.length:=aa;have y:e<=(e+hi) / 2/\(e+hi) / 2<hi:=aa;generalize (e+hi) / 2=m at *;rw[Wd aa,Wb,f,Xf,Wc v,Xa,Qgh,QeM,Xa,show(l[m] != l[m])=false by simp,Wa,Xa];have z:=Un.1 g;by_cases p:l[m]<x
  .rw[Wd p,Wb,Xg aa];refine Xnk l x o g n (m+1) hi aa r aa (λi h j=>?_) hb;grind
  rw[Wg p,Wa];refine Xnk l x o g n e m aa aa aa s (λi h j=>?_);grind
def Xnl(l:List Int)(x:Int)(v:l.length<=1000000)(hN:1000000<N)(r:l.Pairwise (·<·)):∃k:Int,QaE N l x=some (k,l.contains x):=by
 have⟨k,e,z,s,y⟩:=Xnk (N:=N) l x v r N 0 l.length aa aa aa (λi h g=>aa) (λi h g=>aa);rw[QaE,show(0:Int)=((0:Nat):Int)from rfl,e,Xa];by_cases f:k<l.length
 .rw[Wd aa,Wb,Xf,Wc f,Xa];by_cases u:l[k]=x
  .refine⟨k,?_⟩;grind
  refine⟨k,?_⟩;rw[show(l[k]==x)=false by simpa using u,Wa,Xa,QdB,Xa,show(l[k] != l[k])=false by simp,Wa];have:l.contains x=false:=by
   rw[←IT,Ik];intro j;obtain⟨i,g,rfl⟩:=WE j;have o:=Un.1 r;by_cases p:i<k
   .have:=s i g p;omega
   have a:=y k f (Uo _);by_cases q:i=k
   .subst q;exact u rfl
   have:=o k i f g aa;omega
  grind
 refine⟨k,?_⟩;have:l.contains x=false:=by rw[←IT,Ik];intro j;obtain⟨i,g,rfl⟩:=WE j;have:=s i g aa;omega
 grind
def OG.asc{h:Wk}{l:List Int}(o:OG N h l):l.Pairwise (·<·):=
 o.pw.imp λ{a b} e=>by have:=(XL h.w a).2;omega
def XaO{d:Wv}:∀{k:Nat} {i x:Int},i<=x->x<i+k->KI d x=true->x∈YC d k i
 |0,i,x,e,f,_=>by omega
 |k+1,i,x,e,f,g=>by
  simp only[YC,Wt];by_cases h:x=i
  .simp_all
  right;exact XaO aa aa g
def Vf{d:Wv}(e:XN d=true){x:Int}:x∈X5 d↔0<=x/\x<d.n/\KI d x=true:=by
 unfold X5;rw[Wm e];constructor
 .intro h;have:=K8 h;grind
 intro h;exact XaO aa aa h.2.2
end
section
variable {N:Nat}
def XrQ(h:Wk)(l:List Int)(a i:Int):Prop:=wd h.w (a+1+i)≠0/\l.contains (wd h.w (a+1+i))=false
def XaH(h:Wk)(l:List Int)(a:Int):Prop:=∃i,i∈X5 (hdA h.w a)/\XrQ h l a i
def Jq(h:Wk)(a:Int):XN (hdA h.w a)=true:=Kc _
def XpT{h:Wk}(hp:Uy h){a:Int}(e:Iz h a){i:Int}(f:0<=i)(g:i<(hdA h.w a).n):4096<=a+1+i/\a+1+i<4096+h.w.length/\a+1+i<=8192/\(hdA h.w a).n<=255:=by have:=Ks hp e;have:=e.rng;have:=XL h.w a;have j:=Xj.1 hp.conf;have:=XP hp.conf (i:=0) aa aa;have:=hp.words;unfold szA at *;omega
def Xs2(hN:NB N){h:Wk}(ht:HT h)(hp:Uy h)(f:List Int×Int)(O:f.1.length<=1000000)(R:f.1.Pairwise (·<·))(s:Int){a:Int}(J:Iz h a):
 ∃e,QaS N h f s a (X5 (hdA h.w a)) N 0=some e/\(XaH h f.1 a->∃b,e=.ret b/\b≠0)/\(¬XaH h f.1 a->e=.nxt ()):=by
 have z:1000000<N:=by unfold NB at hN;omega
 have hb:=ht.hb;have A:=Jq h a;have B:=XO A;have S:(X5 (hdA h.w a)).length<=255:=by unfold X5;rw[Wm A];have:=Vs (d:=hdA h.w a) (k:=(hdA h.w a).n.toNat) (i:=0);omega
 have v:∀k(g:k<(X5 (hdA h.w a)).length),0<=(X5 (hdA h.w a))[k]/\(X5 (hdA h.w a))[k]<(hdA h.w a).n:=λk g=>by have:=(Vf A).1 (WG g);omega
 generalize D:X5 (hdA h.w a)=ps at *;have Z:=J.rng;have step:∀n k(g:k<ps.length),QaS N h f s a ps (n+1) (k:Int)=bif (wd h.w (a+1+ps[k]) != 0)then(bif (!f.1.contains (wd h.w (a+1+ps[k])))then some (.ret (a+1+ps[k]))else QaS N h f s a ps n ((k+1:Nat):Int))else QaS N h f s a ps n ((k+1:Nat):Int):=by
  intro n k g;have K:=v k g;have hf:=XpT hp J K.1 K.2;have T:(h.w.length:Int)<=100000:=by have:=hb.1;omega
  have w1:wU (wU (a+1)+wU ps[k])=a+1+ps[k]:=by rw[Xp (n:=a+1) aa aa,Xp (n:=ps[k]) aa aa,Xp aa aa]
  rw[QaS,Wd aa,Wb,Xf,Wc g,Xa,w1,XdN aa aa,Ye (by unfold BIG;omega),Wm (by unfold inW;omega),Xa];dsimp only;obtain⟨q,eq⟩:=Xnl (N:=N) f.1 (h.w.getD (ix (a+1+ps[k])) 0) O z R;rw[eq,Xa,Xg aa];rfl
 have key:=Vy (L:=ps.length) (F:=QaS N h f s a ps) (p:=λk=>∃g:k<ps.length,XrQ h f.1 a ps[k]) (Q:=λb=>b≠0) (u:=())
  (λn k g y=>by
   obtain⟨U,E,G⟩:=y
   refine⟨a+1+ps[k],?_,?_⟩
   .rw[step n k g,show(wd h.w (a+1+ps[k]) != 0)=true by simpa using E,Wb,G];rfl
   grind)
  (λn k g H=>by
   rw[step n k g]
   by_cases E:wd h.w (a+1+ps[k])=0
   .simp_all
   .rw[show(wd h.w (a+1+ps[k]) != 0)=true by simp_all,Wb]
    cases G:f.1.contains (wd h.w (a+1+ps[k]))with
    |true=>rfl
    |false=>exact absurd ⟨g,E,G⟩ H)
  (λn=>by rw[QaS,Wg aa,Wa]) N 0 aa aa
 have⟨e,V,W,e3⟩:=key;refine⟨e,V,λo=>?_,λo=>?_⟩
 .have⟨i,M,r⟩:=o;rw[D]at M;obtain⟨j,I,rfl⟩:=WE M;exact W ⟨j,Om _,I,I,r⟩
 refine e3 λ⟨j,_,I,Y,r⟩=>o ⟨ps[j],?_,r⟩;simp_all
def XqP(hN:NB N){h:Wk}(ht:HT h)(hp:Uy h)(f:List Int×Int)(s:f.1.length<=1000000)(u:f.1.Pairwise (·<·))(g:∀a∈f.1,Iz h a)(o:∀a∈f.1,Qal N h a=some (hdA h.w a,0)):∀(n k:Nat),k<=f.1.length->f.1.length-k<n ->
 ∃r,QcB N h f n (k:Int)=some r/\((∃a∈f.1.drop k,XaH h f.1 a)->r≠0)/\((¬∃a∈f.1.drop k,XaH h f.1 a)->r=0)
 |0,k,_,v=>by omega
 |n+1,k,A,v=>by
  have y:1000000<N:=by unfold NB at hN;omega
  rw[QcB];by_cases j:k<f.1.length;case neg=>
   grind
  have p:=WG j;rw[Wd aa,Wb,Xf,Wc j,Xa,Xa0 hN ht ((g _ p).tu hp),o _ p,Xa,XeZ aa _ (Jq h _),Xa];have⟨e,z,B,e3⟩:=Xs2 hN ht hp f s u (k:Int) (g _ p);rw[z,Xa,Wo j];by_cases q:XaH h f.1 f.1[k]
  .grind[XA]
  have:=e3 q;subst this;rw[Xo,Xg aa];have⟨r,D,E,G⟩:=XqP hN ht hp f s u g o n (k+1) aa aa;grind
def Xf2(hN:NB N){h:Wk}(hb:HB h)(ep:Qab N h=some true){a:Int}(f:Iz h a)(e:Qal N h a=some (hdA h.w a,0))(g:(hdA h.w a).k≠0):Qca N h a=some (hdA h.w a,0):=by have:=f.rng;rw[Qca,ep,Xa,Wh,Wa,show(a==0)=false by simp;omega,Wa,e,Xa];grind
def Xlj(hN:NB N){h:Wk}(hb:HB h)(ep:Qab N h=some true){a:Int}(f:Iz h a)(g:Qal N h a=some (hdA h.w a,0))(p:(hdA h.w a).k≠0):∃l,Qfv N h a=some (l,0)/\(l.length:Int)=(hdA h.w a).n/\∀(j:Nat) (q:j<l.length),l[j]=wd h.w (a+1+j):=by
 have hp:=XJ hN hb ep;have r:=XO (Jq h a);have s:=f.rng;have e:=Ks hp f;have u:=XP hp.conf (i:=0) aa (by have:=Xj.1 hp.conf;omega);have hw:=hp.words;unfold szA at e;have⟨m,o⟩:∃m:Nat,(hdA h.w a).n=(m:Int):=⟨(hdA h.w a).n.toNat,aa⟩
 rw[Qfv,Xf2 hN hb ep f g p,Xa];rw[show((0:Int) != 0)=false from rfl,Wa,Xp (n:=a+1) aa aa,o,XcF (by unfold BIG;omega) N _ m aa,Wm (by unfold YA;omega),Xa];refine⟨_,rfl,?_,λj q=>?_⟩
 .rw[Wl,Wn];unfold ix;omega
 rw[Ir,IO];unfold wd;rw[Wj,show ix (a+1+(j:Int))=ix (a+1)+j by unfold ix;omega,Wc (by grind)];rfl
end
section
variable {N:Nat}
def Xs3(hN:NB N){h:Wk}(hb:HB h)(hp:Uy h)(g o:List Int×Int)(V:g.1.length<=1000000)(q:Int){a:Int}(z:Xe g.1 q=some a)(W:Iz h a)(Y:(o.1.length:Int)=(hdA h.w a).n)(K:∀(j:Nat) (M:j<o.1.length),o.1[j]=wd h.w (a+1+j)):
 ∃e,QaC N h g o q (hdA h.w a,0) N 0=some e/\(XaH h g.1 a->∃f,e=.ret f/\f.Fault≠0)/\(¬XaH h g.1 a->e=.nxt ()):=by
 have O:1000000<N:=by unfold NB at hN;omega
 have A:=Jq h a;have B:=XO A;have step:∀n k(r:k<o.1.length),QaC N h g o q (hdA h.w a,0) (n+1) (k:Int)=bif KI (hdA h.w a) (k:Int)then(bif (wd h.w (a+1+k) != 0)then(bif (!g.1.contains (wd h.w (a+1+k)))then(bnd (Qch N h.c (wU ((wU (a+1))+(wU (k:Int))))) λD=>some (.ret (Ur.mk 6 D.1 (wU ((wU (a+1))+(wU (k:Int)))))))else QaC N h g o q (hdA h.w a,0) n ((k+1:Nat):Int))else QaC N h g o q (hdA h.w a,0) n ((k+1:Nat):Int))else QaC N h g o q (hdA h.w a,0) n ((k+1:Nat):Int):=by intro n k r;rw[QaC,Wd aa,Wb,KP,Xa,Xf,Wc r,K k r,Xg aa];simp only[Xa,Yx (wd h.w (a+1+(k:Int))) (show g.1.length<=1000000000 by omega) (show g.1.length<N by omega),z]
 have key:=Vy (L:=o.1.length) (F:=QaC N h g o q (hdA h.w a,0)) (p:=λk=>KI (hdA h.w a) (k:Int)=true/\XrQ h g.1 a (k:Int)) (Q:=λf=>f.Fault≠0) (u:=())
  (λn k r y=>by
   obtain⟨E,G,H⟩:=y
   rw[step n k r,E,Wb,show(wd h.w (a+1+(k:Int)) != 0)=true by simpa using G,Wb,H,W6,Wb,K5,Xa]
   simp)
  (λn k r I=>by
   rw[step n k r]
   cases E:KI (hdA h.w a) (k:Int)with
   |false=>rfl
   |true=>
   rw[Wb]
   by_cases G:wd h.w (a+1+(k:Int))=0
   .simp_all
   .rw[show(wd h.w (a+1+(k:Int)) != 0)=true by simp_all,Wb]
    cases H:g.1.contains (wd h.w (a+1+(k:Int)))with
    |true=>rfl
    |false=>exact absurd ⟨E,G,H⟩ I)
  (λn=>by rw[QaC,Wg aa,Wa]) N 0 aa aa
 have⟨e,R,S,e3⟩:=key;refine⟨e,R,λs=>?_,λs=>?_⟩
 .have⟨i,T,v⟩:=s;have U:=(Vf A).1 T;obtain⟨j,rfl⟩:∃j:Nat,i=(j:Int):=⟨i.toNat,aa⟩
  exact S ⟨j,Om _,aa,U.2.2,v⟩
 exact e3 λ⟨j,_,M,J,v⟩=>s ⟨(j:Int),(Vf A).2 ⟨aa,aa,J⟩,v⟩
def Xnm(hN:NB N){h:Wk}(hb:HB h)(ep:Qab N h=some true)(g:List Int×Int)(v:g.1.length<=1000000)(j:∀a∈g.1,Iz h a)(o:∀a∈g.1,Qal N h a=some (hdA h.w a,0))(p:∀a∈g.1,(hdA h.w a).k≠0):∀(n k:Nat),k<=g.1.length->g.1.length-k<n ->
 ∃e,QbB N h g n (k:Int)=some e/\((∃a∈g.1.drop k,XaH h g.1 a)->∃f,e=.ret f/\f.Fault≠0)/\((¬∃a∈g.1.drop k,XaH h g.1 a)->e=.nxt ())
 |0,k,_,z=>by omega
 |n+1,k,D,z=>by
  have hp:=XJ hN hb ep;rw[QbB];by_cases q:k<g.1.length;case neg=>
   grind
  have s:=WG q;have y:Xe g.1 (k:Int)=some g.1[k]:=by rw[Xf,Wc q]
  have⟨l,f1,f2,A⟩:=Xlj hN hb ep (j _ s) (o _ s) (p _ s);rw[Wd aa,Wb,y,Xa,Xf2 hN hb ep (j _ s) (o _ s) (p _ s),Xa,Xa,f1,Xa];have⟨e,B,E,e3⟩:=Xs3 hN hb hp g (l,0) v (k:Int) y (j _ s) f2 A;rw[B,Xa,Wo q];by_cases u:XaH h g.1 g.1[k]
  .grind[XA]
  have:=e3 u;subst this;rw[Xo,Xg aa];have⟨r,G,H,I⟩:=Xnm hN hb ep g v j o p n (k+1) aa aa;grind
def KR(hN:NB N){h:Wk}(hb:HB h):∃y,Qap N h=some y/\y.1.length<=4096/\y.1.Pairwise (·<·)/\(∀a∈y.1,Iz h a)/\(∀a∈y.1,Qal N h a=some (hdA h.w a,0))/\(∀a∈y.1,(hdA h.w a).k≠0):=by have⟨y,e,f,_,_⟩:=KK hN hb;refine⟨y,e,f.len,f.obj.asc,f.obj.at_,f.obj.ev,?_⟩;have⟨r,o,g,_,_⟩:=J8 hN hb;have j:=g.len;rw[Qap,o,Xa,show(0:Int)=((0:Nat):Int)from rfl,Xaz r aa g.obj.ev N 0 [] aa (by unfold NB at hN;omega) ab,Xa,W4,Ue]at e;cases e;intro a p;have:=(W8.1 p).2;simp_all[Y8,fnd]
def zF:Ur:=⟨0,0,0⟩
def XpU(P:Prop)(o:Option Ur):Prop:=∃f,o=some f/\(P->f.Fault≠0)/\(¬P->f=zF)
def Xhx(hN:NB N){h:Wk}(ht:HT h)(ep:Qab N h=some true){y:List Int×Int}(z:Qap N h=some y):XpU (∃a∈y.1,XaH h y.1 a) (QfA N h)/\XpU (∃a∈y.1,XaH h y.1 a) (QdF N h):=by
 have hb:=ht.hb;have hp:=XJ hN hb ep;have⟨J,s,K,G,u,v,A⟩:=KR hN hb;rw[z]at s;cases s;have D:y.1.length<N:=by unfold NB at hN;omega
 constructor
 .have⟨r,B,E,e3⟩:=XqP hN ht hp y aa G u v N 0 aa aa;rw[QfA,JK hN ht,z,Xa];have j:QcB N h y N 0=some r:=B;rw[j,Xa];by_cases g:∃a∈y.1,XaH h y.1 a
  .rw[show(r==0)=false by simp_all,Wa];have:∃q,Qcy N h.c r=some q:=by
    rw[Qcy,Jp,Xa];cases H:X9 h.c with
    |false=>simp
    |true=>
     have:=Xj.1 H;rw[Wh,Wa];cases decide (r<4096)
     .rw[Wa];cases decide (wU (r-4096)>=wU (wI (h.c.W*h.c.p)))
      .rw[Wa,Xb aa,Xb aa];exact⟨_,rfl⟩
      exact⟨_,rfl⟩
     simp
   have⟨q,eq⟩:=this;rw[eq,Xa];exact⟨_,rfl,λ_=>ab,λo=>absurd g o⟩
  rw[e3 g];exact⟨_,rfl,λo=>absurd o g,λ_=>rfl⟩
 have⟨e,B,E,e3⟩:=Xnm hN hb ep y aa u v A N 0 aa aa;rw[QdF,z,Xa];have j:QbB N h y N 0=some e:=B;rw[j,Xa];by_cases g:∃a∈y.1,XaH h y.1 a
 .obtain⟨f,rfl,I⟩:=E g;rw[XA];exact⟨_,rfl,λ_=>I,λo=>absurd g o⟩
 rw[e3 g,Xo];exact⟨_,rfl,λo=>absurd o g,λ_=>rfl⟩
end
section
variable {N:Nat}
def Xf3(hN:NB N){h:Wk}(ht:HT h)(ep:Qab N h=some true){i:Nat}(S:i<h.p.length):
 ∃f,Qes N h (i:Int)=some f/\((f.Fault≠0/\∀n,∃u,Qa9 N h (n+1) (i:Int)=some (.ret u)/\u.Fault≠0)\/(f.Fault=0/\∀n,Qa9 N h (n+1) (i:Int)=Qa9 N h n ((i+1:Nat):Int))):=by
 have hb:=ht.hb;have hp:=XJ hN hb ep;have I:h.p.length<=100000:=hb.2;have v:Xe h.p (i:Int)=some (pg h.p (i:Int)):=Xr aa aa;have g:∀n,Qa9 N h (n+1) (i:Int)=jn (λ(_:Unit)=>
  bnd (Qfc N h (i:Int)) λz=>
  bif (z.2 != 0)then some (.ret (Ur.mk 3 (i:Int) 0))
  else bnd (Qga N h (i:Int) z.1) λA=>
  bif A.2 then some (.ret (Ur.mk 5 (i:Int) A.1))
  else bnd (Qgx N h (i:Int)) λB=>
  bif B.2 then some (.ret (Ur.mk 4 (i:Int) B.1))
  else Qa9 N h n ((i+1:Nat):Int)) λD=>
  bif ((pg h.p (i:Int)).k != 0)then(bif ((pg h.p (i:Int)).s != h.s)then some (.ret (Ur.mk 2 (i:Int) 0))
   else D ())
  else D ():=by
  intro n
  rw[Qa9,Wd aa,Wb,v,Xa,Xg aa]
 simp only[g,Xs];rw[Qes,Xs,v];simp only[Xa];by_cases e:(pg h.p (i:Int)).k≠0/\(pg h.p (i:Int)).s≠h.s
 .rw[show((pg h.p (i:Int)).k != 0)=true by simpa using e.1,show((pg h.p (i:Int)).s != h.s)=true by simpa using e.2];exact⟨_,rfl,.inl ⟨by show(2:Int)≠0;omega,λn=>⟨_,rfl,by show(2:Int)≠0;omega⟩⟩⟩
 have J:∀{α:Type} (x y:α),(bif ((pg h.p (i:Int)).k != 0)then(bif ((pg h.p (i:Int)).s != h.s)then x else y)else y)=y:=by
  intro α x y;by_cases k0:(pg h.p (i:Int)).k=0
  .rw[show((pg h.p (i:Int)).k != 0)=false by simpa using k0,Wa]
  have:(pg h.p (i:Int)).s=h.s:=Classical.byContradiction λK=>e ⟨k0,K⟩;rw[show((pg h.p (i:Int)).s != h.s)=false by simpa using this,Wa,Bool.cond_self]
 simp only[J];have⟨r,L,M,E⟩:=QfT hN hb hp (i:Int) aa aa;simp only[XdQ hN ht,L,Xa];by_cases G:r.2=0;case neg=>
  rw[show(r.2 != 0)=true by simpa using G]
  exact⟨_,rfl,.inl ⟨by show(3:Int)≠0;omega,λn=>⟨_,rfl,by show(3:Int)≠0;omega⟩⟩⟩
 rw[show(r.2 != 0)=false by simpa using G];have⟨⟨j,o,_⟩,_,_⟩:=M;have⟨a,O,b,eb⟩:=Xlg hN ht hp (i:=(i:Int)) aa aa r.1 aa j o;simp only[O,eb,Xa];by_cases H:a=0;case neg=>
  rw[show(a != 0)=true by simpa using H]
  exact⟨_,rfl,.inl ⟨by show(5:Int)≠0;omega,λn=>⟨_,rfl,by show(5:Int)≠0;omega⟩⟩⟩
 rw[show(a != 0)=false by simpa using H];have⟨d,R,T,q⟩:=Xnj hN ht ep (i:=(i:Int)) aa aa;simp only[R,q,Xa];by_cases hd:d=0;case neg=>
  rw[show(d != 0)=true by simpa using hd]
  exact⟨_,rfl,.inl ⟨by show(4:Int)≠0;omega,λn=>⟨_,rfl,by show(4:Int)≠0;omega⟩⟩⟩
 simp_all
def Xnn(hN:NB N){h:Wk}(ht:HT h)(ep:Qab N h=some true):∃P:Prop,XpU P (QgH N h)/\∃e,Qbk N h N 0=some e/\(P->∃f,e=.ret f/\f.Fault≠0)/\(¬P->e=.nxt ()):=by
 have hb:=ht.hb;have E:h.p.length<=100000:=hb.2;have A:h.p.length<N:=by unfold NB at hN;omega
 let p:Nat->Prop:=λk=>∃f,Qes N h (k:Int)=some f/\f.Fault≠0;refine⟨∃j,0<=j/\j<h.p.length/\p j,?_,?_⟩
 .have key:=Vy (L:=h.p.length) (F:=Qa9 N h) (p:=p) (Q:=λ f=>f.Fault≠0) (u:=())
   (λn k q g=>by
    obtain⟨f,B,v⟩:=g
    obtain⟨f2,o,r⟩:=Xf3 hN ht ep q
    simp_all)
   (λn k q s=>by
    obtain⟨f2,o,r⟩:=Xf3 hN ht ep q
    grind)
   (λn=>by rw[Qa9,Wg aa,Wa]) N 0 aa aa
  have⟨e,G,I,e3⟩:=key;have y:Qa9 N h N 0=some e:=G;unfold XpU;rw[QgH,y,Xa];by_cases D:∃j,0<=j/\j<h.p.length/\p j
  .grind[XA]
  rw[e3 D,Xo];exact⟨_,rfl,λz=>absurd z D,λ_=>rfl⟩
 have key:=Vy (L:=h.p.length) (F:=Qbk N h) (p:=p) (Q:=λ f=>f.Fault≠0) (u:=())
  (λn k q g=>by
   have⟨f,B,v⟩:=g
   rw[Qbk,Wd aa,Wb,B,Xa,show(f.Fault != 0)=true by simpa using v]
   exact⟨f,rfl,v⟩)
  (λn k q s=>by
   have⟨f2,o,r⟩:=Xf3 hN ht ep q
   have H:f2.Fault=0:=Classical.byContradiction λz=>s ⟨f2,o,z⟩
   rw[Qbk,Wd aa,Wb,o,Xa,show(f2.Fault != 0)=false by simpa using H,Wa,Xg aa])
  (λn=>by rw[Qbk,Wg aa,Wa]) N 0 aa aa
 omega
def Xf4{f:Ur}(e:f.Fault≠0):((f.Fault==0)&&((f.Page==0)&&(f.Addr==0)))=false:=by simp_all
def XdR(hN:NB N){h:Wk}(ht:HT h):QfO N h=Qbe N h:=by
 have hb:=ht.hb;have s:h.p.length<=100000:=hb.2;rw[QfO,Qbe,Qhh,Qfi,Yc s (by unfold NB at hN;omega)];have⟨b,eb⟩:=ZU (N:=N) hN hb;simp only[eb,Xa];cases b with
 |false=>rfl
 |true=>
 rw[Wh,Wa,Wa];have⟨P,⟨f,E,u,v⟩,e,G,H,e3⟩:=Xnn hN ht eb;have⟨y,I,_⟩:=KR hN hb;have⟨⟨g,eg,z,A⟩,⟨J,B,j,o⟩⟩:=Xhx hN ht eb I;simp only[E,G,Xa];by_cases r:P
 .obtain⟨M,rfl,D⟩:=H r;simp only[XA,Xf4 (u r),W6,Wb,Xa,Xf4 D]
 rw[e3 r,v r];simp only[Xo,eg,B,Xa,zF,show((0:Int)==0)=true from rfl,Bool.and_self,Wh,Wa];by_cases q:∃a∈y.1,XaH h y.1 a
 .simp only[Xf4 (z q),W6,Wb,Xa,show(J.Fault != 0)=true by simpa using j q,Xf4 (j q)]
 rw[A q,o q];simp only[zF,show((0:Int)==0)=true from rfl,show((0:Int) != 0)=false from rfl,Bool.and_self,Wh,Wa];have K:∀(n:Nat) (c i:Int),QcA N h n c i=Qa7 N h n c i:=by
  intro n;induction n with
  |zero=>intro c i;rw[QcA,Qa7]
  |succ n L=>
   intro c i;rw[QcA,Qa7];simp only[L];cases O:Xe h.p i with
   |none=>simp only[KH]
   |some p=>simp only[Xa]
 grind
def Xe4(hN:NB N){h:Wk}(ht:HT h){l:List Int}(A:l.length<=1000000):Qd9 N h l=QbJ N h l:=by
 have g:1000000<N:=by unfold NB at hN;omega
 have hb:=ht.hb;rw[Qd9,QbJ,XdR hN ht];have⟨b,eb,_⟩:=KQ hN hb;rw[eb,Xa,Xa];cases b with
 |false=>rfl
 |true=>
 have⟨y,B,O,D,_⟩:=KR hN hb;rw[Wh,Wa,Wa,JK hN ht,B,Xa,Xa];have r:∀x:Int,QeO N x y.1=some (x != 0&&!y.1.contains x):=by intro x;obtain⟨k,E⟩:=Xnl (N:=N) y.1 x aa g D;rw[QeO,E,Xa];cases (x != 0)<;>rfl
 rw[Qa2,Qbg];rw[JR (p:=λx:Int=>x != 0&&!y.1.contains x) A g (λn k x e=>by
  have f:=XG e
  rw[Qav,Xn f,Wb,Xf,e,Xa,r,Xa,Xg aa]) (λn=>by rw[Qav,XI,Wa])]
 rw[Xa,Xa,KL]
 have key:=Vy (L:=l.length) (F:=QaH N l y) (p:=λk=>∃f:k<l.length,(l[k] != 0&&!y.1.contains l[k])=true) (Q:=λb=>b=false) (u:=())
  (λn k f o=>by
   obtain⟨G,q⟩:=o
   simp only[WK]at q
   refine⟨false,?_,rfl⟩
   rw[QaH,Wd aa,Wb,Xf,Wc f,Xa,q.1,Wb,Xa,Yx _ aa aa,Xa,q.2,Wb])
  (λn k f H=>by
   rw[QaH,Wd aa,Wb,Xf,Wc f,Xa,Xa,Yx _ aa aa,Xa,Xg aa]
   grind)
  (λn=>by rw[QaH,Wg aa,Wa]) N 0 aa aa
 have⟨e,I,J,e3⟩:=key;have s:QaH N l y N 0=some e:=I;rw[s,Xa];cases K:l.any (λx=>x != 0&&!y.1.contains x)with
 |true=>have⟨x,M,q⟩:=Oh.1 K;obtain⟨j,z,rfl⟩:=WE M;obtain⟨b,rfl,v⟩:=J ⟨j,Om _,z,z,q⟩;simp[XA,v]
 |false=>simp_all[List.any_eq_false,Xo]
def ZK(hN:NB N){h:Wk}(ht:HT h){l:List Int}(M:l.length<=10000000 / 4)(eg:Qbe N h=some true){y:List Int×Int}(A:Qap N h=some y):QbJ N h l=some (l.all λx=>x==0||y.1.contains x):=by
 have hb:=ht.hb;have⟨O,g,R,S,_⟩:=KR hN hb;rw[A]at g;cases g;have B:l.length<N:=by unfold NB at hN;omega
 have D:1000000<N:=by unfold NB at hN;omega
 rw[QbJ,eg,Xa,Wh,Wa,A,Xa]
 have key:=Vy (L:=l.length) (F:=QaH N l y) (p:=λk=>∃q:k<l.length,(l[k]==0||y.1.contains l[k])=false) (Q:=λb=>b=false) (u:=())
  (λn k q o=>by
   obtain⟨E,f⟩:=o
   simp only[Bool.or_eq_false_iff]at f
   refine⟨false,?_,rfl⟩
   rw[QaH,Wd aa,Wb,Xf,Wc q,Xa,show(l[k] != 0)=true by simp_all,Wb,Xa,Yx _ aa aa,Xa,f.2];rfl)
  (λn k q G=>by
   rw[QaH,Wd aa,Wb,Xf,Wc q,Xa,Xa,Yx _ aa aa,Xa,Xg aa]
   grind)
  (λn=>by rw[QaH,Wg aa,Wa]) N 0 aa aa
 have⟨e,H,I,e3⟩:=key;have s:QaH N l y N 0=some e:=H;rw[s,Xa];cases v:l.all (λx=>x==0||y.1.contains x)with
 |false=>have⟨x,J,f⟩:=List.all_eq_false.1 v;obtain⟨j,r,rfl⟩:=WE J;obtain⟨b,rfl,z⟩:=I ⟨j,Om _,r,r,by simp_all⟩;rw[XA,z]
 |true=>
  have:=e3 λ⟨j,_,r,K,f⟩=>by rw[WX]at v;rw[v _ (WG r)]at f;cases f
  simp_all[Xo]
end
section
variable {N:Nat}
def Xf5(l:List UE)(r:Int)(f:l.length<=1000000)(hN:1000000<N):QgN N l r=some (Zv (λp=>p.a==r) l):=by
 exact JR (p:=λp:UE=>p.a==r) f hN (λn k x e=>by
  have g:=XG e
  rw[Qfj,Xn g,Wb,Xf,e,Xa,Xg aa]) (λn=>by rw[Qfj,XI,Wa])
def Xno(l:List UE)(r:Int)(f:l.length<=1000000)(hN:1000000<N):Qf0 N l r=some (Zv (λp=>p.a==r) l):=by
 rw[Qf0,Qbb];rw[JR (p:=λp:UE=>p.a==r) f hN (λn k x e=>by
  have g:=XG e
  rw[Qas,Xn g,Wb,Xf,e,Xa,Qfs,Xa,Xg aa]) (λn=>by rw[Qas,XI,Wa]),Xa]
def Xa1(hN:NB N){h:Wk}(ht:HT h)(hp:Uy h)(pins:List UE)(g:pins.length<=1000000)(y:List Int×Int)(H:y.1.length<=4096)(E:y.1.Pairwise (·<·))(o:∀a∈y.1,Iz h a):∀(n k:Nat) (v:List Int),k<=pins.length->pins.length-k<n->v.length=h.p.length ->
 ∃e,Qbl N h pins y n (k:Int) v=some e/\Qcl N pins h y n (k:Int) v=some (match e with|.ret _=>.ret ([],false)|.nxt v=>.nxt v)/\(∀b,e=.ret b->b=false)/\(∀f,e=.nxt f->f.length=h.p.length/\∀p∈pins.drop k,y.1.contains p.a=true)
 |0,k,v,_,I,_=>by omega
 |n+1,k,v,S,I,J=>by
  have j:1000000<N:=by unfold NB at hN;omega
  rw[Qbl,Qcl];by_cases r:k<pins.length;case neg=>
   rw[Wg aa,Wa,Wa]
   grind
  have⟨q,eq⟩:=Xnl (N:=N) y.1 pins[k].a aa j E;have K:Xe pins (k:Int)=some pins[k]:=by rw[Xf,Wc r]
  simp only[Wd (show(k:Int)<(pins.length:Int) by omega),Wb,K,Xa,Yx pins[k].a (show y.1.length<=1000000000 by omega) (show y.1.length<N by omega),eq,Xf5 pins pins[k].a g j,Xno pins pins[k].a g j];cases u:y.1.contains pins[k].a with
  |false=>simp
  |true=>
  have z:=o _ (by rw[Ik]at u;exact u);have A:=z.tu hp;have⟨L,B,O⟩:=Jb (N:=N) hp z;have R:Qch N h.c pins[k].a=some (pgi h.c pins[k].a,pgo h.c pins[k].a,0):=by rw[K5,Wi (by rw[hp.conf];simp),Wm z.rng];rfl
  have⟨c,D⟩:∃c,Xe v (pgi h.c pins[k].a)=some c:=⟨_,Yd B aa⟩
  simp only[Wh,Wa,L,XiS N h.c pins[k].a A.2,R,Xa,D,Xg (show k<=140737488355328 by omega)];have⟨e,n1,n2,T,G⟩:=Xa1 hN ht hp pins g y H E o n (k+1) (v.set (pgi h.c pins[k].a).toNat (wI (c+pins[k].M))) aa aa (by rw[WL];exact J);have U:∀f,e=.nxt f->f.length=h.p.length/\∀p∈pins.drop k,y.1.contains p.a=true:=λf s=>⟨(G f s).1,λp hp=>by
   rw[Wo r]at hp
   rcases U6.1 hp with rfl|hp
   .exact u
   .exact(G f s).2 p hp⟩
  grind
def Xlk(hN:NB N){h:Wk}(ht:HT h){pins:List UE}(f:pins.length<=1000000):Qhl N h pins=Qcn N h pins:=by
 have r:1000000<N:=by unfold NB at hN;omega
 have hb:=ht.hb;have s:h.p.length<=100000:=hb.2;rw[Qhl,Qcn,XdR hN ht];have⟨b,eb,g⟩:=KQ hN hb;rw[eb,Xa,Xa];cases b with
 |false=>rfl
 |true=>
 cases decide ((pins.length:Int)>64)with
 |true=>rfl
 |false=>
 have hp:Uy h:=(g rfl).prop;have⟨y,u,z,A,j,_⟩:=KR hN hb;rw[Wa,Wa,Qgi,JK hN ht,u,Xa,Xa];rw[Xb aa];have⟨e,B,D,e3,e4⟩:=Xa1 hN ht hp pins f y z A j N 0 (List.replicate (h.p.length:Int).toNat 0) aa aa ab;have o:Qbl N h pins y N 0 (List.replicate (h.p.length:Int).toNat 0)=some e:=B;have q:Qcl N pins h y N 0 (List.replicate (h.p.length:Int).toNat 0)=_:=D;rw[Xb aa,o,q,Xa,Xa];cases e with
 |ret b=>rw[e3 b rfl,XA,XA,Xa];rfl
 |nxt v=>
  rw[Xo,Xo,Xa];have G:∀(n:Nat) (i:Int),QeN N h (v,true) n i=QbI N h v n i:=by
   intro n;induction n with
   |zero=>intro i;rw[QeN,QbI]
   |succ n E=>intro i;rw[QeN,QbI];simp only[E]
  simp_all
def XdS(hN:NB N){h:Wk}(ht:HT h){pins:List UE}(j:pins.length<=1000000)(f:Qcn N h pins=some true):Qbe N h=some true/\pins.length<=64/\∀y,Qap N h=some y->∀p∈pins,y.1.contains p.a=true:=by
 have hb:=ht.hb;have u:h.p.length<=100000:=hb.2;rw[Qcn]at f;have⟨b,eb,o⟩:=KQ hN hb;rw[eb,Xa]at f;cases b with
 |false=>grind
 |true=>
 refine⟨eb,?_,λy s p z=>?_⟩
 .grind
 have hp:Uy h:=(o rfl).prop;have⟨E,g,A,B,q,_⟩:=KR hN hb;rw[s]at g;cases g;cases hd:decide ((pins.length:Int)>64)with
 |true=>simp_all
 |false=>
 rw[hd,Wa,s,Xa,Xb aa]at f;have⟨e,D,G,e3,e4⟩:=Xa1 hN ht hp pins j y A B q N 0 (List.replicate (h.p.length:Int).toNat 0) aa (by unfold NB at hN;omega) ab;have r:Qbl N h pins y N 0 (List.replicate (h.p.length:Int).toNat 0)=some e:=D;rw[r,Xa]at f;cases e with
 |ret b=>rw[e3 b rfl,XA]at f;grind
 |nxt v=>simp_all
def Xa2{x:W3}(hp:x.P.length<=1000000):∀(n k:Nat) (v:List Int),k<=x.P.length->x.P.length-k<n->v.length<=10000000+k ->
 Qe0 N x n (k:Int) v=some (v++(x.P.drop k).map (·.a))/\QbO N x n (k:Int) v=some (v++(x.P.drop k).map (·.a))
 |0,k,v,_,f,_=>by omega
 |n+1,k,v,g,f,h=>by
  rw[Qe0,QbO];by_cases e:k<x.P.length
  .rw[Wd aa,Wb,Wb,Xf,Wc e,Xa,Xa,Xb aa,Xb aa,Xg aa];have⟨a,b⟩:=Xa2 hp n (k+1) (v++[x.P[k].a]) aa aa (by rw[WJ];simp;omega);rw[a,b,Wo e,Ud,US];exact⟨rfl,rfl⟩
  grind
def Z5(x:W3):List Int:=((x.R++(bif Yb x.l then XM x.l.S else[]))++(bif Yr x.g.e then Xz x.g.e else[]))++x.P.map (·.a)
def Xnp{x:W3}(f:EB x):(Z5 x).length<=104160+x.P.length:=by have h:=Zi f.loc;have j:=Yf x.g.e;have o:=f.roots;unfold Z5;grind
def XdT(hN:NB N){x:W3}(f:EB x):Qd1 N x=some (Z5 x):=by
 have o:=Zi f.loc;have p:=Yf x.g.e;have j:=f.pins;have q:=f.roots;have h:1000000<N:=by unfold NB at hN;omega
 rw[Qd1,Xb aa,Y3 f.loc h,Xa,Xb aa,X7 f.glo h,Xa,Xb aa];have:=(Xa2 (N:=N) j N 0 ((x.R++(bif Yb x.l then XM x.l.S else[]))++(bif Yr x.g.e then Xz x.g.e else[])) aa aa (by grind)).2;rw[show(0:Int)=((0:Nat):Int)from rfl,this,Xa,W4];rfl
def XdU(hN:NB N){x:W3}(h:EB x):Qgz N x=some (Z5 x):=by
 have o:=Zi h.loc;have p:=Yf x.g.e;have j:=h.pins;have q:=h.roots;have f:1000000<N:=by unfold NB at hN;omega
 rw[Qgz,Xb3 h.loc f,Xa,Jo h.glo f,Xa,Qhq];have:=(Xa2 (N:=N) j N 0 [] aa aa ab).1;rw[show(0:Int)=((0:Nat):Int)from rfl,this,Xa,Xa,W4,Ue,Qgy,Xb4 _ ab (by simp only[XaZ,Um];omega) f,Xa,Xa];unfold Z5;simp
structure ET(x:W3):Prop where
 eb:EB x
 tw:X6 x.h
def ET.ht{x:W3}(t:ET x):HT x.h:=⟨t.eb.heap,t.tw⟩
end
section
variable {N:Nat}
def Xnq(l:List Int):(!l.all λp=>!(p==0))=l.contains 0:=by grind
def JL(hN:NB N){x:W3}(ht:ET x):QcE N x=Qa5 N x:=by
 have f:1000000<N:=by unfold NB at hN;omega
 have h:=ht.eb;have r:=Zi h.loc;have s:=Yf x.g.e;have u:=Yf x.v.e;have j:=h.pins;have E:=h.roots;rw[QcE,Qa5,Xlk hN ht.ht j];have⟨b,eb,_⟩:=Vd hN h.heap j;rw[eb,Xa,Xa];cases b with
 |false=>rfl
 |true=>
 have⟨eg,o,z⟩:=XdS hN ht.ht j eb;simp only[Wh,Wa,JD h.loc f,Zr h.loc f,V7 h.glo f,Y2 h.glo f,V7 h.wea f,Y2 h.wea f,Jo h.glo f,X7 h.glo f,Jo h.wea f,X7 h.wea f,Y3 h.loc f,Xa,XdU hN h];cases el:Yb x.l with
 |false=>rfl
 |true=>
 cases et:Yr x.g.e with
 |false=>rfl
 |true=>
 cases A:Yr x.v.e with
 |false=>rfl
 |true=>
 have B:Z5 x=((x.R++XM x.l.S)++Xz x.g.e)++x.P.map (·.a):=by unfold Z5;rw[el,et];rfl
 have p:=Xnp h;rw[el,Wb]at r;rw[et,Wb]at s;rw[A,Wb]at u;simp;rw[XfX aa f,Xa,Xnq,Yx 0 aa aa,Xa];cases (Xz x.g.e).contains 0 with
 |true=>rfl
 |false=>
 rw[Wa,Wa,Xb aa,Xb aa,Xb aa,Xb aa];rw[Qgy,Xb4 _ ab (by simp only[XaZ];omega) f,Xa,Xa];have⟨y,q,G,_⟩:=KR hN h.heap;have D:[Z5 x,Xz x.v.e].flatten=Z5 x++Xz x.v.e:=by simp
 rw[D,Xe4 hN ht.ht (by rw[WJ];omega),ZK hN ht.ht (by rw[WJ];omega) eg q,ZK hN ht.ht ah eg q,Xa,Xa,B];grind
end
section
variable {N:Nat}
def Xj0(N:Nat)(c:WN):Qhr N c=some (K9 c):=by exact XbS N c
def Xb6(N:Nat)(ps:List Ws):QgA N ps=QcN N ps:=by
 have h:∀(n:Nat) (c i:Int),QdA N ps n c i=QbM N ps n c i:=by
  intro n;induction n with
  |zero=>simp[QdA,QbM]
  |succ n e=>simp[QdA,QbM,e]
 rw[QgA,QcN,h]
def Xhy(N:Nat)(ps:List Ws)(g:ps.length<=100000):∀(n k:Nat) (v:List Ow),k<=ps.length->v.length<=k->QcS N ps n (k:Int) v=QbF N ps n (k:Int) v
 |0,k,v,_,_=>by rfl
 |n+1,k,v,o,p=>by
  rw[QcS,QbF];by_cases e:k<ps.length;case neg=>grind
  rw[Wd (show(k:Int)<(ps.length:Int) by omega),Wb,Wb,Xf,Wc e,Xa,Xa,Xb aa,Xg aa];have f:∀v':List Ow,v'.length<=k+1->QcS N ps n ((k+1:Nat):Int) v'=QbF N ps n ((k+1:Nat):Int) v':=λv' h=>Xhy N ps g n (k+1) v' aa h;rw[f v aa,f (v++[Ow.mk (k:Int) 1]) (by simp_all)];have j:∀(i:Nat) (x:Ow),QcS N ps n ((k+1:Nat):Int) (v.set i x)=QbF N ps n ((k+1:Nat):Int) (v.set i x):=λi x=>f _ (by grind);simp only[j];cases (ps[k].k != 0)with
  |true=>rfl
  |false=>
   rw[Wa,Wa,Xb (show v.length<=140737488355328 by omega)];rw[show decide (wI ((v.length:Int)-1)>=0)=decide ((v.length:Int)>0) by
    rw[Xc aa aa];grind]
def Xb7(hN:1000000<N){ps:List Ws}(g:ps.length<=100000)(k:Int):QdZ N ps k=Qbt N ps k:=by
 have h:Qhm N ps=Qgu N ps:=by rw[Qhm,Qgu,show(0:Int)=((0:Nat):Int)from rfl,Xhy N ps g N 0 [] aa ab]
 rw[QdZ,Qbt,h];have⟨rs,ers,o,_⟩:=Xjy (N:=N) (ps:=ps) aa aa;rw[ers,Xa,Xa];by_cases q:k<1
 .rw[Wd q,Wb];have:∀(n j:Nat),j<=rs.length->rs.length-j<n->QbL N k rs n (j:Int)=some (.nxt ()):=by
   intro n;induction n with
   |zero=>omega
   |succ n e=>
    intro j s u;rw[QbL];by_cases r:j<rs.length
    .rw[Wd aa,Wb,XX (show¬k>=1 by omega),Wa,Xg aa];exact e (j+1) aa aa
    grind
  have f:=this N 0 aa aa;rw[show((0:Nat):Int)=0 from rfl]at f;rw[f,Xa,Xo]
 have:∀(n:Nat) (j:Int),Qek N k rs n j=QbL N k rs n j:=by
  intro n;induction n with
  |zero=>intro j;rw[Qek,QbL]
  |succ n e=>
   intro j;rw[Qek,QbL,Wd (show k>=1 by omega),Wb];simp only[e];cases Xe rs j with
   |none=>simp only[KH]
   |some p=>simp only[Xa]
 grind
def Xab(hN:1000000<N)(c:WN)(d:Wv):QfQ N c d=Qcv N c d:=by
 rw[QfQ,Qcv,JE aa,Zz,Y1 aa,XW];simp only[Xa,V8,ZS (show 10<=N by omega)];have e:=Ja c (Xw d);rw[show decide (XF c (Xw d)>=0)=(XF c (Xw d) != -1) by
  grind]
end
section
variable {N:Nat}
def Xac(p:Ws):Bool:=p.k != 0
def XdV(N:Nat)(ps:List Ws)(f:ps.length<=1000000):∀(n c k:Nat),k<=ps.length->c<=k->ps.length-k<n->QbM N ps n (c:Int) (k:Int)=some (((c+(ps.drop k).countP Xac:Nat):Int))
 |0,c,k,_,_,h=>by omega
 |n+1,c,k,g,j,o=>by
  rw[QbM];by_cases e:k<ps.length
  .rw[Wd aa,Wb,Xf,Wc e,Xa,Xg aa,Xg aa,Wo e,Ic];cases hb:(ps[k].k != 0)with
   |true=>rw[Wb,XdV N ps f n (c+1) (k+1) aa aa aa,Wm (show Xac ps[k]=true from hb)];congr 1;omega
   |false=>rw[Wa,XdV N ps f n c (k+1) aa aa aa,Wi (show¬Xac ps[k]=true by unfold Xac;rw[hb];simp)];rfl
  grind
def Xnr(hN:1000000<N){ps:List Ws}(e:ps.length<=100000):QcN N ps=some ((ps.countP Xac:Nat):Int):=by rw[QcN,show(0:Int)=((0:Nat):Int)from rfl,XdV N ps aa N 0 0 aa aa aa,Xa,W4,UN]
def Kl(ps l:List Ws)(i:Nat):List Ws:=(ps.take i++l)++ps.drop (i+l.length)
def Xad{ps l:List Ws}{i:Nat}(h:i+l.length<=ps.length):(Kl ps l i).length=ps.length:=by unfold Kl;grind
def Xf6(j i k:Nat)(f r:Ws)(ps:List Ws)(e:ps.length<=100000)(g:i+k<=ps.length):∀(n m:Nat),m<=k->k-m<n ->
 Qee N (i:Int) (k:Int) f r n (m:Int) (Kl ps (List.replicate m r) i)=some (if((ps.drop (i+m)).take (k-m)).any Xac=true then .ret ([],20)else .nxt (Kl ps (List.replicate k r) i))
 |0,m,_,h=>by omega
 |n+1,m,s,u=>by
  rw[Qee];by_cases o:m<k;case neg=>
   obtain rfl:m=k:=aa
   simp
  have p:(Kl ps (List.replicate m r) i)[i+m]? = some (ps[i+m]'aa):=by unfold Kl;rw[Uf (by grind),UK];simp only[WJ,Wl,WY];rw[show i+m+(i+m-(min i ps.length+m))=i+m by omega];exact Wc aa
  have q:(Kl ps (List.replicate m r) i).set (i+m) r=Kl ps (List.replicate (m+1) r) i:=by unfold Kl;rw[I9 _ _ (by grind)];simp only[WJ,Wl,WY];rw[show i+m-(min i ps.length+m)=0 by omega,Wo (show i+m<ps.length by omega),IX,List.replicate_succ',←Ud (ps.take i),Ud (ps.take i++List.replicate m r)];rfl
  have hw:wI ((i:Int)+(m:Int))=((i+m:Nat):Int):=by rw[Xc aa aa];omega
  rw[Wd aa,Wb,hw,Xf,p,Xa,Xa,Xg aa,show(((i+m:Nat):Int)).toNat=i+m from rfl,q];have hd:(ps.drop (i+m)).take (k-m)=ps[i+m]'aa::(ps.drop (i+(m+1))).take (k-(m+1)):=by rw[Wo (show i+m<ps.length by omega),show k-m=(k-(m+1))+1 by omega,List.take_succ_cons];rfl
  rw[hd,List.any_cons];cases hb:((ps[i+m]'aa).k != 0)with
  |true=>rw[Wb,show Xac (ps[i+m]'aa)=true from hb,Bool.true_or,Wm rfl]
  |false=>rw[Wa,show Xac (ps[i+m]'aa)=false from hb,In];exact Xf6 j i k f r ps e g n (m+1) aa aa
def Xll{α:Type}(p:α->Bool)(l:List α):decide (((l.countP p:Nat):Int)>0)=l.any p:=by
 cases h:l.any p with
 |true=>simp_all
 |false=>simp_all
def Xhz(hN:1000000<N){ps:List Ws}(h:ps.length<=100000)(i:Int)(f r:Ws)(k:Nat)(u:1<=k)(q:k<=1000):QgU N ps i (f::List.replicate (k-1) r)=Qdh N ps i (k:Int) f r:=by
 have e:(f::List.replicate (k-1) r).length=k:=by simp;omega
 rw[QgU,Qdh,e];by_cases v:i<0
 .simp_all
 obtain⟨j,rfl⟩:∃j:Nat,i=(j:Int):=⟨i.toNat,aa⟩
 by_cases g:j+k<=ps.length;case neg=>
  by_cases p:(j:Int)>=(ps.length:Int)
  .rw[Wd p,Wb,Xc (n:=(ps.length:Int)-(k:Int)) aa aa,Wd (show(j:Int)>(ps.length:Int)-(k:Int) by omega),Wb]
  .rw[XX p,Wa,Xc (n:=(ps.length:Int)-(k:Int)) aa aa,Xc (n:=(ps.length:Int)-(j:Int)) aa aa,Wd (show(j:Int)>(ps.length:Int)-(k:Int) by omega),Wb,Wd (show(k:Int)>(ps.length:Int)-(j:Int) by omega),Wb]
 rw[Xc (n:=(ps.length:Int)-(k:Int)) aa aa,Xc (n:=(ps.length:Int)-(j:Int)) aa aa,XX (show¬(j:Int)>(ps.length:Int)-(k:Int) by omega),Wa,XX (show¬(j:Int)>=(ps.length:Int) by omega),Wa,XX (show¬(k:Int)>(ps.length:Int)-(j:Int) by omega),Wa];have hw:wI ((j:Int)+(k:Int))=((j+k:Nat):Int):=by rw[Xc aa aa];omega
 rw[hw,Xb aa,Xb aa,show(((j+k:Nat):Int)).toNat=j+k from rfl,show(j:Int).toNat=j from rfl,show j+k-j=k by omega,Xb6,Xnr hN (by grind),Xa,Xll];have ht:=Xf6 (N:=N) 0 j k f r ps h g N 0 aa aa;have o:Kl ps (List.replicate 0 r) j=ps:=by unfold Kl;simp
 rw[o,IV,Nat.sub_zero,show((0:Nat):Int)=0 from rfl]at ht;rw[ht,Xa];cases ((ps.drop j).take k).any Xac with
 |true=>rw[Wb,Wm rfl,XA]
 |false=>
  rw[Wa,Wi ab,Xo,Qad,Xa,Xb aa,Xb aa];have s:(Kl ps (List.replicate k r) j).length=ps.length:=Xad (by simp_all);rw[Xf,Wc aa,Xa];unfold Kl;obtain⟨m,rfl⟩:∃m,k=m+1:=⟨k-1,aa⟩
  rw[WY,IF,List.replicate_succ,List.set_append_left _ _ (by grind),I9 _ _ (by grind)];simp only[Wl];rw[show j-min j ps.length=0 by omega,IX]
end
section
variable {N:Nat}
def Xe5{α:Type}(sp:Int)(x y:α):(bif (!decide (sp=0\/sp=1))then x else y)=(bif (decide (sp<0))then x else bif (decide (sp>1))then x else y):=by grind
def Xe6(hN:1000000<N){ps:List Ws}(e:ps.length<=100000)(i sp:Int):QdY N ps i sp=QbP N ps i sp:=by rw[QdY,QbP,Ki,Xa,Xe5];have:=Xhz hN e i (Ws.mk 1 sp 0 0) (Ws.mk 0 0 0 0) 1 aa aa;simp_all
def Xe7(N:Nat)(ps:List Ws)(i sp y:Int)(k:Nat)(e:y=(k:Int))(g:k<=1000)(f:Ws):∀(n m:Nat),m<=k-1->1<=k->k-m<n->Qe2 N ps i sp y n (f::List.replicate m (Ws.mk 3 sp 0 0))=some (f::List.replicate (k-1) (Ws.mk 3 sp 0 0))
 |0,m,_,_,h=>by omega
 |n+1,m,q,j,r=>by
  have o:(f::List.replicate m (Ws.mk 3 sp 0 0)).length=m+1:=by simp
  rw[Qe2,o,Xb aa];by_cases p:m+1<k
  .rw[Wd aa,Wb,Xb aa,Oi,←List.replicate_succ'];exact Xe7 N ps i sp y k e g f n (m+1) aa j aa
  grind
def Xlm(hN:1000000<N){ps:List Ws}(e:ps.length<=100000)(c:WN)(i sp w:Int):Qg8 N c ps i sp w=QdU N c ps i sp w:=by
 rw[Qg8,QdU,V8,ZS aa,Xa,Xa];by_cases h:XF c w<1
 .simp_all
 have j:=Ja c w;have⟨k,f⟩:∃k:Nat,XF c w=(k:Int):=⟨(XF c w).toNat,aa⟩
 rw[XX h,Wa,Wa,Ki,Xa,Xe5];have g:=Xe7 N ps i sp (XF c w) k f aa (Ws.mk 2 sp w 0) N 0 aa aa aa;rw[show [(Ws.mk 2 sp w 0)]=Ws.mk 2 sp w 0::List.replicate 0 (Ws.mk 3 sp 0 0)from rfl,g,Xa,Xhz hN e i _ _ k aa aa,f]
def XiV{v:Int}{k:Nat}(u:k<=63)(h:0<=v)(g:v<2 ^ k):Xa9 .u64 v (2 ^ k-1)=0:=by
 obtain⟨n,rfl⟩:=UA h;have j:n<2 ^ k:=by
  have e:(2:Int) ^ k=((2 ^ k:Nat):Int):=by simp
  rw[e]at g;omega
 have hb:IntKind.u64.bits=64:=rfl;show IntKind.u64.wrap ((BitVec.ofInt IntKind.u64.bits n &&& ~~~ BitVec.ofInt IntKind.u64.bits (2 ^ k-1)).toNat:Int)=_;rw[hb];have f:(2:Int) ^ k-1=((2 ^ k-1:Nat):Int):=by
  have g:=Nat.one_le_two_pow (n:=k);have e:(2:Int) ^ k=((2 ^ k:Nat):Int):=by simp
  rw[e];omega
 have o:BitVec.ofInt 64 (n:Int)=BitVec.ofNat 64 n:=by simp
 have p:BitVec.ofInt 64 ((2 ^ k-1:Nat):Int)=BitVec.ofNat 64 (2 ^ k-1):=by simp
 rw[f,o,p];have q:BitVec.ofNat 64 n &&& ~~~ BitVec.ofNat 64 (2 ^ k-1)=0#64:=by
  apply BitVec.eq_of_getLsbD_eq;intro i r;simp only[BitVec.getLsbD_and,BitVec.getLsbD_not,BitVec.getLsbD_ofNat,r,decide_true,W9,BitVec.getLsbD_zero];by_cases s:i<k
  .simp_all
  rw[Nat.testBit_lt_two_pow (ID j (IM aa aa))];simp
 rw[q];rfl
def XcO{a b:Int}{s:Nat}(q:s<=63)(f:0<=a)(h:a<2 ^ s)(g:0<=b)(hb:b*2 ^ s+a<=18446744073709551615):bOr .u64 a (b*2 ^ s)=a+b*2 ^ s:=by
 obtain⟨n,rfl⟩:=UA f;obtain⟨m,rfl⟩:=UA g;have j:(2:Int) ^ s=((2 ^ s:Nat):Int):=by simp
 rw[j]at h hb⊢;have r:(m:Int)*((2 ^ s:Nat):Int)=((m*2 ^ s:Nat):Int):=by simp
 have e:IntKind.u64.bits=64:=rfl;show IntKind.u64.wrap ((BitVec.ofInt IntKind.u64.bits n |||BitVec.ofInt IntKind.u64.bits ((m*2 ^ s:Nat):Int)).toNat:Int)=_;rw[e];have o:BitVec.ofInt 64 (n:Int)=BitVec.ofNat 64 n:=by simp
 have p:BitVec.ofInt 64 ((m*2 ^ s:Nat):Int)=BitVec.ofNat 64 (m*2 ^ s):=by rw[Of]
 rw[o,p,BitVec.toNat_or,U9,U9,IC (show n<2 ^ 64 by omega),IC (show m*2 ^ s<2 ^ 64 by omega)];have:=Nat.shiftLeft_add_eq_or_of_lt (show n<2 ^ s by omega) m;rw[Nat.shiftLeft_eq]at this;rw[Nat.or_comm,←this];show wU _=_;rw[Xp aa aa];omega
end
section
variable {N:Nat}
def Xb8(hN:1000<N){w v:Int}(f:0<=w)(h:w<=63)(g:0<=v)(e:v<2 ^ w.toNat):Qce N v w=some true:=by rw[Qce,Zb f aa hN,Xa,XiV aa g e];rfl
def Xns(hN:1000000<N){k l m:Int}(k0:0<=k)(k1:k<4)(g:0<=l)(S:l<4096)(h:0<=m)(T:m<4294967296):
 Qfd N [(UJ.mk 2 1),(UJ.mk 2 k),(UJ.mk 12 l),(UJ.mk 32 m)]=some (1+k*4+l*16+m*65536,0):=by
 obtain⟨n,rfl⟩:∃n,N=n+5:=⟨N-5,aa⟩
 generalize f:[(UJ.mk 2 1),(UJ.mk 2 k),(UJ.mk 12 l),(UJ.mk 32 m)]=L;have e:L.length=4:=by rw[←f];rfl
 have j:Xe L 0=some (UJ.mk 2 1):=by rw[←f];unfold Xe;rfl
 have g1:Xe L 1=some (UJ.mk 2 k):=by rw[←f];unfold Xe;rfl
 have g2:Xe L 2=some (UJ.mk 12 l):=by rw[←f];unfold Xe;rfl
 have g3:Xe L 3=some (UJ.mk 32 m):=by rw[←f];unfold Xe;rfl
 have o:wI (0+1)=1:=Xc aa aa;have p:wI (1+1)=2:=Xc aa aa;have q:wI (2+1)=3:=Xc aa aa;have r:wI (3+1)=4:=Xc aa aa;have s:wI (64-2)=62:=Xc aa aa;have u:wI (62-2)=60:=Xc aa aa;have v:wI (60-12)=48:=Xc aa aa;have y:wI (48-32)=16:=Xc aa aa;have k2:wI (0+2)=2:=Xc aa aa;have z:wI (2+2)=4:=Xc aa aa;have A:wI (4+12)=16:=Xc aa aa;have B:wI (16+32)=48:=Xc aa aa;have D:Qbd (n+5) L (n+5) 64 0=some (.nxt ()):=by rw[Qbd,e,j];simp only[Xa,o,s];rw[Qbd,e,g1];simp only[Xa,p,u];rw[Qbd,e,g2];simp only[Xa,q,v];rw[Qbd,e,g3];simp only[Xa,r,y];rw[Qbd,e];rfl
 have f0:Qce (n+5) 1 2=some true:=Xb8 aa aa aa aa ae;have f1:Qce (n+5) k 2=some true:=Xb8 aa aa aa k0 (by show k<4;omega);have f2:Qce (n+5) l 12=some true:=Xb8 aa aa aa g (by show l<4096;omega);have E:Qce (n+5) m 32=some true:=Xb8 aa aa aa h (by show m<4294967296;omega);have G:ZO .u64 1 0=1:=by decide +kernel
 have H:ZO .u64 k 2=k*2 ^ 2:=by show wU (k*4)=k*4;exact Xp aa aa
 have I:ZO .u64 l 4=l*2 ^ 4:=by show wU (l*16)=l*16;exact Xp aa aa
 have s3:ZO .u64 m 16=m*2 ^ 16:=by show wU (m*65536)=m*65536;exact Xp aa aa
 have J:bOr .u64 0 1=1:=by decide +kernel
 have K:bOr .u64 1 (k*2 ^ 2)=1+k*2 ^ 2:=XcO aa aa ae k0 aa;have M:bOr .u64 (1+k*2 ^ 2) (l*2 ^ 4)=1+k*2 ^ 2+l*2 ^ 4:=XcO aa aa aa g aa;have O:bOr .u64 (1+k*2 ^ 2+l*2 ^ 4) (m*2 ^ 16)=1+k*2 ^ 2+l*2 ^ 4+m*2 ^ 16:=XcO aa aa aa h aa;have R:QaJ (n+5) L (n+5) 0 0 0=some (.nxt (1+k*2 ^ 2+l*2 ^ 4+m*2 ^ 16)):=by rw[QaJ,e,j];simp only[Xa,f0,o,k2,G,J];rw[Wd aa,Wb,Wh,Wa,Xb aa];rw[QaJ,e,g1];simp only[Xa,f1,p,z,H,K];rw[Wd aa,Wb,Wh,Wa,Xb aa];rw[QaJ,e,g2];simp only[Xa,f2,q,A,I,M];rw[Wd aa,Wb,Wh,Wa,Xb aa];rw[QaJ,e,g3];simp only[Xa,E,r,B,s3,O];rw[Wd aa,Wb,Wh,Wa,Xb aa];rw[QaJ,e];rw[Wg aa,Wa]
 simp[Qfd,D,Xa,Xo,R]
def XiW{d:Wv}(e:tW d.Map)(h:XN d=true):0<=d.Map/\d.Map<4294967296:=by have⟨a,b⟩:=e;omega
def XpV(hN:1000000<N){d:Wv}(f:tW d.Map):Qf3 N d=QcH N d:=by
 rw[Qf3,JE aa,KO,Xa];cases e:XN d with
 |false=>rfl
 |true=>have hb:=XO e;have g:=XiW f e;rw[Wh,Wa,Wm rfl,Xp (n:=d.k) aa aa,Xp (n:=d.n) aa aa,Xp (n:=d.Map) aa aa,Xns hN aa aa aa aa aa aa,Xa];congr 2;unfold ZH;have s:∀x:Int,ZO .u64 x 16=wU (x*65536):=λ_=>rfl;simp only[s,Xcm];omega
def Xe8(hN:NB N){ws l:List Int}(hw:ws.length<=100000)(h:l.length<=1000){a:Int}(g:a<=18446744073709551615):Qgd N ws a l=Qcq N ws a l:=by
 rw[Qgd,Xb5 aa g,ZG (by unfold BIG;omega) (by unfold BIG;omega) (by unfold NB at hN;omega),XcE (by unfold BIG;omega) N a _ aa,Xa];by_cases e:4096<=a/\a<=4096+(ws.length:Int);case neg=>
  rw[Wi e,Wi (by unfold YA;omega)];rfl
 rw[Wm e];by_cases f:a+(l.length:Int)<=4096+(ws.length:Int);case neg=>rw[Wg f,W6,Wb,Wi (by unfold YA;omega)]
 rw[Wd f,Wh,Wa,Wm (by unfold YA;omega),Qae,Xa,Xb aa,Xb aa];rfl
def XuB{n:Nat}(e:Int):(List.replicate (n+1) (0:Int)).set 0 e=[e]++List.replicate n (0:Int):=by rfl
def XdW(hN:NB N){h:Wk}(hb:HB h){a:Int}(j:a<=18446744073709551615){d:Wv}(o:tW d.Map):Qfl N h a d=Qbf N h a d:=by
 have e:1000000<N:=by unfold NB at hN;omega
 rw[Qfl,Qbf,XpV e o,KO,Xa,Xa,Yc hb.2 e];have⟨b,eb⟩:=ZU (N:=N) hN hb;cases g:XN d with
 |false=>rw[Wi ab,eb,Xa,Xa];simp
 |true=>
  have p:=XO g;rw[Wm rfl,eb,Xa,Xa];cases b with
  |false=>rfl
  |true=>
  have q:Xw d=d.n+1:=by unfold Xw;rw[Wm g]
  have⟨n,u⟩:∃n:Nat,d.n=(n:Int):=⟨d.n.toNat,aa⟩
  have ht:(d.n+1).toNat=n+1:=aa;have f:d.n.toNat=n:=aa;rw[Wh,Wa,Wa,Y1 aa,Xa,q,Xb aa,ht,f,Xb aa,Xb aa];have r:Xe (List.replicate (n+1) (0:Int)) 0=some 0:=by unfold Xe;simp
  rw[r,Xa,XuB,Xe8 hN hb.1 (by grind) j];have⟨w,s⟩:∃w,Qcq N h.w a ([ZH d]++List.replicate n (0:Int))=some w:=⟨_,ZG (by unfold BIG;have:=hb.1;omega) (by unfold BIG;grind) (by grind) a⟩
  rw[s,Xa,Xa,QeI];cases (w.2 != 0)with
  |true=>simp[Wb,Xa]
  |false=>simp[Wa,Qad,Xa]
end
section
variable {N:Nat}
def XpW{α:Type}(q:α->Bool)(l:List α)(j:Nat)(x:α)(h:∀y,l[j]? = some y->q y=q x):(l.set j x).all q=l.all q:=by
 by_cases e:j<l.length
 .have f:l=l.take j++l[j]::l.drop (j+1):=by rw[List.getElem_cons_drop,IH]
  grind
 rw[List.set_eq_of_length_le aa]
def Xet{α:Type}(l:List α)(i k j:Nat)(x:α):((l.set j x).drop i).take k=if i<=j then((l.drop i).take k).set (j-i) x else(l.drop i).take k:=by
 by_cases h:i<=j
 .rw[Wm h,List.drop_set,Wi aa,List.take_set]
 rw[Wi h,List.drop_set,Wm aa]
def Xnt{c:WN}{ps:List Ws}{j:Nat}(h:j<ps.length){x:Ws}(o:∀sp,Yl sp x=Yl sp ps[j])(q:Yi c ps j x=Yi c ps j ps[j])(i:Nat)(r:i<ps.length):
 Yi c (ps.set j x) i ((ps.set j x)[i]'(by simp_all))=Yi c ps i ps[i]:=by
 have f:∀sp k,(((ps.set j x).drop (i+1)).take k).all (Yl sp)=((ps.drop (i+1)).take k).all (Yl sp):=by
  intro sp k;rw[Xet];split
  .refine XpW _ _ _ _ λy g=>?_;rw[Us]at g;split at g
   .rw[UK,show i+1+(j-(i+1))=j by omega,Wc h]at g;cases g;exact(o sp).symm
   cases g
  rfl
 have e:∀p,Yi c (ps.set j x) i p=Yi c ps i p:=by intro p;unfold Yi;simp only[WL,f]
 grind
def Xcs{h:Wk}(o:h.p.length<=100000)(hN:1000000<N)(e:List Ws)(f:e.length=h.p.length)(j:∀i(q:i<h.p.length),Yi h.c e i (e[i]'aa)=Yi h.c h.p i h.p[i])(ws:List Int)(b:Int):∀(n i:Nat),i<=h.p.length->Qaf N ⟨h.c,ws,e,h.s,b⟩ n (i:Int)=Qaf N h n (i:Int)
 |0,i,_=>by rfl
 |n+1,i,q=>by
  rw[Qaf,Qaf];dsimp only;rw[f];by_cases g:i<h.p.length;case neg=>grind
  rw[Wd (show(i:Int)<_ by omega),Wb,Wb,Kx aa hN aa,Kx o hN g,j i g,Xa,Xa];have r:=Xbx (c:=h.c) g (p:=h.p[i]);generalize Yi h.c h.p i h.p[i]=s at *;by_cases u:s=0
  .simp_all
  rw[show((s:Int)==0)=false by simp_all,Wa,Wa,Xc aa aa,show(i:Int)+(s:Int)=((i+s:Nat):Int) by omega];exact Xcs o hN e f j ws b n (i+s) aa
structure OU(h:Wk):Prop where
 conf:X9 h.c=true
 words:(h.w.length:Int)=h.c.p*h.c.W
 pages:(h.p.length:Int)=h.c.p
 space:0<=h.s/\h.s<=1
 bump:h.b = -1\/(0<=h.b/\h.b<h.p.length/\(pg h.p h.b).k=1)
def Uy.pre{h:Wk}(hp:Uy h):OU h:=⟨hp.conf,hp.words,hp.pages,hp.space,hp.bump⟩
def KM{h:Wk}(hp:OU h):QbQ N h=bnd (Qaf N h N 0) λe=>exK e (λr=>some r) λ_=>some true:=by
 have q:=Xj.1 hp.conf;have u:=XP hp.conf (i:=0) aa aa;have hw:=hp.words;have f:=hp.pages;have g:((h.w.length:Int) != wI (h.c.W*h.c.p))=false:=by rw[Int.mul_comm,Xc aa aa];simpa using hw
 have j:((h.p.length:Int) != h.c.p)=false:=by simpa using f
 have e3:∀{α:Type} (x y z:α),(bif h.s != 0 then(bif h.s != 1 then x else y)else y)=y:=by
  intro α x y z;by_cases v:h.s=0
  .simp_all
  have A:h.s=1:=by have:=hp.space;omega
  simp_all
 rw[QbQ];simp only[Xs,Jp,Xa,hp.conf,Wh,Wa,g,j];rw[e3 _ _ (some true)];rcases hp.bump with hb|⟨b0,o,b2⟩
 .simp_all
 rw[show(h.b != -1)=true by grind,Wb,XX (show¬h.b<0 by omega),Wa,XX (show¬h.b>=(h.p.length:Int) by omega),Wa,Xr b0 o,Xa,b2];rfl
def Xae{h:Wk}(hN:NB N)(hb:HB h)(ep:Qab N h=some true){e:List Ws}(f:e.length=h.p.length)(o:∀i(q:i<h.p.length),Yi h.c e i (e[i]'aa)=Yi h.c h.p i h.p[i]){ws:List Int}(hw:ws.length=h.w.length){b:Int}(g:b = -1\/(0<=b/\b<e.length/\(pg e b).k=1)):Qab N ⟨h.c,ws,e,h.s,b⟩=some true:=by
 have j:1000000<N:=by unfold NB at hN;omega
 have hp:=XJ hN hb ep;rw[←Yc (by rw[f];exact hb.2) j,KM (h:=⟨h.c,ws,e,h.s,b⟩) ⟨hp.conf,by rw[hw];exact hp.words,by rw[f];exact hp.pages,hp.space,g⟩];have:=Xcs hb.2 j e f o ws b N 0 aa;rw[show((0:Nat):Int)=0 from rfl]at this;rw[this,←KM hp.pre,Yc hb.2 j,ep]
end
section
variable {N:Nat}
def Xe9(hN:NB N){h:Wk}(hb:HB h)(ep:Qab N h=some true){d:Wv}(f:XN d=true){a:Int}(g:YA h.w a (d.n.toNat+1)):∃j,Qbf N h a d=some (j,0):=by
 have o:=XO f;have⟨n,p⟩:∃n:Nat,d.n=(n:Int):=⟨d.n.toNat,aa⟩
 have e:d.n.toNat=n:=aa;rw[e]at g;rw[Qbf,KO,Wm f,ep,Xa,Xa,Wh,Wa];rw[show((0:Int) != 0)=false from rfl,Wa,Xb aa,e,Xb aa,ZG (by unfold BIG;have:=hb.1;omega) (by unfold BIG;simp;omega) (by simp;unfold NB at hN;omega),Wm (by simpa using g),Xa];simp
def Xf7(hN:1000000<N){ps:List Ws}(h:ps.length<=100000){i:Int}(f r:Ws)(k:Nat)(z:1<=k)(q:k<=1000)(s:RunOK ps i (k:Int)):Qdh N ps i (k:Int) f r=some (Kl ps (f::List.replicate (k-1) r) i.toNat,0):=by
 have⟨A,_,B,u⟩:=s;obtain⟨j,rfl⟩:∃j:Nat,i=(j:Int):=⟨i.toNat,aa⟩
 have g:((ps.drop j).take k).any Xac=false:=by
  rw[List.any_eq_false];intro p hp hb;obtain⟨m,v,rfl⟩:=WE hp;rw[Wl,Wn]at v;rw[Ir,IO]at hb;have:=u (m:Int) aa aa;have e:pg ps ((j:Int)+(m:Int))=ps[j+m]'aa:=by unfold pg;rw[show((j:Int)+(m:Int)).toNat=j+m by omega,Wj,Wc aa];rfl
  rw[e]at this;unfold Xac at hb;rw[this]at hb;cases hb
 have ht:=Xf6 (N:=N) 0 j k f r ps h aa N 0 aa aa;have o:Kl ps (List.replicate 0 r) j=ps:=by unfold Kl;simp
 rw[o,IV,Nat.sub_zero,show((0:Nat):Int)=0 from rfl,g,Wi ab]at ht;rw[Qdh,XX (show¬(j:Int)<0 by omega),Wa,XX (show¬(j:Int)>=(ps.length:Int) by omega),Wa,Xc (n:=(ps.length:Int)-(j:Int)) aa aa,XX (show¬(k:Int)>(ps.length:Int)-(j:Int) by omega),Wa,Xb aa,ht,Xa,Xo];have y:(Kl ps (List.replicate k r) j).length=ps.length:=Xad (by grind);rw[Xf,Wc aa,Xa,show(j:Int).toNat=j from rfl];unfold Kl;obtain⟨m,rfl⟩:∃m,k=m+1:=⟨k-1,aa⟩
 rw[WY,IF,Uz,WY,List.replicate_succ,List.set_append_left _ _ (by grind),I9 _ _ (by grind)];simp only[Wl];rw[show j-min j ps.length=0 by omega,IX]
end
section
variable {N:Nat}
def Xfa{c:WN}{ps:List Ws}{j:Nat}{p:Ws}(e:p.k=1)(f:0<=p.s/\p.s<=1)(hp:0<=p.P/\p.P<=2147483647)(g:0<=p.u/\p.u<=c.W):Yi c ps j p=1:=by unfold Yi;grind
def XiX{c:WN}{ps:List Ws}{j:Nat}:Yi c ps j Zm=1:=rfl
def Xbz{ps:List Ws}{j:Nat}(e:j<ps.length):pg ps (j:Int)=ps[j]:=by unfold pg;simp_all
def XhA(hN:NB N){h:Wk}(hb:HB h)(ep:Qab N h=some true){j:Nat}(f:j<h.p.length){x:Ws}(r:x.k=1)(v:0<=x.s/\x.s<=1)(o:0<=x.P/\x.P<=2147483647)(y:0<=x.u/\x.u<=h.c.W)(g:h.p[j].k=0\/h.p[j].k=1){b:Int}(q:b=(j:Int)):Qab N ⟨h.c,h.w,h.p.set j x,h.s,b⟩=some true:=by
 have hp:=XJ hN hb ep;have e:=hp.pgs (j:Int) aa aa;have z:Yi h.c h.p j h.p[j]=1:=by
  rcases g with g|g
  .have:=e.free (by simp_all[Xbz,f]);rw[Xbz f]at this;rw[this];rfl
  have a:=e.space;have b:=e.pins;have c:=e.small (by simp_all[Xbz,f]);rw[Xbz f]at a b c;exact Xfa g a b c
 have B:∀(p:Ws) (sp:Int),p.k=0\/p.k=1->Yl sp p=false:=by intro p sp h;unfold Yl Kw;rw[show(p.k==3)=false by grind];rfl
 refine Xae hN hb ep ab (λi A=>Xnt f (λsp=>by simp_all) ?_ i A) rfl (.inr ⟨aa,by simp_all,?_⟩)
 .rw[z];exact Xfa r v o y
 unfold pg;simp_all
def Xf8(N:Nat)(h:Wk)(n u first:Int):Option (Nat×Int):=
 if 0<=h.b/\u<=K9 h.c/\(pg h.p h.b).s=h.s/\(pg h.p h.b).u+n<=h.c.W then some (h.b.toNat,(pg h.p h.b).u)
 else if 0<=first/\u<K9 h.c then some (first.toNat,0)else none
def Kj(h:Wk)(n:Int)(j:Nat)(at_:Int):Wk:=⟨h.c,h.w,h.p.set j ⟨1,h.s,at_+n,(pg h.p (j:Int)).P⟩,h.s,(j:Int)⟩
def Xb9(hN:NB N){h:Wk}(hb:HB h)(hp:Uy h){n u f:Int}(Z:0<=n/\n<=300)(J:QcN N h.p=some u)(H:Qbt N h.p 1=some f):
 QeB N h n=some (match Xf8 N h n u f with|some (j,a)=>(Kj h n j a,Xd h.c (j:Int) a,true)|none=>(zHp,0,false)):=by
 have v:1000000<N:=by unfold NB at hN;omega
 have y:=hb.2;have hpages:=hp.pages;have K:=Xj.1 hp.conf;have fresh:(bif decide (f<0)then some (zHp,(0:Int),false)else bif decide (u>=K9 h.c)then some (zHp,0,false)else bnd (QbP N h.p f h.s) λr=>bnd (Xe r.1 f) λz=>bnd (Xe r.1 f) λA=>bnd (Xe r.1 f) λo=>some ((Wk.mk h.c h.w (r.1.set f.toNat (Ws.mk o.k o.s (wI (A.u+n)) o.P)) h.s f),(wU (wI ((wI (4096+(wI (f*h.c.W))))+z.u))),true))=some (match (if 0<=f/\u<K9 h.c then some (f.toNat,(0:Int))else none)with|some (j,a)=>(Kj h n j a,Xd h.c (j:Int) a,true)|none=>(zHp,0,false)):=by
  by_cases L:f<0
  .grind
  by_cases M:u>=K9 h.c
  .grind
  rw[XX L,Wa,XX M,Wa,Wm aa]
  have g:RunOK h.p f 1:=by
   rcases(Zh (N:=N) (ps:=h.p) 1 aa aa).get_eq H with B|B
   .omega
   .omega
  obtain⟨j,rfl⟩:∃j:Nat,f=(j:Int):=⟨f.toNat,aa⟩
  have I:j<h.p.length:=by have:=g.2.2.1;omega
  have O:=hp.space
  have R:=XP hp.conf (i:=(j:Int)) aa aa
  have et:=Xf7 v y (Ws.mk 1 h.s 0 0) (Ws.mk 0 0 0 0) 1 aa aa g
  have D:Qdh N h.p (j:Int) 1 (Ws.mk 1 h.s 0 0) (Ws.mk 0 0 0 0)=_:=et
  have q:Kl h.p (Ws.mk 1 h.s 0 0::List.replicate (1-1) (Ws.mk 0 0 0 0)) j=h.p.set j (Ws.mk 1 h.s 0 0):=by
   unfold Kl
   rw[Ie,Wm I];simp
  rw[QbP,XX (show¬h.s<0 by omega),Wa,XX (show¬h.s>1 by omega),Wa,D,show(j:Int).toNat=j from rfl,q,Xa,Xa]
  have S:Xe (h.p.set j (Ws.mk 1 h.s 0 0)) (j:Int)=some (Ws.mk 1 h.s 0 0):=by
   rw[Xf,IZ I]
  dsimp only
  have T:(pg h.p (j:Int)).P=0:=by
   have:=(hp.pgs (j:Int) aa aa).free (by have:=g.2.2.2 0 aa aa;assumption)
   rw[this];rfl
  simp only[S,Xa]
  unfold Kj Xd
  rw[List.set_set,T,Xc (n:=0+n) aa aa,Xc (n:=(j:Int)*h.c.W) aa aa,Xc (n:=4096+(j:Int)*h.c.W) aa aa,Xc (n:=4096+(j:Int)*h.c.W+0) aa aa,Xp aa aa]
 rw[QeB,Xb aa,XbS,Xa,J,Xa,Xs,H];simp only[Xa];unfold Xf8;by_cases b0:h.b<0
 .grind
 have e:0<=h.b/\h.b<h.p.length/\(pg h.p h.b).k=1:=by
  rcases hp.bump with B|B
  .omega
  omega
 have E:=hp.pgs h.b e.1 e.2.1;have U:=E.small e.2.2;have R:=XP hp.conf (i:=h.b) aa aa;rw[XX b0,Wa,Xr e.1 e.2.1];simp only[Xa];rw[Xc (n:=(pg h.p h.b).u+n) aa aa];by_cases V:(pg h.p h.b).s=h.s;case neg=>grind
 rw[show((pg h.p h.b).s != h.s)=false by simp_all,Wa];by_cases b2:(pg h.p h.b).u+n>h.c.W
 .grind
 by_cases Y:u>K9 h.c
 .grind
 rw[XX b2,Wa,XX Y,Wa,Wm (c:=0<=h.b/\u<=K9 h.c/\_) aa];dsimp only;unfold Kj Xd;have G:(h.b.toNat:Int)=h.b:=aa;rw[G,e.2.2,V,Xc (n:=h.b*h.c.W) aa aa,Xc (n:=4096+h.b*h.c.W) aa aa,Xc (n:=4096+h.b*h.c.W+(pg h.p h.b).u) aa aa,Xp aa aa]
end
section
variable {N:Nat}
def XhB(hN:NB N){h:Wk}(hb:HB h)(hp:Uy h){n u f:Int}(V:0<=n/\n<=300)(H:XF h.c n=0)(I:QcN N h.p=some u)(E:Qbt N h.p 1=some f):
 QeH N h n=some (match Xf8 N h n u f with|some (j,a)=>(Kj h n j a,⟨(j:Int),a⟩,0)|none=>(zHp,⟨0,0⟩,3)):=by
 have q:1000000<N:=by unfold NB at hN;omega
 have r:=hb.2;have J:=Xj.1 hp.conf;have fresh:(bif decide (f>=0)then(bif decide (u<K9 h.c)then(bnd (QdY N h.p f h.s) λo=>bif (o.2 != 0)then some (zHp,(Oa.mk 0 0),o.2)else bnd (Xe o.1 f) λv=>some ((Wk.mk h.c h.w (o.1.set f.toNat (Ws.mk v.k v.s n v.P)) h.s f),(Oa.mk f 0),0))else some (zHp,(Oa.mk 0 0),3))else some (zHp,(Oa.mk 0 0),3))=some (match (if 0<=f/\u<K9 h.c then some (f.toNat,(0:Int))else none)with|some (j,a)=>(Kj h n j a,Oa.mk (j:Int) a,(0:Int))|none=>(zHp,Oa.mk 0 0,3)):=by
  by_cases K:f>=0
  case neg=>grind
  by_cases L:u<K9 h.c
  case neg=>grind
  rw[Wd K,Wb,Wd L,Wb,Wm aa]
  have g:RunOK h.p f 1:=by
   rcases(Zh (N:=N) (ps:=h.p) 1 aa aa).get_eq E with z|z
   .omega
   .omega
  obtain⟨j,rfl⟩:∃j:Nat,f=(j:Int):=⟨f.toNat,aa⟩
  have G:j<h.p.length:=by have:=g.2.2.1;omega
  have M:=hp.space
  have et:=Xf7 q r (Ws.mk 1 h.s 0 0) (Ws.mk 0 0 0 0) 1 aa aa g
  have A:Qdh N h.p (j:Int) 1 (Ws.mk 1 h.s 0 0) (Ws.mk 0 0 0 0)=_:=et
  have y:Kl h.p (Ws.mk 1 h.s 0 0::List.replicate (1-1) (Ws.mk 0 0 0 0)) j=h.p.set j (Ws.mk 1 h.s 0 0):=by
   unfold Kl
   rw[Ie,Wm G];simp
  rw[Xe6 q r,QbP,XX (show¬h.s<0 by omega),Wa,XX (show¬h.s>1 by omega),Wa,A,show(j:Int).toNat=j from rfl,y,Xa,Xa]
  have O:Xe (h.p.set j (Ws.mk 1 h.s 0 0)) (j:Int)=some (Ws.mk 1 h.s 0 0):=by
   rw[Xf,IZ G]
  dsimp only
  have R:(pg h.p (j:Int)).P=0:=by
   have:=(hp.pgs (j:Int) aa aa).free (by have:=g.2.2.2 0 aa aa;assumption)
   rw[this];rfl
  rw[show((0:Int) != 0)=false from rfl,Wa,O,Xa]
  unfold Kj
  rw[List.set_set,R,Int.zero_add]
 rw[QeH,Xb6,I,Xa,Xj0,Xa,V8,H,Xa,XX (show¬(0:Int)>0 by omega),Wa,Xb7 q r,E];simp only[Xa,Xs];unfold Xf8;by_cases b0:h.b>=0;case neg=>grind
 have e:0<=h.b/\h.b<h.p.length/\(pg h.p h.b).k=1:=by
  rcases hp.bump with z|z
  .omega
  omega
 have B:=hp.pgs h.b e.1 e.2.1;have S:=B.small e.2.2;rw[Wd b0,Wb];by_cases T:u<=K9 h.c;case neg=>grind
 rw[Wd T,Wb,Xr e.1 e.2.1,Xa];by_cases U:(pg h.p h.b).s=h.s;case neg=>grind
 rw[show((pg h.p h.b).s==h.s)=true by simp_all,Wb,Xc (n:=h.c.W-(pg h.p h.b).u) aa aa];by_cases b2:n<=h.c.W-(pg h.p h.b).u;case neg=>grind
 rw[Wd b2,Wb,Wm (c:=0<=h.b/\u<=K9 h.c/\_) aa,Qad,Xa,Xr e.1 e.2.1,Xa,Xa];dsimp only;unfold Kj;have D:(h.b.toNat:Int)=h.b:=aa;rw[D,e.2.2,U,Xc (n:=(pg h.p h.b).u+n) aa aa]
def Xnu(hN:NB N){h:Wk}(hb:HB h)(ep:Qab N h=some true){n u f:Int}(G:1<=n/\n<=h.c.W)(E:Qbt N h.p 1=some f){j:Nat}{a:Int}(g:Xf8 N h n u f=some (j,a)):j<h.p.length/\0<=a/\a+n<=h.c.W/\Qab N (Kj h n j a)=some true:=by
 have hp:=XJ hN hb ep;have H:=hb.2;have z:=hp.space;unfold Xf8 at g;split at g
 .cases g;have e:0<=h.b/\h.b<h.p.length/\(pg h.p h.b).k=1:=by
   rcases hp.bump with A|A
   .omega
   exact A
  have o:=hp.pgs h.b e.1 e.2.1;have B:=o.small e.2.2;have r:(h.b.toNat:Int)=h.b:=aa;have v:h.b.toNat<h.p.length:=aa;refine⟨v,B.1,aa,?_⟩;unfold Kj;rw[r];refine XhA (x:=⟨1,h.s,(pg h.p h.b).u+n,(pg h.p h.b).P⟩) hN hb ep v rfl z o.pins (by show 0<=(pg h.p h.b).u+n/\_;exact⟨aa,by show(pg h.p h.b).u+n<=_;omega⟩) (.inr ?_) r.symm;rw[←Xbz v,r];omega
 split at g
 .cases g;have q:RunOK h.p f 1:=by
   rcases(Zh (N:=N) (ps:=h.p) 1 aa (by unfold NB at hN;omega)).get_eq E with A|A
   .omega
   exact A
  have I:=q.2.2.1;have y:(f.toNat:Int)=f:=aa;have v:f.toNat<h.p.length:=aa;have D:(pg h.p f).k=0:=by have:=q.2.2.2 0 aa aa;simpa using this
  refine⟨v,aa,aa,?_⟩;unfold Kj;have o:=hp.pgs f aa aa;rw[y];refine XhA (x:=⟨1,h.s,0+n,(pg h.p f).P⟩) hN hb ep v rfl z o.pins (by show 0<=0+n/\_;exact⟨aa,by show 0+n<=_;omega⟩) (.inl ?_) y.symm;rw[←Xbz v,y];exact D
 simp_all
end
section
variable {N:Nat}
def XbA(hN:1000000<N)(c:WN)(d:Wv):Qcv N c d=some (XN d&&(d.k != 0&&XF c (Xw d) != -1)):=by rw[Qcv,Zz,Xa,XW];simp only[Xa,ZS (show 10<=N by omega)];grind
def XdX{h:Wk}(hb:HB h)(n:Int)(j:Nat)(a:Int):HB (Kj h n j a):=⟨hb.1,by show(h.p.set j _).length<=_;rw[WL];exact hb.2⟩
def XiY(hN:NB N){h:Wk}(hb:HB h){d:Wv}(z:tW d.Map)(g:XF h.c (Xw d)=0):QeF N h d=Qcc N h d:=by
 have e:1000000<N:=by unfold NB at hN;omega
 have A:=hb.2;rw[QeF,Qcc,Yc A e,Xab e];have⟨b,eb⟩:=ZU (N:=N) hN hb;rw[eb,Xa,Xa];cases b with
 |false=>rfl
 |true=>
 rw[Wh,Wa,Wa,XbA e,Xa,Xa];cases o:XN d with
 |false=>rfl
 |true=>
 cases B:(d.k != 0)with
 |false=>rfl
 |true=>
 have hp:=XJ hN hb eb;have D:=XO o;have L:Xw d=d.n+1:=by unfold Xw;rw[Wm o]
 have E:1<=Xw d/\Xw d<=h.c.W:=by
  have v:1<=Xw d:=aa;refine⟨v,?_⟩;unfold XF at g;rw[Wm ⟨hp.conf,v⟩]at g;by_cases G:Xw d<=h.c.W / 4
  .omega
  omega
 have⟨u,y,_⟩:=V2 (N:=N) (ps:=h.p) aa aa;have⟨f,q,_⟩:=Zh (N:=N) (ps:=h.p) 1 aa aa;simp only[show((0:Int) != -1)=true from rfl,Bool.and_self,Wh,Wa,Y1 (show 1000<N by omega),XW,Xa,ZS (show 10<=N by omega),g,Xb9 hN hb hp (n:=Xw d) ⟨aa,aa⟩ y q,XhB hN hb hp (n:=Xw d) ⟨aa,aa⟩ g y q,Xs,show decide ((0:Int)>0)=false from rfl];cases r:Xf8 N h (Xw d) u f with
 |none=>rfl
 |some H=>
  have⟨j,a⟩:=H;have⟨M,O,R,I⟩:=Xnu hN hb eb E q r;have J:=hp.pages;have S:=XP hp.conf (i:=(j:Int)) aa aa;have hw:=hp.words;dsimp only;have s:YA (Kj h (Xw d) j a).w (Xd h.c (j:Int) a) (d.n.toNat+1):=by
   unfold YA Xd;show _/\_<=4096+(h.w.length:Int);constructor
   .omega
   omega
  have⟨T,K⟩:=Xe9 hN (XdX hb _ j a) I o s;rw[show((0:Int) != 0)=false from rfl,Wa,V9,ZT,Wi (by simp[hp.conf]),Wm aa,Xa];rw[show((0:Int) != 0)=false from rfl,Wa,XdW hN (XdX hb _ j a) (by unfold Xd;omega) z,K,Xa];rw[show((0:Int) != 0)=false from rfl,Wa,Wh,Wa];rw[Xa]
end
section
variable {N:Nat}
def XhC{ps l:List Ws}{j:Nat}(h:j+l.length<=ps.length)(i:Nat):(Kl ps l j)[i]? = if i<j then ps[i]? else if i<j+l.length then l[i-j]? else ps[i]?:=by unfold Kl;grind
def Xln{α:Type}(q:α->Bool){l e:List α}(f:l.length=e.length)(h:(∀i:Nat,l[i]? = e[i]?)\/∃(i:Nat) (x y:α),l[i]? = some x/\e[i]? = some y/\q x=false/\q y=false):l.all q=e.all q:=by
 rcases h with h|⟨i,x,y,g,j,o,p⟩
 .rw[List.ext_getElem? h]
 grind
def Xnv{c:WN}{ps:List Ws}{i:Nat}{p:Ws}{s:Nat}(h:Yi c ps i p=s)(e:2<=s):((ps.drop (i+1)).take (s-1)).all (Yl p.s)=true/\s<=ps.length-i:=by unfold Yi at h;grind
def Xnw{c:WN}{ps e:List Ws}(f:e.length=ps.length){i:Nat}(hd:∀m sp,((e.drop (i+1)).take m).all (Yl sp)=((ps.drop (i+1)).take m).all (Yl sp))(p:Ws):Yi c e i p=Yi c ps i p:=by unfold Yi;simp_all
def XdY{h:Wk}(e:h.p.length<=100000)(hN:1000000<N):∀(k n j:Nat),j+k<=h.p.length->(∀m,m<k->∀(g:j+m<h.p.length),h.p[j+m]=Zm)->Qaf N h (n+k) (j:Int)=Qaf N h n ((j+k:Nat):Int)
 |0,n,j,_,_=>rfl
 |k+1,n,j,q,f=>by rw[show n+(k+1)=(n+k)+1 from rfl,Qaf,Wd aa,Wb,Kx e hN (show j<h.p.length by omega),Xa];have:=f 0 aa aa;simp at this;rw[this,XiX,show((((1:Nat)):Int)==0)=false from rfl,Wa,show((1:Nat):Int)=1 from rfl,Xg aa,XdY e hN k n (j+1) aa (λm g o=>by have:=f (m+1) aa aa;simpa only[show j+(m+1)=j+1+m by omega]using this)];grind
def XdZ(hN:NB N){h:Wk}(hb:HB h)(ep:Qab N h=some true){j k:Nat}(hk:1<=k)(hr:RunOK h.p (j:Int) (k:Int)){w:Int}(hw:XF h.c w=(k:Int)):Qab N ⟨h.c,h.w,Kl h.p (Ws.mk 2 h.s w 0::List.replicate (k-1) (Ws.mk 3 h.s 0 0)) j,h.s,h.b⟩=some true:=by
 have o:1000000<N:=by unfold NB at hN;omega
 have hp:=XJ hN hb ep;have J:=hb.2;have hsp:=hp.space;have⟨_,_,hfit,A⟩:=hr;generalize I:(Ws.mk 2 h.s w 0::List.replicate (k-1) (Ws.mk 3 h.s 0 0))=L;have K:L.length=k:=by rw[←I];simp;omega
 have D:j+L.length<=h.p.length:=aa;have r:(Kl h.p L j).length=h.p.length:=Xad D;have M:∀m,m<k->∀(O:j+m<h.p.length),h.p[j+m]=Zm:=by intro m O v;have:=(hp.pgs ((j:Int)+m) aa aa).free (A m aa aa);rw[show(j:Int)+(m:Int)=((j+m:Nat):Int) by omega,Xbz v]at this;exact this
 generalize hq:Kl h.p L j=e at *;have g:∀i,e[i]? = if i<j then h.p[i]? else if i<j+k then L[i-j]? else h.p[i]?:=by intro i;rw[←hq,XhC D,K]
 have z:∀i(hi:i<h.p.length),(i<j\/j+k<=i)->e[i]'aa=h.p[i]:=by
  intro i hi u;have a:=g i;rw[Wc aa,Wc hi]at a;rcases u with u|u
  .simp_all
  grind
 have E:∀i,(i<j\/j+k<=i)->∀m sp,((e.drop (i+1)).take m).all (Yl sp)=((h.p.drop (i+1)).take m).all (Yl sp):=by
  intro i u m sp;refine Xln _ (by simp_all) ?_;by_cases hcov:i<j/\j<i+1+m
  .right;refine⟨j-(i+1),Ws.mk 2 h.s w 0,Zm,?_,?_,rfl,rfl⟩
   .rw[Us,Wm aa,UK,show i+1+(j-(i+1))=j by omega,g,Wi aa,Wm aa,U8,←I];rfl
   grind
  grind
 have main:∀(m i n f:Nat),h.p.length-i<=m->i<=h.p.length->(i<=j\/j+k<=i)->h.p.length-i+200<n->h.p.length-i+200<f->Qaf N ⟨h.c,h.w,e,h.s,h.b⟩ n (i:Int)=Qaf N h f (i:Int):=by
  intro m;induction m with
  |zero=>
   intro i n f h1 h2 h3 h4 h5;obtain⟨n,rfl⟩:∃q,n=q+1:=⟨n-1,aa⟩
   obtain⟨f,rfl⟩:∃q,f=q+1:=⟨f-1,aa⟩
   rw[Qaf,Qaf];grind
  |succ m ih=>
   intro i n f h1 h2 h3 h4 h5;by_cases v:i<h.p.length;case neg=>
    grind
   by_cases R:i=j
   .subst R;obtain⟨n,rfl⟩:∃q,n=q+1:=⟨n-1,aa⟩
    obtain⟨f,rfl⟩:∃q,f=q+k:=⟨f-k,aa⟩
    rw[XdY J o k f i aa M,Qaf];dsimp only;have hx:e[i]'aa=Ws.mk 2 h.s w 0:=by have a:=g i;rw[Wc aa,Wi aa,Wm aa,U8,←I]at a;exact WA a
    have S:((e.drop (i+1)).take (k-1)).all (Yl h.s)=true:=by
     rw[WX];intro y hy;obtain⟨q,T,rfl⟩:=WE hy;rw[Wl,Wn]at T;have a:=g (i+1+q);have U:L[i+1+q-i]? = some (Ws.mk 3 h.s 0 0):=by rw[←I,show i+1+q-i=q+1 by omega,Ib,Ip,Wm aa]
     rw[Wc aa,Wi aa,Wm aa,U]at a;rw[Ir,IO,WA a];simp[Yl,Kw]
    have V:Yi h.c e i (e[i]'aa)=k:=by rw[hx];unfold Yi;have W:(XF h.c w).toNat=k:=aa;rw[Wi (show¬(2:Int)=0 by omega),Wm (by grind),Wi (show¬(2:Int)=1 by omega),Wm rfl];dsimp only;rw[W,Wm ⟨aa,aa,S⟩]
    rw[Wd aa,Wb,Kx aa o aa,V,Xa,show((k:Int)==0)=false by grind,Wa,Xc aa aa,show(i:Int)+(k:Int)=((i+k:Nat):Int) by omega];exact ih (i+k) n f aa aa (.inr aa) aa aa
   have u:i<j\/j+k<=i:=aa;obtain⟨n,rfl⟩:∃q,n=q+1:=⟨n-1,aa⟩
   obtain⟨f,rfl⟩:∃q,f=q+1:=⟨f-1,aa⟩
   rw[Qaf,Qaf];dsimp only;rw[r,Wd aa,Wb,Wb,Kx aa o aa,Kx J o v,z i v u,Xnw r (E i u),Xa,Xa];have G:=Xnv (c:=h.c) (ps:=h.p) (i:=i) (p:=h.p[i]) rfl;generalize Yi h.c h.p i h.p[i]=s at *;by_cases h0:s=0
   .simp_all
   rw[show((s:Int)==0)=false by simpa using h0,Wa,Wa,Xc aa aa,show(i:Int)+(s:Int)=((i+s:Nat):Int) by omega];refine ih (i+s) n f aa aa ?_ aa aa;rcases u with u|u
   .left;by_cases Y:2<=s
    .have⟨ha,_⟩:=G Y;by_cases Z:i+s<=j
     .exact Z
     rw[WX]at ha;have O:Zm∈(h.p.drop (i+1)).take (s-1):=by refine W7 (i:=j-(i+1)) ?_;rw[Us,Wm aa,UK,show i+1+(j-(i+1))=j by omega,Wc aa];have:=M 0 aa aa;simp only[IV]at this;rw[this]
     have:=ha _ O;cases this
    omega
   omega
 have B:h.b = -1\/(0<=h.b/\h.b<e.length/\(pg e h.b).k=1):=by
  rcases hp.bump with hh|⟨b0,b1,b2⟩
  .omega
  have⟨q,hq2⟩:∃q:Nat,h.b=(q:Int):=⟨h.b.toNat,aa⟩
  rw[hq2]at b1 b2⊢;have H:q<h.p.length:=aa;rw[Xbz H]at b2;by_cases hin:q<j\/j+k<=q
  .rw[Xbz aa,z q H hin];omega
  have:=M (q-j) aa aa;simp only[show j+(q-j)=q by omega]at this;rw[this]at b2;cases b2
 rw[←Yc (by simp_all) o,KM (h:=⟨h.c,h.w,e,h.s,h.b⟩) ⟨hp.conf,hp.words,by rw[r];exact hp.pages,hp.space,B⟩];have:=main h.p.length 0 N N aa aa (.inl aa) aa aa;rw[show((0:Nat):Int)=0 from rfl]at this;rw[this,←KM hp.pre,Yc J o,ep]
end
section
variable {N:Nat}
def Xa3(h:Wk)(n:Int)(j k:Nat):Wk:=⟨h.c,h.w,Kl h.p (Ws.mk 2 h.s n 0::List.replicate (k-1) (Ws.mk 3 h.s 0 0)) j,h.s,h.b⟩
def XhD(hN:1000000<N){h:Wk}(e:h.p.length<=100000)(hp:Uy h){n:Int}{j k:Nat}(f:1<=k)(g:k<=4)(hw:XF h.c n=(k:Int))(o:RunOK h.p (j:Int) (k:Int)):QdU N h.c h.p (j:Int) h.s n=some ((Xa3 h n j k).p,0):=by have q:=hp.space;rw[QdU,ZS aa,Xa,hw,XX (show¬(k:Int)<1 by omega),Wa,XX (show¬h.s<0 by omega),Wa,XX (show¬h.s>1 by omega),Wa,Xf7 hN e _ _ k f aa o,Xa];rfl
def XhE{h:Wk}(hb:HB h)(n:Int){j k:Nat}(e:1<=k)(f:j+k<=h.p.length):HB (Xa3 h n j k):=⟨hb.1,by
 show(Kl h.p _ j).length<=_
 rw[Xad (by simp_all)];exact hb.2⟩
def XiZ(hN:NB N){h:Wk}(hb:HB h){d:Wv}(T:tW d.Map)(A:0<XF h.c (Xw d)):QeF N h d=Qcc N h d:=by
 have e:1000000<N:=by unfold NB at hN;omega
 have z:=hb.2;rw[QeF,Qcc,Yc z e,Xab e];have⟨b,eb⟩:=ZU (N:=N) hN hb;rw[eb,Xa,Xa];cases b with
 |false=>rfl
 |true=>
 rw[Wh,Wa,Wa,XbA e,Xa,Xa];cases B:XN d with
 |false=>rfl
 |true=>
 cases U:(d.k != 0)with
 |false=>rfl
 |true=>
 have hp:=XJ hN hb eb;have V:=Xj.1 hp.conf;have Y:=XO B;have hpages:=hp.pages;have hs:Xw d=d.n+1:=by unfold Xw;rw[Wm B]
 have D:=Ja h.c (Xw d);have⟨k,q⟩:∃k:Nat,XF h.c (Xw d)=(k:Int):=⟨(XF h.c (Xw d)).toNat,aa⟩
 have o:=XfG hp.conf (w:=Xw d) aa;rw[q]at o A D⊢;have⟨u,I,hu⟩:=V2 (N:=N) (ps:=h.p) aa aa;have⟨f1,E,_⟩:=Zh (N:=N) (ps:=h.p) 1 aa aa;have⟨f,J,Z⟩:=Zh (N:=N) (ps:=h.p) (k:Int) aa aa;have K:0<=K9 h.c/\K9 h.c<=16:=by unfold K9;rw[Wm hp.conf];omega
 have e1:((k:Int) != -1)=true:=by simp
 simp only[e1,Bool.and_self,Wh,Wa,Y1 (show 1000<N by omega),XW,Xa,ZS (show 10<=N by omega),q,Xb9 hN hb hp (n:=Xw d) ⟨aa,aa⟩ I E,Xs,Wd (show(k:Int)>0 by omega),Wb];rw[QeC,J,Xa,QeH,Xb6,I,Xa,Xj0,Xa,V8,q,Xa,Wd (show(k:Int)>0 by omega),Wb,Xb7 e z,J,Xa,Xs];by_cases L:f>=0;case neg=>
  rw[Wg L,Wa,Xa,Wd (show f<0 by omega),Wb,Xa];rfl
 rw[Wd L,Wb,XX (show¬f<0 by omega),Wa,XbS];simp only[Xa];rw[Xc (n:=K9 h.c-(k:Int)) aa aa,Xc (n:=u+(k:Int)) aa aa];by_cases M:u<=K9 h.c-(k:Int);case neg=>
  rw[Wg M,Wa,Xa,Wd (show u+(k:Int)>K9 h.c by omega),Wb,Xa];rfl
 rw[Wd M,Wb,XX (show¬u+(k:Int)>K9 h.c by omega),Wa,Xlm e z];have g:RunOK h.p f (k:Int):=by
  rcases Z with O|O
  .omega
  exact O
 obtain⟨j,rfl⟩:∃j:Nat,f=(j:Int):=⟨f.toNat,aa⟩
 have R:=g.2.2.1;rw[XhD e z hp aa aa q g];simp only[Xa];have G:=XdZ hN hb eb aa g q;have r:=XhE hb (Xw d) (j:=j) (k:=k) aa aa;have hm:=XP hp.conf (i:=(j:Int)) aa aa;have hw:=hp.words;have v:((j:Int)+(k:Int))*h.c.W<=h.c.p*h.c.W:=Ut aa aa;rw[IB]at v;have H:YA (Xa3 h (Xw d) j k).w (Xd h.c (j:Int) 0) (d.n.toNat+1):=by
  unfold YA Xd;show _/\_<=4096+(h.w.length:Int);constructor
  .omega
  have:(((d.n.toNat+1:Nat)):Int)=Xw d:=aa;rw[this];omega
 have⟨y,S⟩:=Xe9 hN r G B H;have ea:wU (wI (4096+wI ((j:Int)*h.c.W)))=Xd h.c (j:Int) 0:=by unfold Xd;rw[Xc (n:=(j:Int)*h.c.W) aa aa,Xc (n:=4096+(j:Int)*h.c.W) aa aa,Xp aa aa];omega
 rw[show((0:Int) != 0)=false from rfl,Wa,V9,ZT,Wi (by rw[hp.conf];simp),Wm aa,Xa];rw[show((0:Int) != 0)=false from rfl,Wa,ea,Wh,Wa];have e3:Qfl N (Wk.mk h.c h.w (Xa3 h (Xw d) j k).p h.s h.b) (Xd h.c (j:Int) 0) d=some (y,0):=(XdW hN r (by unfold Xd;omega) T).trans S;have e4:Qbf N (Wk.mk h.c h.w (Xa3 h (Xw d) j k).p h.s h.b) (Xd h.c (j:Int) 0) d=some (y,0):=S;simp[e3,e4,Xa]
def Xj1(hN:NB N){h:Wk}(hb:HB h){d:Wv}(f:tW d.Map):QeF N h d=Qcc N h d:=by
 have g:=Ja h.c (Xw d);by_cases j:XF h.c (Xw d)=0
 .exact XiY hN hb f j
 by_cases o:0<XF h.c (Xw d)
 .exact XiZ hN hb f o
 have e:1000000<N:=by unfold NB at hN;omega
 have p:XF h.c (Xw d) = -1:=aa;rw[QeF,Qcc,Yc hb.2 e,Xab e,XbA e,p];have⟨b,eb⟩:=ZU (N:=N) hN hb;simp[eb,Xa]
end
def GR{β:Type}(N:Nat)(c:WN)(sp n:Int)(ps:List Ws)(tk:List Int)(g:Int->Int->Int->List Ws->List Int->Option β):Option β:=
 grd (tk.length<=140737488355328) <|
 jn (λ(_:Unit)=>
  bnd (QdZ N ps 1) λe=>
  bif (decide (e<0))then g 0 0 3 ps tk
  else bnd (QdY N ps e (wI (1-sp))) λh=>
  bif (h.2 != 0)then none
  else grd ((tk.length+1)*8<=140737488355328) <|
  g e 0 0 h.1 (tk++[e])) λf=>
 bif (decide ((tk.length:Int)>0))then(bnd (Xe tk (wI ((tk.length:Int)-1))) λp=>
  bif (decide (p>=0))then(bnd (Xe tk (wI ((tk.length:Int)-1))) λq=>
   grd (ps.length<=140737488355328) <|
   bif (decide (q<(ps.length:Int)))then(bnd (Xe tk (wI ((tk.length:Int)-1))) λj=>
    bnd (Xe ps j) λo=>
    bif (decide (n<=(wI (c.W-o.u))))then g j o.u 0 ps tk
    else f ())
   else f ())
  else f ())
 else f ()
def FT{β:Type}(N:Nat)(c:WN)(o:Int)(ws:List Int)(ps:List Ws)(q:List Int)(f h:Int)(p:Int->Int->Int->List Int->List Ws->List Int->Option β)(i u:Int):Option β:=
 bnd (Qdm N c i u) λg=>
 bif (g.2 != 0)then p 0 g.2 o ws ps q
 else grd ((h.toNat-f.toNat)<=140737488355328) <|
 bnd (Qcy N c g.1) λe=>
 bif (e.2.2 != 0)then(bnd (Qb9 N g.1) λy=>
  p 0 19 o ws ps q)
 else grd (ws.length<=140737488355328) <|
 bif (decide ((((h.toNat-f.toNat):Nat):Int)>(wI ((ws.length:Int)-(wI ((wI (e.1*c.W))+e.2.1))))))then(bnd (Qb9 N g.1) λz=>
  p 0 19 o ws ps q)
 else grd (0<=(wI ((wI (e.1*c.W))+e.2.1))/\(wI ((wI (e.1*c.W))+e.2.1))<=(wI ((wI ((wI (e.1*c.W))+e.2.1))+(((h.toNat-f.toNat):Nat):Int)))/\(wI ((wI ((wI (e.1*c.W))+e.2.1))+(((h.toNat-f.toNat):Nat):Int)))<=(ws.length:Int)) <|
 bnd (Qb9 N g.1) λr=>
 bif (r.2 != 0)then p 0 19 o ws ps q
 else grd ((h.toNat-f.toNat)<=((wI ((wI ((wI (e.1*c.W))+e.2.1))+(((h.toNat-f.toNat):Nat):Int))).toNat-(wI ((wI (e.1*c.W))+e.2.1)).toNat)) <|
 bnd (KX (((ws.take (wI ((wI (e.1*c.W))+e.2.1)).toNat)++((ws.drop f.toNat).take (h.toNat-f.toNat)))++(ws.drop ((wI ((wI (e.1*c.W))+e.2.1)).toNat+(h.toNat-f.toNat)))) (f.toNat) (h.toNat-f.toNat) 0) λA=>
 bnd (Xe ps i) λv=>
 grd ((h.toNat-f.toNat)<=140737488355328) <|
 bnd (Xe ps i) λj=>
 grd ((q.length+1)*8<=140737488355328) <|
 p g.1 0 (wI (o+1)) ((((ws.take (wI ((wI (e.1*c.W))+e.2.1)).toNat)++((ws.drop f.toNat).take (h.toNat-f.toNat)))++(ws.drop ((wI ((wI (e.1*c.W))+e.2.1)).toNat+(h.toNat-f.toNat)))).set f.toNat r.1) (ps.set i.toNat (Ws.mk j.k j.s (wI (v.u+(((h.toNat-f.toNat):Nat):Int))) j.P)) (q++[g.1])
section
variable {N:Nat}
def Xaf(l:List Int)(x:Int)(f:l.length<=1000000)(hN:1000000<N):Qai N l x=some (l.contains x):=by
 rw[Qai,Qb2];rw[JR (p:=λy:Int=>(x==y)) f hN (λn j y e=>by
  have g:=XG e
  rw[QaF,Xn g,Wb,Xf,e,Xa,Xg aa]) (λn=>by rw[QaF,XI,Wa])]
 rw[Xa,KL,List.contains_eq_any_beq]
def Xlo(l:List Int)(x:Int)(f:l.length<=1000000)(hN:1000000<N):Qbj N l x=some (l.contains x):=by
 rw[Qbj,Qex];rw[JR (p:=λy:Int=>(x==y)) f hN (λn j y e=>by
  have g:=XG e
  rw[QbS,Xn g,Wb,Xf,e,Xa,Xg aa]) (λn=>by rw[QbS,XI,Wa])]
 rw[Xa,KL,List.contains_eq_any_beq]
def Xfb(w:Ww)(i:Int)(g:w.t.length<=1000000)(hN:1000000<N):QgE N w i=some (w.t.contains i):=by
 have h:∀(n k:Nat),k<=w.t.length->w.t.length-k<n->Qc6 N w i n (k:Int)=some (bif (w.t.drop k).contains i then .ret true else .nxt ()):=by
  intro n;induction n with
  |zero=>omega
  |succ n f=>
   intro k j o;by_cases h:k<w.t.length
   .rw[Qc6,Xn h,Wb,Xf,Wc h,Xa,Xg aa,Wo h,List.contains_cons];by_cases e:w.t[k]=i
    .rw[XC e,Wb,XC e.symm,Bool.true_or,Wb]
    rw[Xk e,Wa,Xk (λh=>e h.symm),In];exact f (k+1) aa aa
   obtain rfl:k=w.t.length:=aa;rw[Qc6,XI,Wa,Ub (Uo _)];rfl
 have h:=h N 0 aa aa;rw[show((0:Nat):Int)=0 from rfl,W4]at h;rw[QgE,h,Xa];cases w.t.contains i
 .rw[Wa,Xo]
 simp[Wb,XA]
def Xd0(hN:1000000<N){v:Int}(r:tU v):Qe3 N v=QcJ N v:=by
 obtain⟨m,rfl⟩:∃m,N=m+5:=⟨N-5,aa⟩
 have⟨f,s⟩:=r;have j:wI (0+1)=1:=Xc aa aa;have o:wI (1+1)=2:=Xc aa aa;have u:wI (64-2)=62:=Xc aa aa;have y:wI (62-32)=30:=Xc aa aa;have e:([(2:Int),32].length:Nat)=2:=rfl;have p:Xe [(2:Int),32] 0=some 2:=by unfold Xe;rfl
 have g1:Xe [(2:Int),32] 1=some 32:=by unfold Xe;rfl
 have z:Qay (m+5) v [2,32] (m+5) 64 0=some (.nxt ()):=by rw[Qay,e,p];simp only[Xa,j,u];rw[Qay,e,g1];simp only[Xa,o,y];rw[Qay,e];rfl
 have A:Qa1 (m+5) 2=some 3:=Zb aa aa aa;have B:Qa1 (m+5) 32=some 4294967295:=Zb aa aa aa;have q:YO .u64 v 2=v / 4:=YP v 2 aa f;have D:YO .u64 (v / 4) 32=v / 4 / 4294967296:=YP (v / 4) 32 aa aa;have E:Zc .u64 v 3=v % 4:=YF v 2 aa f s;have G:Zc .u64 (v / 4) 4294967295=v / 4 % 4294967296:=YF (v / 4) 32 aa aa aa;have H:Qaz (m+5) [2,32] (m+5) v 0 []=some (v / 4 / 4294967296,[v % 4,v / 4 % 4294967296]):=by rw[Qaz,e,p];rw[Wd aa,Wb,Xa,A,Xa,Xb ab,Xb aa,q,E,j];rw[Qaz,e,g1];rw[Wd aa,Wb,Xa,B,Xa,Xb ab,Xb aa,D,G,o];rw[Qaz,e];rw[Wg aa,Wa];rfl
 rw[Qe3,Qdf,z,Xa,Xo,H,Xa,QcJ,q,IE f];by_cases h:v / 4 / 4294967296=0
 .rw[h];by_cases g:v % 4=2
  .rw[g];have:v / 4 % 4294967296=v / 4:=aa;rw[this,Wg aa];rw[show((0:Int) != 0)=false from rfl,Wa,Xa];rw[show Xe [(2:Int),v / 4] 0=some 2 by unfold Xe;rfl,Xa,show Xe [(2:Int),v / 4] 1=some (v / 4) by unfold Xe;rfl,Xa];rfl
  rw[Xl g,Wb];rw[show((0:Int) != 0)=false from rfl,Wa,Xa];show bnd (Xe [v % 4,v / 4 % 4294967296] 0) _=_;rw[show Xe [v % 4,v / 4 % 4294967296] 0=some (v % 4) by unfold Xe;rfl,Xa,Xl g,Wb]
 rw[Xl h,Wb,Xa];grind
def XhF(hN:1000000<N){a:Int}(g:0<=a)(B:a<4294967296):Qb9 N a=QcZ N a:=by
 rw[Qb9,Zb aa aa aa,Xa,QcZ,Wg (by show¬a>4294967295;omega),Wg aa,Wa,Wa];obtain⟨n,rfl⟩:∃n,N=n+5:=⟨N-5,aa⟩
 generalize f:[(UJ.mk 2 2),(UJ.mk 32 a)]=L;have e:L.length=2:=by rw[←f];rfl
 have h:Xe L 0=some (UJ.mk 2 2):=by rw[←f];unfold Xe;rfl
 have g1:Xe L 1=some (UJ.mk 32 a):=by rw[←f];unfold Xe;rfl
 have j:wI (0+1)=1:=Xc aa aa;have o:wI (1+1)=2:=Xc aa aa;have p:wI (64-2)=62:=Xc aa aa;have q:wI (62-32)=30:=Xc aa aa;have k2:wI (0+2)=2:=Xc aa aa;have r:wI (2+32)=34:=Xc aa aa;have s:Qbd (n+5) L (n+5) 64 0=some (.nxt ()):=by rw[Qbd,e,h];simp only[Xa,j,p];rw[Qbd,e,g1];simp only[Xa,o,q];rw[Qbd,e];rfl
 have f0:Qce (n+5) 2 2=some true:=Xb8 aa aa aa aa ae;have f1:Qce (n+5) a 32=some true:=Xb8 aa aa aa g (by show a<4294967296;omega);have u:ZO .u64 2 0=2:=by decide +kernel
 have v:ZO .u64 a 2=a*2 ^ 2:=by show wU (a*4)=a*4;exact Xp aa aa
 have y:bOr .u64 0 2=2:=by decide +kernel
 have z:bOr .u64 2 (a*2 ^ 2)=2+a*2 ^ 2:=XcO aa aa ae g aa;have A:QaJ (n+5) L (n+5) 0 0 0=some (.nxt (2+a*2 ^ 2)):=by rw[QaJ,e,h];simp only[Xa,f0,j,k2,u,y];rw[Wd aa,Wb,Wh,Wa,Xb aa];rw[QaJ,e,g1];simp only[Xa,f1,o,r,v,z];rw[Wd aa,Wb,Wh,Wa,Xb aa];rw[QaJ,e];rw[Wg aa,Wa]
 rw[Qfd,s,Xa,Xo,A,Xa,Xo,Xa,Xp (n:=4*a) aa aa,Xp aa aa];grind
end
section
variable {N:Nat}{h0:Wk}{l:List Int}
structure Sc(h0:Wk)(w:Ww)(n j u:Int)(ps:List Ws):Prop where
 rng:0<=j/\j<ps.length
 len:ps.length=w.h.p.length
 fit:0<=u/\u+n<=h0.c.W
 used:(pg ps j).u=u
 sp:∀i,0<=i->pg ps i=pg w.h.p i\/(pg ps i).s=1-h0.s
def XrR(hN:NB N)(hb:HB h0)(hp:Uy h0){w:Ww}(G:CI h0 l w){n:Int}(hn:1<=n)(hn2:n<=h0.c.W){β:Type}(B:Int->Int->Int->List Ws->List Int->Option β):
 (∃r,QcK N w n=some r/\r.2.2=false/\GR N h0.c h0.s n w.h.p w.t B=B 0 0 3 w.h.p w.t) \/
 ∃j u ps tk,Sc h0 w n j u ps/\QcK N w n=some (⟨⟨w.h.c,w.h.w,ps.set j.toNat ⟨(pg ps j).k,(pg ps j).s,wI ((pg ps j).u+n),(pg ps j).P⟩,w.h.s,w.h.b⟩,w.o,tk,w.q,w.d,w.r⟩,Xd h0.c j u,true) /\
  GR N h0.c h0.s n w.h.p w.t B=B j u 0 ps tk:=by
 have S:=hN;unfold NB at S;have hpl:=G.plen;have hv:=Xj.1 hp.conf;have htl:=G.tl hb;have hpp:=hp.pages;have hsp:=hp.space;have T:=G.spc;have V:∀j u:Int,0<=j->j<w.h.p.length->0<=u->u+n<=h0.c.W->wU (wI (wI (4096+wI (j*w.h.c.W))+u))=Xd h0.c j u:=by intro j u h1 h2 h3 h4;have hm:=XP hp.conf (i:=j) h1 aa;rw[G.conf,Xc (n:=j*h0.c.W) aa aa,Xc (n:=4096+j*h0.c.W) aa aa,Xc aa aa,Xp aa aa];rfl
 rw[QcK,GR];rw[Xb aa,Xb aa,Xs,Xs];have new:(∃r,(bnd (Qbt N w.h.p 1) λv=>
  bif (decide (v<0))then some ((Ww.mk zHp [] [] [] 0 (WR.mk 0 0 0 0 0 0)),0,false)
  else bnd (QbP N w.h.p v (wI (1-w.h.s))) λD=>
  grd (w.t.length*8<=140737488355328) <|
  grd ((w.t.length+1)*8<=140737488355328) <|
  bnd (Xe D.1 v) λH=>
  bnd (Xe D.1 v) λI=>
  bnd (Xe D.1 v) λz=>
  some ((Ww.mk (Wk.mk w.h.c w.h.w (D.1.set v.toNat (Ws.mk z.k z.s (wI (I.u+n)) z.P)) w.h.s w.h.b) w.o (w.t++[v]) w.q w.d w.r),(wU (wI ((wI (4096+(wI (v*w.h.c.W))))+H.u))),true))=some r/\r.2.2=false /\
   (bnd (QdZ N w.h.p 1) λf=>
    bif (decide (f<0))then B 0 0 3 w.h.p w.t
    else bnd (QdY N w.h.p f (wI (1-h0.s))) λA=>
    bif (A.2 != 0)then none
    else grd ((w.t.length+1)*8<=140737488355328) <|
    B f 0 0 A.1 (w.t++[f]))=B 0 0 3 w.h.p w.t) \/
  ∃j u ps tk,Sc h0 w n j u ps/\(bnd (Qbt N w.h.p 1) λv=>
  bif (decide (v<0))then some ((Ww.mk zHp [] [] [] 0 (WR.mk 0 0 0 0 0 0)),0,false)
  else bnd (QbP N w.h.p v (wI (1-w.h.s))) λD=>
  grd (w.t.length*8<=140737488355328) <|
  grd ((w.t.length+1)*8<=140737488355328) <|
  bnd (Xe D.1 v) λH=>
  bnd (Xe D.1 v) λI=>
  bnd (Xe D.1 v) λz=>
  some ((Ww.mk (Wk.mk w.h.c w.h.w (D.1.set v.toNat (Ws.mk z.k z.s (wI (I.u+n)) z.P)) w.h.s w.h.b) w.o (w.t++[v]) w.q w.d w.r),(wU (wI ((wI (4096+(wI (v*w.h.c.W))))+H.u))),true))=some (⟨⟨w.h.c,w.h.w,ps.set j.toNat ⟨(pg ps j).k,(pg ps j).s,wI ((pg ps j).u+n),(pg ps j).P⟩,w.h.s,w.h.b⟩,w.o,tk,w.q,w.d,w.r⟩,Xd h0.c j u,true) /\
   (bnd (QdZ N w.h.p 1) λf=>
    bif (decide (f<0))then B 0 0 3 w.h.p w.t
    else bnd (QdY N w.h.p f (wI (1-h0.s))) λA=>
    bif (A.2 != 0)then none
    else grd ((w.t.length+1)*8<=140737488355328) <|
    B f 0 0 A.1 (w.t++[f]))=B j u 0 ps tk:=by
  obtain⟨j,ej,hj⟩:=Zh (N:=N) (ps:=w.h.p) 1 aa aa
  rw[Xb7 aa aa,ej,Xa,Xa]
  rcases hj with rfl|hr
  .exact .inl ⟨_,rfl,rfl,rfl⟩
  .refine .inr ?_
   obtain⟨y,ey,Y⟩:=Xdn (N:=N) (ps:=w.h.p) j (1-h0.s) aa aa
   have J:=Y.2.2 hr aa aa
   have⟨M,q1,q2,Z⟩:=Y.1 J
   have K:j<y.1.length:=aa
   have g:pg y.1 j=⟨1,1-h0.s,0,0⟩:=by rw[Z j M,Wm rfl]
   rw[Xc (n:=1-h0.s) aa aa,Xe6 aa aa,T,Xc (n:=1-h0.s) aa aa,ey,Xa,Xa,Wg aa,Wa,Wa,Xb aa,Xb aa,Xr M K,Xa,Xa,Xa,J,Xb aa]
   refine⟨j,0,y.1,w.t++[j],⟨⟨M,K⟩,aa,⟨aa,aa⟩,by rw[g],λi L=>?_⟩,?_,rfl⟩
   .by_cases e:i=j
    .subst e;rw[g];exact .inr rfl
    .rw[Z i L,Wi e,Wi aa];exact .inl rfl
   .rw[show(pg y.1 j).u=0 by rw[g],V j 0 M aa aa aa]
 by_cases ht:0<(w.t.length:Int)
 .rw[Wd aa,Wb,Wb,Xc (n:=(w.t.length:Int)-1) aa aa];have L:=Yd (l:=w.t) (i:=(w.t.length:Int)-1) aa aa;generalize w.t[((w.t.length:Int)-1).toNat]'aa=j at L;have⟨O,R,t2,t3,t4⟩:=G.tk j (YI L);rw[L,Xa,Xa,Xa,Xa,Xa,Xr O R,Xa,Xa,Xa,Xa,Xa,Wd (p:=j>=0) O,Wb,Xb aa,Wd (p:=j<_) R,Wb,G.conf];have U:=Xc (n:=(pg w.h.p j).u+n) aa aa;have e2:=Xc (n:=h0.c.W-(pg w.h.p j).u) aa aa;by_cases E:(pg w.h.p j).u+n<=h0.c.W
  .rw[U,e2,Wd (p:=(pg w.h.p j).u+n<=h0.c.W) E,Wd (p:=n<=h0.c.W-(pg w.h.p j).u) aa,Wb,Wb];refine .inr ⟨j,(pg w.h.p j).u,w.h.p,w.t,⟨⟨O,R⟩,rfl,⟨t3,E⟩,rfl,λi _=>.inl rfl⟩,?_,rfl⟩;have:=V j (pg w.h.p j).u O R t3 E;rw[G.conf]at this;rw[this,U]
  rw[U,e2,Wg (p:=(pg w.h.p j).u+n<=h0.c.W) E,Wg (p:=n<=h0.c.W-(pg w.h.p j).u) aa,Wa,Wa];rw[G.conf]at new;exact new
 grind
def XrS(hN:NB N)(hb:HB h0)(hp:Uy h0){w:Ww}(v:CI h0 l w){n:Int}(D:1<=n)(y:n<=h0.c.W):
 (∃r,QcK N w n=some r/\r.2.2=false/\QcC N w n=some (0,0,3,w.h.p,w.t)) \/
 ∃j u ps tk,Sc h0 w n j u ps/\QcK N w n=some (⟨⟨w.h.c,w.h.w,ps.set j.toNat ⟨(pg ps j).k,(pg ps j).s,wI ((pg ps j).u+n),(pg ps j).P⟩,w.h.s,w.h.b⟩,w.o,tk,w.q,w.d,w.r⟩,Xd h0.c j u,true) /\
  QcC N w n=some (j,u,0,ps,tk):=by
 have h:=XrR hN hb hp v D y λz A B f g=>some (z,A,B,f,g);have e:QcC N w n=GR N h0.c h0.s n w.h.p w.t λz A B f g=>some (z,A,B,f,g):=by rw[←v.conf,←v.spc,QcC,Xs];rfl
 simp_all
end
section
variable {N:Nat}
def ZL{ps:List Ws}{i:Nat}(h:i<ps.length):pg ps (i:Int)=ps[i]:=by unfold pg;simp_all
def XrT{ps e:List Ws}(f:e.length=ps.length)(h:∀i,0<=i->pg e i=pg ps i):e=ps:=by refine List.ext_getElem f λi g j=>?_;rw[←ZL g,←ZL j];simp_all
def XrU{ps:List Ws}(q:Ws->Bool){i k:Nat}(h:i+1+k<=ps.length):((ps.drop (i+1)).take k).all q=true↔∀m:Int,1<=m->m<=k->q (pg ps (i+m))=true:=by
 rw[WX];constructor
 .intro f m o p;have e:pg ps (i+m)=((ps.drop (i+1)).take k)[m.toNat-1]'(by rw[Wl,Wn];omega):=by rw[Ir,IO,←ZL];congr 1;omega
  grind
 intro f x g;obtain⟨m,j,rfl⟩:=WE g;rw[Wl,Wn]at j;rw[Ir,IO,←ZL];have:=f (m+1) aa aa;grind
structure OW(c:WN)(ps:List Ws)(i:Int):Prop where
 sp:0<=(pg ps i).s/\(pg ps i).s<=1
 pn:0<=(pg ps i).P/\(pg ps i).P<=2147483647
 k0:(pg ps i).k=0->pg ps i=Zm
 k1:(pg ps i).k=1->0<=(pg ps i).u/\(pg ps i).u<=c.W
 k2:(pg ps i).k=2->1<=XF c (pg ps i).u/\i+XF c (pg ps i).u<=ps.length/\∀m,1<=m->m<XF c (pg ps i).u->(pg ps (i+m)).k=3/\(pg ps (i+m)).s=(pg ps i).s/\(pg ps (i+m)).u=0/\(pg ps (i+m)).P=0
 kd:(pg ps i).k=0\/(pg ps i).k=1\/(pg ps i).k=2
def Xfc{s:Int}{p:Ws}:Yl s p=true↔p.k=3/\p.s=s/\p.u=0/\p.P=0:=by unfold Yl Kw;grind
def XbB{c:WN}{ps:List Ws}{i:Nat}(A:i<ps.length):(Yi c ps i ps[i]≠0↔OW c ps i)/\(OW c ps i->Yi c ps i ps[i]=if ps[i].k=2 then(XF c ps[i].u).toNat else 1):=by
 have e:=ZL A;generalize hp:ps[i]=p at *;have tl:∀(h:i+XF c p.u<=ps.length) (g:1<=XF c p.u),((ps.drop (i+1)).take ((XF c p.u).toNat-1)).all (Yl p.s)=true↔∀m,1<=m->m<XF c p.u->(pg ps (i+m)).k=3/\(pg ps (i+m)).s=p.s/\(pg ps (i+m)).u=0/\(pg ps (i+m)).P=0:=λh g=>by rw[XrU _ aa];exact⟨λq m a b=>Xfc.1 (q m a aa),λq m a b=>Xfc.2 (q m a aa)⟩
 unfold Yi;constructor
 .constructor
  .intro h;by_cases h0:p.k=0
   .rw[Wm h0]at h;by_cases g:p.s=0/\p.u=0/\p.P=0
    .obtain⟨a,b,d⟩:=g;refine⟨?_,?_,?_,?_,?_,?_⟩<;>rw[e]
     .omega
     .omega
     .intro _;obtain⟨k,s,u,q⟩:=p;simp_all[Zm]
     .intro h;omega
     .intro h;omega
     exact .inl h0
    rw[Wi g]at h;exact absurd rfl h
   rw[Wi h0]at h;by_cases g:(p.s=0\/p.s=1)/\0<=p.P/\p.P<=2147483647;rotate_left
   .rw[Wi g]at h;exact absurd rfl h
   rw[Wm g]at h;by_cases v:p.k=1
   .rw[Wm v]at h;by_cases j:0<=p.u/\p.u<=c.W
    .refine⟨?_,?_,?_,?_,?_,?_⟩<;>rw[e]
     .omega
     .omega
     .intro h;omega
     .exactλ_=>j
     .intro h;omega
     exact .inr (.inl v)
    rw[Wi j]at h;exact absurd rfl h
   rw[Wi v]at h;by_cases j:p.k=2;rotate_left
   .rw[Wi j]at h;exact absurd rfl h
   by_cases y:1<=XF c p.u/\(XF c p.u).toNat<=ps.length-i/\((ps.drop (i+1)).take ((XF c p.u).toNat-1)).all (Yl p.s)=true
   .refine⟨?_,?_,?_,?_,?_,?_⟩<;>rw[e]
    .omega
    .omega
    .omega
    .omega
    .exactλ_=>⟨y.1,aa,(tl aa y.1).1 y.2.2⟩
    exact .inr (.inr j)
   simp_all
  intro b;have f:=b.kd;have z:=b.sp;have o:=b.pn;have b0:=b.k0;have r:=b.k1;have b2:=b.k2;rw[e]at f z o b0 r b2;rcases f with f|f|f
  .rw[Wm f,b0 f,Wm ⟨rfl,rfl,rfl⟩];omega
  .rw[Wi aa,Wm ⟨aa,o⟩,Wm f,Wm (r f)];omega
  grind
 intro b;have f:=b.kd;have z:=b.sp;have o:=b.pn;have b0:=b.k0;have r:=b.k1;have b2:=b.k2;rw[e]at f z o b0 r b2;rcases f with f|f|f
 .rw[Wm f,b0 f,Wm ⟨rfl,rfl,rfl⟩];rfl
 .rw[Wi aa,Wm ⟨aa,o⟩,Wm f,Wm (r f),Wi aa]
 grind
structure OF(c:WN)(ps:List Ws):Prop where
 hd:∀i:Int,0<=i->i<ps.length->(pg ps i).k≠3->OW c ps i
 tl:∀i:Int,0<=i->i<ps.length->(pg ps i).k=3->∃k:Int,0<=k/\k<i/\OW c ps k/\(pg ps k).k=2/\i<k+XF c (pg ps k).u
def XhG{h:Wk}(o:h.p.length<=100000)(hN:1000000<N):∀(n i:Nat),i<=h.p.length->Qaf N h n (i:Int)=some (.nxt ())->∀j:Nat,i<=j->j<h.p.length->∃k s:Nat,i<=k/\k<=j/\j<k+s/\∃r:k<h.p.length,Yi h.c h.p k h.p[k]=s
 |0,i,_,e,_,_,_=>by simp_all[Qaf]
 |n+1,i,u,e,j,v,q=>by
  have g:i<h.p.length:=aa;rw[Qaf,Wd (show(i:Int)<_ by omega),Wb,Kx o hN g,Xa]at e;have y:=Xbx (c:=h.c) g (p:=h.p[i]);generalize z:Yi h.c h.p i h.p[i]=s at *;by_cases h0:s=0
  .simp_all
  rw[show((s:Int)==0)=false by simp_all,Wa,Xc aa aa,show(i:Int)+(s:Int)=((i+s:Nat):Int) by omega]at e;by_cases A:j<i+s
  .grind
  have⟨k,t,a,b,d,f⟩:=XhG o hN n (i+s) aa e j aa q;grind
def XhH{h:Wk}:∀(n:Nat) (i:Int) {b:Bool},Qaf N h n i=some (.ret b)->b=false
 |0,i,b,e=>by simp_all[Qaf]
 |n+1,i,b,e=>by
  rw[Qaf]at e;cases g:decide (i<(h.p.length:Int))with
  |false=>simp_all
  |true=>
   rw[g,Wb]at e;cases f:QgT N h.c h.p i with
   |none=>simp_all[f,KH]
   |some y=>
    rw[f,Xa]at e;cases j:y==0 with
    |true=>simp_all
    |false=>rw[j,Wa]at e;exact XhH n _ e
def Xag(hN:NB N){h:Wk}(hb:HB h)(ep:Qab N h=some true):OF h.c h.p:=by
 have o:1000000<N:=by unfold NB at hN;omega
 have hp:=XJ hN hb ep;have e:=ep;rw[←Yc hb.2 o,KM hp.pre]at e;have A:Qaf N h N 0=some (.nxt ()):=by
  cases q:Qaf N h N 0 with
  |none=>simp_all[q,KH]
  |some x=>
   rw[q,Xa]at e;cases x with
   |ret a=>rw[XA]at e;cases e;exact absurd (XhH N 0 q) ab
   |nxt u=>rfl
 have y:=XhG hb.2 o N 0 aa A;refine⟨λi h0 q z=>?_,λi h0 q z=>?_⟩
 .obtain⟨j,rfl⟩:∃j:Nat,i=(j:Int):=⟨i.toNat,aa⟩
  have⟨k,s,_,B,D,g,E⟩:=y j aa aa;have r:=XbB (c:=h.c) g;have hb:=r.1.1 aa;by_cases v:j=k
  .simp_all
  have:=r.2 hb;by_cases f:h.p[k].k=2
  .rw[Wm f]at this;have:=(hb.k2 (by rw[ZL g];exact f)).2.2 ((j:Int)-k) aa (by rw[ZL g];omega);rw[show(k:Int)+((j:Int)-k)=j by omega]at this;exact absurd this.1 z
  grind
 obtain⟨j,rfl⟩:∃j:Nat,i=(j:Int):=⟨i.toNat,aa⟩
 have⟨k,s,_,B,D,g,E⟩:=y j aa aa;have r:=XbB (c:=h.c) g;have hb:=r.1.1 aa;have G:=r.2 hb;have H:=hb.kd;have v:j≠k:=by rintro rfl;omega
 by_cases f:h.p[k].k=2
 .rw[Wm f]at G;exact⟨k,aa,aa,hb,by rw[ZL g];exact f,by rw[ZL g];omega⟩
 grind
def SpanS(c:WN)(ps e:List Ws):Prop:=e.length=ps.length/\∀i(f:i<ps.length)(g:i<e.length),Yi c e i e[i]=Yi c ps i ps[i]
def SpanS.refl(c:WN)(ps:List Ws):SpanS c ps ps:=⟨rfl,λ_ _ _=>rfl⟩
def SpanS.trans{c:WN}{a b d:List Ws}(e:SpanS c a b)(f:SpanS c b d):SpanS c a d:=⟨f.1.trans e.1,λi g h=>(f.2 i (by rw[e.1];omega) h).trans (e.2 i g (by rw[e.1];omega))⟩
def XbC{c:WN}{ps qs:List Ws}(hN:OF c ps)(o:qs.length=ps.length)(h:∀i:Int,0<=i->i<ps.length->((pg ps i).k<=1/\(pg qs i).k=1/\(0<=(pg qs i).s/\(pg qs i).s<=1)/\(0<=(pg qs i).P/\(pg qs i).P<=2147483647)/\0<=(pg qs i).u/\(pg qs i).u<=c.W) \/
  ((pg qs i).k=(pg ps i).k/\(pg qs i).u=(pg ps i).u/\(pg qs i).P=(pg ps i).P/\((pg qs i).s=(pg ps i).s\/2<=(pg ps i).k/\0<=(pg qs i).s/\(pg qs i).s<=1)))(ht:∀i m:Int,0<=i->(pg ps i).k=2->1<=m->m<XF c (pg ps i).u->i+m<ps.length->(pg qs (i+m)).s=(pg qs i).s):SpanS c ps qs:=by
 refine⟨o,λi p q=>?_⟩;have y:=ZL p;have z:=ZL q;have A:=XbB (c:=c) p;have B:=XbB (c:=c) q;by_cases D:(pg ps i).k=3
 .have n1:¬OW c ps i:=λb=>by have:=b.kd;omega
  have n2:¬OW c qs i:=λb=>by have:=b.kd;have:=h i aa aa;omega
  simp_all
 have b:=hN.hd i aa aa D;have hb:=b.kd;have b0:=b.k0;have J:=b.k1;have b2:=b.k2;have K:=b.sp;have L:=b.pn;have e:=h i aa aa;have E:OW c qs i:=by
  refine⟨aa,aa,λj=>?_,λj=>?_,λj=>?_,aa⟩
  .rcases e with g|⟨g1,g2,g3,g4⟩
   .omega
   have:=b0 aa;rw[this]at g1 g2 g3 g4;have g4:(pg qs i).s=0:=by rcases g4 with g|g;exact g;exact absurd g.1 ae
   have G:pg qs i=⟨(pg qs i).k,(pg qs i).s,(pg qs i).u,(pg qs i).P⟩:=rfl;rw[G,g1,g2,g3,g4];rfl
  .omega
  rcases e with g|⟨g1,g2,g3,g4⟩
  .omega
  have f:(pg ps i).k=2:=aa;have⟨c1,H,I⟩:=b2 f;rw[g2,o];refine⟨c1,H,λm r v=>?_⟩;have⟨M,O,R,S⟩:=I m r v;have T:=h (i+m) aa aa;refine⟨aa,ht i m aa f r v aa,aa,aa⟩
 rw[A.2 b,B.2 E];rw[y]at e hb;rw[z]at e;by_cases j:ps[i].k=2
 .simp_all
 rw[Wi j,Wi aa]
def SpanS.proper(hN:NB N){h:Wk}(hb:HB h)(ep:Qab N h=some true){f:List Ws}(g:SpanS h.c h.p f){ws:List Int}(hw:ws.length=h.w.length){b:Int}(e:b = -1\/(0<=b/\b<f.length/\(pg f b).k=1)):Qab N ⟨h.c,ws,f,h.s,b⟩=some true:=
 Xae hN hb ep g.1 (λi j=>g.2 i j (by rw[g.1];omega)) hw e
end
section
variable {N:Nat}{h0:Wk}{l:List Int}
def XcP{α:Type}{l:List α}{o n:Nat}{i:Int}(f:0<=i)(g:i<n)(e:o+i.toNat<l.length):KX l o n i=some (l[o+i.toNat]'e):=by unfold KX;simp_all
def Xj2{c:WN}(f:X9 c=true){a:Int}(g:4096<=a/\a<4096+c.p*c.W):Qcy N c a=some (pgi c a,pgo c a,0)/\wI (wI (pgi c a*c.W)+pgo c a)=a-4096:=by
 have⟨e,h,j,o,q⟩:=Yq f g;have r:=XP f (i:=pgi c a) h j;refine⟨?_,?_⟩
 .rw[XiS _ _ _ aa,K5,f,Wi ab,Wm g];rfl
 rw[Xc (n:=pgi c a*c.W) aa aa,Xc aa aa];unfold Xd at e;omega
def XuC{c c':WN}(e:c=c')(f:X9 c=true)(hN:1000000<N){cp X n i u:Int}{ws q:List Int}{ps:List Ws}{β:Type}(j:Int->Int->Int->List Int->List Ws->List Int->Option β)(hw:(ws.length:Int)=c.p*c.W)(r:0<=X)(D:1<=n)(E:X+n<=ws.length)(g:0<=i)(o:i<c.p)(v:0<=u)(G:u+n<=c.W)(y:(ps.length:Int)=c.p)(H:q.length<=100000):
 FT N c' cp ws ps q X (X+n) j i u=j (Xd c i u) 0 (wI (cp+1)) ((ovr ws ((ws.drop X.toNat).take n.toNat) (ix (Xd c i u))).set X.toNat (wU (wU (4*Xd c i u)+2))) (ps.set i.toNat ⟨(pg ps i).k,(pg ps i).s,wI ((pg ps i).u+n),(pg ps i).P⟩) (q++[Xd c i u]):=by
 subst e;have I:=XP f (i:=i) g o;have J:Xd c i u=4096+i*c.W+u:=rfl;have z:4096<=Xd c i u/\Xd c i u<4096+c.p*c.W:=aa;have⟨A,B⟩:=Xj2 (N:=N) f z;have eL:((X+n).toNat-X.toNat)=n.toNat:=aa;have eN:(n.toNat:Int)=n:=aa;have h:ovr ws ((ws.drop X.toNat).take n.toNat) (ix (Xd c i u))=(ws.take (Xd c i u-4096).toNat++(ws.drop X.toNat).take n.toNat)++ws.drop ((Xd c i u-4096).toNat+n.toNat):=by unfold ovr ix;rw[Wl,Wn,I5 aa]
 rw[FT,V9,ZT,f,Wi ab,Wm ⟨g,o,v,aa⟩,Xa];rw[show((0:Int) != 0)=false from rfl,Wa,eL,eN,Xb aa,A,Xa];rw[show((0:Int) != 0)=false from rfl,Wa,Xb aa];rw[B,Xc (n:=(ws.length:Int)-(Xd c i u-4096)) aa aa,Wg (p:=n>_) aa,Wa];rw[Xc (n:=Xd c i u-4096+n) aa aa,Xb aa,XhF hN aa aa,Vt,Wi aa,Xa];rw[show((0:Int) != 0)=false from rfl,Wa,Xb aa,←h,XcP aa aa (by grind),Xa,Xr g aa,Xa,Xb aa,Xa,Xb aa]
def Xs4(w:Ww)(a:Int)(lp:Nat->Int->List Ws->Option (List Ws))(h0:∀i ps,lp 0 i ps=none)(g:∀n i ps,lp (n+1) i ps=(grd (ps.length<=140737488355328) <|
 bif (decide (i<(ps.length:Int)))then(bnd (Xe ps i) λf=>
  bif (f.k==3)then(bnd (Xe ps i) λe=>
   lp n (wI (i+1)) (ps.set i.toNat (Ws.mk e.k (wI (1-w.h.s)) e.u e.P)))
  else some ps)
 else some ps)):∀(n:Nat) (i:Int) (ps:List Ws),lp n i ps=QaP N w a n i ps
 |0,i,ps=>by rw[h0,QaP]
 |n+1,i,ps=>by rw[g,QaP];have:=Xs4 w a lp h0 g n;simp_all
def Prm(w:Ww)(i:Int):Prop:=(0<=i/\i<w.h.p.length)/\(pg w.h.p i).k=1/\(pg w.h.p i).s≠w.h.s/\i∉w.t
def XpX(hN:NB N){w:Ww}{i:Int}(B:w.t.length<=100000)(hp:w.h.p.length<=100000)(A:0<=w.h.s/\w.h.s<=1)(g:∀i,0<=i->(pg w.h.p i).k=1->0<=(pg w.h.p i).s/\(pg w.h.p i).s<=1){β:Type}:
 ∃b,(b=true↔Prm w i)/\Qb5 N w i=some b/\∀K:Bool->Option β,(jn K λj=>bif (decide (i<0))then j false
  else grd (w.h.p.length<=140737488355328) <|
  bif (decide (i>=(w.h.p.length:Int)))then j false
  else bnd (Xe w.h.p i) λf=>
  jn (λ(o:Bool)=>
   j o) λq=>
  bif (f.k==1)then(bif (f.s==(wI (1-w.h.s)))then(bnd (Qbj N w.t i) λr=>
      q (!r))
   else q false)
  else q false)=K b:=by
 have u:=hN;unfold NB at u;rw[Qb5];by_cases v:i<0
 .exact⟨false,⟨λh=>(by grind),λh=>by have:=h.1;omega⟩,by simp_all,λK=>by rw[Xs,Wd v,Wb]⟩
 by_cases z:i>=(w.h.p.length:Int)
 .exact⟨false,⟨λh=>(by grind),λh=>by have:=h.1;omega⟩,by simp_all,λK=>by rw[Xs,Wg v,Wa,Xb aa,Wd z,Wb]⟩
 rw[Wg v,Wa,Wg z,Wa,Xr aa aa,Xa];by_cases e:(pg w.h.p i).k=1
 .have:=g i aa e;rw[XC e,Wb];by_cases y:(pg w.h.p i).s=w.h.s
  .exact⟨false,⟨λh=>(by grind),λh=>absurd y h.2.2.1⟩,by simp_all,λK=>by rw[Xs,Wa,Xb aa,Wa,Xa,Xs,XC e,Wb,Xc (n:=1-w.h.s) aa aa,Xk aa,Wa]⟩
  exact⟨!w.t.contains i,⟨λh=>⟨aa,e,y,by simp_all⟩,λh=>by simpa using h.2.2.2⟩,by rw[Xl y,Wb,Xfb _ _ aa aa,Xa],λK=>by rw[Xs,Wa,Xb aa,Wa,Xa,Xs,XC e,Wb,Xc (n:=1-w.h.s) aa aa,XC aa,Wb,Xlo _ _ aa aa,Xa]⟩
 exact⟨false,⟨λh=>(by grind),λh=>absurd h.2.1 e⟩,by grind,λK=>by rw[Xs,Wa,Xb aa,Wa,Xa,Xs,Xk e,Wa]⟩
def Xf9(hN:NB N){w:Ww}{i:Int}(g:w.t.length<=100000)(hp:w.h.p.length<=100000)(e:0<=w.h.s/\w.h.s<=1)(f:∀i,0<=i->(pg w.h.p i).k=1->0<=(pg w.h.p i).s/\(pg w.h.p i).s<=1):
 ∃b,(b=true↔Prm w i)/\Qb5 N w i=some b/\Qc8 N w i=some b:=by have⟨b,j,o,q⟩:=XpX (β:=Bool) (i:=i) hN g hp e f;exact⟨b,j,o,q some⟩
end
end Go.Sx
