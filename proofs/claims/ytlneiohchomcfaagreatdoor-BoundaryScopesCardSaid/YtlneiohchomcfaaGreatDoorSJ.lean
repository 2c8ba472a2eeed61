import Derived.Test.YtlneiohchomcfaaGreatDoorSI
set_option linter.all false
namespace Go.Sx
def ZY(x:W3)(v:Int):Int×Int:=
 if v=0 then(0,0)else if(Yk v).2≠0 then(0,(Yk v).2)else
 if(Yk v).1.Tag=1 then YQ x.l (Yk v).1.Index (Yk v).1.J else
 if(Yk v).1.Tag=2 then YN x.g.e (Yk v).1.Index (Yk v).1.J else YN x.v.e (Yk v).1.Index (Yk v).1.J
def thE(x:W3)(v:Int):Int×Int:=if(ZY x v).2=0/\(ZY x v).1=0 then(0,5)else ZY x v
structure Ov(N k:Nat)(x:W3):Prop where
 et:ET x
 vx:VX N x
 iss:x.l.i.length<=k
 sc:x.l.x.length≠0
def SV(N k:Nat)(y:W3×Int×Int):Prop:=y.2.2=0->Ov N k y.1
structure CV(N k:Nat)(x:W3)(a b c:Int):Prop where
 s:Ov N k x
 hN:NB N
 ta:tU a
 tb:tU b
 tc:tU c
def ZN{e f:Int}(h:e=f):(e != f)=false:=by grind
def Xr1{l:Wp}(h:Yb l=true):LBp l:=by have f:=XT.1 h;have:=f.slots;have:=f.iss;have:=f.sc;exact⟨aa,aa,aa⟩
def XqX{t:Wu}(h:Yr t.e=true):TB t:=by have:=JB h;unfold TB;omega
section
variable {N k:Nat}{x:W3}
def Xkd(hN:NB N)(ht:ET x)(vx:VX N x){v:Int}(tv:tU v):Qar N x v=some (ZY x v):=by
 have hN':1000000<N:=by unfold NB at hN;omega
 have hx:=ht.eb;rw[Qar,(XaC hN ht).2 vx,Xa,Wh,Wa,XbY tv,ZY];by_cases hz:v=0
 .rw[XC hz,Wm hz];rfl
 rw[Xk hz,Wa,Xa,Wi hz];by_cases hd:(Yk v).2=0;rotate_left
 .rw[Xl hd,Wm hd];rfl
 rw[show((Yk v).2 != 0)=false by simp[hd],Wa,Wi (by simp[hd]),Vv hx.loc hN',Kt hx.glo hN',Kt hx.wea hN',Xa,Xa,Xa];grind
def Xr2(hN:NB N)(ht:ET x)(vx:VX N x){v:Int}(tv:tU v):Qbv N x v=some (thE x v):=by rw[Qbv,Xkd hN ht vx tv,Xa,thE];grind
def XcU(vx:VX N x){v:Int}(h:(ZY x v).2=0):(ZY x v).1=0\/Obb x.h (ZY x v).1:=by
 unfold ZY at h⊢;by_cases h0:v=0
 .simp_all
 rw[Wi h0]at h⊢;by_cases h1:(Yk v).2≠0
 .simp_all
 rw[Wi h1]at h⊢;by_cases h2:(Yk v).1.Tag=1
 .rw[Wm h2]at h⊢;have⟨_,_,p,hp,_,hl,e⟩:=Vb h;rw[e];exact vx.rl _ (WU.2 ⟨p,W8.2 ⟨W7 hp,hl⟩,rfl⟩)
 rw[Wi h2]at h⊢;by_cases h3:(Yk v).1.Tag=2
 .rw[Wm h3]at h⊢;have⟨_,_,p,hp,_,hl,e⟩:=Jm h;rw[e];exact vx.rg _ (WU.2 ⟨p,W8.2 ⟨W7 hp,hl⟩,rfl⟩)
 rw[Wi h3]at h⊢;have⟨_,_,p,hp,_,hl,e⟩:=Jm h;rw[e];exact vx.rw_ _ (WU.2 ⟨p,W8.2 ⟨W7 hp,hl⟩,rfl⟩)
def XnK{v:Int}(h0:v≠0)(h:(ZY x v).2=0):(Yk v).2=0/\((Yk v).1.Tag=1->(YQ x.l (Yk v).1.Index (Yk v).1.J).2=0)/\((Yk v).1.Tag=2->(YN x.g.e (Yk v).1.Index (Yk v).1.J).2=0)/\((Yk v).1.Tag=3->(YN x.v.e (Yk v).1.Index (Yk v).1.J).2=0):=by unfold ZY at h;grind
def Ov.up{k':Nat}(s:Ov N k x)(h:k<=k'):Ov N k' x:=⟨s.et,s.vx,UO s.iss h,s.sc⟩
def Ov.tabs{k':Nat}(s:Ov N k x){L:Wp}{G W:Wu}(v1:Yb L=true)(v2:Yr G.e=true)(v3:Yr W.e=true)(m0:∀r∈Xz G.e,r≠0)(m1:∀r∈XM L.S,r=0\/Obb x.h r)(m2:∀r∈Xz G.e,r=0\/Obb x.h r)(m3:∀r∈Xz W.e,r=0\/Obb x.h r)(i:L.i.length<=k')(sc:L.x.length≠0):Ov N k' ⟨x.h,L,G,W,x.P,x.R⟩:=
 ⟨⟨⟨s.et.eb.heap,Xr1 v1,XqX v2,XqX v3,s.et.eb.pins,s.et.eb.roots⟩,s.et.tw⟩,⟨s.vx.mx,v1,v2,v3,m0,s.vx.rr,m1,m2,m3⟩,i,sc⟩
def Ov.locs{k':Nat}(s:Ov N k x){L:Wp}(v1:Yb L=true)(m1:∀r∈XM L.S,r=0\/Obb x.h r)(i:L.i.length<=k')(sc:L.x.length≠0):Ov N k' ⟨x.h,L,x.g,x.v,x.P,x.R⟩:=
 s.tabs v1 s.vx.glo s.vx.wea s.vx.gz m1 s.vx.rg s.vx.rw_ i sc
def Ov.heap(s:Ov N k x){h2:Wk}{pins:List UE}(ht:HT h2)(mx:MX N h2 pins)(ob:∀b,Obb x.h b->Obb h2 b):Ov N k ⟨h2,x.l,x.g,x.v,pins,x.R⟩:=by have ob2:∀r,r=0\/Obb x.h r->r=0\/Obb h2 r:=λr h=>h.imp (λz=>z) (ob r);have hl:=mx.len;exact⟨⟨⟨ht.hb,s.et.eb.loc,s.et.eb.glo,s.et.eb.wea,by grind,s.et.eb.roots⟩,ht.tw⟩,⟨mx,s.vx.loc,s.vx.glo,s.vx.wea,s.vx.gz,λr hr=>ob2 r (s.vx.rr r hr),λr hr=>ob2 r (s.vx.rl r hr),λr hr=>ob2 r (s.vx.rg r hr),λr hr=>ob2 r (s.vx.rw_ r hr)⟩,s.iss,s.sc⟩
def Ov.put(s:Ov N k x){h2:Wk}{o i v:Int}(q:O7 N x.h h2 o i v):Ov N k ⟨h2,x.l,x.g,x.v,x.P,x.R⟩:=
 s.heap q.ht ⟨q.gx,s.vx.mx.len,λp hp=>⟨(q.ob _).2 (s.vx.mx.ob p hp).1,(s.vx.mx.ob p hp).2⟩,s.vx.mx.nd,λj j0 j1=>by rw[q.pl]at j1⊢;rw[q.cf];exact s.vx.mx.sm j j0 j1⟩ λb=>(q.ob b).2
def Ov.add(s:Ov N k x){h2:Wk}{o:Int}{d:Wv}(ht:HT h2)(q:OZ N x.h h2 o d):Ov N k ⟨h2,x.l,x.g,x.v,x.P,x.R⟩:=
 s.heap ht ⟨q.gx,s.vx.mx.len,λp hp=>⟨(q.ob _).2 (.inl (s.vx.mx.ob p hp).1),(s.vx.mx.ob p hp).2⟩,s.vx.mx.nd,λj j0 j1=>by rw[q.pl]at j1;rw[q.pn j j0 j1,q.cf];exact s.vx.mx.sm j j0 j1⟩ λb h=>(q.ob b).2 (.inl h)
def Ov.pins(s:Ov N k x){h2:Wk}{pins:List UE}(q:OP N x.h h2)(mx:MX N h2 pins):Ov N k ⟨h2,x.l,x.g,x.v,pins,x.R⟩:=s.heap q.ht mx λb=>(q.ob b).2
def XnL(hN:NB N)(s:Ov N k x):Ok (QbG N x) λr=>r.2.2=3\/(r.2.2=0/\Ov N k r.1/\r.1.h.c=x.h.c/\r.1.l.x=x.l.x/\r.1.l.i=x.l.i/\r.1.P=x.P/\R2 (λa b:UB=>b.J=a.J/\b.V=a.V) x.l.S r.1.l.S):=by
 refine Ok.mono (XrZ hN s.et s.vx (P:=λ_=>True) (λ_ _ _ _ _=>.inr trivial) λ_ _=>.inr trivial) λr hr=>?_;rcases hr with h|⟨h,M,c⟩
 .omega
 exact .inr ⟨h,⟨c.et,c.vx,by rw[c.lc.2];exact s.iss,by rw[c.lc.1];exact s.sc⟩,c.ch.cf,c.lc.1,c.lc.2,c.pi,c.ls.mono λ_ _ e=>⟨e.1,e.2.1⟩⟩
def XbE(hN:NB N)(s:Ov N k x){r:Int}(hr:r=0\/Obb x.h r):Ok (Qbh N x r) (SV N (k+1)):=by
 have hN':1000000<N:=by unfold NB at hN;omega
 rw[Qbh,Ku s.et.eb.loc hN',Xa];by_cases h0:r=0
 .rw[XC h0];exact We λ_=>s.up aa
 rw[Xk h0,Wa];by_cases he:(XU x.l r).2.2.2=0;rotate_left
 .rw[Xl he,Wb,Qaa,Xa];exact We λe=>absurd e he
 have⟨e,ee,_⟩:=Y0 (N:=N) (UR.mk 1 (XU x.l r).2.1 (XU x.l r).2.2.1);rw[ZN he,Wa,ee,Xa];have nv:=XhS he;refine We λ_=>s.locs nv.1 (λt ht=>?_) ?_ ?_
 .rw[nv.2.2.1]at ht;rw[Xlt]at ht;rcases Wt.1 ht with ht|ht
  .exact s.vx.rl t ht
  have:t=r:=by unfold XM at ht;simpa using ht
  simp_all
 .rw[nv.2.2.1];have:=s.iss;simp_all
 rw[nv.2.2.1];exact s.sc
end
section
variable {N k:Nat}{x:W3}{a b c:Int}
def CV.n6(h:CV N k x a b c):1000000<N:=by have:=h.hN;unfold NB at this;omega
def CV.ev(h:CV N k x a b c):Qa5 N x=some true:=(XaC h.hN h.s.et).2 h.s.vx
def CV.hp(h:CV N k x a b c):Uy x.h:=XJ h.hN h.s.et.eb.heap h.s.vx.mx.gx.ep
def CV.res(h:CV N k x a b c){v:Int}(tv:tU v):Qar N x v=some (ZY x v):=Xkd h.hN h.s.et h.s.vx tv
def CV.th(h:CV N k x a b c):Qbv N x a=some (thE x a):=Xr2 h.hN h.s.et h.s.vx h.ta
def CV.obj(h:CV N k x a b c)(e:(thE x a).2=0):Obb x.h (thE x a).1/\Qca N x.h (thE x a).1=some (hdA x.h.w (thE x a).1,0):=by
 have ho:Obb x.h (thE x a).1:=by
  unfold thE at e⊢;split at e
  .omega
  rename_i hn;rw[Wi hn];rcases XcU h.s.vx e with q|q
  .exact absurd ⟨e,q⟩ hn
  omega
 have hat:=ho.1.at_ h.hp;have hb:=h.s.et.eb.heap;have ep:=h.s.vx.mx.gx.ep;exact⟨ho,Xf2 h.hN hb ep hat (XcR h.hN hb ep hat) ho.2⟩
def CV.same(h:CV N k x a b c){v e:Int}:SV N (k+1) (x,v,e):=λ_=>h.s.up aa
def Yj{y:W3}{v e:Int}(he:e≠0):SV N k (y,v,e):=λz=>absurd z he
def CV.fld(h:CV N k x a b c)(rf:Bool):(∃e,e≠0/\Qbw N x a b rf=some (0,0,e)) \/
 ∃o,o=(thE x a).1/\(thE x a).2=0/\Qbw N x a b rf=some (o,b,0)/\Obb x.h o/\0<=b/\b<(hdA x.h.w o).n/\(b∈X5 (hdA x.h.w o)↔rf=true)/\Qb6 N x.h o b=some (wd x.h.w (o+1+b),0):=by
 rw[Qbw,h.th,Xa];by_cases e1:(thE x a).2=0;rotate_left
 .grind
 have⟨ho,o4⟩:=h.obj e1;have hl:=XcT x.h.w (thE x a).1;have b0:=h.tb.1;rw[ZN e1,Wa,o4,Xa,Xp (n:=(hdA x.h.w (thE x a).1).n) aa aa];by_cases e2:b>=(hdA x.h.w (thE x a).1).n
 .simp_all
 have hwb:wI b=b:=Xc aa aa;rw[Wg e2,Wa,hwb,KP,Xa];by_cases e3:KI (hdA x.h.w (thE x a).1) b=rf;rotate_left
 .grind
 rw[e3];have hp:=h.hp;have hat:=ho.1.at_ hp;have hb:=h.s.et.eb.heap;have hf:=Ks hp hat;have hr:=hat.rng;have hb1:=hb.1;refine .inr ⟨(thE x a).1,rfl,e1,ab,ho,b0,aa,?_,?_⟩
 .rw[Vf (Jq x.h _),e3];simp_all
 rw[Qb6,o4,Xa];rw[show((0:Int) != 0)=false from rfl,Wa,Wg aa,Wa,Wg aa,Wa,Xp (n:=(thE x a).1+1) aa aa,Xp (n:=b) aa aa,Xp (n:=(thE x a).1+1+b) aa aa,Ye (by unfold BIG;omega),Xa,Wm (by unfold inW;omega)];rfl
end
section
variable {N k:Nat}{x:W3}{a b c:Int}
def v45(h:CV N k x a b c){op:Int}(ho:op=4\/op=5):Ok (Qac N x op a b c) (SV N (k+1)):=by
 have main:Ok (QcP N x op a b) (SV N (k+1)):=by
  have e1:QcP N x op a b=bnd (Qbv N x a) λy2=>
   bif (y2.2 != 0)then(bnd (Qaa N y2.2) λy3=>some (y3.1,y3.2.1,y3.2.2))
   else bnd (Qca N x.h y2.1) λy4=>
   bif (op==4)then some (x,(wU y4.1.n),0)else some (x,(wU y4.1.k),0):=by
   rw[QcP]
   rcases ho with rfl|rfl<;>simp only[Xs,Int.reduceBEq,Wb,Wa]
  rw[e1,h.th,Xa];by_cases he:(thE x a).2=0;rotate_left
  .rw[Xl he,Wb,Qaa,Xa];exact We (Yj he)
  rw[ZN he,Wa,(h.obj he).2,Xa];exact Wq (λ_=>We h.same) λ_=>We h.same
 have⟨y,ey,hy⟩:=main;refine⟨y,?_,hy⟩;rw[Qac,h.ev,Xa];rcases ho with rfl|rfl<;>simp only[Xs,Int.reduceBEq,Wb,Wa,Wh,ey,Xa]
def v10(h:CV N k x a b c):Ok (Qac N x 10 a b c) (SV N (k+1)):=by
 rw[Qac,h.ev,Xa];simp only[Xs,Int.reduceBEq,Wb,Wa,Wh,QcP,h.res h.ta,h.res h.tb,Xa,Qaa];by_cases e1:(ZY x a).2=0;rotate_left
 .rw[Xl e1,Wb,Xa];exact We (Yj e1)
 rw[ZN e1,Wa];by_cases e2:(ZY x b).2=0;rotate_left
 .rw[Xl e2,Wb,Xa];exact We (Yj e2)
 rw[ZN e2,Wa];cases ((ZY x a).1==(ZY x b).1)<;>simp only[Wb,Wa,Xa]<;>exact We h.same
def v11(h:CV N k x a b c):Ok (Qac N x 11 a b c) (SV N (k+1)):=by
 rw[Qac,h.ev,Xa];simp only[Xs,Int.reduceBEq,Wb,Wa,Wh,QcP,h.res h.ta,Xa,Qaa];by_cases e1:(ZY x a).2=0;rotate_left
 .rw[Xl e1,Wb,Xa];exact We (Yj e1)
 have⟨y,l2,l3⟩:=XbE h.hN h.s (XcU h.s.vx e1);rw[ZN e1,Wa,l2,Xa,Xa];exact We l3
def v13(h:CV N k x a b c):Ok (Qac N x 13 a b c) (SV N (k+1)):=by
 rw[Qac,h.ev,Xa];simp only[Xs,Int.reduceBEq,Wb,Wa,Wh,Qdy,h.th,Xa];by_cases e1:(thE x a).2=0;rotate_left
 .rw[Xl e1,Wb,Qaa,Xa,Xa];exact We (Yj e1)
 have o:=(h.obj e1).1;rw[ZN e1,Wa,show(Wu.mk x.g.e)=x.g from rfl,JI h.s.et.eb.glo h.n6,Xa];by_cases e2:(ZI x.g (thE x a).1).2.2.2=0;rotate_left
 .rw[Xl e2,Wb,Qaa,Xa,Xa];exact We (Yj e2)
 have⟨e,ee,_⟩:=Y0 (N:=N) (UR.mk 2 (ZI x.g (thE x a).1).2.1 (ZI x.g (thE x a).1).2.2.1);rw[ZN e2,Wa,ee,Xa,Xa];have nv:=XhT e2;have hr:=(o.1.at_ h.hp).rng;refine We λ_=>h.s.tabs h.s.vx.loc nv.1 h.s.vx.wea (λr hr'=>?_) h.s.vx.rl (λr hr'=>?_) h.s.vx.rw_ (by have:=h.s.iss;omega) h.s.sc
 .rcases nv.2 r hr' with h'|h'
  .exact h.s.vx.gz r h'
  omega
 rcases nv.2 r hr' with h'|h'
 .exact h.s.vx.rg r h'
 simp_all
def v15(h:CV N k x a b c):Ok (Qac N x 15 a b c) (SV N (k+1)):=by
 rw[Qac,h.ev,Xa];simp only[Xs,Int.reduceBEq,Wb,Wa,Wh,Qdy,h.th,Xa];by_cases e1:(thE x a).2=0;rotate_left
 .rw[Xl e1,Wb,Qaa,Xa,Xa];exact We (Yj e1)
 have o:=(h.obj e1).1;rw[ZN e1,Wa,show(Wu.mk x.v.e)=x.v from rfl,JI h.s.et.eb.wea h.n6,Xa];by_cases e2:(ZI x.v (thE x a).1).2.2.2=0;rotate_left
 .rw[Xl e2,Wb,Qaa,Xa,Xa];exact We (Yj e2)
 have⟨e,ee,_⟩:=Y0 (N:=N) (UR.mk 3 (ZI x.v (thE x a).1).2.1 (ZI x.v (thE x a).1).2.2.1);rw[ZN e2,Wa,ee,Xa,Xa];have nv:=XhT e2;refine We λ_=>h.s.tabs h.s.vx.loc h.s.vx.glo nv.1 h.s.vx.gz h.s.vx.rl h.s.vx.rg (λr hr'=>?_) (by have:=h.s.iss;omega) h.s.sc;rcases nv.2 r hr' with h'|h'
 .exact h.s.vx.rw_ r h'
 simp_all
def XuD(h:CV N k x a b c){op:Int}(ho:op=12\/op=14\/op=16):Ok (Qd5 N x op a) (SV N (k+1)):=by
 rw[Qd5];simp only[Xs,h.res h.ta,XbY h.ta,Xa];by_cases e0:a=0
 .rw[XC e0,Wb,Qaa,Xa];exact We (Yj ae)
 rw[Xk e0,Wa];by_cases e1:(ZY x a).2=0;rotate_left
 .rw[Xl e1,Wb,Qaa,Xa];exact We (Yj e1)
 have tg:=XnK e0 e1;have hk:k<=k+1:=aa;have hi:=UO h.s.iss hk;rw[ZN e1,Wa];rcases ho with rfl|rfl|rfl
 .by_cases e2:(Yk a).1.Tag=1;rotate_left
  .rw[Xl e2,Wb,Qaa,Xa];exact We (Yj ae)
  have hd:(JO x.l (Yk a).1.Index (Yk a).1.J).2=0:=by unfold JO;rw[Wi aa]
  have dv:=XnI hd;rw[ZN e2,Wa,XfP h.s.et.eb.loc h.n6,Xa];refine We λ_=>h.s.locs dv.1 (λr hr=>?_) (by simp_all) (by rw[dv.2.1];exact h.s.sc);rw[dv.2.1]at hr;exact h.s.vx.rl r (Xlu rfl r hr)
 .by_cases e2:(Yk a).1.Tag=2;rotate_left
  .rw[Xl e2,Wb,Qaa,Xa];exact We (Yj ae)
  have hd:(Kv x.g (Yk a).1.Index (Yk a).1.J).2=0:=by unfold Kv;rw[Wi aa]
  have dv:=XhU hd;rw[ZN e2,Wa,Xau h.s.et.eb.glo h.n6,Xa];exact We λ_=>h.s.tabs h.s.vx.loc dv.1 h.s.vx.wea (λr hr=>h.s.vx.gz r (dv.2 r hr)) h.s.vx.rl (λr hr=>h.s.vx.rg r (dv.2 r hr)) h.s.vx.rw_ hi h.s.sc
 by_cases e2:(Yk a).1.Tag=3;rotate_left
 .rw[Xl e2,Wb,Qaa,Xa];exact We (Yj ae)
 have hd:(Kv x.v (Yk a).1.Index (Yk a).1.J).2=0:=by unfold Kv;rw[Wi aa]
 have dv:=XhU hd;rw[ZN e2,Wa,Xau h.s.et.eb.wea h.n6,Xa];exact We λ_=>h.s.tabs h.s.vx.loc h.s.vx.glo dv.1 h.s.vx.gz h.s.vx.rl h.s.vx.rg (λr hr=>h.s.vx.rw_ r (dv.2 r hr)) hi h.s.sc
def v17(h:CV N k x a b c):Ok (Qac N x 17 a b c) (SV N (k+1)):=by
 rw[Qac,h.ev,Xa];simp only[Xs,Int.reduceBEq,Wb,Wa,Wh,Qb0,Xa];by_cases e0:a>64
 .rw[Wd e0,Wb,Qaa,Xa,Xa];exact We (Yj ae)
 have ha:=h.ta.1;have hwa:wI a=a:=Xc aa aa;rw[Wg e0,Wa,hwa,Vc h.s.et.eb.loc h.n6,Xa];by_cases e1:(Zs x.l a).2=0;rotate_left
 .rw[Xl e1,Wb,Qaa,Xa,Xa];exact We (Yj e1)
 have pv:=Xls e1;rw[ZN e1,Wa,Xa];refine We λ_=>h.s.locs pv.1 (λr hr=>?_) (by have:=h.s.iss;grind) (by simp_all);rw[pv.2]at hr;exact h.s.vx.rl r hr
def XqY(s:Ov N k x)(e:(YV x.l).2=0):Ov N k ⟨x.h,(YV x.l).1,x.g,x.v,x.P,x.R⟩:=by
 have pv:=XnJ e;refine s.locs pv.1 (λr hr=>?_) (by rw[pv.2];exact s.iss) ?_
 .rw[pv.2]at hr;exact s.vx.rl r (Xi3 r hr)
 rw[pv.2];rw[Wl];unfold YV at e;split at e
 .omega
 rw[Wi s.sc]at e;split at e
 .omega
 rename_i hb;have hsc:=s.sc;intro h0;have h1:x.l.x.length=1:=aa;have g:=Xgi hsc;rw[h1]at g;exact hb ((KU (XT.1 s.vx.loc).ne g).2.2.2.2.1 rfl).2
def v18(h:CV N k x a b c):Ok (Qac N x 18 a b c) (SV N (k+1)):=by
 rw[Qac,h.ev,Xa];simp only[Xs,Int.reduceBEq,Wb,Wa,Wh,Qb0,h.res h.ta,Xa];by_cases e1:(ZY x a).2=0;rotate_left
 .rw[Xl e1,Wb,Qaa,Xa,Xa];exact We (Yj e1)
 rw[ZN e1,Wa,Xat h.s.et.eb.loc h.n6,Xa];by_cases e2:(YV x.l).2=0;rotate_left
 .rw[Xl e2,Wb,Qaa,Xa,Xa];exact We (Yj e2)
 have⟨y,l2,l3⟩:=XbE h.hN (XqY h.s e2) (XcU h.s.vx e1);rw[ZN e2,Wa,l2,Xa,Xa];exact We l3
def v6(h:CV N k x a b c):Ok (Qac N x 6 a b c) (SV N (k+1)):=by
 rw[Qac,h.ev,Xa];simp only[Xs,Int.reduceBEq,Wb,Wa,Wh,Qbx];rcases h.fld false with⟨e,e0,e1⟩|⟨o,_,_,e1,ho,b0,b1,hp,e4⟩
 .rw[e1,Xa,Xl e0,Wb,Qaa,Xa,Xa];exact We (Yj e0)
 rw[e1,Xa];rw[show((0:Int) != 0)=false from rfl,Wa,e4,Xa,Xa];exact We h.same
def v7(h:CV N k x a b c):Ok (Qac N x 7 a b c) (SV N (k+1)):=by
 rw[Qac,h.ev,Xa];simp only[Xs,Int.reduceBEq,Wb,Wa,Wh,Qbx];rcases h.fld false with⟨e,e0,e1⟩|⟨o,_,_,e1,ho,b0,b1,hp,e4⟩
 .rw[e1,Xa,Xl e0,Wb,Qaa,Xa,Xa];exact We (Yj e0)
 have⟨h2,es,q⟩:=Xa6 h.hN h.s.et.ht h.s.vx.mx.gx ho b0 b1 (v:=c) (λq=>absurd (hp.1 q) ae) h.tc;rw[e1,Xa];rw[show((0:Int) != 0)=false from rfl,Wa,e4,Xa,es,Xa,Xa];exact We λ_=>(h.s.put q).up aa
def v9(h:CV N k x a b c):Ok (Qac N x 9 a b c) (SV N (k+1)):=by
 rw[Qac,h.ev,Xa];simp only[Xs,Int.reduceBEq,Wb,Wa,Wh,Qbx];rcases h.fld true with⟨e,e0,e1⟩|⟨o,_,_,e1,ho,b0,b1,hp,e4⟩
 .rw[e1,Xa,Xl e0,Wb,Qaa,Xa,Xa];exact We (Yj e0)
 rw[e1,Xa];rw[show((0:Int) != 0)=false from rfl,Wa,e4,Xa,h.res h.tc,Xa];by_cases er:(ZY x c).2=0;rotate_left
 .rw[Xl er,Wb,Qaa,Xa,Xa];exact We (Yj er)
 have hob:=XcU h.s.vx er;have tv:tU (ZY x c).1:=by
  rcases hob with q|q
  .simp_all
  have hp:=h.hp;have:=(q.1.at_ hp).rng;have hm:=XP hp.conf (i:=0) aa (by have:=Xj.1 hp.conf;omega);exact⟨aa,aa⟩
 have⟨h2,es,q⟩:=Xa6 h.hN h.s.et.ht h.s.vx.mx.gx ho b0 b1 (v:=(ZY x c).1) (λ_=>hob) tv;rw[ZN er,Wa,es,Xa,Xa];exact We λ_=>(h.s.put q).up aa
def v8(h:CV N k x a b c):Ok (Qac N x 8 a b c) (SV N (k+1)):=by
 rw[Qac,h.ev,Xa];simp only[Xs,Int.reduceBEq,Wb,Wa,Wh,Qbx];rcases h.fld true with⟨e,e0,e1⟩|⟨o,_,_,e1,ho,b0,b1,hp,e4⟩
 .rw[e1,Xa,Xl e0,Wb,Qaa,Xa,Xa];exact We (Yj e0)
 have⟨y,l2,l3⟩:=XbE h.hN h.s (h.s.vx.mx.gx.pt o ho b (hp.2 rfl));rw[e1,Xa];rw[show((0:Int) != 0)=false from rfl,Wa,e4,Xa,l2,Xa,Xa];exact We l3
def v19(h:CV N k x a b c):Ok (Qac N x 19 a b c) (SV N (k+1)):=by
 rw[Qac,h.ev,Xa];simp only[Xs,Int.reduceBEq,Wb,Wa,Wh,Qe9,h.th,Xa];by_cases e1:(thE x a).2=0;rotate_left
 .rw[Xl e1,Wb,Qaa,Xa,Xa];exact We (Yj e1)
 rw[ZN e1,Wa];have⟨y,ey,hy⟩:=XnF h.hN h.s.et.ht h.s.vx.mx (h.obj e1).1;rw[ey,Xa];rcases hy with h18|⟨h0,pq,mx,_⟩
 .rw[h18,show((18:Int) != 0)=true from rfl,Wb,Qaa,Xa,Xa];exact We (Yj ae)
 rw[h0,show((0:Int) != 0)=false from rfl,Wa,Xa];exact We λ_=>(h.s.pins pq mx).up aa
def v20(h:CV N k x a b c):Ok (Qac N x 20 a b c) (SV N (k+1)):=by
 rw[Qac,h.ev,Xa];simp only[Xs,Int.reduceBEq,Wb,Wa,Wh,Qe9,h.th,Xa];by_cases e1:(thE x a).2=0;rotate_left
 .rw[Xl e1,Wb,Qaa,Xa,Xa];exact We (Yj e1)
 rw[ZN e1,Wa];have⟨y,ey,hy⟩:=XnG h.hN h.s.et.ht h.s.vx.mx (h.obj e1).1;rw[ey,Xa];rcases hy with⟨h12,_⟩|⟨h0,_,pq,mx,_⟩
 .rw[h12,show((12:Int) != 0)=true from rfl,Wb,Qaa,Xa,Xa];exact We (Yj ae)
 rw[h0,show((0:Int) != 0)=false from rfl,Wa,Xa];exact We λ_=>(h.s.pins pq mx).up aa
def Qn9(hN:NB N)(s:Ov N k x){d:Wv}(hv:XN d=true)(tm:tW d.Map)(hkd:d.k≠0)(hnd:XF x.h.c (Xw d)≠-1):Ok (Qdc N x d) λy=>y.2.2=3\/(y.2.2=0/\∃x1,Ov N k x1/\x1.l.x=x.l.x/\x1.l.i=x.l.i/\R2 (λa b:UB=>b.J=a.J/\b.V=a.V) x.l.S x1.l.S/\HT y.1.h/\OZ N x1.h y.1.h y.2.1 d/\y.1=⟨y.1.h,x1.l,x1.g,x1.v,x1.P,x1.R⟩):=by
 rw[Qdc,(XaC hN s.et).2 s.vx,Xa,Wh,Wa];have gx:=s.vx.mx.gx;have⟨y,ey,hy⟩:=XqW hN s.et.ht gx hv tm hkd hnd;rw[ey,Xa,Xs];rcases hy with h3|⟨h0,ht,q⟩
 .rw[h3,show((3:Int)==3)=true from rfl,Wb];refine WI (XnL hN s) λy3 _ hy3=>?_;rcases hy3 with e3|⟨e0,s',hcf,l1,l2,_,l4⟩
  .rw[e3];exact We (.inl rfl)
  rw[e0,show((0:Int) != 0)=false from rfl,Wa];have⟨y4,ey4,hy4⟩:=XqW hN s'.et.ht s'.vx.mx.gx hv tm hkd (by simp_all);rw[ey4,Xa];rcases hy4 with e4|⟨e4,ht4,q4⟩
  .rw[e4];exact We (.inl rfl)
  rw[e4];dsimp only;exact We (.inr ⟨rfl,y3.1,s',l1,l2,l4,ht4,q4.new s'.vx.mx.gx hN s'.et.eb.heap,rfl⟩)
 rw[h0,show((0:Int)==3)=false from rfl,Wa];dsimp only;exact We (.inr ⟨rfl,x,s,rfl,rfl,⟨rfl,λk a b h1 h2=>by simp_all⟩,ht,q.new gx hN s.et.eb.heap,rfl⟩)
def XuE(h:CV N k x a b c){op:Int}(ho:op=1\/op=2\/op=3):Ok (Qac N x op a b c) (SV N (k+1)):=by
 have h10:10<=N:=by have:=h.n6;omega
 have⟨dd,ed,hdd⟩:=Xbu (N:=N) op h.ta h.tb;have main:Ok (Qci N x op a b) (SV N (k+1)):=by
  rw[Qci];by_cases hpn:x.P.length>0
  .rw[Wd aa,Wb,Qaa,Xa];exact We (Yj ae)
  rw[Wg aa,Wa,ed,Xa,Xs];by_cases hok:okW op a b;rotate_left
  .rw[Wg hok,W6,Wb,Qaa,Xa];exact We (Yj ae)
  have hd:=hdd hok;rw[Wd hok,Wh,Wa,XcM h10,Xa,hd];cases hA:V5 x.h.c (hdW op a b)with
  |false=>rw[W6,Wb,Qaa,Xa];exact We (Yj ae)
  |true=>
  rw[Wh,Wa,Ku h.s.et.eb.loc h.n6,Xa];by_cases hl:(XU x.l 1).2.2.2=0;rotate_left
  .rw[Xl hl,Wb,Qaa,Xa];exact We (Yj hl)
  rw[ZN hl,Wa];unfold V5 at hA;rw[WK,WK,bne_iff_ne,bne_iff_ne]at hA;obtain⟨a1,a2,a3⟩:=hA;have tm:tW (hdW op a b).Map:=by
   unfold hdW;dsimp only;split
   .rename_i h1;have:=hok.2 h1;have:=h.tb.1;exact⟨aa,aa⟩
   simp
  obtain⟨y,ey,hy⟩:=Qn9 h.hN h.s a1 tm a2 a3;rw[ey,Xa];rcases hy with h3|⟨h0,x1,s1,_,_,_,ht,q,ex⟩
  .rw[h3,show((3:Int) != 0)=true from rfl,Wb,Qaa,Xa];exact We (Yj ae)
  have s2:=s1.add ht q;rw[←ex]at s2;obtain⟨r,l2,l3⟩:=XbE h.hN s2 (r:=y.2.1) (.inr ((q.ob _).2 (.inr rfl)));rw[h0,show((0:Int) != 0)=false from rfl,Wa,l2,Xa];exact We l3
 have⟨y,ey,hy⟩:=main;refine⟨y,?_,hy⟩;rw[Qac,h.ev,Xa];rcases ho with rfl|rfl|rfl<;>simp only[Xs,Int.reduceBEq,Wb,Wa,Wh,ey,Xa]
def Xp5(h:CV N k x a b c){op:Int}(ho:op<1\/20<op):Ok (Qac N x op a b c) (SV N (k+1)):=by have f:∀n:Int,1<=n->n<=20->(op==n)=false:=λn h1 h2=>Xk aa;refine⟨(⟨zHp,⟨[],[],[]⟩,⟨[]⟩,⟨[]⟩,[],[]⟩,0,1),?_,Yj ae⟩;rw[Qac,h.ev,Xa];simp only[Wh,Wa,Xs,f 1 aa aa,f 2 aa aa,f 3 aa aa,f 4 aa aa,f 5 aa aa,f 6 aa aa,f 7 aa aa,f 8 aa aa,f 9 aa aa,f 10 aa aa,f 11 aa aa,f 12 aa aa,f 13 aa aa,f 14 aa aa,f 15 aa aa,f 16 aa aa,f 17 aa aa,f 18 aa aa,f 19 aa aa,f 20 aa aa,Qaa,Xa]
def Xr3(h:CV N k x a b c)(op:Int):Ok (Qac N x op a b c) (SV N (k+1)):=by
 by_cases ho:op<1\/20<op
 .exact Xp5 h ho
 by_cases hd:op=12\/op=14\/op=16
 .have⟨y,ey,hy⟩:=XuD h hd;refine⟨y,?_,hy⟩;rw[Qac,h.ev,Xa];rcases hd with rfl|rfl|rfl<;>simp only[Xs,Int.reduceBEq,Wb,Wa,Wh,ey,Xa]
 by_cases h1:op=1\/op=2\/op=3
 .exact XuE h h1
 by_cases h4:op=4\/op=5
 .exact v45 h h4
 have:op=6\/op=7\/op=8\/op=9\/op=10\/op=11\/op=13\/op=15\/op=17\/op=18\/op=19\/op=20:=aa;rcases this with rfl|rfl|rfl|rfl|rfl|rfl|rfl|rfl|rfl|rfl|rfl|rfl
 .exact v6 h
 .exact v7 h
 .exact v8 h
 .exact v9 h
 .exact v10 h
 .exact v11 h
 .exact v13 h
 .exact v15 h
 .exact v17 h
 .exact v18 h
 .exact v19 h
 exact v20 h
end
def XaI(c:WN):Wk:=⟨c,List.replicate (c.p*c.W).toNat 0,List.replicate c.p.toNat ⟨0,0,0,0⟩,0,-1⟩
section
variable {N:Nat}{c:WN}
def VH{α:Type}(n k:Nat)(a:α):(List.replicate n a).getD k a=a:=by grind
def Xp6(a:Int):wd (XaI c).w a=0:=VH _ _ _
def VC(i:Int):pg (XaI c).p i=Zm:=VH _ _ _
def Xke(hv:X9 c=true):HB (XaI c):=by
 have hvc:=Xj.1 hv;have hm:=XP hv (i:=0) aa aa;refine⟨?_,?_⟩
 .unfold XaI;grind
 unfold XaI;grind
def XnM(hv:X9 c=true):((XaI c).p.length:Int)=c.p:=by have hvc:=Xj.1 hv;unfold XaI;grind
def Xp7(hN:NB N)(hv:X9 c=true):GX N (XaI c):=by
 have hvc:=Xj.1 hv;have hm:=XP hv (i:=0) aa aa;have hl:=XnM hv;have pars:∀i,Ou (XaI c) i []:=λi=>⟨λ_=>rfl,λh=>by rw[VC]at h;exact absurd h ae,λh=>by rw[VC]at h;exact absurd h ae⟩
 have pu:∀i l,Ou (XaI c) i l->l=[]:=λi l p=>p.none (.inl (by rw[VC];rfl));have nst:∀a,¬Stt (XaI c) a:=λa ⟨i,l,_,_,p,h⟩=>by grind
 refine⟨JT hN (Xke hv) ⟨hv,?_,?_,by unfold XaI;simp,.inl rfl⟩ ⟨λi _ _ _=>?_,λi _ _ h=>?_⟩,λi _ _=>⟨[],pars i⟩,λi _ _ h=>?_,λi l _ _ p a ha=>?_,λx _ h=>?_,λa h=>absurd h.1 (nst a),?_⟩
 .unfold XaI;grind
 .exact hl
 .constructor<;>simp[VC,Zm]
 .rw[VC]at h;exact absurd h ae
 .rw[VC]at h;exact absurd rfl h
 .grind
 .exact absurd (Xp6 x) h
 have:(XaI c).p.countP K2=0:=by rw[List.countP_eq_zero];intro p hp;rw[(IW.1 hp).2];decide
 rw[this];show(0:Int)<=c.p / 4;omega
def XnN(hN:NB N)(hv:X9 c=true){n:Int}(n0:0<=n)(n1:n<=60):Ov N 0 ⟨XaI c,⟨[],[⟨0,n,true⟩],[]⟩,⟨[]⟩,⟨[]⟩,[],[]⟩:=by
 have gx:=Xp7 hN hv;have lv:Yb (⟨[],[⟨0,n,true⟩],[]⟩:Wp)=true:=by unfold Yb Xm3 stB neB XbV;simp[YW,neQ,Xha,YL];omega
 refine⟨⟨⟨Xke hv,⟨ab,ab,ab⟩,Xbq,Xbq,ab,ab⟩,?_⟩,⟨⟨gx,ab,ab,ab,λi _ _=>?_⟩,lv,rfl,rfl,by simp[Xz],ab,by simp[XM],by simp[Xz],by simp[Xz]⟩,ab,ab⟩
 .intro x hx;rw[(IW.1 hx).2];simp
 rw[VC];rfl
def Xr4{t:Iw}{m:Int}(h:TA m t)(hm:m+5<=1000000):Ok (Qft N t) λr=>TA (m+2) r.2/\X9 r.1=true:=by refine Uw (nxp h aa aa aa) λy hy=>Ok.get hy.1 hy.2.1 λp hp=>Uw (nxp hy.2.2 aa aa aa) λz hz=>Ok.get hz.1 hz.2.1 λq hq=>We ⟨hz.2.2.le aa,?_⟩;have hp':=YI hp;have hq':=YI hq;simp at hp' hq';grind[Xj]
def Xp8(hN:NB N){t:Iw}{m:Int}(h:TA m t)(hm:m+5<=1000000):Ok (Qbq N t) λr=>PB 0 r.1/\TA (m+3) r.2/\Ov N 0 r.1.N:=by
 have hs:=Xnz (N:=N) h hm;suffices main:Ok (Qbq N t) λr=>Ov N 0 r.1.N by obtain⟨r,e,h1⟩:=main;obtain⟨r',e',h2⟩:=hs;rw[e]at e';cases e';exact⟨r,e,h2.1,h2.2,h1⟩
 refine Uw (Xr4 h hm) λy1 h1=>?_;have hv:=h1.2;have hvc:=Xj.1 hv;have hm:=XP hv (i:=0) aa aa;have e:=Xc (n:=y1.1.p*y1.1.W) aa aa;have e1:Qe4 N y1.1=some (⟨XaI y1.1,⟨[],[],[]⟩,⟨[]⟩,⟨[]⟩,[],[]⟩,0):=by rw[Qe4,Qgj,Zu,Xa,hv,Wh,Wa,e,Xb aa,Xb aa,Xa];rfl
 rw[e1,Xa];refine Uw (XhI _) λy3 _=>Uw (nxp h1.1 aa aa aa) λy4 h4=>We ?_;rw[Xc (n:=4+y4.1) aa aa];exact XnN hN hv aa aa
end
section
variable {N k:Nat}{p:Io}
def XuF(hN:NB N)(hp:PB k p)(hk:k<=200){d:Ot}(td:VZ d)(s:Ov N k p.N):Ok (Qb1 N p d) λr=>PB (k+1) r.1/\Ov N (k+1) r.1.N:=by
 have hd:=Xs6 hN hp aa td;have w2:=hp.w2;have s1:Ov N (k+1) p.N:=s.up aa;suffices main:Ok (Qb1 N p d) λr=>Ov N (k+1) r.1.N by obtain⟨r,e,h1⟩:=main;obtain⟨r',e',h2⟩:=hd;rw[e]at e';cases e';exact⟨r,e,h2,h1⟩
 refine Wq (λ_=>?_) λ_=>?_
 .refine Uw (XnL hN s) λy1 h1=>Im (Wq (λh0=>Uw (V6 hN hp.wor hp.ty.2.1) λy2 _=>We ?_) λ_=>We s1);rcases h1 with e3|⟨_,s',_⟩
  .simp_all
  exact s'.up aa
 refine WI (Xr3 (⟨s,hN,td.1,td.2.1,td.2.2⟩:CV N k p.N d.A d.B d.C) d.Op) λy ey hy=>Uw (Xnx _ _ _ _ _) λy27 _=>Uw (Xhr hN hp.wor aa hp.ty.2.1 d.Op td.1 td.2.1 td.2.2 y27) λy28 _=>?_;have k2:∀w:WM,Ok (α:=Io×Int×Int) (bif (y.2.2==0)then(bif (y.2.1 != 0)then(grd (p.w.length*8<=140737488355328) <| grd ((p.w.length+1)*8<=140737488355328) <| some ((Io.mk y.1 w (p.w++[y.2.1])),y.2.1,y.2.2))else some ((Io.mk y.1 w p.w),y.2.1,y.2.2))else some ((Io.mk p.N w p.w),y.2.1,y.2.2)) λr=>Ov N (k+1) r.1.N:=λw=>
  Wq (λh0=>Uv (Uc aa (Uc aa (We (hy (by simp_all))))) (We (hy (by simp_all)))) λ_=>We s1
 exact Im (Uv (k2 y28.1) (k2 p.z))
end
def plT(p:Io):Int×Int×List Int×List Ws×Int×Int×List UB×List UM×List Int×List W5×List W5×List UE×List Int×Int×Int×List Ii×List UB×List UM×List Int×List W5×List W5×List Ix×List Int×List Int:=(p.N.h.c.W,p.N.h.c.p,p.N.h.w,p.N.h.p,p.N.h.s,p.N.h.b,p.N.l.S,p.N.l.x,p.N.l.i,p.N.g.e,p.N.v.e,p.N.P,p.N.R,p.z.c.W,p.z.c.p,p.z.T,p.z.l.S,p.z.l.x,p.z.l.i,p.z.g.e,p.z.v.e,p.z.m,p.z.R,p.w)
section
variable {N:Nat}{M:Int}
def Xkf(hN:NB N)(hM:M<=200):∀(n:Nat) (i:Int) (t:Iw) (p:Io) (k:Nat),0<=i->i<=M->(M-i).toNat<n->(k:Int)=i->PB k p->TA (10+20*i) t->Ov N k p.N ->
 Ok (Qgn N M n i t.L t.at_ p.N.h.c.W p.N.h.c.p p.N.h.w p.N.h.p p.N.h.s p.N.h.b p.N.l.S p.N.l.x p.N.l.i p.N.g.e p.N.v.e p.N.P p.N.R p.z.c.W p.z.c.p p.z.T p.z.l.S p.z.l.x p.z.l.i p.z.g.e p.z.v.e p.z.m p.z.R p.w) λr=>∃(p':Io) (k':Nat),(k':Int)<=M/\PB k' p'/\Ov N k' p'.N/\r=plT p'
 |0,i,t,p,k,_,_,hn,_,_,_,_=>by omega
 |n+1,i,t,p,k,h0,hi,hn,hk,hp,ht,hs=>by
  have stop:Ok (some (plT p)) λr=>∃(p':Io) (k':Nat),(k':Int)<=M/\PB k' p'/\Ov N k' p'.N/\r=plT p':=
   We ⟨p,k,aa,hp,hs,rfl⟩
  refine Wq (λhc=>?_) λ_=>stop
  have hc:i<M:=Wy hc;rw[Qgs,Xa];refine Wq (λ_=>?_) λ_=>stop
  have w1:=hp.w1;have w2:=hp.w2;have dty:=λr (e:Qc2 N p t=some r)=>Qir (N:=N) hp.ty r e;rw[Xc (n:=i+1) aa aa];refine WI (XpZ (p:=p) (t:=t) w1 aa ht aa) λy e hy=>?_;refine Uw (XuF hN hp aa (dty y e) hs) λz hz=>?_;exact Xkf hN hM n (i+1) y.2 z.1 (k+1) aa aa aa aa hz.1 (hy.le aa) hz.2
def Xr5(hN:NB N)(h0:0<=M)(hM:M<=200)(l:List Int):Ok (Qhk N l M) λp=>∃k:Nat,(k:Int)<=M/\PB k p/\Ov N k p.N:=by have hN':=hN;unfold NB at hN';refine Uw (Xp8 (m:=0) hN ⟨ab,ab⟩ aa) λy hy=>Uw (Xkf hN hM N 0 y.2 y.1 0 aa aa aa rfl hy.1 (hy.2.1.le aa) hy.2.2) λz hz=>We ?_;obtain⟨p',k',h1,h2,h3,rfl⟩:=hz;exact⟨k',h1,h2,h3⟩
end
def hw(i g:Int):Int:=1+4*i+262144*g
section
variable {N k:Nat}{x:W3}{a b c:Int}
def XuG{i g:Int}(i0:0<=i)(i1:i<=65535)(g0:1<=g)(g1:g<=4294967295):Qa3 N ⟨1,i,g⟩=some (hw i g,0):=by have s1:∀x:Int,ZO .u64 x 2=wU (x*4):=λ_=>rfl;have s2:∀x:Int,ZO .u64 x 18=wU (x*262144):=λ_=>rfl;rw[Qa3,Qf8];rw[Wd (show(1:Int)>=1 by omega),Wd (show(1:Int)<=3 by omega),Wd (show i>=0 by omega),Wd i1,Wd (show g>=1 by omega),Wd g1];simp only[Wb,Xa,Wh,Wa];rw[s1,s2,Xp (n:=1) aa aa,Xp (n:=i) aa aa,Xp (n:=g) aa aa,Xp (n:=i*4) aa aa,Xp (n:=g*262144) aa aa,Xp (n:=1+i*4) aa aa,Xp aa aa];unfold hw;grind
def Xr6{i g:Int}(i0:0<=i)(i1:i<=65535)(g0:1<=g)(g1:g<=4294967295):hw i g≠0/\tU (hw i g)/\Yk (hw i g)=(⟨1,i,g⟩,0):=by unfold hw;refine⟨aa,⟨aa,aa⟩,?_⟩;unfold Yk;grind
def Xkg(hN:NB N)(hk:k<=1000)(s:Ov N k x){r:Int}(hr:Obb x.h r)(he:(XU x.l r).2.2.2=0):∃y,Qbh N x r=some y/\y=(⟨x.h,⟨x.l.S++[⟨(x.l.i.length:Int)+1,r,true⟩],x.l.x,x.l.i++[(x.l.S.length:Int)]⟩,x.g,x.v,x.P,x.R⟩,hw x.l.S.length ((x.l.i.length:Int)+1),0)/\Ov N (k+1) y.1:=by
 have hN':1000000<N:=by unfold NB at hN;omega
 have⟨y,ey,hy⟩:=XbE hN s (.inr hr);have nv:=XhS he;have hsl:=(XT.1 s.vx.loc).slots;have his:=s.iss;refine⟨y,ey,?_⟩;rw[Qbh,Xk nv.2.1,Wa,Ku s.et.eb.loc hN',Xa,ZN he,Wa,nv.2.2.2.1,nv.2.2.2.2,XuG aa aa aa aa,Xa,nv.2.2.1]at ey;cases ey;exact⟨rfl,hy rfl⟩
def Xkh(v:Yb x.l=true){i:Nat}{g r:Int}{l:Bool}(g0:1<=g)(g1:g<=x.l.i.length)(hi:x.l.i[(g-1).toNat]? = some (i:Int))(hs:x.l.S[i]? = some ⟨g,r,true⟩)(hi1:(i:Int)<=65535)(g2:g<=4294967295):ZY x (hw i g)=(r,0):=by have d:=Xr6 (i:=i) (g:=g) aa hi1 g0 g2;have hlt:=(UU.1 hs).1;unfold ZY;rw[Wi d.1,d.2.2];dsimp only;rw[Wi ab,Wm rfl,YQ,v,Wi ab,Wi aa,Wj,hi,Ia,Wi ab,Wi aa,show((i:Int)).toNat=i from rfl,hs];simp
def CV.fldok(h:CV N k x a b c){o:Int}(e:thE x a=(o,0))(ho:Obb x.h o)(b1:b<(hdA x.h.w o).n){rf:Bool}(hp:KI (hdA x.h.w o) b=rf):Qbw N x a b rf=some (o,b,0)/\Qb6 N x.h o b=some (wd x.h.w (o+1+b),0):=by
 rcases h.fld rf with⟨e',e0,e1⟩|⟨o',e1,_,e2,_,_,_,_,e3⟩
 .exfalso;have⟨_,o4⟩:=h.obj (by rw[e]);have hl:=XcT x.h.w o;have b0:=h.tb.1;rw[Qbw,h.th,Xa]at e1;rw[e]at o4 e1;rw[show((0:Int) != 0)=false from rfl,Wa,o4,Xa,Xp (n:=(hdA x.h.w o).n) aa aa,Wg aa,Wa,Xc (n:=b) aa aa,KP,Xa,hp]at e1;simp at e1;exact e0 e1.2.2.symm
 simp_all
def Xs9(h:CV N k x 3 0 0):Ok (Qac N x 17 3 0 0) λy=>y.2.2=17\/(y.2.2=0/\y.1=⟨x.h,⟨x.l.S,x.l.x++[⟨(x.l.S.length:Int),3,false⟩],x.l.i⟩,x.g,x.v,x.P,x.R⟩/\Ov N (k+1) y.1):=by
 have⟨y,ey,hy⟩:=v17 h;refine⟨y,ey,?_⟩;rw[Qac,h.ev,Xa]at ey;simp only[Xs,Int.reduceBEq,Wb,Wa,Wh,Qb0,Xa]at ey;rw[Wg (show¬(3:Int)>64 by omega),Wa,Xc (n:=3) aa aa,Vc h.s.et.eb.loc h.n6,Xa]at ey;have hsc:=h.s.sc;have hl:Zs x.l 3=if x.l.x.length=64 then(zL,17)else(⟨x.l.S,x.l.x++[⟨(x.l.S.length:Int),3,false⟩],x.l.i⟩,0):=by unfold Zs;rw[h.s.vx.loc,Wi ab,Wi hsc]
 rw[hl]at ey;split at ey
 .rw[show(((zL,(17:Int)):Wp×Int).2 != 0)=true from rfl,Wb,Qaa,Xa,Xa]at ey;grind
 rw[show((0:Int) != 0)=false from rfl,Wa,Xa]at ey;cases ey;exact .inr ⟨rfl,rfl,hy rfl⟩
def Xki{l:Wp}(v:Yb l=true){S:List UM}(hS:l.x=S++[⟨(l.S.length:Int),3,false⟩])(hi:l.i.length<=1000){r:Int}(hr:r≠0):(XU l r).2.2.2=0:=by
 have ht:Zk l=⟨(l.S.length:Int),3,false⟩:=by unfold Zk;rw[hS];simp[Wj]
 unfold XU;rw[v,Wi ab,Wi hr,hS,Wi ab,ht,Wi,Wi aa];have:YL l.S ((l.S.length:Int)).toNat l.S.length=0:=by unfold YL;simp
 simp_all
def Xr7(h:CV N k x 1 0 0)(hk:k<=900){S:List UM}(hS:x.l.x=S++[⟨(x.l.S.length:Int),3,false⟩]):Ok (Qac N x 3 1 0 0) λy=>y.2.2=15\/y.2.2=3\/(y.2.2=0/\∃o sl,sl.length=x.l.S.length/\Ov N (k+1) y.1/\Obb y.1.h o/\hdA y.1.h.w o=⟨3,1,0⟩/\y.2.1=hw x.l.S.length ((x.l.i.length:Int)+1)/\y.1.l=⟨sl++[⟨(x.l.i.length:Int)+1,o,true⟩],x.l.x,x.l.i++[(x.l.S.length:Int)]⟩):=by
 have h10:10<=N:=by have:=h.n6;omega
 have⟨dd,ed,hdd⟩:=Xbu (N:=N) 3 h.ta h.tb;have hp:=h.hp;have hvc:=Xj.1 hp.conf;have his:=h.s.iss;have hok:okW 3 1 0:=⟨aa,λe=>absurd e aa⟩
 have hd:=hdd hok;have hwe:hdW 3 1 0=⟨3,1,0⟩:=rfl;have a1:XN ⟨3,1,0⟩=true:=ae;have hn:XF x.h.c (Xw ⟨3,1,0⟩)≠-1:=by
  have:Xw ⟨3,1,0⟩=2:=ae;rw[this];unfold XF;simp only[hp.conf];repeat' split
  all_goals (first|omega|(simp_all;done)|(simp_all;omega))
 have hA:V5 x.h.c (hdW 3 1 0)=true:=by unfold V5;rw[hwe,a1,W9,WK,bne_iff_ne,bne_iff_ne];exact⟨ae,hn⟩
 have main:Ok (Qci N x 3 1 0) λy=>y.2.2=15\/y.2.2=3\/(y.2.2=0/\∃o sl,sl.length=x.l.S.length/\Ov N (k+1) y.1/\Obb y.1.h o/\hdA y.1.h.w o=⟨3,1,0⟩/\y.2.1=hw x.l.S.length ((x.l.i.length:Int)+1)/\y.1.l=⟨sl++[⟨(x.l.i.length:Int)+1,o,true⟩],x.l.x,x.l.i++[(x.l.S.length:Int)]⟩):=by
  rw[Qci];by_cases hpn:x.P.length>0
  .rw[Wd aa,Wb,Qaa,Xa];exact We (.inl rfl)
  rw[Wg aa,Wa,ed,Xa,Xs,Wd hok,Wh,Wa,XcM h10,Xa,hd,hA,Wh,Wa,Ku h.s.et.eb.loc h.n6,Xa,ZN (Xki h.s.vx.loc hS aa aa),Wa];obtain⟨y,ey,hy⟩:=Qn9 h.hN h.s (d:=⟨3,1,0⟩) a1 ⟨ae,ae⟩ ae hn;rw[hwe,ey,Xa];rcases hy with h3|⟨h0,x1,s1,l1,l2,l3,ht,q,ex⟩
  .rw[h3,show((3:Int) != 0)=true from rfl,Wb,Qaa,Xa];exact We (.inr (.inl rfl))
  have s2:=s1.add ht q;rw[←ex]at s2;have ho:=(q.ob _).2 (.inr rfl);have el:y.1.l=x1.l:=by rw[ex]
  have hsl:=l3.1;have hne:y.2.1≠0:=by have:=q.ge;omega
  obtain⟨r,g1,g2,g3⟩:=Xkg h.hN aa s2 ho (Xki s2.vx.loc (S:=S) (by rw[el,l1,hS,hsl]) (by rw[el,l2];omega) hne);rw[h0,show((0:Int) != 0)=false from rfl,Wa,g1,Xa];rw[el,l1,l2,hsl]at g2;refine We (.inr (.inr ⟨by rw[g2],y.2.1,x1.l.S,hsl,g3,?_,?_,?_,?_⟩))
  .rw[g2];exact ho
  .rw[g2];exact q.hd
  .rw[g2]
  rw[g2]
 have⟨y,ey,hy⟩:=main;refine⟨y,?_,hy⟩;simp[Qac,h.ev,Xa,Xs,Int.reduceBEq,Wb,Wa,Wh,ey]
def XqZ{o:Int}(e:ZY x a=(o,0))(h:o≠0):thE x a=(o,0):=by unfold thE;simp_all
def XuH(b:Int):KI ⟨3,1,0⟩ b=false:=by unfold KI;simp
def Xta(h:CV N k x a 0 77){o:Int}(e:ZY x a=(o,0))(ho:Obb x.h o)(hd:hdA x.h.w o=⟨3,1,0⟩):Ok (Qac N x 7 a 0 77) λy=>y.2.2=0/\Ov N (k+1) y.1/\Obb y.1.h o/\hdA y.1.h.w o=⟨3,1,0⟩/\wd y.1.h.w (o+1)=77/\y.1.l=x.l:=by
 have hz:o≠0:=by have:=(ho.1.at_ h.hp).rng;omega
 have f:=h.fldok (XqZ e hz) ho (by simp_all) (rf:=false) (by rw[hd];rfl);have⟨h2,es,q⟩:=Xa6 h.hN h.s.et.ht h.s.vx.mx.gx ho (i:=0) aa (by simp_all) (v:=77) (λq=>by have:=((Vf (Jq x.h o)).1 q).2.2;simp_all[hd,XuH]) h.tc;rw[Qac,h.ev,Xa];simp only[Xs,Int.reduceBEq,Wb,Wa,Wh,Qbx];rw[f.1,Xa];rw[show((0:Int) != 0)=false from rfl,Wa,f.2,Xa,es,Xa,Xa];have hr:=(ho.1.at_ h.hp).rng;refine We ⟨rfl,(h.s.put q).up aa,(q.ob o).2 ho,(q.hd o ho).trans hd,?_,rfl⟩;rw[q.w _ aa,Wm aa]
def Xtb(h:CV N k x a 0 0)(hk:k<=900){o:Int}(e:ZY x a=(o,0))(ho:Obb x.h o){S:List UM}{sl:List UB}{t:UB}(hS:x.l.x=S++[⟨(sl.length:Int),3,false⟩])(hs0:S.length≠0)(hsl:x.l.S=sl++[t]):Ok (Qac N x 18 a 0 0) λy=>y.2.2=10\/(y.2.2=0/\Ov N (k+1) y.1/\y.1.h=x.h/\y.2.1=hw sl.length ((x.l.i.length:Int)+1)/\y.1.l=⟨sl++[⟨(x.l.i.length:Int)+1,o,true⟩],S,x.l.i++[(sl.length:Int)]⟩):=by
 have his:=h.s.iss;have ht:Zk x.l=⟨(sl.length:Int),3,false⟩:=by unfold Zk;rw[hS];simp[Wj]
 have hpop:YV x.l=(⟨sl,S,x.l.i⟩,0):=by unfold YV;rw[h.s.vx.loc,Wi ab,Wi (by simp_all),ht,Wi ab,hS,hsl];simp
 have s2:=XqY h.s (by grind);rw[hpop]at s2;have hz:o≠0:=by have:=(ho.1.at_ h.hp).rng;omega
 rw[Qac,h.ev,Xa];simp only[Xs,Int.reduceBEq,Wb,Wa,Wh,Qb0,h.res h.ta,Xa];rw[e,show(((o,(0:Int))).2 != 0)=false from rfl,Wa,Xat h.s.et.eb.loc h.n6,Xa,hpop];rw[show((0:Int) != 0)=false from rfl,Wa];by_cases he:(XU ⟨sl,S,x.l.i⟩ o).2.2.2=0
 .have⟨y,g1,g2,g3⟩:=Xkg h.hN aa s2 ho he;rw[g1,Xa,Xa];refine We (.inr ⟨by grind,g3,by grind,by grind,by grind⟩)
 have e10:(XU ⟨sl,S,x.l.i⟩ o).2.2.2=10:=by
  unfold XU at he⊢;have hv:Yb ⟨sl,S,x.l.i⟩=true:=s2.vx.loc;rw[hv,Wi ab,Wi hz,Wi hs0]at he⊢;split at he
  .simp_all
  grind
 rw[Qbh,Xk hz,Wa];rw[Ku s2.et.eb.loc h.n6,Xa,Xl he,Wb,Qaa,Xa,Xa,Xa];exact We (.inl e10)
def XuI(h:CV N k x a 0 0){o:Int}(e:ZY x a=(o,0))(ho:Obb x.h o)(hd:hdA x.h.w o=⟨3,1,0⟩):Qac N x 6 a 0 0=some (x,wd x.h.w (o+1),0):=by
 have hz:o≠0:=by have:=(ho.1.at_ h.hp).rng;omega
 have f:=h.fldok (XqZ e hz) ho (by simp_all) (rf:=false) (by rw[hd];rfl);rw[Qac,h.ev,Xa];simp only[Xs,Int.reduceBEq,Wb,Wa,Wh,Qbx];rw[f.1,Xa];rw[show((0:Int) != 0)=false from rfl,Wa,f.2,Xa,Xa,show o+1+0=o+1 by omega]
def Xp9(h:CV N k x a 0 0){e:Int}(hr:ZY x a=(0,e))(he:e≠0):∃y,Qac N x 6 a 0 0=some y/\y.2.2=e:=by
 have ht:thE x a=(0,e):=by unfold thE;rw[hr,Wi (λq=>he q.1)]
 simp[Qac,h.ev,Xa,Xs,Int.reduceBEq,Wb,Wa,Wh,Qbx,Qbw,h.th,ht,Xl,he,Qaa]
end
section
variable {N:Nat}
def XhV{t:Wu}(hl:TB t)(hN:1000000<N)(i g:Int):QgV N t i g=some (YN t.e i g):=by
 have hl':=hl;rw[QgV,Qhj,V7 hl' hN,Xa,YN];cases hv:Yr t.e
 .simp[W6,Wb,Xa]
 simp only[Wh,Wa,XqO,Bool.true_eq_false,if_false];by_cases h0:i<0
 .rw[Wm h0,Wm (.inl h0),Xa];rfl
 rw[Wi h0];by_cases h1:i>=(t.e.length:Int)
 .rw[Wm h1,Wm (.inr (.inl h1)),Xa];rfl
 rw[Wi h1];by_cases h2:g<1
 .rw[Wm h2,Wm (.inr (.inr h2)),Xa];rfl
 have hlt:i.toNat<t.e.length:=aa;rw[Wi h2,Wi aa,Yd aa aa,Xa,Wc hlt];simp only[Xa];by_cases h3:g>t.e[i.toNat].G
 .simp[Wm,h3,Xa]
 rw[Wi h3,Wi h3];by_cases h4:g<t.e[i.toNat].G
 .simp[Wm,h4,Xa]
 rw[Wi h4,Wi h4];cases t.e[i.toNat].V
 .simp[W6,Wb,Xa]
 simp[Wh,Wa,Xa]
def XnO{a:Wp}(hl:LBp a)(hN:1000000<N)(i g:Int):Qho N a i g=some (YQ a i g):=by rw[←Vv hl hN,Qho,QeD,JD hl hN,Zr hl hN]
def Xtc:Xe [(2:Int),16,32] 0=some 2:=by unfold Xe;rfl
def Xtd:Xe [(2:Int),16,32] 1=some 16:=by unfold Xe;rfl
def Xte:Xe [(2:Int),16,32] 2=some 32:=by unfold Xe;rfl
def Xlv(hN:1000000<N){v:Int}(h0:0<=v)(h1:v<=18446744073709551615):Qdf N v [2,16,32]=some (if v / 1125899906842624=0 then([v % 4,v / 4 % 65536,v / 262144 % 4294967296],0)else([],2)):=by
 obtain⟨m,rfl⟩:∃m,N=m+4:=⟨N-4,aa⟩
 have l3:([(2:Int),16,32].length:Nat)=3:=rfl;have i1:wI (0+1)=1:=Xc aa aa;have i2:wI (1+1)=2:=Xc aa aa;have i3:wI (2+1)=3:=Xc aa aa;have j1:wI (64-2)=62:=Xc aa aa;have j2:wI (62-16)=46:=Xc aa aa;have j3:wI (46-32)=14:=Xc aa aa;have e1:Qay (m+4) v [2,16,32] (m+4) 64 0=some (.nxt ()):=by rw[Qay,l3,Xtc];simp only[Xa,i1,j1];rw[Qay,l3,Xtd];simp only[Xa,i2,j2];rw[Qay,l3,Xte];simp only[Xa,i3,j3];rw[Qay,l3];rfl
 have o1:Qa1 (m+4) 2=some 3:=Zb aa aa aa;have o2:Qa1 (m+4) 16=some 65535:=Zb aa aa aa;have o3:Qa1 (m+4) 32=some 4294967295:=Zb aa aa aa;have s1:YO .u64 v 2=v / 4:=YP v 2 aa h0;have s2:YO .u64 (v / 4) 16=v / 4 / 65536:=YP (v / 4) 16 aa aa;have s3:YO .u64 (v / 4 / 65536) 32=v / 4 / 65536 / 4294967296:=YP (v / 4 / 65536) 32 aa aa;have a1:Zc .u64 v 3=v % 4:=YF v 2 aa h0 h1;have a2:Zc .u64 (v / 4) 65535=v / 4 % 65536:=YF (v / 4) 16 aa aa aa;have a3:Zc .u64 (v / 4 / 65536) 4294967295=v / 4 / 65536 % 4294967296:=YF (v / 4 / 65536) 32 aa aa aa;have e2:Qaz (m+4) [2,16,32] (m+4) v 0 []=some (v / 4 / 65536 / 4294967296,[v % 4,v / 4 % 65536,v / 4 / 65536 % 4294967296]):=by rw[Qaz,l3,Xtc];rw[Wd aa,Wb,Xa,o1,Xa,Xb ab,Xb aa,s1,a1,i1];rw[Qaz,l3,Xtd];rw[Wd aa,Wb,Xa,o2,Xa,Xb ab,Xb aa,s2,a2,i2];rw[Qaz,l3,Xte];rw[Wd aa,Wb,Xa,o3,Xa,Xb ab,Xb aa,s3,a3,i3];rw[Qaz,l3];rw[Wg aa,Wa];rfl
 rw[Qdf,e1,Xa,Xo,e2,Xa];grind
def Xqa(hN:1000000<N){v:Int}(hv:tU v):Qf5 N v=some (Yk v):=by
 have⟨h0,h1⟩:=hv;rw[Qf5,Yk];by_cases hz:v=0
 .simp_all
 rw[Xk hz,Wa,Wi hz,Xlv hN h0 h1,Xa];by_cases h:v / 1125899906842624=0
 .have g0:Xe [v % 4,v / 4 % 65536,v / 262144 % 4294967296] 0=some (v % 4):=by unfold Xe;rfl
  have g1:Xe [v % 4,v / 4 % 65536,v / 262144 % 4294967296] 1=some (v / 4 % 65536):=by unfold Xe;rfl
  have g2:Xe [v % 4,v / 4 % 65536,v / 262144 % 4294967296] 2=some (v / 262144 % 4294967296):=by unfold Xe;rfl
  rw[Wm h];rw[show((0:Int) != 0)=false from rfl,Wa,g0,Xa,g1,Xa,g2,Xa,Xc (n:=v % 4) aa aa,Xc (n:=v / 4 % 65536) aa aa,Xc (n:=v / 262144 % 4294967296) aa aa];have q:v / 262144 % 4294967296=v / 262144:=aa;have o2:Qa1 N 16=some 65535:=Zb aa aa aa;have o3:Qa1 N 32=some 4294967295:=Zb aa aa aa;rw[q,QeT,Wg (show¬v / 4 % 65536<0 by omega),Wg (show¬v % 4>3 by omega),o2,Xa,o3,Xa];simp only[Wa];rw[Xp (n:=v / 4 % 65536) aa aa,Xp (n:=v / 262144) aa aa,Wd (show v / 4 % 65536<=65535 by omega),Wd (show v / 262144<=4294967295 by omega),Wb];by_cases c1:v % 4<1
  .rw[Wd c1,Wb,Xa,W6,Wb,Wi aa]
  rw[Wg c1,Wa];by_cases c2:v / 262144<1
  .rw[Wd c2,Wb,Xa,W6,Wb,Wi aa]
  rw[Wg c2,Wa,Xa,Wh,Wa,Wm aa]
 grind
def XnP(v:Int):v≠0->(Yk v).2=0\/(Yk v).2=6:=by unfold Yk;grind
def XnQ(hN:NB N){x:W3}(ht:ET x){v:Int}(tv:tU v):Qct N x v=Qar N x v:=by
 have hN':1000000<N:=by unfold NB at hN;omega
 have hx:=ht.eb;rw[Qct,Qar,JL hN ht];have⟨b,eb,_⟩:=Kg hN hx;rw[eb,Xa,Xa];cases b with
 |false=>rfl
 |true=>
 rw[Wh,Wa,Wa,Xqa hN' tv,Xa];by_cases hz:v=0
 .subst hz;rfl
 rw[show(v==0)=false by grind,Wa,XbY tv,Xa];have he:=XnP v hz;rw[show((Yk v).2==5)=false by grind,Wa];simp only[XnO hx.loc hN',Vv hx.loc hN',XhV hx.glo hN',Kt hx.glo hN',XhV hx.wea hN',Kt hx.wea hN']
end
section
variable {N:Nat}{a:Wp}{t:Wu}
def Xcc(a:Wp):QdX N a=some a:=by simp[QdX,Qaq,Xa,Qao,QaA]
def XhW(hl:LBp a)(hN:1000000<N)(id:Int):QfG N a id=some (XU a id):=by
 have⟨hl1,hl2,hl3⟩:=hl;rw[QfG,JD ⟨hl1,hl2,hl3⟩ hN,Xa,XU];cases hv:Yb a
 .rfl
 rw[Wh,Wa,Wi ab];have hf:=XT.1 hv;by_cases h1:id=0
 .subst h1;rfl
 rw[Wi h1,show(id==0)=false by grind,Wa,Xc aa aa];by_cases h2:a.x.length=0
 .rw[Wm h2,h2];rfl
 rw[Wi h2,Wg aa,Wa];have e:=Wc (show a.x.length-1<a.x.length by omega);have e2:Zk a=a.x[a.x.length-1]:=by unfold Zk;rw[Wj,e];rfl
 have ec:(a.x.length:Int)-1=((a.x.length-1:Nat):Int):=aa;have htl:toL a (a.x.length-1)=(a.S.length:Int):=by unfold toL;rw[show a.x.length-1+1=a.x.length by omega,WS (Uo _)]
 rw[ec,Xhs ⟨hl1,hl2,hl3⟩ hN hf.ne e,Xa,Xf,e,Xa,htl,Iq,←e2];by_cases h3:(Zk a).C0<=((YL a.S (Zk a).O.toNat a.S.length:Nat):Int)
 .rw[Wm h3,Wd (show((YL a.S (Zk a).O.toNat a.S.length:Nat):Int)>=_ from h3),Wb];rfl
 rw[Wi h3,Wg (show¬((YL a.S (Zk a).O.toNat a.S.length:Nat):Int)>=_ from h3),Wa];have h4096:=hf.iss;by_cases h4:a.i.length=4096
 .rw[Wm h4,Wd aa,Wb];rfl
 rw[Wi h4,Wg aa,Wa,Xcc,Xa,Xb aa,Xb aa,Xb aa,Xb aa,Xc aa aa]
def Xlw(hl:LBp a)(hN:1000000<N)(c:Int):Qha N a c=some (Zs a c):=by
 have hl1:=hl.1;rw[Qha,Qhs,JD hl hN,Xa,Zs];cases hv:Yb a
 .rw[W6,Wb,Xa,Wm (.inl rfl)];rfl
 have hf:=XT.1 hv;rw[Wh,Wa];by_cases h1:c<0
 .rw[Wd h1,Wb,Xa,Wm (.inr (.inl h1))];rfl
 by_cases h2:c>64
 .rw[Wg h1,Wa,Wd h2,Wb,Xa,Wm (.inr (.inr h2))];rfl
 rw[Wg h1,Wa,Wg h2,Wa,Xs,W6,Wb,Wi (by grind)];by_cases h3:a.x.length=0
 .rw[Wm h3,h3];rw[show(((0:Nat):Int)==0)=true from rfl,Wb,Xa];rfl
 rw[Wi h3,show((a.x.length:Int)==0)=false by grind,Wa];have h64:=hf.sc;by_cases h4:a.x.length=64
 .rw[Wm h4,Wd aa,Wb,Xa];rfl
 rw[Wi h4,Wg aa,Wa,Xcc,Xa,Xb aa,Xb aa,Xa]
def XnR(hl:LBp a)(hN:1000000<N):Qhp N a=some (YV a):=by
 have⟨hl1,hl2,hl3⟩:=hl;rw[Qhp,JD ⟨hl1,hl2,hl3⟩ hN,Xa,YV];cases hv:Yb a
 .rfl
 by_cases h2:a.x.length=0
 .rw[Wm h2,h2];rfl
 have ht:=Xdv hv h2;have hg:=Xbp h2 hl2;rw[Wi h2];have hw:wI ((a.x.length:Int)-1)=(a.x.length:Int)-1:=Xc aa aa;rw[hg,Xa,hw,Wg aa,Wa];cases hB:(Zk a).B0
 .rw[Wa,Qhb,Xcc,Xa,←hw,hg,Xa,hw,Xb aa,Xb aa,Xa];simp
 rfl
def Xi4{x y:Int}{k:Nat}(hk:k<=63)(h0:0<=x)(h1:x<2 ^ k)(h2:0<=y)(h3:x+y*2 ^ k<=18446744073709551615):bOr .u64 x (y*2 ^ k)=x+y*2 ^ k:=by
 obtain⟨m,rfl⟩:=UA h0;obtain⟨n,rfl⟩:=UA h2;have e0:((2:Int) ^ k)=((2 ^ k:Nat):Int):=by simp
 rw[e0]at h1 h3⊢;rw[←Ol]at h3⊢;have hm:m<2 ^ k:=aa;have hb:IntKind.u64.bits=64:=rfl;show IntKind.u64.wrap ((BitVec.ofInt IntKind.u64.bits m |||BitVec.ofInt IntKind.u64.bits ((n*2 ^ k:Nat):Int)).toNat:Int)=_;rw[hb];have e1:BitVec.ofInt 64 (m:Int)=BitVec.ofNat 64 m:=by simp
 have e2:BitVec.ofInt 64 ((n*2 ^ k:Nat):Int)=BitVec.ofNat 64 (n*2 ^ k):=by rw[Of]
 rw[e1,e2,BitVec.toNat_or,U9,U9,IC aa,IC aa];have e3:m |||n*2 ^ k=m+n*2 ^ k:=by have:=Nat.two_pow_add_eq_or_of_lt hm n;rw[On,Nat.or_comm,←this,Nat.add_comm,On]
 show wU _=_;rw[Xp aa aa];omega
def Xee(a:Int)(k:Nat)(hk:k<=64):ZO .u64 a k=wU (a*2 ^ k):=by have e1:IntKind.bits .u64=64:=rfl;show IntKind.wrap .u64 (a*2 ^ min (k:Int).toNat (IntKind.bits .u64))=_;rw[e1,Iq,I5 hk];rfl
def XhX{a:Int}{k:Nat}(hk:k<=63)(h0:0<=a)(h1:a<2 ^ k):Xa9 .u64 a (2 ^ k-1)=0:=by
 obtain⟨n,rfl⟩:=UA h0;have hb:IntKind.u64.bits=64:=rfl;have hk2:(2:Int) ^ k-1=((2 ^ k-1:Nat):Int):=by
  have h1:=Nat.one_le_two_pow (n:=k);have h2:(2:Int) ^ k=((2 ^ k:Nat):Int):=by simp
  rw[h2];omega
 have hn:n<2 ^ k:=by
  have h2:(2:Int) ^ k=((2 ^ k:Nat):Int):=by simp
  rw[h2]at h1;omega
 show IntKind.u64.wrap ((BitVec.ofInt IntKind.u64.bits n &&& ~~~ BitVec.ofInt IntKind.u64.bits (2 ^ k-1)).toNat:Int)=_;rw[hb,hk2];have e1:BitVec.ofInt 64 (n:Int)=BitVec.ofNat 64 n:=by simp
 have e2:BitVec.ofInt 64 ((2 ^ k-1:Nat):Int)=BitVec.ofNat 64 (2 ^ k-1):=by rw[Of]
 rw[e1,e2];have e3:BitVec.ofNat 64 n &&& ~~~ BitVec.ofNat 64 (2 ^ k-1)=0#64:=by
  apply BitVec.eq_of_getLsbD_eq;intro i hi;rw[BitVec.getLsbD_and,BitVec.getLsbD_not,BitVec.getLsbD_ofNat,BitVec.getLsbD_ofNat,BitVec.getLsbD_zero];by_cases h:i<k
  .grind
  rw[Nat.testBit_lt_two_pow (ID hn (IM aa aa))];simp
 rw[e3];rfl
def Xgj(hN:1000000<N){v:Int}{m:Nat}(hm:m<=63)(h0:0<=v)(h1:v<2 ^ m):Qce N v m=some true:=by rw[Qce,Zb aa aa aa,Xa,Iq,XhX hm h0 h1];rfl
def XnS(hN:1000000<N){t i s:Int}(t1:1<=t)(t2:t<=3)(i1:0<=i)(i2:i<=65535)(s1:1<=s)(s2:s<=4294967295):Qeo N ⟨t,i,s⟩=some (t+i*4+s*262144,0)/\Qa3 N ⟨t,i,s⟩=some (t+i*4+s*262144,0):=by
 have g2:∀x:Int,ZO .u64 x 2=wU (x*4):=λx=>Xee x 2 aa;have g18:∀x:Int,ZO .u64 x 18=wU (x*262144):=λx=>Xee x 18 aa;have g0:∀x:Int,ZO .u64 x 0=wU (x*1):=λx=>Xee x 0 aa;have et:=Xp (n:=t) aa aa;have ei:=Xp (n:=i) aa aa;have es:=Xp (n:=s) aa aa;have ei4:=Xp (n:=i*4) aa aa;have es4:=Xp (n:=s*262144) aa aa;constructor
 .have o16:Qa1 N 16=some 65535:=Zb (a:=16) aa aa aa;have o32:Qa1 N 32=some 4294967295:=Zb (a:=32) aa aa aa;have hv:QeT N ⟨t,i,s⟩=some true:=by rw[QeT,o16,o32];simp only[Xa,ei,es];rw[Wg aa,Wg aa,Wg aa,Wg aa,Wd i2,Wd s2];rfl
  obtain⟨n,rfl⟩:∃n,N=n+4:=⟨N-4,aa⟩
  have h1:Qbd (n+4) [UJ.mk 2 t,UJ.mk 16 i,UJ.mk 32 s] (n+4) 64 0=some (.nxt ()):=ac;have f1:Qce (n+4) t 2=some true:=Xgj (m:=2) hN aa aa aa;have f2:Qce (n+4) i 16=some true:=Xgj (m:=16) hN aa aa aa;have f3:Qce (n+4) s 32=some true:=Xgj (m:=32) hN aa aa aa;have b1:bOr .u64 0 (wU (t*1))=t:=by rw[Int.mul_one,et];have:=Xi4 (x:=0) (y:=t) (k:=0) aa aa aa aa aa;simpa using this
  have b2:bOr .u64 t (i*4)=t+i*4:=Xi4 (k:=2) aa aa aa aa aa;have b3:bOr .u64 (t+i*4) (s*262144)=t+i*4+s*262144:=Xi4 (k:=18) aa aa aa aa aa;have h2:QaJ (n+4) [UJ.mk 2 t,UJ.mk 16 i,UJ.mk 32 s] (n+4) 0 0 0=some (.nxt (t+i*4+s*262144)):=by have l0:Xe [UJ.mk 2 t,UJ.mk 16 i,UJ.mk 32 s] 0=some (UJ.mk 2 t):=Xf _ 0;have l1:Xe [UJ.mk 2 t,UJ.mk 16 i,UJ.mk 32 s] 1=some (UJ.mk 16 i):=Xf _ 1;have l2:Xe [UJ.mk 2 t,UJ.mk 16 i,UJ.mk 32 s] 2=some (UJ.mk 32 s):=Xf _ 2;rw[QaJ,Wd ab,Wb,l0,Xa,f1,Xa,Wh,Wa,Xb aa,g0,b1,show wI (0+2)=2 from rfl,show wI (0+1)=1 from rfl];rw[QaJ,Wd ab,Wb,l1,Xa,f2,Xa,Wh,Wa,Xb aa,g2,ei4,b2,show wI (2+16)=18 from rfl,show wI (1+1)=2 from rfl];rw[QaJ,Wd ab,Wb,l2,Xa,f3,Xa,Wh,Wa,Xb aa,g18,es4,b3,show wI (18+32)=50 from rfl,show wI (2+1)=3 from rfl];rw[QaJ,Wg ab,Wa]
  simp[Qeo,hv,Xa,Wh,Wa,et,ei,es,Qfd,h1,Xo,h2]
 rw[Qa3,Qf8];simp only[et,ei,es,g2,g18,ei4,es4];rw[Wd (show t>=1 by omega),Wd t2,Wd (show i>=0 by omega),Wd i2,Wd (show s>=1 by omega),Wd s2];simp only[Wb,Xa,Wh,Wa];rw[Xp (n:=t+i*4) aa aa,Xp aa aa]
def Xlx{l:Wp}{id:Int}(h:(XU l id).2.2.2=0):Yb l=true/\0<=(XU l id).2.1/\(XU l id).2.1<=65535/\1<=(XU l id).2.2.1/\(XU l id).2.2.1<=4294967295:=by
 unfold XU at h⊢;cases hv:Yb l
 .simp_all
 have hf:=XT.1 hv;have h1:=hf.slots;have h2:=hf.iss;grind
end
section
variable {N:Nat}{h0:Wk}{l:List Int}
def KeepW.trans{a b c:Ww}(h1:KeepW a b)(h2:KeepW b c):KeepW a c:=by unfold KeepW at *;grind
def QN(l:List Int)(w:Ww):Prop:=l=[]->w.q=[]
def Xqb(hN:NB N){w w':Ww}{a to:Int}(hl:w.o=[])(hq:w.q=[])(e:QaL N w a=some (w',to,0)):w'.q=[]:=by unfold NB at hN;rw[QaL,hl,hq,Yx a ab ah,Xa,Xa]at e;grind
def XnT(hN:NB N)(hs:Start N h0 l){w:Ww}{O:Int->Prop}{s:Int->Int}(hc:CI h0 l w)(ho:Ox h0 l w O s)(hh:Oz h0 l w)(hn:QN l w){a:Int}(ta:tU a):
 (∃r w2,QaL N w a=some r/\r.2.2≠0/\Qa4 N w a=some (0,r.2.2,w2)) \/
 ∃w' to,QaL N w a=some (w',to,0)/\OH h0 l w w' O s/\Oz h0 l w'/\tU to/\(a≠0->to≠0)/\KeepW w w'/\QN l w'/\Qa4 N w a=some (to,0,w'):=by
 rcases XrV hN hs hc ho hh ta with h|⟨w',to,er,hq,hh',tt,tz,hkw,eg⟩
 .simp_all
 exact .inr ⟨w',to,er,hq,hh',tt,tz,hkw,λh=>Xqb hN (List.sublist_nil.1 (h▸hc.old)) (hn h) er,eg⟩
def NZ(rs out:List Int):Prop:=∀(i:Nat) (y:Int),out[i]? = some y->∀(x:Int),rs[i]? = some x->x≠0->y≠0
def NZ.push{rs out:List Int}(h:NZ rs out){y:Int}(hy:∀x,rs[out.length]? = some x->x≠0->y≠0):NZ rs (out++[y]):=by
 intro i z hz x hx;by_cases hi:i<out.length
 .rw[Uh hi]at hz;exact h i z hz x hx
 grind
def zWk:Ww:=Ww.mk zHp [] [] [] 0 (WR.mk 0 0 0 0 0 0)
def Xkj(hN:NB N)(hs:Start N h0 l){rs:List Int}(hl:rs.length<=1000000)(ht:∀x∈rs,tU x):∀(n k:Nat) (w:Ww) (out:List Int),k<=rs.length->rs.length-k<n->CI h0 l w->Oz h0 l w->QN l w->out.length=k->NZ rs out ->
 (∃e,e≠0/\Qel N rs n k w.h.c.W w.h.c.p w.h.s w.h.b w.d w.r.j w.r.K w.r.F w.r.E w.r.f w.r.y w.h.w w.h.p w.o w.t w.q out=some (.ret (zWk,[],e)) /\
  Qa8 N rs n k w.h.c.W w.h.c.p w.h.w w.h.p w.h.s w.h.b w.o w.t w.q w.d w.r.j w.r.K w.r.F w.r.E w.r.f w.r.y out=some (.ret (zWk,[],e))) \/
 ∃w' out',CI h0 l w'/\Oz h0 l w'/\QN l w'/\KeepW w w'/\out'.length=rs.length/\NZ rs out' /\
  Qel N rs n k w.h.c.W w.h.c.p w.h.s w.h.b w.d w.r.j w.r.K w.r.F w.r.E w.r.f w.r.y w.h.w w.h.p w.o w.t w.q out=some (.nxt (w'.h.c.W,w'.h.c.p,w'.h.s,w'.h.b,w'.d,w'.r.j,w'.r.K,w'.r.F,w'.r.E,w'.r.f,w'.r.y,w'.h.w,w'.h.p,w'.o,w'.t,w'.q,out')) /\
  Qa8 N rs n k w.h.c.W w.h.c.p w.h.w w.h.p w.h.s w.h.b w.o w.t w.q w.d w.r.j w.r.K w.r.F w.r.E w.r.f w.r.y out=some (.nxt (w'.h.c.W,w'.h.c.p,w'.h.w,w'.h.p,w'.h.s,w'.h.b,w'.o,w'.t,w'.q,w'.d,w'.r.j,w'.r.K,w'.r.F,w'.r.E,w'.r.f,w'.r.y,out'))
 |0,k,w,out,_,hn,_,_,_,_,_=>by omega
 |n+1,k,w,out,hk,hn,hc,hh,hqn,ho,hz=>by
  rw[Qel,Qa8];by_cases h:k<rs.length
  .have htx:=ht _ (WG h);rw[Xn h,Wb,Wb,Xf,Wc h,Xa,Xa,Xg aa];have⟨O,s,hob⟩:=hc.obj;have eta:(⟨⟨⟨w.h.c.W,w.h.c.p⟩,w.h.w,w.h.p,w.h.s,w.h.b⟩,w.o,w.t,w.q,w.d,⟨w.r.j,w.r.K,w.r.F,w.r.E,w.r.f,w.r.y⟩⟩:Ww)=w:=rfl;rcases XnT hN hs hc hob hh hqn htx with⟨r,w2,er,e0,eg⟩|⟨w',to,er,hq,hh',tt,tz,hkw',hqn',eg⟩
   .refine .inl ⟨r.2.2,e0,?_,?_⟩
    .rw[eg,Xa,Xl e0,Wb];rfl
    rw[er,Xa,Xl e0,Wb];rfl
   rw[eg,er,Xa,Xa,show((0:Int) != 0)=false from rfl,Wa,Wa,Xb aa,Xb aa];rcases Xkj hN hs hl ht n (k+1) w' (out++[to]) aa aa hq.ci hh' hqn' (by simp_all) (hz.push λx hx hx0=>tz (by simp_all))with h|⟨w'',o'',c1,c2,c6,c3,c4,c5,e1,e2⟩
   .simp_all
   exact .inr ⟨w'',o'',c1,c2,c6,hkw'.trans c3,c4,c5,e1,e2⟩
  obtain rfl:k=rs.length:=aa;rw[XI,Wa,Wa];exact .inr ⟨w,out,hc,hh,hqn,rfl,ho,hz,rfl,rfl⟩
def XnU(hN:NB N)(hs:Start N h0 l){w:Ww}(hc:CI h0 l w)(hh:Oz h0 l w)(hqn:QN l w){rs:List Int}(hl:rs.length<=1000000)(ht:∀x∈rs,tU x):
 (∃e,e≠0/\QfR N w rs=some (zWk,[],e)/\Qdb N w rs=some (zWk,[],e)) \/
 ∃w' out,CI h0 l w'/\Oz h0 l w'/\QN l w'/\KeepW w w'/\out.length=rs.length/\NZ rs out/\QfR N w rs=some (w',out,0)/\Qdb N w rs=some (w',out,0):=by
 have hN':=hN;unfold NB at hN';rw[QfR,Qdb];simp only[Qae,Qad,QaA,Xa];have hr:=Xkj hN hs hl ht N 0 w [] aa aa hc hh hqn rfl (λi y e=>by grind);rw[show((0:Nat):Int)=0 from rfl]at hr;rcases hr with⟨e,e0,e1,e2⟩|⟨w',out,c1,c2,c6,c3,c4,c5,e1,e2⟩
 .simp_all[e1,Xa,XA,e2]
 exact .inr ⟨w',out,c1,c2,c6,c3,c4,c5,by rw[e1,Xa,Xo],by rw[e2,Xa,Xo]⟩
end
section
variable {N:Nat}{h0:Wk}{l:List Int}
def Xqc{w:Ww}{O:Int->Prop}{s:Int->Int}(ho:Ox h0 l w O s)(hh:Oz h0 l w){p x:Int}(hp:O p)(h1:p<x)(h2:x<p+s p){v:Int}(tv:tU v):
 Oz h0 l {w with h:={w.h with w:=w.h.w.set (ix x) v}}:=by
 have hf:=ho.fit p hp;have hin:inW w.h.w x:=by unfold inW;omega
 have wd1:∀b,O b->wd (w.h.w.set (ix x) v) b=wd w.h.w b:=λb hb=>by
  have:b≠x:=by
   rintro rfl;by_cases he:b=p
   .omega
   have:=ho.apart b p hb hp he;have:=ho.fit b hb;omega
  rw[XbU hin (ho.fit b hb).1,Wi this]
 refine⟨λb hb=>?_,λb hb hq hf=>?_,λb hb hf=>?_,λy hy=>?_,hh.ss,hh.k1,hh.pr,λb hb hf=>?_,hh.bm,hh.ol⟩
 .rw[wd1 b (ho.queue b hb)];exact hh.q b hb
 .rw[wd1 b (ho.old b hb).1]at hf⊢;exact hh.old b hb hq hf
 .rw[wd1 b (ho.old b hb).1]at hf⊢;exact hh.fw b hb hf
 .rcases W0 hy with hy|hy
  .exact hh.ws y hy
  simp_all
 rw[wd1 b (ho.old b hb).1];exact hh.hw b hb hf
def XhY(hN:NB N)(hs:Start N h0 l){p z u:Int}{ks:List Int}(hkl:ks.length<=255)(hpi:wI (wI (pgi h0.c p*h0.c.W)+u)=p-4096)(hp0:4096<=p)(hz0:1<=z)(hz1:z<=256)(hz:p-4096+z<=h0.w.length):
 ∀(n k:Nat) (w:Ww) (O:Int->Prop) (s:Int->Int),k<=ks.length->ks.length-k<n->CI h0 l w->Ox h0 l w O s->Oz h0 l w->QN l w->O p->(∀k∈ks,0<=k/\k<255/\k+1<s p/\k+1<z) ->
 (∃e,e≠0/\(∃t,Qfm N h0.c.W z (pgi h0.c p,u,0) ks n k w.h.c.W w.h.c.p w.h.s w.h.b w.d w.r.j w.r.K w.r.F w.r.E w.r.f w.r.y w.h.w w.h.p w.o w.t w.q=some (.ret (e,t))) /\
  Qbm N p ks n k w.h.c.W w.h.c.p w.h.w w.h.p w.h.s w.h.b w.o w.t w.q w.d w.r.j w.r.K w.r.F w.r.E w.r.f w.r.y=some (.ret (zWk,false,e))) \/
 ∃w',CI h0 l w'/\Oz h0 l w'/\QN l w'/\KeepW w w'/\w.q.length<=w'.q.length /\
  Qfm N h0.c.W z (pgi h0.c p,u,0) ks n k w.h.c.W w.h.c.p w.h.s w.h.b w.d w.r.j w.r.K w.r.F w.r.E w.r.f w.r.y w.h.w w.h.p w.o w.t w.q=some (.nxt (w'.h.c.W,w'.h.c.p,w'.h.s,w'.h.b,w'.d,w'.r.j,w'.r.K,w'.r.F,w'.r.E,w'.r.f,w'.r.y,w'.h.w,w'.h.p,w'.o,w'.t,w'.q)) /\
  Qbm N p ks n k w.h.c.W w.h.c.p w.h.w w.h.p w.h.s w.h.b w.o w.t w.q w.d w.r.j w.r.K w.r.F w.r.E w.r.f w.r.y=some (.nxt (w'.h.c.W,w'.h.c.p,w'.h.w,w'.h.p,w'.h.s,w'.h.b,w'.o,w'.t,w'.q,w'.d,w'.r.j,w'.r.K,w'.r.F,w'.r.E,w'.r.f,w'.r.y))
 |0,k,w,O,s,_,hn,_,_,_,_,_,_=>by omega
 |n+1,k,w,O,s,hi,hn,hc,ho,hh,hqn,hp,hk=>by
  have hN':=hN;unfold NB at hN';have hb1:=hs.hb.1;rw[Qfm,Qbm];by_cases h:k<ks.length
  .have⟨k0,k1,k2,k3⟩:=hk _ (WG h);have hwl:=hc.wlen;have eta:(⟨⟨⟨w.h.c.W,w.h.c.p⟩,w.h.w,w.h.p,w.h.s,w.h.b⟩,w.o,w.t,w.q,w.d,⟨w.r.j,w.r.K,w.r.F,w.r.E,w.r.f,w.r.y⟩⟩:Ww)=w:=rfl;have ex:ix (p+1+ks[k])=(p-4096).toNat+(1+ks[k]).toNat:=by unfold ix;omega
   have gp:∀ws:List Int,ws.length=h0.w.length->KX ws (p-4096).toNat ((p-4096+z).toNat-(p-4096).toNat) (1+ks[k])=some (wd ws (p+1+ks[k])):=by intro ws hw;rw[XcP aa aa aa];unfold wd;rw[ex,Wj,Wc aa];rfl
   rw[eta,Xn h,Wb,Wb,Xf,Wc h,Xa,Xa,Xg aa];rw[hpi,Xc (n:=p-4096+z) aa aa,Xc (n:=1+ks[k]) aa aa,gp _ hwl,Xa];rw[Xp (n:=p+1) aa aa,Xp (n:=ks[k]) aa aa,Xp (n:=p+1+ks[k]) aa aa];rw[Ye (hc.wl hs.hb),Xa,Wm (by unfold inW;omega)];rw[show w.h.w.getD (ix (p+1+ks[k])) 0=wd w.h.w (p+1+ks[k])from rfl];rcases XnT hN hs hc ho hh hqn (Xct hh.ws (p+1+ks[k]))with⟨r,w2,er,e0,eg⟩|⟨w',to,er,q,hh',tt,tz,hkw,hqn',eg⟩
   .refine .inl ⟨r.2.2,e0,?_,?_⟩
    .simp[eg,Xa,Xl,e0,Wb]
    rw[er,Xa,Xl e0,Wb];rfl
   have⟨O',s',ho',hx⟩:=q.ob;have⟨hp',hs'⟩:=hx p hp;have st:=XfL q.ci ho' hp' (x:=p+1+ks[k]) aa aa to;have sh:=Xqc ho' hh' hp' (x:=p+1+ks[k]) aa aa tt;rw[eg,er,Xa,Xa,show((0:Int) != 0)=false from rfl,Wa,Wa];rw[gp _ q.ci.wlen,Xa,Z3 (q.ci.wl hs.hb) aa,Xa,Wm st.1,←ex];rcases XhY hN hs hkl hpi hp0 hz0 hz1 hz n (k+1) {w' with h:={w'.h with w:=w'.h.w.set (ix (p+1+ks[k])) to}} O' s' aa aa st.2.1 st.2.2 sh hqn' hp' (λk' hk'=>by simp_all)with h|⟨w'',c1,c2,c3,c4,c5,c6,c7⟩
   .grind
   exact .inr ⟨w'',c1,c2,c3,KeepW.trans (b:={w' with h:={w'.h with w:=w'.h.w.set (ix (p+1+ks[k])) to}}) (by unfold KeepW at hkw⊢;grind) c4,UO q.ql c5,c6,c7⟩
  obtain rfl:k=ks.length:=aa;rw[XI,Wa,Wa];exact .inr ⟨w,hc,hh,hqn,rfl,Uo _,rfl,rfl⟩
theorem Xtf(n:Int):wI n=if n % 18446744073709551616>=9223372036854775808 then n % 18446744073709551616-18446744073709551616 else n % 18446744073709551616:=by have e1:IntKind.bits .i64=64:=rfl;have e2:IntKind.signed .i64=true:=rfl;simp[wI,IntKind.wrap,e1,e2]
def Xtg(a b:Int):wI (wI a+b)=wI (a+b):=by grind[Xtf]
def XuJ(a b:Int):wI (a+wI b)=wI (a+b):=by rw[Int.add_comm a,Xtg,Int.add_comm b]
def XnV(hN:NB N)(hs:Start N h0 l):∀(n:Nat) (w:Ww),CI h0 l w->Oz h0 l w->QN l w->0<=w.d->w.d<=w.q.length->(100001-w.d).toNat<n ->
 (∃e,e≠0/\Qfn N n w.h.c.W w.h.c.p w.h.s w.h.b w.d w.r.j w.r.K w.r.F w.r.E w.r.f w.r.y w.h.w w.h.p w.o w.t w.q=some (zWk,e) /\
  QbZ N n w.h.c.W w.h.c.p w.h.w w.h.p w.h.s w.h.b w.o w.t w.q w.d w.r.j w.r.K w.r.F w.r.E w.r.f w.r.y=some (zWk,e)) \/
 ∃w',CI h0 l w'/\Oz h0 l w'/\QN l w' /\
  Qfn N n w.h.c.W w.h.c.p w.h.s w.h.b w.d w.r.j w.r.K w.r.F w.r.E w.r.f w.r.y w.h.w w.h.p w.o w.t w.q=some (w',0) /\
  QbZ N n w.h.c.W w.h.c.p w.h.w w.h.p w.h.s w.h.b w.o w.t w.q w.d w.r.j w.r.K w.r.F w.r.E w.r.f w.r.y=some (w',0)
 |0,w,_,_,_,_,_,hn=>by omega
 |n+1,w,hc,hh,hqn,g0,g1,hn=>by
  have hN':=hN;unfold NB at hN';have hb:=hs.hb;have hql:=hc.ql hb;have hwl:=hc.wl hb;have hww:=hc.wlen;have hb1:=hb.1;have eta:(⟨⟨⟨w.h.c.W,w.h.c.p⟩,w.h.w,w.h.p,w.h.s,w.h.b⟩,w.o,w.t,w.q,w.d,⟨w.r.j,w.r.K,w.r.F,w.r.E,w.r.f,w.r.y⟩⟩:Ww)=w:=rfl;have etc:(⟨w.h.c.W,w.h.c.p⟩:WN)=h0.c:=hc.conf;rw[Qfn,QbZ,eta,Qet,Xs,etc,Wg (p:=w.d<0) aa,Wa,Xb aa];by_cases hlt:w.d<w.q.length;rotate_left
  .rw[Wd (p:=w.d>=_) aa,Wb,Wb,Xa];exact .inr ⟨w,hc,hh,hqn,rfl,rfl⟩
  rw[Wg (p:=w.d>=_) aa,Wa,Wa,Yd g0 hlt,Xa,Xa];have hpm:w.q[w.d.toNat]'aa∈w.q:=WG _;generalize w.q[w.d.toNat]'aa=p at hpm⊢;have hne:l≠[]:=λe=>by rw[hqn e]at hpm;grind
  have hp:=hs.prop hne;have hwd0:=hp.words;have⟨O,s,ho⟩:=hc.obj;have hOp:=ho.queue p hpm;have hf:=ho.fit p hOp;have hok:=hh.q p hpm;have hrng:4096<=p/\p<4096+h0.c.p*h0.c.W:=aa;have⟨o1,o2⟩:=Xj2 (N:=N) hp.conf hrng;have tw:=Xct hh.ws p;have hsw:=XL w.h.w p;have e1:Xw (Zq (wd w.h.w p))=szA w.h.w p:=hsw.1;have gp:∀n:Nat,1<=n->KX w.h.w (p-4096).toNat n 0=some (wd w.h.w p):=by intro n hn;rw[XcP aa aa aa];unfold wd ix;rw[Wj,Wc aa];simp
  rw[Qdw,Ye hwl,Xa,Wm (by unfold inW;omega),ZR,Xa,Xa,Xdl aa,Xa];rw[show w.h.w.getD (ix p) 0=wd w.h.w p from rfl];rw[o1,Xa];have ecp:w.h.c.W=h0.c.W:=by rw[hc.conf]
  rw[ecp,show((0:Int) != 0)=false from rfl,Wa,Xb aa,o2,Xc (n:=(w.h.w.length:Int)-(p-4096)) aa aa,Wg aa,Wa,Xc (n:=p-4096+1) aa aa,Xb aa,
   gp _ aa,Xa,XdM aa tw,Xa]
  rw[hok,Y1 aa,Xa,e1,Xa];dsimp only;rw[show((0:Int) != 0)=false from rfl,Wa,o2,Xc (n:=(w.h.w.length:Int)-(p-4096)) aa aa,Wg aa,Wa,Xc (n:=p-4096+szA w.h.w p) aa aa,Xb aa,Xb aa,Wh,Wa,XeZ aa _ (Kc _),Xa];have hkl:=Xaq (hdA w.h.w p);have hg:=XhY hN hs (p:=p) (z:=szA w.h.w p) (u:=pgo h0.c p) (ks:=X5 (hdA w.h.w p)) hkl o2 hf.1 hsw.2.1 hsw.2.2 aa N 0 w O s aa aa hc ho hh hqn hOp λk hk=>by have h1:=ZA hk;have h2:szA w.h.w p=(hdA w.h.w p).n+1:=rfl;omega
  rw[show((0:Nat):Int)=0 from rfl,ecp]at hg;rcases hg with⟨e,e0,⟨t,e2⟩,e3⟩|⟨w',c1,c2,c3,c4,c5,e2,e3⟩
  .refine .inl ⟨e,e0,?_,?_⟩
   .rw[show Zq (wd w.h.w p)=hdA w.h.w p from rfl,e2,Xa,XA,Xl e0,Wb];rfl
   rw[show Zq (wd w.h.w p)=hdA w.h.w p from rfl,e3,Xa,XA,Xa,Xl e0,Wb];rfl
  rw[show Zq (wd w.h.w p)=hdA w.h.w p from rfl,e2,e3,Xa,Xa,Xo,Xo,Xa];have esc:w'.d=w.d:=by unfold KeepW at c4;rw[c4]
  have ee:wI (w'.d+1)=w.d+1:=by rw[esc,Xc aa aa]
  have est:wI (w'.r.y+wI (1+(((X5 (hdA w.h.w p)).length:Nat):Int)))=wI (wI (w'.r.y+1)+(((X5 (hdA w.h.w p)).length:Nat):Int)):=by rw[XuJ,Xtg,Int.add_assoc]
  rw[est];have c1':CI h0 l {w' with d:=wI (w'.d+1),r:={w'.r with y:=wI (wI (w'.r.y+1)+(((X5 (hdA w.h.w p)).length:Nat):Int))}}:=by refine⟨c1.conf,c1.wlen,c1.plen,c1.spc,c1.old,c1.tk,c1.tnd,c1.knd,c1.qnd,?_⟩;obtain⟨O,s,h⟩:=c1.obj;exact⟨O,s,⟨h.old,h.queue,h.fit,h.apart,h.taken,h.free⟩⟩
  exact XnV hN hs n _ c1' ⟨c2.q,c2.old,c2.fw,c2.ws,c2.ss,c2.k1,c2.pr,c2.hw,c2.bm,c2.ol⟩ c3 (by grind) (by grind) (by grind)
def Xr8(hN:NB N)(hs:Start N h0 l){w:Ww}(hc:CI h0 l w)(hh:Oz h0 l w)(hqn:QN l w)(g0:0<=w.d)(g1:w.d<=w.q.length):
 (∃e,e≠0/\Qgo N w=some (zWk,e)/\Qez N w=some (zWk,e)) \/
 ∃w',CI h0 l w'/\Oz h0 l w'/\QN l w'/\Qgo N w=some (w',0)/\Qez N w=some (w',0):=by
 have hN':=hN;unfold NB at hN';rw[Qgo,Qez];simp only[Qae,Qad,QaA,Xa];rcases XnV hN hs N w hc hh hqn g0 g1 aa with⟨e,e0,e1,e2⟩|⟨w',c1,c2,c3,e1,e2⟩
 .simp_all[e1,Xa,e2]
 exact .inr ⟨w',c1,c2,c3,by rw[e1,Xa],by rw[e2,Xa]⟩
end
section
variable {N:Nat}{h0:Wk}{l:List Int}
def lpg(N:Nat)(h:Wk)(i:Nat):List Int:=match Qag N h (i:Int)with|some r=>r.1|none=>[]
def lps(N:Nat)(h:Wk)(k:Nat):Nat->List Int
 |0=>[]
 |m+1=>lpg N h k++lps N h (k+1) m
def Xfe(hb:HB h0)(hp:∀i:Nat,i<h0.p.length->∃l,Qag N h0 (i:Int)=some (l,0)/\l.length<=64):∀(n k:Nat) (v:List Int),k<=h0.p.length->h0.p.length-k<n->v.length<=64*k->QaO N h0 n (k:Int) v=some (.nxt (v++lps N h0 k (h0.p.length-k)))
 |0,k,v,_,hn,_=>by omega
 |n+1,k,v,hk,hn,hv=>by
  have hb2:=hb.2;rw[QaO];by_cases h:k<h0.p.length
  .have⟨l,e,hl⟩:=hp k h;rw[Xn h,Wb,e,Xa,show(((0:Int)) != 0)=false from rfl,Wa,Xb (by grind),Xg aa,Xfe hb hp n (k+1) _ aa aa (by grind),Ud,show h0.p.length-k=(h0.p.length-(k+1))+1 by omega,lps,lpg,e]
  obtain rfl:k=h0.p.length:=aa;simp[XI,Wa,U8,lps,Ih]
structure O2(N:Nat)(h:Wk)(L:List Int):Prop where
 ep:Qab N h=some true
 eg:Qbe N h=some true
 st:Start N h L
 eL:L=lps N h 0 h.p.length
 pg:∀i:Nat,i<h.p.length->Qag N h (i:Int)=some (lpg N h i,0)/\PageL N h (i:Int) (lpg N h i)
 ob:Qap N h=some (Yo h L,0)
def Xr9(hN:NB N)(ht:HT h0)(eg:Qbe N h0=some true):∃L,O2 N h0 L:=by
 have hN':=hN;unfold NB at hN';have hb:=ht.hb;have⟨b,eb,hgd⟩:=KQ hN hb;rw[eg]at eb;obtain rfl:=WA eb;have hg:=hgd rfl;have hp:=hg.prop;have ep:Qab N h0=some true:=by
  obtain⟨b,eb⟩:=ZU (N:=N) hN hb;cases b with
  |true=>exact eb
  |false=>rw[Qbe,Qfi,eb,Xa,W6,Wb,Xa]at eg;cases eg
 have hpg:∀i:Nat,i<h0.p.length->Qag N h0 (i:Int)=some (lpg N h0 i,0)/\PageL N h0 (i:Int) (lpg N h0 i)/\(lpg N h0 i).length<=64:=λi hi=>by
  obtain⟨r,er,hr1,hr2⟩:=QfT hN hb hp (i:Int) aa aa;have h2:=(hg.small i aa aa r er).2;have e:lpg N h0 i=r.1:=by unfold lpg;rw[er]
  rw[e];refine⟨?_,hr1,hr2⟩;rw[er];congr 1;exact Prod.ext rfl h2
 have es:=Xfe hb (λi hi=>⟨_,(hpg i hi).1,(hpg i hi).2.2⟩) N 0 [] aa (by have:=hb.2;omega) ab;have est:QbH N h0=some (lps N h0 0 h0.p.length,0):=by rw[QbH,ep,Xa,Wh,Wa,show(0:Int)=((0:Nat):Int)from rfl,es,Xa,Xo,Ue,Nat.sub_zero]
 have⟨r,er,hst,_,_⟩:=J8 hN hb;rw[est]at er;obtain rfl:=WA er;refine⟨_,ep,eg,⟨hb,λ_=>hg,λ_=>hp,hst⟩,rfl,λi hi=>⟨(hpg i hi).1,(hpg i hi).2.1⟩,?_⟩;have hlen:(lps N h0 0 h0.p.length).length<=4096:=hst.len;have:=Xaz (N:=N) (h:=h0) (lps N h0 0 h0.p.length,0) (by show(lps N h0 0 h0.p.length).length<=_;omega) hst.obj.ev N 0 [] aa (by show(lps N h0 0 h0.p.length).length-0<_;omega) ab;rw[show((0:Nat):Int)=0 from rfl,W4,Ue]at this;simp[Qap,est,Xa,this]
def Xi5(y3:List Int×Int)(y4:List Int)(y5:List Ws)(hl:h0.p.length<=100000)(h5:y5.length=h0.p.length):∀(n k:Nat) (v:List Ws),k<=h0.p.length->h0.p.length-k<n->v.length=h0.p.length->(∀j:Nat,k<=j->pg v j=pg h0.p j) ->
 ∃r,QbK N h0 y3 n (k:Int) v=some r/\Qcf N h0 y3 y4 y5 n (k:Int) v=some r/\r.length=h0.p.length/\∀j:Nat,pg r j=if j<k\/¬((pg h0.p j).k=1/\(pg h0.p j).P>0)then pg v j else⟨1,wI (1-h0.s),(pg h0.p j).u,(pg h0.p j).P⟩
 |0,k,v,_,hn,_,_=>by omega
 |n+1,k,v,hk,hn,hv,hj=>by
  rw[QbK,Qcf,Xb aa,hv,h5];by_cases h:k<h0.p.length
  .rw[Xn h,Wb,Wb,Xr (ps:=v) (i:=(k:Int)) aa aa,Xa,Xa,Xg aa];simp only[Xa,hj k (Uo k)];by_cases hc:(pg h0.p k).k=1/\(pg h0.p k).P>0
   .have e2:=λx:Nat=>Y6 (ps:=v) (i:=(k:Int)) (j:=(x:Int)) ⟨(pg h0.p k).k,wI (1-h0.s),(pg h0.p k).u,(pg h0.p k).P⟩ aa aa aa;obtain⟨r,r1,r2,r3,r4⟩:=Xi5 y3 y4 y5 hl h5 n (k+1) (v.set (k:Int).toNat ⟨(pg h0.p k).k,wI (1-h0.s),(pg h0.p k).u,(pg h0.p k).P⟩) aa aa (by rw[WL];exact hv) λj hkj=>by rw[e2 j,Wi aa];exact hj j aa
    grind
   have⟨r,r1,r2,r3,r4⟩:=Xi5 y3 y4 y5 hl h5 n (k+1) v aa aa hv λj hkj=>hj j aa;grind
  obtain rfl:k=h0.p.length:=aa;rw[XI,Wa,Wa];refine⟨v,rfl,rfl,hv,λj=>?_⟩;by_cases hq:j<h0.p.length\/¬((pg h0.p j).k=1/\(pg h0.p j).P>0)
  .simp_all
  exfalso;apply hq;right;intro hh;have:pg h0.p j=Zm:=by unfold pg;rw[Wj,WS aa];rfl
  rw[this]at hh;exact absurd hh.1 ae
def XnW(hN:NB N)(ht:HT h0){L:List Int}(hB:O2 N h0 L):∃w,QeJ N h0=some (w,0)/\Qda N h0=some (w,0)/\CI h0 L w/\Oz h0 L w/\QN L w/\w.d=0:=by
 have hN':=hN;unfold NB at hN';have hb:=ht.hb;have hb2:=hb.2;have ep:=hB.ep;have hp:=XJ hN hb ep;have hs:=hB.st.st;have hsp:=hp.space;have hw:wI (1-h0.s)=1-h0.s:=Xc aa aa;have hspn:=Xag hN hb ep;have⟨r,r1,r2,r3,r4⟩:=Xi5 (N:=N) (h0:=h0) (Yo h0 L,0) h0.w h0.p aa rfl N 0 h0.p aa aa rfl λ_ _=>rfl;rw[show((0:Nat):Int)=0 from rfl]at r1 r2;have r5:∀j,0<=j->((pg h0.p j).k=1/\(pg r j)=⟨1,1-h0.s,(pg h0.p j).u,(pg h0.p j).P⟩)\/pg r j=pg h0.p j:=λj hj=>by
  obtain⟨m,rfl⟩:∃m:Nat,j=m:=⟨j.toNat,aa⟩
  grind
 have hk:SameK h0.p r:=⟨r3,λj hj=>by grind⟩
 have ci:=Xds hb hp hs (w:=⟨⟨h0.c,h0.w,r,h0.s,h0.b⟩,Yo h0 L,[],[],0,⟨0,0,0,0,0,0⟩⟩) rfl rfl rfl hk List.filter_sublist rfl rfl;refine⟨⟨⟨h0.c,h0.w,r,h0.s,h0.b⟩,Yo h0 L,[],[],0,⟨0,0,0,0,0,0⟩⟩,?_,?_,ci,⟨λa ha=>(by grind),λa ha _ _=>(hs.obj.at_ a ha).ok,λa ha hf=>?_,ht.tw,?_,λi hi hk1=>by grind,λi hi=>?_,λ_ _ _=>rfl,rfl,rfl⟩,λ_=>rfl,rfl⟩
 .rw[QeJ,Yc hb2 aa,ep,Xa,Wh,Wa,XdR hN ht,hB.eg,Xa,Wh,Wa,JK hN ht,hB.ob,Xa];simp only[Qae,Qad,Xa];rw[show((0:Int) != 0)=false from rfl,Wa,Xb aa,r2,Xa]
 .rw[Qda,ep,Xa,Wh,Wa,hB.eg,Xa,Wh,Wa,hB.ob,Xa,Xb aa,r1,Xa]
 .have:=XcQ (Xct ht.tw a) (hs.obj.at_ a ha).ok;simp_all
 .refine XbC hspn r3 (λi i0 i1=>?_) λi m i0 ik m1 m2 m3=>?_
  .have hb:=hspn.hd i i0 i1;rcases r5 i i0 with⟨a,b⟩|b
   .have:=(hb aa).k1 a;have:=(hb aa).pn;rw[b];exact .inl ⟨aa,rfl,⟨by show 0<=1-h0.s;omega,by show 1-h0.s<=1;omega⟩,ag,by dsimp only;omega,by dsimp only;omega⟩
   simp_all
  have tl:=((hspn.hd i i0 aa aa).k2 ik).2.2 m m1 m2;grind
 have:=hk.2 i hi.1.1;rw[show(pg r i).k=1 from hi.2.1]at this;simp_all
end
section
variable {N:Nat}{h0:Wk}{l:List Int}
def Xsa(hN:NB N){h:Wk}(hb:HB h)(ep:Qab N h=some true){a:Int}(ha:Iz h a):Qal N h a=some (hdA h.w a,0):=by
 have hp:=XJ hN hb ep;have hr:=ha.rng;have⟨_,q0,q1,q2,q3⟩:=Yq hp.conf hr;have hpl:=hp.pages;have hw:=hp.words;have hk:=ha.kind;have hu:=ha.used;have hsz:=XL h.w a;have hv:=Xj.1 hp.conf;have e1:Xw (Zq (wd h.w a))=szA h.w a:=hsz.1;rw[Qal,ep,Xa,Wh,Wa,K5,hp.conf,Wi ab,Wm hr,Xa];rw[show(a-4096) / h.c.W=pgi h.c a from rfl,show(a-4096) % h.c.W=pgo h.c a from rfl];rw[Xr q0 aa,Xa,Ye (by have:=hb.1;unfold BIG;omega),Xa,Wm (by unfold inW;omega),ZR,Xa,Xs,XW,Xa];rw[show h.w.getD (ix a) 0=wd h.w a from rfl,ha.ok,e1,Wg (show¬pgo h.c a>=(pg h.p (pgi h.c a)).u by omega),Wh];rcases hk with hk|hk
 .have:=ha.small hk;rw[show((pg h.p (pgi h.c a)).k != 1)=false by grind,Wa,XC hk,Wb,Xc (n:=pgo h.c a+szA h.w a) aa aa,Wg aa,Wa,show((pg h.p (pgi h.c a)).k==2)=false by grind,Wa];rfl
 have:=ha.large hk;rw[show((pg h.p (pgi h.c a)).k != 1)=true by grind,Wb,show((pg h.p (pgi h.c a)).k != 2)=false by grind,Wa,Xk aa,Wa,XC hk,Wb,this.1,this.2];simp;rfl
def Iz.same{h h2:Wk}(hc:h2.c=h.c){a:Int}(ha:Iz h a)(hk:(pg h2.p (pgi h.c a)).k=(pg h.p (pgi h.c a)).k)(hu:(pg h2.p (pgi h.c a)).u=(pg h.p (pgi h.c a)).u)(hw:wd h2.w a=wd h.w a):Iz h2 a:=by
 have hs:szA h2.w a=szA h.w a:=by unfold szA hdA;rw[hw]
 refine⟨by rw[hc];exact ha.rng,?_,by rw[hw];exact ha.ok,?_,λh=>?_,λh=>?_⟩<;>rw[hc]at *
 .rw[hk];exact ha.kind
 .rw[hu];exact ha.used
 .rw[hk]at h;rw[hu,hs];exact ha.small h
 rw[hk]at h;rw[hu,hs];exact ha.large h
def Qoa{h h2:Wk}(hc:h2.c=h.c){i:Int}{p p2:Ws}(hu:p2.u=p.u)(hk:p2.k=p.k):∀(n:Nat) (o:Int) (v r:List Int),Qah N h i p n o v=some (.nxt r)->(∃t,r=v++t)/\((∀b∈r,Qal N h2 b=Qal N h b)->Qah N h2 i p2 n o v=some (.nxt r))
 |0,o,v,r,e=>by simp_all[Qah]
 |n+1,o,v,r,e=>by
  rw[Qah]at e;rw[Qah,hu,hk,hc];cases h1:decide (o<p.u)with
  |false=>simp_all
  |true=>
   rw[h1,Wb]at e;rw[Wb];cases h2':QbE N h.c i o with
   |none=>simp_all[h2',KH]
   |some y=>
    rw[h2',Xa]at e;rw[Xa];cases h3:Qal N h y.1 with
    |none=>simp_all[h3,KH]
    |some z=>
     rw[h3,Xa]at e;cases h4:z.2 != 0 with
     |true=>simp_all
     |false=>
      rw[h4,Wa]at e;by_cases h5:(v.length+1)*8<=140737488355328;rotate_left
      .unfold grd at e;simp_all
      rw[Xb h5]at e;have key:∀t,r=v++[y.1]++t->y.1∈r:=λt ht=>by simp_all
      cases h6:p.k==2 with
      |true=>rw[h6,Wb]at e;cases e;refine⟨⟨[y.1],rfl⟩,λhb=>?_⟩;rw[hb y.1 ab,h3,Xa,h4,Wa,Xb h5,Wb]
      |false=>rw[h6,Wa,XW,Xa]at e;have⟨⟨t,ht⟩,q⟩:=Qoa hc hu hk n _ _ r e;refine⟨⟨[y.1]++t,by rw[ht,Ud]⟩,λhb=>?_⟩;rw[hb y.1 (key t ht),h3,Xa,h4,Wa,Xb h5,Wa,XW,Xa];simp_all
def QmA{h:Wk}{i:Int}{p:Ws}{a:List Int×Int}:∀(n:Nat) (o:Int) (v:List Int),Qah N h i p n o v=some (.ret a)->a.2=19
 |0,o,v,e=>by simp_all[Qah]
 |n+1,o,v,e=>by
  rw[Qah]at e;cases h1:decide (o<p.u)with
  |false=>simp_all
  |true=>
   rw[h1,Wb]at e;cases h2':QbE N h.c i o with
   |none=>simp_all[h2',KH]
   |some y=>
    rw[h2',Xa]at e;cases h3:Qal N h y.1 with
    |none=>simp_all[h3,KH]
    |some z=>
     rw[h3,Xa]at e;cases h4:z.2 != 0 with
     |true=>grind
     |false=>
      rw[h4,Wa]at e;by_cases h5:(v.length+1)*8<=140737488355328;rotate_left
      .unfold grd at e;simp_all
      rw[Xb h5]at e;cases h6:p.k==2 with
      |true=>simp_all
      |false=>rw[h6,Wa,XW,Xa]at e;exact QmA n _ _ e
def Qoj{h h2:Wk}(hc:h2.c=h.c)(hl:h2.p.length=h.p.length)(ep:Qab N h=some true)(ep2:Qab N h2=some true){i:Int}(i0:0<=i)(i1:i<h.p.length)(hk:(pg h2.p i).k=(pg h.p i).k)(hu:(pg h2.p i).u=(pg h.p i).u){r:List Int}(e:Qag N h i=some (r,0))(hb:∀b∈r,Qal N h2 b=Qal N h b):Qag N h2 i=some (r,0):=by
 rw[Qag,ep,Xa,Wh,Wa,Wg aa,Wa,Wg aa,Wa,Xr i0 i1,Xa]at e;rw[Qag,ep2,Xa,Wh,Wa,Wg aa,Wa,Wg aa,Wa,Xr i0 aa,Xa,hk];cases h1:(pg h.p i).k==0 with
 |true=>simp_all
 |false=>
  cases h2':(pg h.p i).k==3 with
  |true=>simp_all
  |false=>
   rw[h1,Wa,h2',Wa]at e;rw[Wa,Wa];cases h3:Qah N h i (pg h.p i) N 0 []with
   |none=>simp_all[h3,KH]
   |some x=>
    rw[h3,Xa]at e;cases x with
    |ret a=>rw[XA]at e;cases e;exact absurd (QmA _ _ _ h3) ab
    |nxt v=>rw[Xo]at e;cases e;rw[(Qoa hc hu hk N 0 [] r h3).2 hb,Xa,Xo]
def Xsb{L:List Int}(hs:Iy N h0 L){a b:Int}(ha:a∈L)(hb:b∈L)(hab:a≠b):a+szA h0.w a<=b\/b+szA h0.w b<=a:=by have hpw:=hs.obj.pw;rw[Un]at hpw;have⟨i,hi,ei⟩:=WE ha;have⟨j,hj,ej⟩:=WE hb;grind
instance(w:Ww)(i:Int):Decidable (Prm w i):=by unfold Prm;infer_instance
def XbF(h0:Wk)(a:Int):Int:=(hdA h0.w a).n
def fwr(h0:Wk)(v:List Int)(a:Int):List Int:=ovr v ([ZH ⟨0,XbF h0 a,0⟩]++List.replicate (XbF h0 a).toNat (0:Int)) (ix a)
def KD(h0:Wk)(w:Ww)(x:List Int×Int)(a:Int):List Int×Int:=if Prm w (pgi h0.c a)/\a∉w.q then(fwr h0 x.1 a,wI (x.2+1))else x
structure VI(h0:Wk)(v:List Int):Prop where
 len:v.length=h0.w.length
 tu:∀x∈v,tU x
def vf{d:Int}(h:0<=d/\d<=255):XN ⟨0,d,0⟩=true:=by unfold XN;simp_all
def Xi6(h0:Wk)(a:Int):0<=XbF h0 a/\XbF h0 a<=255/\szA h0.w a=XbF h0 a+1:=by have:=XO (Kc (wd h0.w a));exact⟨this.2.2.1,this.2.2.2,rfl⟩
def Xi7(h0:Wk)(a x:Int):([x]++List.replicate (XbF h0 a).toNat (0:Int)).length=(XbF h0 a).toNat+1:=by simp
def Xqd(d:Wv):tU (ZH d):=by unfold ZH;simp
def Xsc{v:List Int}(hv:VI h0 v){a:Int}(h1:4096<=a)(h2:a+szA h0.w a<=4096+h0.w.length):VI h0 (fwr h0 v a)/\∀b,4096<=b->(b+1<=a\/a+szA h0.w a<=b)->wd (fwr h0 v a) b=wd v b:=by
 have hf:=Xi6 h0 a;have hl:=Xi7 h0 a (ZH ⟨0,XbF h0 a,0⟩);have hvl:=hv.len;have hi:ix a+([ZH ⟨0,XbF h0 a,0⟩]++List.replicate (XbF h0 a).toNat (0:Int)).length<=v.length:=by rw[hl];unfold ix;omega
 refine⟨⟨(ZF hi).trans hvl,λx hx=>?_⟩,λb hb hab=>?_⟩
 .rcases Wt.1 hx with hx|hx
  .rcases Wt.1 hx with hx|hx
   .exact hv.tu x (WP hx)
   rcases Wt.1 hx with hx|hx
   .rw[Ui.1 hx];exact Xqd _
   simp_all
  exact hv.tu x (WQ hx)
 unfold wd fwr;rw[V0 hi,hl,Wi (by unfold ix;omega)]
def XnX(hN:NB N){h:Wk}(hb:HB h)(ep:Qab N h=some true){d a:Int}(hd:0<=d/\d<=255)(h1:4096<=a)(h2:a+(d+1)<=4096+h.w.length):Qbf N h a ⟨0,d,0⟩=some (⟨h.c,ovr h.w ([ZH ⟨0,d,0⟩]++List.replicate d.toNat (0:Int)) (ix a),h.p,h.s,h.b⟩,0):=by have hb1:=hb.1;rw[Qbf,KO,Wm (vf hd),ep,Xa,Xa,Wh,Wa];dsimp only;rw[show((0:Int) != 0)=false from rfl,Wa,Xb aa,Xb aa,ZG (by unfold BIG;omega) (by unfold BIG;simp;omega) (by simp;unfold NB at hN;omega),Wm (by unfold YA;simp;omega),Xa];rfl
def Xa8{w:Ww}{L:List Int}(hp:Uy h0)(hs:Iy N h0 L){x:List Int×Int}(hv:VI h0 x.1){a:Int}(ha:a∈L):VI h0 (KD h0 w x a).1/\∀b∈L,b≠a->wd (KD h0 w x a).1 b=wd x.1 b:=by
 have hat:=hs.obj.at_ a ha;have hf:=Ks hp hat;unfold KD;split
 .have⟨q1,q2⟩:=Xsc hv hat.rng.1 hf;refine⟨q1,λb hb hba=>q2 b (hs.obj.at_ b hb).rng.1 ?_⟩;have:=(XL h0.w b).2.1;rcases Xsb hs hb ha hba with h|h<;>omega
 simp_all
def XaF{w:Ww}{L:List Int}(hp:Uy h0)(hs:Iy N h0 L)(q:Int->Bool):∀(m:List Int) (x:List Int×Int),(∀a∈m,a∈L)->VI h0 x.1->VI h0 (m.foldl (λx a=>if q a then KD h0 w x a else x) x).1/\∀b∈L,b∉m->wd (m.foldl (λx a=>if q a then KD h0 w x a else x) x).1 b=wd x.1 b
 |[],x,_,hv=>⟨hv,λ_ _ _=>rfl⟩
 |a::m,x,hm,hv=>by
  rw[Iu];have h1:=Xa8 (w:=w) hp hs hv (hm a ab);cases hq:q a with
  |false=>obtain⟨r1,r2⟩:=XaF hp hs q m x (λb hb=>hm b (by grind)) hv;exact⟨r1,λb hb hbm=>r2 b hb λh=>hbm (by grind)⟩
  |true=>obtain⟨r1,r2⟩:=XaF hp hs q m (KD h0 w x a) (λb hb=>hm b (by grind)) h1.1;exact⟨r1,λb hb hbm=>(r2 b hb λh=>hbm (by grind)).trans (h1.2 b hb λh=>hbm (by grind))⟩
end
section
variable {N:Nat}{h0:Wk}{L:List Int}
def Xgk(hN:NB N)(hb:HB h0)(hp:Uy h0)(hs:Iy N h0 L){w:Ww}(hc:CI h0 L w)(hh:Oz h0 L w)(hspn:OF h0.c w.h.p):∀(n k:Nat) (x:List Int×Int),k<=w.o.length->w.o.length-k<n->VI h0 x.1->(∀a∈w.o.drop k,Prm w (pgi h0.c a)->wd x.1 a=wd h0.w a) ->
 QaI N w n (k:Int) x.1 x.2=some ((w.o.drop k).foldl (KD h0 w) x)
 |0,k,x,_,hn,_,_=>by omega
 |n+1,k,x,hk,hn,hv,hw=>by
  have hN':=hN;unfold NB at hN';have hb1:=hb.1;have hql:=hc.ql hb;have htl:=hc.tl hb;have hol:=hc.old.length_le;have hsl:=hs.len;have hspc:=hc.spc;have hsp:=hp.space;rw[QaI];by_cases h:k<w.o.length;rotate_left
  .grind
  have hdr:=Wo h;have haL:w.o[k]∈L:=hc.old.subset (WG h);have hpw:=(hs.obj.pw.sublist hc.old).drop (i:=k);rw[hdr]at hw hpw⊢;rw[U0]at hpw;rw[Xn h,Wb,Xf,Wc h,Xa,Xg aa,Iu];generalize w.o[k]=a at haL hw hpw⊢;have hat:=hs.obj.at_ a haL;have hr:=hat.rng;have hfit:=Ks hp hat;have hof:Qch N w.h.c a=some (pgi h0.c a,pgo h0.c a,0):=by rw[K5,hc.conf,hp.conf,Wi ab,Wm hr];rfl
  have hlt:∀b∈w.o.drop (k+1),b∈L/\b≠a:=λb hb=>⟨hc.old.subset (WQ hb),λe=>by have:=hpw.1 b hb;have:=(XL h0.w a).2.1;omega⟩
  have hpl:=hc.plen;have hb2:=hb.2;have⟨b,hbp,eb,_⟩:=Xf9 (N:=N) (w:=⟨⟨w.h.c,x.1,w.h.p,w.h.s,w.h.b⟩,w.o,w.t,w.q,w.d,⟨w.r.j,w.r.K,x.2,w.r.E,w.r.f,w.r.y⟩⟩) (i:=pgi h0.c a) hN htl (by simp_all) (by simp_all) hspn.sp;have hbp:b=true↔Prm w (pgi h0.c a):=hbp;rw[hof,Xa];rw[eb,Xa];have nxt:¬(Prm w (pgi h0.c a)/\a∉w.q)->QaI N w n ((k+1:Nat):Int) x.1 x.2=some ((w.o.drop (k+1)).foldl (KD h0 w) (KD h0 w x a)):=λhq=>by rw[show KD h0 w x a=x from Wi hq];exact Xgk hN hb hp hs hc hh hspn n (k+1) x aa aa hv λb hb=>hw b (by grind)
  cases hbv:b with
  |false=>simp_all
  |true=>
   rw[Wh,Wa,Xa,Yx a aa aa,Xa];cases hqv:w.q.contains a with
   |true=>simp_all
   |false=>
    have hq:=YU hqv;have hpm:=hbp.1 hbv;have ewd:=hw a ab hpm;have hf:=Xi6 h0 a;have hvl:=hv.len;have eL:(Zq (wd x.1 a)).n=XbF h0 a:=by rw[ewd];rfl
    rw[Wa,Xa,Qdw,Ye (by show x.1.length<=_;unfold BIG;omega),Xa,Wm (by show inW x.1 a;unfold inW;omega),ZR,Xa,Xa];rw[show x.1.getD (ix a) 0=wd x.1 a from rfl,eL,KO,Wm (vf aa),Xa,Xa,Xb aa,Xb aa,ZG (by unfold BIG;omega) (by rw[Xi7];unfold BIG;omega) (by grind),Xi7,Wm (by unfold YA;omega),Xa];have⟨q1,q2⟩:=Xa8 (w:=w) hp hs hv haL;have ef:KD h0 w x a=(fwr h0 x.1 a,wI (x.2+1)):=Wm ⟨hpm,hq⟩;rw[ef]at q1 q2⊢;exact Xgk hN hb hp hs hc hh hspn n (k+1) _ aa aa q1 λb hb hbp=>(q2 b (hlt b hb).1 (hlt b hb).2).trans (hw b (by grind) hbp)
def hpv(w:Ww)(v:List Int):Wk:=⟨w.h.c,v,w.h.p,w.h.s,w.h.b⟩
def Xi8(hN:NB N)(hb:HB h0)(ep:Qab N h0=some true){w:Ww}(hc:CI h0 L w)(hh:Oz h0 L w){v:List Int}(hv:VI h0 v):Qab N (hpv w v)=some true/\HT (hpv w v):=by
 have hp:=XJ hN hb ep;have hpl:=hc.plen;refine⟨?_,⟨?_,hv.tu⟩⟩
 .have:=hh.ss.proper hN hb ep (ws:=v) hv.len (b:=w.h.b) (by
   rw[hh.bm]
   rcases hp.bump with h|⟨a,b,c⟩
   .exact .inl h
   .exact .inr ⟨a,aa,hh.k1 _ a c⟩)
  unfold hpv
  simp_all[hc.conf,hc.spc]
 have:=hb.1;have:=hb.2;have:=hv.len;exact⟨by show v.length<=_;omega,by show w.h.p.length<=_;omega⟩
def XnY(hN:NB N)(hb:HB h0)(ep:Qab N h0=some true)(hs:Iy N h0 L){w:Ww}(hc:CI h0 L w)(hh:Oz h0 L w){v:List Int}(hv:VI h0 v){a:Int}(ha:a∈L)(hpm:Prm w (pgi h0.c a))(hw:wd v a=wd h0.w a):Qd6 N (hpv w v) a=some (hdA h0.w a,0):=by have⟨e1,e2⟩:=Xi8 hN hb ep hc hh hv;have hat:=hs.obj.at_ a ha;have hpr:=hh.pr _ hpm;have hr:=hat.rng;have hp:=XJ hN hb ep;have h2:Iz (hpv w v) a:=hat.same (h2:=hpv w v) hc.conf (by rw[hpr.1];exact hpm.2.1) hpr.2 hw;have hwl:=hp.words;have hb1:=hb.1;rw[Xa0 hN e2 (by unfold tU;omega),Xsa hN e2.hb e1 h2];unfold hdA;rw[show(hpv w v).w=v from rfl,hw]
def Xef(hN:NB N)(hb:HB h0)(ep:Qab N h0=some true)(hs:Iy N h0 L){w:Ww}(hc:CI h0 L w)(hh:Oz h0 L w){i:Int}(hpm:Prm w i){m:List Int}(hm:m.Sublist L)(hmi:∀a∈m,pgi h0.c a=i):∀(n k:Nat) (x:List Int×Int),k<=m.length->m.length-k<n->VI h0 x.1->(∀a∈m.drop k,wd x.1 a=wd h0.w a) ->
 QcF N w (m,0) i n (k:Int) w.h.c.W w.h.c.p x.1 w.h.p w.h.s w.h.b x.2=some (w.h.c.W,w.h.c.p,((m.drop k).foldl (λx a=>if Y8 (fnd h0 a)then KD h0 w x a else x) x).1,w.h.p,w.h.s,w.h.b,((m.drop k).foldl (λx a=>if Y8 (fnd h0 a)then KD h0 w x a else x) x).2)
 |0,k,x,_,hn,_,_=>by omega
 |n+1,k,x,hk,hn,hv,hw=>by
  have hN':=hN;unfold NB at hN';have hb1:=hb.1;have hql:=hc.ql hb;have hol:=hm.length_le;have hsl:=hs.len;have hp:=XJ hN hb ep;rw[QcF];by_cases h:k<m.length;rotate_left
  .grind
  have hdr:=Wo h;have haL:m[k]∈L:=hm.subset (WG h);have hai:=hmi _ (WG h);have hpw:=(hs.obj.pw.sublist hm).drop (i:=k);rw[hdr]at hw hpw⊢;rw[U0]at hpw;rw[Xn h,Wb,Xf,Wc h,Xa,Xg aa,Iu];generalize m[k]=a at haL hw hpw hai⊢;have hat:=hs.obj.at_ a haL;have hr:=hat.rng;have hfit:=Ks hp hat;have hlt:∀b∈m.drop (k+1),b∈L/\b≠a:=λb hb=>⟨hm.subset (WQ hb),λe=>by have:=hpw.1 b hb;have:=(XL h0.w a).2.1;omega⟩
  have ewd:=hw a ab;have eat:=XnY hN hb ep hs hc hh hv haL (by simp_all) ewd;unfold hpv at eat;rw[show(⟨w.h.c.W,w.h.c.p⟩:WN)=w.h.c from rfl,eat,Xa];have nxt:=Xef hN hb ep hs hc hh hpm hm hmi n (k+1) x aa aa hv λb hb=>hw b (by grind);have must0:Qam N 0=some ():=by rw[Qam];rfl
  rw[must0,Xa];by_cases hk0:(hdA h0.w a).k=0
  .have hl:Y8 (fnd h0 a)=false:=by unfold Y8 fnd;rw[XC hk0];rfl
   simp_all
  have hl:Y8 (fnd h0 a)=true:=by unfold Y8 fnd;rw[Xk hk0];rfl
  rw[Xk hk0,Wa,hl,Wm rfl,Xaf _ _ aa aa,Xa];cases hqv:w.q.contains a with
  |true=>rw[Wb,show KD h0 w x a=x from Wi λh=>h.2 (Yh hqv)];omega
  |false=>have hq:=YU hqv;have hf:=Xi6 h0 a;have hvl:=hv.len;have hsz:=XL h0.w a;have⟨e1,e2⟩:=Xi8 hN hb ep hc hh hv;have ei:=XnX hN e2.hb e1 (d:=XbF h0 a) (a:=a) aa hr.1 (by show _<=4096+(x.1.length:Int);omega);rw[Wa,Y1 aa,Xa,hsz.1,QhA,Wg (show¬szA h0.w a<1 by omega),Wa,Wg (show¬szA h0.w a>256 by omega),Wa,Xc (n:=szA h0.w a-1) aa aa,show szA h0.w a-1=XbF h0 a by omega];have eg:=XdW hN e2.hb (a:=a) aa (d:=⟨0,XbF h0 a,0⟩) ab;rw[ei]at eg;unfold hpv at eg;rw[eg,Xa,Xa];rw[must0,Xa];have⟨q1,q2⟩:=Xa8 (w:=w) hp hs hv haL;have ef:KD h0 w x a=(fwr h0 x.1 a,wI (x.2+1)):=Wm ⟨by simp_all,hq⟩;rw[ef]at q1 q2⊢;exact Xef hN hb ep hs hc hh hpm hm hmi n (k+1) _ aa aa q1 λb hb=>(q2 b (hlt b hb).1 (hlt b hb).2).trans (hw b (by grind))
def fF(h0:Wk)(w:Ww)(x:List Int×Int)(a:Int):List Int×Int:=if Y8 (fnd h0 a)then KD h0 w x a else x
def Xkk{h:Wk}{a:Int}:∀(m k:Nat),a∈lps N h k m->∃i,k<=i/\i<k+m/\a∈lpg N h i
 |0,k,ha=>by cases ha
 |m+1,k,ha=>by
  rcases Wt.1 ha with ha|ha
  .grind
  have⟨i,h1,h2,h3⟩:=Xkk m (k+1) ha;grind
def Xkl{h:Wk}:∀(m k j:Nat),j<=m->(lps N h (k+j) (m-j)).Sublist (lps N h k m)
 |m,k,0,_=>List.Sublist.refl _
 |0,k,j+1,h=>by omega
 |m+1,k,j+1,hj=>by have:(lps N h (k+1+j) (m-j)).Sublist (lps N h (k+1) m):=Xkl m (k+1) j aa;rw[show k+1+j=k+(j+1) by omega,show m-j=m+1-(j+1) by omega]at this;simp_all[lps]
def Xkm{w:Ww}:∀(m:List Int) (x:List Int×Int),(∀a∈m,¬Prm w (pgi h0.c a))->m.foldl (fF h0 w) x=x
 |[],x,_=>rfl
 |a::m,x,h=>by rw[Iu,show fF h0 w x a=x by unfold fF KD;simp_all];exact Xkm m x λb hb=>h b (by grind)
def Xeg(hN:NB N)(hb:HB h0)(hB:O2 N h0 L){w:Ww}(hc:CI h0 L w)(hh:Oz h0 L w):∀(n k:Nat) (x:List Int×Int),k<=h0.p.length->h0.p.length-k<n->VI h0 x.1->(∀a∈lps N h0 k (h0.p.length-k),Prm w (pgi h0.c a)->wd x.1 a=wd h0.w a) ->
 Qdo N w n (k:Int) w.h.c.W w.h.c.p x.1 w.h.p w.h.s w.h.b x.2=some (w.h.c.W,w.h.c.p,((lps N h0 k (h0.p.length-k)).foldl (fF h0 w) x).1,w.h.p,w.h.s,w.h.b,((lps N h0 k (h0.p.length-k)).foldl (fF h0 w) x).2)
 |0,k,x,_,hn,_,_=>by omega
 |n+1,k,x,hk,hn,hv,hw=>by
  have hN':=hN;unfold NB at hN';have hpl:=hc.plen;have hb2:=hb.2;have htl:=hc.tl hb;have ep:=hB.ep;have hp:=XJ hN hb ep;have hs:=hB.st.st;have hsp:=hp.space;have hspc:=hc.spc;have hspn:=hh.spn hN hb ep;rw[Qdo,hpl];by_cases h:k<h0.p.length;rotate_left
  .obtain rfl:k=h0.p.length:=aa;simp[XI,Wa,U8,lps]
  rw[Xn h,Wb,Xg aa];have⟨b,hbp,_,eb⟩:=Xf9 (N:=N) (w:=⟨⟨w.h.c,x.1,w.h.p,w.h.s,w.h.b⟩,w.o,w.t,w.q,w.d,⟨w.r.j,w.r.K,x.2,w.r.E,w.r.f,w.r.y⟩⟩) (i:=(k:Int)) hN htl (by simp_all) (by simp_all) hspn.sp;have hbp:b=true↔Prm w (k:Int):=hbp;have ep2:Qeq N ⟨⟨w.h.c,x.1,w.h.p,w.h.s,w.h.b⟩,w.o,w.t,w.q,w.d,⟨w.r.j,w.r.K,x.2,w.r.E,w.r.f,w.r.y⟩⟩ (k:Int)=some b:=by rw[←eb,Qeq,Qc8];simp only[Xs,Xb (p:=w.h.p.length<=140737488355328) aa]
  rw[show(⟨w.h.c.W,w.h.c.p⟩:WN)=w.h.c from rfl,ep2,Xa];have esub:h0.p.length-k=(h0.p.length-(k+1))+1:=aa;have⟨g1,g2⟩:=hB.pg k h;have hmi:∀a∈lpg N h0 k,pgi h0.c a=(k:Int):=λa ha=>(g2.2.1 a ha).2;have hLk:(lps N h0 k (h0.p.length-k)).Sublist L:=by have:=Xkl (N:=N) (h:=h0) h0.p.length 0 k hk;rw[UN]at this;rw[hB.eL];exact this
  rw[esub,lps]at hw hLk⊢;rw[List.foldl_append];have hm:(lpg N h0 k).Sublist L:=(List.sublist_append_left _ _).trans hLk;cases hbv:b with
  |false=>rw[W6,Wb,Xkm (lpg N h0 k) x λa ha=>by simp_all];exact Xeg hN hb hB hc hh n (k+1) x aa aa hv λa ha=>hw a (Ug _ ha)
  |true=>
   have hpm:=hbp.1 hbv;have⟨e1,e2⟩:=Xi8 hN hb ep hc hh hv;have hpr:=hh.pr _ hpm;have hwk:∀a∈lpg N h0 k,wd x.1 a=wd h0.w a:=λa ha=>hw a (WT _ ha) (by simp_all);have epg:Qfc N (hpv w x.1) (k:Int)=some (lpg N h0 k,0):=by rw[XdQ hN e2];refine Qoj (h:=h0) (h2:=hpv w x.1) hc.conf hpl ep e1 aa aa (by rw[hpr.1];exact hpm.2.1) hpr.2 g1 λa ha=>?_;have haL:=hm.subset ha;have:=XnY hN hb ep hs hc hh hv haL (by simp_all) (hwk a ha);have hr:=(hs.obj.at_ a haL).rng;have hv2:=Xj.1 hp.conf;have hwl:=hp.words;have hb1:=hb.1;rw[Xa0 hN e2 (by unfold tU;omega)]at this;rw[this,hs.obj.ev a haL]
   unfold hpv at epg;have must0:Qam N 0=some ():=by rw[Qam];rfl
   have gl:=Xef hN hb ep hs hc hh hpm hm hmi N 0 x aa (by have:=hm.length_le;have:=hs.len;omega) hv λa ha=>hwk a ha;rw[show((0:Nat):Int)=0 from rfl,W4]at gl;rw[Wh,Wa,epg,Xa];rw[must0,Xa,gl,Xa];have⟨q1,q2⟩:=XaF (w:=w) hp hs (λa=>Y8 (fnd h0 a)) (lpg N h0 k) x (λa ha=>hm.subset ha) hv;refine Xeg hN hb hB hc hh n (k+1) _ aa aa q1 λa ha hpa=>?_;have haL:=hLk.subset (Ug _ ha);rw[q2 a haL λhc=>?_]
   .simp_all
   have⟨i,i1,i2,i3⟩:=Xkk _ _ ha;have:=(g2.2.1 a hc).2;have:=((hB.pg i aa).2.2.1 a i3).2;omega
def Xqe(hN:NB N)(hb:HB h0)(hB:O2 N h0 L){w:Ww}(hc:CI h0 L w)(hh:Oz h0 L w):∃v c,VI h0 v/\QeQ N w=some ⟨⟨w.h.c,v,w.h.p,w.h.s,w.h.b⟩,w.o,w.t,w.q,w.d,⟨w.r.j,w.r.K,c,w.r.E,w.r.f,w.r.y⟩⟩ /\
 Qev N w=some ⟨⟨w.h.c,v,w.h.p,w.h.s,w.h.b⟩,w.o,w.t,w.q,w.d,⟨w.r.j,w.r.K,c,w.r.E,w.r.f,w.r.y⟩⟩:=by
 have hN':=hN;unfold NB at hN';have ep:=hB.ep;have hp:=XJ hN hb ep;have hs:=hB.st.st;have hb2:=hb.2;have hspn:=hh.spn hN hb ep;have hv:VI h0 w.h.w:=⟨hc.wlen,hh.ws⟩
 have hol:=hc.old.length_le;have hsl:=hs.len;have g:=Xeg hN hb hB hc hh N 0 (w.h.w,w.r.F) aa aa hv λa ha hpa=>hh.hw a (by rw[hB.eL];exact ha) hpa;have r:=Xgk hN hb hp hs hc hh hspn N 0 (w.h.w,w.r.F) aa aa hv λa ha hpa=>hh.hw a (hc.old.subset ha) hpa;have e:(w.o.drop 0).foldl (KD h0 w) (w.h.w,w.r.F)=(lps N h0 0 (h0.p.length-0)).foldl (fF h0 w) (w.h.w,w.r.F):=by rw[W4,Nat.sub_zero,←hB.eL,hh.ol,Yo,List.foldl_filter];rfl
 rw[e]at r;rw[show((0:Nat):Int)=0 from rfl]at g r;have k:=XaF (w:=w) hp hs (λa=>Y8 (fnd h0 a)) (lps N h0 0 (h0.p.length-0)) (w.h.w,w.r.F) (λa ha=>by rw[hB.eL];exact ha) hv;refine⟨((lps N h0 0 (h0.p.length-0)).foldl (fF h0 w) (w.h.w,w.r.F)).1,((lps N h0 0 (h0.p.length-0)).foldl (fF h0 w) (w.h.w,w.r.F)).2,k.1,?_,?_⟩
 .rw[QeQ,g,Xa]
 simp[Qev,r,Xa]
end
section
variable {N:Nat}{h0:Wk}{L:List Int}
def Xqf(hN:NB N)(hb:HB h0)(hp:Uy h0)(hs:Iy N h0 L){w:Ww}(hc:CI h0 L w)(hws:∀x∈w.h.w,tU x){a:Int}(ha:a∈L):∃m,Qf4 N w a=some m/\QcM N w a=some m:=by
 have hN':=hN;unfold NB at hN';have hql:=hc.ql hb;have hat:=hs.obj.at_ a ha;have⟨o1,o2⟩:=Xj2 (N:=N) hp.conf hat.rng;have hw:=hp.words;have hwl:=hc.wlen;have hr:=hat.rng;have must0:Qam N 0=some ():=by rw[Qam];rfl
 rw[Qf4,QcM,Xaf _ _ aa aa,Yx a aa aa,Xa,Xa];cases w.q.contains a with
 |true=>simp
 |false=>
  rw[Wa,Wa,hc.conf,o1,Xa];have e:Xe w.h.w (a-4096)=some (wd w.h.w a):=by rw[Yd aa aa];unfold wd ix;rw[Wj,Wc aa];rfl
  rw[must0,Xa,o2,e,Xa,Xd0 aa (Xct hws a),Ye (hc.wl hb),Xa,Wm (by unfold inW;omega),show w.h.w.getD (ix a) 0=wd w.h.w a from rfl,KJ,Xa];simp
def XhZ(hN:NB N)(hb:HB h0)(hp:L≠[]->Uy h0)(hs:Iy N h0 L){w:Ww}(hc:CI h0 L w)(hws:∀x∈w.h.w,tU x){ws:List Int}(hl:ws.length<=1000000)(hm:∀x∈ws,x=0\/x∈L)(y5:Ww×List Int×Int):∀(n k:Nat) (c:Int) (out:List Int),k<=ws.length->ws.length-k<n->out.length=k ->
 ∃o c',o.length=ws.length/\QcG N w ws n (k:Int) c out=some (o,c')/\QaQ N ws y5 (w,0) n (k:Int) c out=some (c',o)
 |0,k,c,out,_,hn,_=>by omega
 |n+1,k,c,out,hk,hn,ho=>by
  rw[QcG,QaQ];by_cases h:k<ws.length;rotate_left
  .grind
  rw[Xn h,Wb,Wb,Xf,Wc h,Xa,Xa,Xg aa,Xs,Xs];have nx:=λc' x=>XhZ hN hb hp hs hc hws hl hm y5 n (k+1) c' (out++[x]) aa aa (by simp_all);have hmk:=hm _ (WG h);generalize ws[k]=a at hmk⊢;by_cases h0a:a=0
  .dsimp only;rw[Xb aa,Xb aa];simp_all
  rw[Xl h0a,Wb,Wb,Xa];have haL:a∈L:=by rcases hmk with h|h;exact absurd h h0a;exact h
  have⟨m,e1,e2⟩:=Xqf hN hb (hp (IY haL)) hs (w:=⟨w.h,w.o,w.t,w.q,w.d,⟨w.r.j,w.r.K,w.r.F,w.r.E,c,w.r.y⟩⟩) (by
   have⟨O,s,ho⟩:=hc.obj
   exact⟨hc.conf,hc.wlen,hc.plen,hc.spc,hc.old,hc.tk,hc.tnd,hc.knd,hc.qnd,⟨O,s,⟨ho.old,ho.queue,ho.fit,ho.apart,ho.taken,ho.free⟩⟩⟩) hws haL
  rw[e1,e2,Xa,Xa,Xs,Xs];cases m==0 with
  |true=>rw[Wb,Wb];dsimp only;rw[Xb aa,Xb aa];simp_all
  |false=>rw[Wa,Wa];dsimp only;rw[Xb aa,Xb aa];simp_all
def Xff(p1:Ws)(hp1:p1.k=2):∀(n k:Nat) (qs:List Ws),k<=qs.length->qs.length-k<n->qs.length<=100000->∃r,QeR N p1 n (k:Int) qs=some r/\r.length=qs.length/\∀j:Nat,((k<=j/\j<qs.length/\∀x:Nat,k<=x->x<=j->(pg qs x).k=3)/\pg r j=Zm)\/(¬(k<=j/\j<qs.length/\∀x:Nat,k<=x->x<=j->(pg qs x).k=3)/\pg r j=pg qs j)
 |0,k,qs,_,hn,_=>by omega
 |n+1,k,qs,hk,hn,hl=>by
  rw[QeR,XC hp1,Wb,Xb aa];by_cases h:k<qs.length;rotate_left
  .grind
  rw[Xn h,Wb,Xr (ps:=qs) (i:=(k:Int)) aa aa,Xa];by_cases h3:(pg qs k).k=3;rotate_left
  .grind
  rw[XC h3,Wb,Xa,Xg aa];have e2:=λx:Nat=>Y6 (ps:=qs) (i:=(k:Int)) (j:=(x:Int)) ⟨0,0,0,0⟩ aa aa aa;have eq:∀x:Nat,k+1<=x->pg (qs.set (k:Int).toNat ⟨0,0,0,0⟩) x=pg qs x:=λx hx=>by grind
  have⟨r,r1,r2,r3⟩:=Xff p1 hp1 n (k+1) (qs.set (k:Int).toNat ⟨0,0,0,0⟩) (by grind) (by grind) (by simp_all);rw[WL]at r2 r3;refine⟨r,r1,r2,λj=>?_⟩;by_cases hjk:j=k
  .subst hjk;refine .inl ⟨⟨Uo _,h,λx a b=>by grind⟩,?_⟩;rcases r3 j with g|g
   .omega
   rw[g.2,e2 j,Wm rfl];rfl
  rcases r3 j with⟨⟨a1,a2,a3⟩,b⟩|⟨a,b⟩
  .refine .inl ⟨⟨aa,a2,λx hx hxj=>?_⟩,b⟩;by_cases hxk:x=k
   .rw[hxk];exact h3
   rw[←eq x aa];exact a3 x aa hxj
  grind
def Xkn{w:Ww}(v4:List Ws)(p5:Ws)(i c:Int)(hp:Uy h0)(hc:w.h.c=h0.c)(g0:0<=i)(g1:i<h0.c.p):∀(n k:Nat) (v:List Int),(k:Int)<=h0.c.W->65-k<n->v.length=h0.w.length ->
 ∃r,Qbn N w v4 p5 i c n (k:Int) v=some r/\r.length=v.length/\∀j,r.getD j 0=if(i*h0.c.W).toNat+k<=j/\j<((i+1)*h0.c.W).toNat then 0 else v.getD j 0
 |0,k,v,_,hn,_=>by omega
 |n+1,k,v,k0,hn,hv=>by
  have hvc:=Xj.1 hp.conf;have hm:=XP hp.conf g0 g1;have hw:=hp.words;have e1:(i+1)*h0.c.W=i*h0.c.W+h0.c.W:=by rw[IB,Oe]
  rw[Qbn,hc];by_cases h1:(k:Int)<h0.c.W;rotate_left
  .rw[Wg h1,Wa];exact⟨v,rfl,rfl,λj=>by rw[Wi aa]⟩
  rw[Wd h1,Wb,Xg aa,Xc (n:=i*h0.c.W) aa aa,Xc (n:=i*h0.c.W+k) aa aa,Yd aa aa,Xa];have⟨r,r1,r2,r3⟩:=Xkn v4 p5 i c hp hc g0 g1 n (k+1) (v.set (i*h0.c.W+k).toNat 0) aa aa (by rw[WL];exact hv);grind
def frZ(ps:List Ws)(sp:Int)(j:Nat):Prop:=(pg ps j).k≠0/\(pg ps j).s=sp
def frC(ps:List Ws)(sp:Int)(k j:Nat):Prop:=∃i:Nat,i<k/\i<j/\j<ps.length/\(pg ps i).k=2/\(pg ps i).s=sp/\∀x:Nat,i<x->x<=j->(pg ps x).k=3
def Xsd{c:WN}{ps:List Ws}(hs:OF c ps){sp:Int}{k j:Nat}(h:frC ps sp k j):frZ ps sp j:=by
 have⟨i,h1,h2,h3,h4,h5,h6⟩:=h;have h3j:=h6 j h2 (Uo j);have⟨k',t0,t1,t2,t3,t4⟩:=hs.tl j aa aa h3j;obtain⟨m,rfl⟩:∃m:Nat,k'=m:=⟨k'.toNat,aa⟩
 have tl:=(t2.k2 t3).2.2;have e:m=i:=by
  rcases Nat.lt_trichotomy m i with h|h|h
  .have:=(tl ((i:Int)-m) aa aa).1;grind
  .omega
  grind
 subst e;have:=(tl ((j:Int)-m) aa aa).2.1;rw[show(m:Int)+((j:Int)-m)=j by omega]at this;exact⟨aa,this.trans h5⟩
def XnZ{a b:List Int}(hl:a.length=b.length)(h:∀j,a.getD j 0=b.getD j 0):a=b:=by refine List.ext_getElem hl λi h1 h2=>?_;have:=h i;simp_all
def Xgl(hN:NB N)(hb:HB h0)(hp:Uy h0){w:Ww}(hc:w.h.c=h0.c)(hpl:w.h.p.length=h0.p.length)(hs:OF h0.c w.h.p):∀(n k:Nat) (c:Int) (v:List Int) (q g:List Ws),k<=h0.p.length->h0.p.length-k<n->v.length=h0.w.length->q.length=h0.p.length->g.length=h0.p.length ->
 (∀j:Nat,(j<k/\frZ w.h.p w.h.s j->pg q j=Zm)/\(¬(j<k/\frZ w.h.p w.h.s j)->pg q j=pg w.h.p j)) ->
 (∀j:Nat,((j<k/\frZ w.h.p w.h.s j)\/frC w.h.p w.h.s k j->pg g j=Zm)/\(¬((j<k/\frZ w.h.p w.h.s j)\/frC w.h.p w.h.s k j)->pg g j=pg w.h.p j)) ->
 ∃c' v' r,v'.length=h0.w.length/\r.length=h0.p.length/\QaR N w n (k:Int) c v q=some (c',v',r)/\QbR N w n (k:Int) g c v=some (v',r,c')
 |0,k,c,v,q,g,_,hn,_,_,_,_,_=>by omega
 |n+1,k,c,v,q,g,hk,hn,hv,hq,hg,hqj,hgj=>by
  have hN':=hN;unfold NB at hN';have hb2:=hb.2;have hpp:=hp.pages;have hw:=hp.words;have must0:Qam N 0=some ():=by rw[Qam];rfl
  rw[QaR,QbR,Xb aa,hq,hpl];by_cases h:k<h0.p.length;rotate_left
  .obtain rfl:k=h0.p.length:=aa;rw[XI,Wa,Wa];have e:g=q:=by
    refine XrT aa λj hj=>?_;obtain⟨m,rfl⟩:∃m:Nat,j=m:=⟨j.toNat,aa⟩
    by_cases hm:m<h0.p.length/\frZ w.h.p w.h.s m
    .simp_all
    rw[(hqj m).2 hm];refine(hgj m).2 λh=>?_;rcases h with h|h
    .simp_all
    have hf:=Xsd hs h;have⟨_,_,_,h3,_⟩:=h;grind
   subst e;exact⟨c,v,g,hv,hg,rfl,rfl⟩
  have hqk:pg q k=pg w.h.p k:=(hqj k).2 λh=>by omega
  rw[Xn h,Wb,Wb,Xr (ps:=q) (i:=(k:Int)) aa aa,Xr (ps:=w.h.p) (i:=(k:Int)) aa aa,Xa,Xa,Xa,hqk,Xg aa];have skip:¬frZ w.h.p w.h.s k->∃c' v' r,v'.length=h0.w.length/\r.length=h0.p.length/\QaR N w n ((k+1:Nat):Int) c v q=some (c',v',r)/\QbR N w n ((k+1:Nat):Int) g c v=some (v',r,c'):=λhf=>by
   have lt:∀j:Nat,j<k+1/\frZ w.h.p w.h.s j↔j<k/\frZ w.h.p w.h.s j:=λj=>⟨λh=>⟨by rcases UG j k with a|a;exact a;exact absurd (show j=k by omega▸h.2) (λ_=>hf (by rw[show k=j by omega];exact h.2)),h.2⟩,λh=>⟨aa,h.2⟩⟩
   have fr:∀j:Nat,frC w.h.p w.h.s (k+1) j↔frC w.h.p w.h.s k j:=λj=>⟨λ⟨i,a,b,d,e,f,g⟩=>⟨i,by
    rcases UG i k with x|x
    .exact x
    .exfalso;rw[show i=k by omega]at e f;exact hf ⟨aa,f⟩,b,d,e,f,g⟩,λ⟨i,a,b,d,e,f,g⟩=>⟨i,aa,b,d,e,f,g⟩⟩
   refine Xgl hN hb hp hc hpl hs n (k+1) c v q g aa aa hv hq hg (λj=>?_) λj=>?_
   .rw[lt j];exact hqj j
   grind
  by_cases h1:(pg w.h.p k).k=0
  .rw[XC h1,Wb,Wb];exact skip λh=>h.1 h1
  rw[Xk h1,Wa,Wa];by_cases h2:(pg w.h.p k).s=w.h.s;rotate_left
  .rw[Xl h2,Wb,Wb];exact skip λh=>h2 h.2
  have hfz:frZ w.h.p w.h.s k:=⟨h1,h2⟩
  rw[show((pg w.h.p k).s != w.h.s)=false by simp_all,Wa,Wa];have hm:=XP hp.conf (i:=(k:Int)) aa aa;have hvc:=Xj.1 hp.conf;have e1:((k:Int)+1)*h0.c.W=k*h0.c.W+h0.c.W:=by rw[IB,Oe]
  have e2:(((k+1:Nat):Int))*h0.c.W=(k:Int)*h0.c.W+h0.c.W:=by rw[←e1];congr 1
  obtain⟨u,u1,u2,u3⟩:=Xkn (N:=N) (w:=w) q (pg w.h.p k) (k:Int) c hp hc aa aa N 0 v aa aa hv;rw[show((0:Nat):Int)=0 from rfl]at u1;rw[hc,e2,Xc (n:=(k:Int)*h0.c.W) aa aa,Xc (n:=(k:Int)*h0.c.W+h0.c.W) aa aa,Xb aa,u1,Xa];have eu:((v.take ((k:Int)*h0.c.W).toNat)++(List.replicate (((k:Int)*h0.c.W+h0.c.W).toNat-((k:Int)*h0.c.W).toNat) (0:Int)))++(v.drop (((k:Int)*h0.c.W).toNat+(((k:Int)*h0.c.W+h0.c.W).toNat-((k:Int)*h0.c.W).toNat)))=u:=by
   refine XnZ ?_ λj=>?_
   .grind
   rw[XjZ aa aa,u3 j,e1,IV]
  rw[eu];have hul:u.length=h0.w.length:=u2.trans hv;have p2:=λx:Nat=>Y6 (ps:=q) (i:=(k:Int)) (j:=(x:Int)) ⟨0,0,0,0⟩ aa aa aa;have hq':∀j:Nat,(j<k+1/\frZ w.h.p w.h.s j->pg (q.set (k:Int).toNat ⟨0,0,0,0⟩) j=Zm)/\(¬(j<k+1/\frZ w.h.p w.h.s j)->pg (q.set (k:Int).toNat ⟨0,0,0,0⟩) j=pg w.h.p j):=λj=>by
   rw[p2 j];by_cases hjk:j=k
   .subst hjk;rw[Wm rfl];exact⟨λ_=>rfl,λh=>absurd ⟨aa,hfz⟩ h⟩
   grind
  have fin:=λg' hg' hgj'=>Xgl hN hb hp hc hpl hs n (k+1) (wI (c+1)) u (q.set (k:Int).toNat ⟨0,0,0,0⟩) g' aa aa hul (by simp_all) hg' hq' hgj';have frm:∀j,frC w.h.p w.h.s k j->frC w.h.p w.h.s (k+1) j:=λj ⟨i,a,b,d,e,f,g⟩=>⟨i,aa,b,d,e,f,g⟩
  have frk:∀j,frC w.h.p w.h.s (k+1) j->(pg w.h.p k).k≠2->frC w.h.p w.h.s k j:=λj ⟨i,a,b,d,e,f,g⟩ h2=>⟨i,by
   grind,b,d,e,f,g⟩
  by_cases h3:(pg w.h.p k).k=3
  .rw[show((pg w.h.p k).k != 3)=false by rw[h3];rfl,Wa];refine fin g hg λj=>?_;refine⟨λh=>?_,λh=>(hgj j).2 λa=>h (by rcases a with a|a;exact .inl ⟨aa,a.2⟩;exact .inr (frm j a))⟩;rcases h with⟨a,b⟩|a
   .by_cases hjk:j=k
    .subst hjk;have⟨k',t0,t1,t2,t3,t4⟩:=hs.tl j aa aa h3;obtain⟨m,rfl⟩:∃m:Nat,k'=m:=⟨k'.toNat,aa⟩
     have tl:=(t2.k2 t3).2.2;have tx:∀x:Nat,m<x->x<=j->(pg w.h.p x).k=3/\(pg w.h.p x).s=(pg w.h.p m).s:=λx a b=>by have:=tl ((x:Int)-m) aa aa;rw[show(m:Int)+((x:Int)-m)=x by omega]at this;exact⟨this.1,this.2.1⟩
     exact(hgj j).1 (.inr ⟨m,aa,aa,aa,t3,by rw[←(tx j aa (Uo _)).2];exact h2,λx a b=>(tx x a b).1⟩)
    exact(hgj j).1 (.inl ⟨aa,b⟩)
   simp_all
  rw[Xl h3,Wb];have hgk:pg g k=pg w.h.p k:=(hgj k).2 λh=>by
   rcases h with h|⟨i,a,b,d,e,f,x⟩
   .omega
   simp_all
  have g2:=λx:Nat=>Y6 (ps:=g) (i:=(k:Int)) (j:=(x:Int)) ⟨0,0,0,0⟩ aa aa aa;have hkd:=(hs.hd k aa aa h3).kd;rw[QhB,Wg (show¬(k:Int)<0 by omega),Wa,Wg (show¬(k:Int)>=(g.length:Int) by omega),Wa,Xr (ps:=g) (i:=(k:Int)) aa aa,Xa,Xs,hgk];have ej:∀x y:Option (List Ws×Int),(bif (pg w.h.p k).k != 1 then(bif (pg w.h.p k).k != 2 then x else y)else y)=y:=λx y=>by grind
  rw[ej];simp only[Qad,Xa];rw[Xr (ps:=g) (i:=(k:Int)) aa aa,Xa,Xg aa];rcases hkd with e|e|e
  .omega
  .obtain⟨n',rfl⟩:∃m,N=m+1:=⟨N-1,aa⟩
   rw[QeR,Xk aa,Wa,Xa,Xa];rw[must0,Xa];refine fin _ (by rw[WL];exact hg) λj=>?_;rw[g2 j];grind
  have⟨r,r1,r2,r3⟩:=Xff (N:=N) (pg w.h.p k) e N (k+1) (g.set (k:Int).toNat ⟨0,0,0,0⟩) (by grind) (by grind) (by simp_all);rw[WL]at r2 r3;rw[r1,Xa,Xa];rw[must0,Xa];have gx:∀x j:Nat,k<x->x<=j->j<h0.p.length->(∀y:Nat,k<y->y<=j->(pg w.h.p y).k=3)->pg g x=pg w.h.p x:=λx j a b d f=>(hgj x).2 λh=>by
   rcases h with h|⟨i,i1,i2,i3,i4,i5,i6⟩
   .omega
   grind
  have gy:∀x:Nat,(pg g x).k=3->pg g x=pg w.h.p x:=λx hx=>(hgj x).2 λh=>by grind
  refine fin r aa λj=>?_;have run:(k+1<=j/\j<g.length/\∀x:Nat,k+1<=x->x<=j->(pg (g.set (k:Int).toNat ⟨0,0,0,0⟩) x).k=3)↔(k<j/\j<h0.p.length/\∀x:Nat,k<x->x<=j->(pg w.h.p x).k=3):=by
   rw[hg];refine⟨λ⟨a,b,d⟩=>⟨a,b,λx hx hxj=>?_⟩,λ⟨a,b,d⟩=>⟨a,b,λx hx hxj=>?_⟩⟩
   .have:=d x hx hxj;rw[g2 x,Wi aa]at this;grind
   rw[g2 x,Wi aa,gx x j hx hxj b d];grind
  have ht:=r3 j;rw[run,g2 j]at ht;rcases ht with⟨a,b⟩|⟨a,b⟩
  .have:frC w.h.p w.h.s (k+1) j:=⟨k,aa,a.1,aa,e,h2,a.2.2⟩
   grind
  rw[b];by_cases hjk:j=k
  .grind
  rw[Wi aa];refine⟨λh=>(hgj j).1 ?_,λh=>(hgj j).2 λq=>h ?_⟩
  .rcases h with h|⟨i,i1,i2,i3,i4,i5,i6⟩
   .exact .inl ⟨aa,h.2⟩
   refine .inr ⟨i,?_,i2,i3,i4,i5,i6⟩;rcases UG i k with x|x
   .exact x
   exfalso;obtain rfl:i=k:=aa;exact a ⟨i2,aa,i6⟩
  grind
def Xqg(hN:NB N)(hb:HB h0)(hp:Uy h0){w:Ww}(hc:w.h.c=h0.c)(hpl:w.h.p.length=h0.p.length)(hw:w.h.w.length=h0.w.length)(hs:OF h0.c w.h.p):∃c v r,v.length=h0.w.length/\r.length=h0.p.length/\Qeu N w=some ⟨⟨w.h.c,v,r,w.h.s,w.h.b⟩,w.o,w.t,w.q,w.d,⟨w.r.j,w.r.K,w.r.F,c,w.r.f,w.r.y⟩⟩/\QeS N w=some ⟨⟨w.h.c,v,r,w.h.s,w.h.b⟩,w.o,w.t,w.q,w.d,⟨w.r.j,w.r.K,w.r.F,c,w.r.f,w.r.y⟩⟩:=by
 have hN':=hN;unfold NB at hN';have hb1:=hb.1;have hb2:=hb.2;obtain⟨c,v,r,a1,a2,a3,a4⟩:=Xgl hN hb hp hc hpl hs N 0 w.r.E w.h.w w.h.p w.h.p aa aa hw hpl hpl (λj=>⟨λh=>aa,λ_=>rfl⟩) (λj=>⟨λh=>by rcases h with h|⟨i,h,_⟩<;>omega,λ_=>rfl⟩);rw[show((0:Nat):Int)=0 from rfl]at a3 a4;refine⟨c,v,r,a1,a2,?_,?_⟩
 .rw[Qeu,Xb aa,Xb aa,a3,Xa]
 simp[QeS,Qae,Xa,a4]
end
section
variable {N:Nat}{h0:Wk}{L:List Int}
def CI.rep{w:Ww}(hc:CI h0 L w)(rp:WR):CI h0 L {w with r:=rp}:=by have⟨O,s,ho⟩:=hc.obj;exact⟨hc.conf,hc.wlen,hc.plen,hc.spc,hc.old,hc.tk,hc.tnd,hc.knd,hc.qnd,⟨O,s,⟨ho.old,ho.queue,ho.fit,ho.apart,ho.taken,ho.free⟩⟩⟩
def Oz.rep{w:Ww}(h:Oz h0 L w)(rp:WR):Oz h0 L {w with r:=rp}:=⟨h.q,h.old,h.fw,h.ws,h.ss,h.k1,h.pr,h.hw,h.bm,h.ol⟩
def RefB(h0:Wk)(L l:List Int):Prop:=(l.all λx=>x==0||(Yo h0 L).contains x)=true
def RefB.mem{l:List Int}(h:RefB h0 L l):∀x∈l,x=0\/x∈L:=λx hx=>by
 have:=WX.1 h x hx;simp only[Is,beq_iff_eq]at this;rcases this with h|h
 .omega
 exact .inr (List.filter_sublist.subset (Yh h))
def Xi9(hN:NB N)(ht:HT h0)(hB:O2 N h0 L){rs ws:List Int}(hrw:rs.length+ws.length<=1000000)(tr:∀x∈rs,tU x)(br:RefB h0 L rs)(bw:RefB h0 L ws):∃r,Qeb N h0 rs ws=some r/\Qcr N h0 rs ws=some r/\(r.2.2.2.2=0->NZ rs r.2.1):=by
 have hN':=hN;unfold NB at hN';have hb:=ht.hb;have ep:=hB.ep;have hp:=XJ hN hb ep;have hs:=hB.st;have⟨w,g1,r1,hc,hh,hq,hsc⟩:=XnW hN ht hB;have e1:QbJ N h0 rs=some true:=by rw[ZK hN ht aa hB.eg hB.ob];exact congrArg some br
 have e2:QbJ N h0 ws=some true:=by rw[ZK hN ht aa hB.eg hB.ob];exact congrArg some bw
 have e3:Qd9 N h0 (rs++ws)=some true:=by rw[Xe4 hN ht (by rw[WJ];omega),ZK hN ht (by rw[WJ];omega) hB.eg hB.ob,List.all_append,show(rs.all λx=>x==0||(Yo h0 L).contains x)=true from br,show(ws.all λx=>x==0||(Yo h0 L).contains x)=true from bw];rfl
 rw[Qeb,Qcr,g1,r1,ep,e1,e2,Xa,Xa,Xs,Xa,Xa,Wh,Wa,Wa,Wa,Xa];rw[show((0:Int)==0)=true from rfl,Wb,Xb4 _ ab (by unfold XaZ;unfold XaZ;unfold XaZ;omega) aa,Xa,show [rs,ws].flatten=rs++ws by simp,e3,Xa,Wb];rcases XnU hN hs hc hh hq aa tr with⟨e,e0,a1,a2⟩|⟨w1,out,c1,h1,q1,k1,l1,z1,a1,a2⟩
 .rw[a1,a2,Xa,Xa,Xk e0,Xl e0,Wa,Wb];exact⟨_,rfl,rfl,λh=>absurd h e0⟩
 rw[a1,a2,Xa,Xa];have esc:w1.d=0:=by unfold KeepW at k1;rw[k1];exact hsc
 rcases Xr8 hN hs c1 h1 q1 aa aa with⟨e,e0,a1,a2⟩|⟨w2,c2,h2,q2,a1,a2⟩
 .rw[a1,a2,Xa,Xa,Xk e0,Xl e0,Wa,Wb];exact⟨_,rfl,rfl,λh=>absurd h e0⟩
 rw[a1,a2,Xa,Xa];have⟨o,cl,ol,b1,b2⟩:=XhZ hN hb (λ_=>hp) hs.st c2 h2.ws aa bw.mem (w1,out,0) N 0 w2.r.f [] aa aa rfl;rw[show((0:Nat):Int)=0 from rfl]at b1 b2;rw[QdP,b1,b2,Xa,Xa,Xa];have⟨v,cf,vi,f1,f2⟩:=Xqe hN hb hB (c2.rep ⟨w2.r.j,w2.r.K,w2.r.F,w2.r.E,cl,w2.r.y⟩) (h2.rep _);rw[f1,f2,Xa,Xa];have⟨cr,v',ps,y1,y2,y3,y4⟩:=Xqg (w:=⟨⟨w2.h.c,v,w2.h.p,w2.h.s,w2.h.b⟩,w2.o,w2.t,w2.q,w2.d,⟨w2.r.j,w2.r.K,cf,w2.r.E,cl,w2.r.y⟩⟩) hN hb hp c2.conf c2.plen vi.len (h2.spn hN hb ep);have htl:=c2.tl hb;rw[y3,y4,Xa,Xa];dsimp only;rw[Xb aa,Xs];by_cases hk:(w2.t.length:Int)>0
 .rw[Wd hk,Wb,Xc (n:=(w2.t.length:Int)-1) aa aa,Yd aa aa,Xa];exact⟨_,rfl,rfl,λ_=>z1⟩
 simp_all
end
section
variable {N:Nat}
def Xko{rs:List Int}{c:Nat}(h:c<rs.length):Xe (rs.drop c) 0=some rs[c]:=by rw[show(0:Int)=((0:Nat):Int)from rfl,Xf,UK,Wc aa];rfl
def Xeh(t:Wu)(hl:t.e.length<=1000000)(rs:List Int)(hr:rs.length<=1000000):∀(n k c:Nat) (v:List W5),k<=t.e.length->t.e.length-k<n->v.length=t.e.length->c+(Xz (v.drop k)).length=rs.length ->
 ∃r,Qen N t n (rs.drop c) (k:Int) v=some r/\Qbp N rs n (c:Int) (k:Int) v=some r
 |0,k,c,v,_,hn,_,_=>by omega
 |n+1,k,c,v,hk,hn,hv,hc=>by
  rw[Qen,Qbp,Xb aa,hv];by_cases h:k<t.e.length;rotate_left
  .obtain rfl:k=t.e.length:=aa;simp
  have hd:=Wo (show k<v.length by omega);rw[hd]at hc;rw[Xn h,Wb,Wb,Xf,Wc aa,Xa,Xa,Xg aa];cases hL:v[k].V with
  |false=>exact Xeh t hl rs hr n (k+1) c v aa aa hv (by rw[←hc];unfold Xz;grind)
  |true=>
   have h2:c+1+(Xz (v.drop (k+1))).length=rs.length:=by rw[←hc];unfold Xz;rw[Uq aa,US,Uz];omega
   rw[Wb,Wb,Xko aa,Xa,Xf,Wc (show c<rs.length by omega),Xa,Xb (by grind),Xa,Xa,Oq,Xg aa];exact Xeh t hl rs hr n (k+1) (c+1) _ aa aa (by simp_all) (by rw[show(k:Int).toNat=k from rfl,UP aa];omega)
def Xh0(hN:NB N){t:Wu}(ht:TB t)(hv:Yr t.e=true){rs:List Int}(hr:(Xz t.e).length=rs.length):∃r,QgB N t rs=some (r,0)/\Qcg N t rs=some (r,0):=by
 have hN':1000000<N:=by unfold NB at hN;omega
 have h64:=JB hv;have:=Va t.e;have⟨r,e1,e2⟩:=Xeh (N:=N) t aa rs aa N 0 0 t.e aa aa rfl (by simp_all);rw[W4,show((0:Nat):Int)=0 from rfl]at e1;rw[show((0:Nat):Int)=0 from rfl]at e2;refine⟨⟨r⟩,?_,?_⟩
 .rw[QgB,V7 ht hN',hv,Xa,Wh,Wa,Jo ht hN',hv,Wb,Xa,hr];simp only[bne_self_eq_false,Wa,Qhi,Qau,Xa];rw[Xb aa,show(Wu.mk t.e)=t from rfl,e1,Xa]
 rw[Qcg,Y2 ht hN',hv,Xa,Wh,Wa,X7 ht hN',hv,Wb,Xa,Xb aa,hr];simp;rw[Xb aa,e2,Xa]
def Xei(a:Wp)(hl:a.S.length<=1000000)(rs:List Int)(hr:rs.length<=1000000)(hz:∀x∈rs,x≠0):∀(n k c:Nat) (v:List UB),k<=a.S.length->a.S.length-k<n->v.length=a.S.length->c+(XM (v.drop k)).length=rs.length ->
 ∃r,Qem N a n (rs.drop c) (k:Int) v=some r/\Qbo N a rs n (c:Int) (k:Int) v=some (.nxt r)
 |0,k,c,v,_,hn,_,_=>by omega
 |n+1,k,c,v,hk,hn,hv,hc=>by
  rw[Qem,Qbo,Xb aa,hv];by_cases h:k<a.S.length;rotate_left
  .obtain rfl:k=a.S.length:=aa;simp
  have hd:=Wo (show k<v.length by omega);rw[hd]at hc;rw[Xn h,Wb,Wb,Xf,Wc aa,Xa,Xa,Xg aa];cases hL:v[k].V with
  |false=>exact Xei a hl rs hr hz n (k+1) c v aa aa hv (by rw[←hc];unfold XM;grind)
  |true=>
   have h2:c+1+(XM (v.drop (k+1))).length=rs.length:=by rw[←hc];unfold XM;rw[Uq aa,US,Uz];omega
   have hcl:c<rs.length:=aa;rw[Wh,Wb,Wa,Xko hcl,Xa,Xf,Wc hcl,Xa,Xa,Xk (hz _ (WG hcl)),Wa,Xa,Xa,Xb (by grind),Oq,Xg aa];exact Xei a hl rs hr hz n (k+1) (c+1) _ aa aa (by grind) (by rw[show(k:Int).toNat=k from rfl,UP aa];omega)
def Xn0(hN:NB N){a:Wp}(ha:LBp a)(hv:Yb a=true){rs:List Int}(hr:(XM a.S).length=rs.length)(hz:∀x∈rs,x≠0):∃r,Qg9 N a rs=some (r,0)/\Qdi N a rs=some (r,0):=by
 have hN':1000000<N:=by unfold NB at hN;omega
 have hsl:=(XT.1 hv).slots;have:=(XT.1 hv).iss;have:=Xas a.S;have⟨r,e1,e2⟩:=Xei (N:=N) a aa rs aa hz N 0 0 a.S aa aa rfl (by simp_all);rw[W4,show((0:Nat):Int)=0 from rfl]at e1;rw[show((0:Nat):Int)=0 from rfl]at e2;have hc:rs.contains 0=false:=by rw[Bool.eq_false_iff];intro h;exact hz 0 (Yh h) rfl
 refine⟨⟨r,a.x,a.i⟩,?_,?_⟩
 .rw[Qg9,JD ha hN',hv,Xa,Wh,Wa,Xb3 ha hN',hv,Wb,Xa,hr,Xaf _ _ aa hN',hc];simp only[bne_self_eq_false,Wa,QdX,Qaq,Qao,QaA,Xa];rw[Xb aa,show(Wp.mk a.S a.x a.i)=a from rfl,e1,Xa]
 rw[Qdi,Zr ha hN',hv,Xa,Wh,Wa,Y3 ha hN',hv,Wb,Xa,hr];simp;rw[Xb aa,e2,Xa,Xo]
def Xkp(x:W3)(hx:x.P.length<=1000000)(y4:Wk×List Int×List Int×WR×Int)(y5:W3)(y6:List Int×List Int)(y9:Wp×Int)(y11:List Int×List Int)(y12 y13:Wu×Int)(z5 z6:List Int)(z7:Wp×Int)(z8 z9:Wu×Int)(hlen:y11.2.length=x.P.length)(hg:∀k:Nat,k<x.P.length->Xe y4.2.1 (wI (wI (wI ((x.R.length:Int)+(z5.length:Int))+(z6.length:Int))+k))=y11.2[k]?):∀(n k:Nat) (v:List UE),k<=x.P.length->x.P.length-k<n->v.length=k ->
 ∃r,QeK N y4 y5 y6 y9 y11 y12 y13 n (k:Int) (v++x.P.drop k)=some r/\QaZ N x y4 z5 z6 z7 z8 z9 n (k:Int) v=some r
 |0,k,v,_,hn,_=>by omega
 |n+1,k,v,hk,hn,hv=>by
  rw[QeK,QaZ,hlen];by_cases h:k<x.P.length;rotate_left
  .obtain rfl:k=x.P.length:=aa;simp
  have hd:=Wo h;have e:Xe (v++x.P.drop k) (k:Int)=some x.P[k]:=by rw[Xf,Uf aa,hv,U8,hd];rfl
  rw[Xn h,Wb,Wb,Xf,hg k h,Wc aa,Xa,Xa,e,Xa,Xf,Wc h,Xa,Xb aa,Xg aa];have es:(v++x.P.drop k).set (k:Int).toNat ⟨y11.2[k],x.P[k].M⟩=(v++[⟨y11.2[k],x.P[k].M⟩])++x.P.drop (k+1):=by rw[show(k:Int).toNat=k from rfl,I9 _ _ aa,hv,U8,hd,IX,Ud];rfl
  rw[es];exact Xkp x hx y4 y5 y6 y9 y11 y12 y13 z5 z6 z7 z8 z9 hlen hg n (k+1) _ aa aa (by simp_all)
structure Sd(N:Nat)(x:W3)(L:List Int):Prop where
 beg:O2 N x.h L
 ev:EV N x
 strong:RefB x.h L (Z5 x)
 weak:RefB x.h L (Xz x.v.e)
def Xja(hN:NB N){x:W3}(ht:ET x)(e:Qa5 N x=some true):∃L,Sd N x L:=by
 have hN':1000000<N:=by unfold NB at hN;omega
 have hx:=ht.eb;have h1:=Zi hx.loc;have h2:=Yf x.g.e;have h5:=Yf x.v.e;have h3:=hx.pins;have h4:=hx.roots;have⟨b,eb,hb⟩:=Kg hN hx;rw[e]at eb;obtain rfl:=WA eb;have hv:=hb rfl;have⟨b,eb,_⟩:=Vd hN hx.heap h3;rw[Qa5,eb,Xa]at e;cases b with
 |false=>grind
 |true=>
 have⟨eg,hp64,hpn⟩:=XdS hN ht.ht h3 eb;have⟨L,hB⟩:=Xr9 hN ht.ht eg;have hl:Z5 x=((x.R++XM x.l.S)++Xz x.g.e)++x.P.map (·.a):=by unfold Z5;rw[hv.loc,hv.glo];rfl
 simp only[Wh,Wa,Zr hx.loc hN',Y2 hx.glo hN',Y2 hx.wea hN',X7 hx.glo hN',X7 hx.wea hN',Y3 hx.loc hN',Xa,hv.loc,hv.glo,hv.wea,Wb]at e h1 h2 h5;rw[Yx 0 aa aa,Xa]at e;cases hc:(Xz x.g.e).contains 0 with
 |true=>simp_all
 |false=>
 rw[hc,Wa,Xb aa,Xb aa,Xb aa,Xb aa,ZK hN ht.ht (by grind) eg hB.ob,Xa]at e;have e:=WA e;simp only[List.all_append,WK]at e;refine⟨L,hB,hv,?_,e.2⟩;unfold RefB;rw[hl];simp only[List.all_append,WK];refine⟨⟨⟨e.1.1.1,e.1.1.2⟩,e.1.2⟩,?_⟩;rw[WX];intro r hr;obtain⟨p,hp,rfl⟩:=WU.1 hr;rw[hpn _ hB.ob p hp,Bool.or_true]
def Xn1(hN:NB N){x:W3}(ht:ET x):∃r,QgI N x=some r/\QbG N x=some r:=by
 have hN':1000000<N:=by unfold NB at hN;omega
 have hx:=ht.eb;have h1:=Zi hx.loc;have h2:=Yf x.g.e;have h5:=Yf x.v.e;have h3:=hx.pins;have h4:=hx.roots;have⟨b,eb,_⟩:=Kg hN hx;rw[QgI,QbG,JL hN ht,eb,Xa,Xa];cases b with
 |false=>simp
 |true=>
 have⟨L,hV⟩:=Xja hN ht eb;have hv:=hV.ev;have hB:=hV.beg;rw[hv.loc,Wb]at h1;rw[hv.glo,Wb]at h2;rw[hv.wea,Wb]at h5;have hp64:=hv.mat.len;have hl:Z5 x=((x.R++XM x.l.S)++Xz x.g.e)++x.P.map (·.a):=by unfold Z5;rw[hv.loc,hv.glo];rfl
 have hll:(Z5 x).length=x.R.length+(XM x.l.S).length+(Xz x.g.e).length+x.P.length:=by rw[hl];simp only[WJ,Um]
 rw[Wh,Wa,Wa,XdU hN hx,XdT hN hx,Xa,Xa,Jo hx.wea hN',X7 hx.wea hN',hv.wea,Wb,Xa,Xa];have tr:∀y∈Z5 x,tU y:=λy hy=>by
  rcases hV.strong.mem y hy with h|h
  .simp_all
  have hr:=(hB.st.st.obj.at_ y h).rng;have hp:=XJ hN hx.heap hB.ep;have hw:=hp.words;have hb1:=hx.heap.1;unfold tU;omega
 have⟨y,e1,e2,hnz⟩:=Xi9 hN ht.ht hB (rs:=Z5 x) (ws:=Xz x.v.e) aa tr hV.strong hV.weak;have⟨y',e3,hq⟩:=QjN hN hx.heap (rs:=Z5 x) (ws:=Xz x.v.e) aa aa;rw[e2]at e3;obtain rfl:=WA e3;rw[e1,e2,Xa,Xa];by_cases he:y.2.2.2.2=0;rotate_left
 .simp[Xl,he,Wb]
 have hnz:=hnz he;have⟨hl1,hl2⟩:=hq.len he;rw[show(y.2.2.2.2 != 0)=false by simp_all,Wa,Wa];simp only[QbV,Qgc,Qe1,QeP,Qae,Qad,Qaq,Qao,QaA,Qau,Qba,Xa,Qec];generalize hs:y.2.1=s at *;have en:(x.R.length:Int).toNat=x.R.length:=rfl;rw[Xb aa,Xb aa,Xa,en,Xb (by grind),Xb3 hx.loc hN',Y3 hx.loc hN',hv.loc,Wb,Xa,Xa,X7 hx.glo hN',Jo hx.glo hN',hv.glo,Wb,Xa];generalize hk:XM x.l.S=lk at *;generalize hm:Xz x.g.e=lm at *;have ek:(lk.length:Int).toNat=lk.length:=rfl;have em:(lm.length:Int).toNat=lm.length:=rfl;have w1:wI ((x.R.length:Int)+(lk.length:Int))=((x.R.length+lk.length:Nat):Int):=by rw[Xc aa aa];omega
 have w2:wI (((x.R.length+lk.length:Nat):Int)+(lm.length:Int))=((x.R.length+lk.length+lm.length:Nat):Int):=by rw[Xc aa aa];omega
 have t1:((x.R.length+lk.length:Nat):Int).toNat=x.R.length+lk.length:=rfl;have t2:((x.R.length+lk.length+lm.length:Nat):Int).toNat=x.R.length+lk.length+lm.length:=rfl;have hz:∀v∈(s.drop x.R.length).take lk.length,v≠0:=λv hvm=>by
  have⟨i,hi,ei⟩:=WE hvm;rw[Wl]at hi;rw[Ir,IO]at ei;have hik:i<lk.length:=aa;have e4:(Z5 x)[x.R.length+i]? = some lk[i]:=by rw[hl,Ud,Ud,Uf aa,IU,Uh hik,Wc hik]
  refine hnz (x.R.length+i) v (by rw[Wc aa,ei]) _ e4 ?_;have hmem:lk[i]∈XM x.l.S:=by rw[hk];exact WG hik
  have⟨p,hp,ep⟩:=WU.1 hmem;rw[←ep];have hp:=W8.1 hp;have⟨q,hq,eq⟩:=WE hp.1;exact(Xar (XT.1 hv.loc).st (i:=q) (p:=p) (by simp_all)).2.2.2.1 hp.2
 have⟨r1,a1,a2⟩:=Xn0 hN hx.loc hv.loc (rs:=(s.drop x.R.length).take lk.length) (by rw[hk,Wl,Wn];omega) hz;have⟨r2,b1,b2⟩:=Xh0 hN hx.glo hv.glo (rs:=(s.drop (x.R.length+lk.length)).take lm.length) (by rw[hm,Wl,Wn];omega);have⟨r3,c1,c2⟩:=Xh0 hN hx.wea hv.wea (rs:=y.2.2.1) hl2.symm;have⟨r4,d1,d2⟩:=Xkp (N:=N) x h3 y ⟨x.h,x.l,x.g,x.v,x.P,x.R⟩ (s.take x.R.length,s.drop x.R.length) (r1,0) ((s.drop (x.R.length+lk.length)).take lm.length,s.drop (x.R.length+lk.length+lm.length)) (r2,0) (r3,0) lk lm (r1,0) (r2,0) (r3,0) (by simp_all) (λk hkp=>by
  rw[hs,w1,w2,Xc aa aa,show((x.R.length+lk.length+lm.length:Nat):Int)+(k:Int)=((x.R.length+lk.length+lm.length+k:Nat):Int) by omega,Xf,UK]) N 0 [] aa aa rfl
 rw[show((0:Nat):Int)=0 from rfl,W4,Ue]at d1;rw[show((0:Nat):Int)=0 from rfl]at d2;rw[w1,w2,t1,t2,ek,Xb (by grind),Xb (by grind),Xa,a1,Xa,Xa];rw[em,Oq,Xb (by grind[Wn]),Xb (by grind[Wn]),Xa];dsimp only;rw[b1,Xa,c1,Xa,Oq,d1,Xa];rw[Xb aa,Xb aa,Xb aa,Xb aa,show x.R.length+lk.length-x.R.length=lk.length by omega,a2,Xa,Xb aa,show x.R.length+lk.length+lm.length-(x.R.length+lk.length)=lm.length by omega,b2,Xa,c2,Xa,d2,Xa];refine⟨_,?_,rfl⟩;rw[show(!(((0:Int)==0)&&(((0:Int)==0)&&((0:Int)==0))))=false from rfl,Wa,Oo,Ue,Wl,Ub aa,Ih]
end
section
variable {N:Nat}
def Xjb(hN:NB N){x:W3}(ht:ET x){d:Wv}(tm:tW d.Map):∃r,Qhn N x d=some r/\Qdc N x d=some r/\EB r.1:=by
 have hN':1000000<N:=by unfold NB at hN;omega
 have hx:=ht.eb;have⟨r,er,hr⟩:=XeT hN hx d;refine⟨r,?_,er,hr⟩;rw[←er,Qhn,Qdc,JL hN ht];have⟨b,eb,_⟩:=Kg hN hx;rw[eb,Xa,Xa];cases b with
 |false=>rfl
 |true=>
 have⟨L,hV⟩:=Xja hN ht eb;rw[Wh,Wa,Wa,Xab hN'];simp only[QbV,Qgc,Qe1,QeP,Qae,Qad,Qaq,Qao,QaA,Qau,Qba,Xa];have⟨b,ea,_⟩:=XfQ hN x.h.c d;rw[ea,Xa];cases b with
 |false=>simp[W6,Wb,Qcc,hV.beg.ep,Xa,Wh,Wa,ea,Xs]
 |true=>
 rw[Wh,Wa,Xj1 hN hx.heap tm];have⟨y,ey,hy⟩:=XfR hN hx.heap d;rw[ey,Xa,Xa,Xs];by_cases h3:y.2.2=3
 .have⟨z,e1,e2⟩:=Xn1 hN ht;have⟨z',e3,hz⟩:=V3 hN hx;rw[e2]at e3;obtain rfl:=WA e3;rw[e1,e2,Xa,Xa];by_cases h0:z.2.2=0
  .rw[show(z.2.2 != 0)=false by rw[h0];rfl,Wa,Wa,Xj1 hN hz.heap tm]
  rw[Xl h0,Wb,Wb]
 simp[Xk,h3,Wa]
end
section
variable {N:Nat}{h:Wk}{a i:Int}{x:W3}{L:List Int}
structure OO(N:Nat)(h:Wk)(a:Int):Prop where
 hb:HT h
 ep:Qab N h=some true
 pr:Uy h
 at_:Iz h a
 ev:Qal N h a=some (hdA h.w a,0)
 kd:(hdA h.w a).k≠0
 eg:Qbe N h=some true
def Xth(hN:NB N)(ht:HT h)(hB:O2 N h L)(hc:(Yo h L).contains a=true):OO N h a:=by
 have hN':=hN;unfold NB at hN';have⟨y,e,hl,hs,h1,h2,h3⟩:=KR hN ht.hb;rw[hB.ob]at e;obtain rfl:=WA e;have hm:a∈Yo h L:=by simpa using hc
 have hl:(Yo h L).length<=4096:=hl;exact⟨ht,hB.ep,hB.st.prop (λe=>by grind[Yo]),h1 a hm,h2 a hm,h3 a hm,hB.eg⟩
def OO.ne(o:OO N h a):a≠0:=by have:=o.at_.rng;omega
def OO.tu(o:OO N h a):tU a:=o.at_.tu o.pr
def XcV(hN:NB N)(o:OO N h a):Qfe N h a=some (hdA h.w a,0)/\Qca N h a=some (hdA h.w a,0):=by have hN':=hN;unfold NB at hN';rw[Qfe,Qca,Yc o.hb.hb.2 aa,o.ep,Xa0 hN o.hb o.tu,o.ev];simp[Xa,Wh,Wa,Xk,o.ne,o.kd]
def Xh1(hN:NB N)(o:OO N h a)(h0:0<=i)(h1:i<(hdA h.w a).n):wU (wU (a+1)+wU i)=a+1+i/\a+1+i<=18446744073709551615/\inW h.w (a+1+i):=by have:=Ks o.pr o.at_;have:=o.at_.rng;have hb:=o.hb.hb.1;have e:szA h.w a=(hdA h.w a).n+1:=rfl;refine⟨?_,aa,by unfold inW;omega⟩;rw[Xp (n:=a+1) aa aa,Xp (n:=i) h0 aa,Xp aa aa]
def Xcd(hN:NB N)(o:OO N h a)(h0:0<=i)(h1:i<(hdA h.w a).n):∃v,Qgp N h a i=some (v,0)/\Qb6 N h a i=some (v,0):=by
 have⟨e1,e2,e3⟩:=Xh1 hN o h0 h1;have⟨g1,g2⟩:=XcV hN o;have hb:=o.hb.hb.1;refine⟨h.w.getD (ix (a+1+i)) 0,?_,?_⟩
 .rw[Qgp,QfB,g1,Xa];simp only[show((0:Int) != 0)=false from rfl,Wa,Wg (show¬i<0 by omega),Wg (show¬i>=(hdA h.w a).n by omega),Xa,e1];rw[XdN aa e2,Ye (by unfold BIG;omega),Wm e3,Xa]
 rw[Qb6,g2,Xa];simp only[show((0:Int) != 0)=false from rfl,Wa,Wg (show¬i<0 by omega),Wg (show¬i>=(hdA h.w a).n by omega),Xa,e1];rw[Ye (by unfold BIG;omega),Wm e3,Xa]
def Xqh(hN:NB N)(o:OO N h a)(h0:0<=i)(h1:i<(hdA h.w a).n)(v:Int):∃r,Qff N h a i v=some (r,0)/\QbN N h a i v=some (r,0):=by
 have hN':=hN;unfold NB at hN';have⟨e1,e2,e3⟩:=Xh1 hN o h0 h1;have⟨g1,g2⟩:=XcV hN o;have⟨w,_,f2⟩:=Xcd hN o h0 h1;have hb:=o.hb.hb.1;have es:∀b,QgJ N h.w (a+1+i) b=QcL N h.w (a+1+i) b:=λb=>by rw[QgJ,QcL,Xe8 hN hb ab e2]
 refine⟨⟨h.c,h.w.set (ix (a+1+i)) v,h.p,h.s,h.b⟩,?_,?_⟩
 .rw[Qff,QfB,g1,Xa];simp only[show((0:Int) != 0)=false from rfl,Wa,Wg (show¬i<0 by omega),Wg (show¬i>=(hdA h.w a).n by omega),Xa,e1];rw[es,Z3 (by unfold BIG;omega) aa,Wm e3,Xa,QeI,Qad];simp only[show((0:Int) != 0)=false from rfl,Wa,Xa]
 rw[QbN,f2,Xa,e1,Z3 (by unfold BIG;omega) aa,Wm e3];simp only[show((0:Int) != 0)=false from rfl,Wa,Xa]
def Xh2{l:List W5}{i g:Int}(h:(YN l i g).2=0):(YN l i g).1∈Xz l:=by have⟨_,_,p,hp,_,hl,er⟩:=Jm h;rw[er];exact WU.2 ⟨p,W8.2 ⟨W7 hp,hl⟩,rfl⟩
def Xn2(hN:NB N)(ht:ET x)(hV:Sd N x L)(ev:Qa5 N x=some true){v:Int}(tv:tU v):∃r,Qct N x v=some r/\Qar N x v=some r/\(r.2=0->r.1≠0->OO N x.h r.1):=by
 have hN':1000000<N:=by unfold NB at hN;omega
 have hx:=ht.eb;have ob:∀l,RefB x.h L l->∀r∈l,r≠0->OO N x.h r:=λl hl r hr h0=>by have:=WX.1 hl r hr;rw[Xk h0,In]at this;exact Xth hN ht.ht hV.beg this
 have e1:XM x.l.S ⊆ Z5 x:=by unfold Z5;rw[hV.ev.loc,Wb];intro z hz;simp[hz]
 have e2:Xz x.g.e ⊆ Z5 x:=by unfold Z5;rw[hV.ev.glo,Wb];intro z hz;simp[hz]
 rw[XnQ hN ht tv,Qar,ev,Xa,Wh,Wa,XbY tv,Xa];by_cases hz:v=0
 .simp_all
 rw[Xk hz,Wa];cases hd:(Yk v).2 != 0 with
 |true=>simp
 |false=>
 simp only[Wa,Vv hx.loc hN',Kt hx.glo hN',Kt hx.wea hN',Xa];cases (Yk v).1.Tag==1 with
 |true=>refine⟨_,rfl,rfl,λh0 hne=>?_⟩;have⟨_,_,p,hp,_,hl,er⟩:=Vb h0;refine ob _ hV.strong _ (e1 ?_) hne;simp only[er];exact WU.2 ⟨p,W8.2 ⟨W7 hp,hl⟩,rfl⟩
 |false=>
 cases (Yk v).1.Tag==2 with
 |true=>exact⟨_,rfl,rfl,λh0 hne=>ob _ hV.strong _ (e2 (Xh2 h0)) hne⟩
 |false=>exact⟨_,rfl,rfl,λh0 hne=>ob _ hV.weak _ (Xh2 h0) hne⟩
end
section
variable {N:Nat}{x:W3}{L:List Int}{a b c:Int}
def XbG(x:W3):QbV N x=some x:=by simp[QbV,Qgc,Qe1,QeP,Qae,Qad,Qaq,Qao,QaA,Qau,Qba,Xa]
def Xkq:((0:Int) != 0)=false:=rfl
structure VB(N:Nat)(x:W3)(L:List Int):Prop where
 hN:NB N
 ht:ET x
 hV:Sd N x L
 ev:Qa5 N x=some true
def VB.n6(v:VB N x L):1000000<N:=by have:=v.hN;unfold NB at this;omega
def VB.thing(v:VB N x L)(ta:tU a):(∃r e,Qct N x a=some (r,e)/\Qar N x a=some (r,e)/\e≠0)\/(Qct N x a=some (0,0)/\Qar N x a=some (0,0))\/∃r,Qct N x a=some (r,0)/\Qar N x a=some (r,0)/\r≠0/\OO N x.h r:=by have⟨⟨r,e⟩,e1,e2,o⟩:=Xn2 v.hN v.ht v.hV v.ev ta;grind
def fld(hN:NB N){r:Int}(o:OO N x.h r)(tb:tU b):decide (b>=wU (hdA x.h.w r).n)=true\/(decide (b>=wU (hdA x.h.w r).n)=false/\wI b=b/\0<=b/\b<(hdA x.h.w r).n):=by
 have h:=(XL x.h.w r)
 have e:szA x.h.w r=(hdA x.h.w r).n+1:=rfl;rw[Xp (n:=(hdA x.h.w r).n) aa aa];have⟨b0,_⟩:=tb;by_cases hb:b>=(hdA x.h.w r).n
 .grind
 exact .inr ⟨Wg hb,Xc aa aa,b0,aa⟩
def Xq0(hN':1000000<N){l:Wp}(hl:LBp l)(r:Int):QfG N l r=some (XU l r)/\Qd2 N l r=some (XU l r)/\((XU l r).2.2.2≠0\/(XU l r).2.2.2=0/\∃w,Qeo N ⟨1,(XU l r).2.1,(XU l r).2.2.1⟩=some (w,0)/\Qa3 N ⟨1,(XU l r).2.1,(XU l r).2.2.1⟩=some (w,0)):=by
 refine⟨XhW hl hN' r,Ku hl hN' r,?_⟩;by_cases h:(XU l r).2.2.2=0
 .have⟨_,h1,h2,h3,h4⟩:=Xlx h;exact .inr ⟨h,_,XnS hN' aa aa h1 h2 h3 aa⟩
 omega
def gc7(v:VB N x L)(ta:tU a)(tb:tU b):QdS N x a b c=Qac N x 7 a b c:=by
 rw[QdS,Qac,JL v.hN v.ht,v.ev];simp only[Xa,Wh,Wa,Wb,XbG,Xs,simprocAttr,decide_false,decide_true,Qbx,Qbw,Qbv,Qaa];rcases v.thing ta with⟨r,e,e1,e2,he⟩|⟨e1,e2⟩|⟨r,e1,e2,hr,o⟩
 .simp[e1,e2,Xa,Xl,he,Xk]
 .simp[e1,e2,Xa]
 have⟨g1,g2⟩:=XcV v.hN o;simp only[e1,e2,Xa,Xkq,beq_self_eq_true,Wb,Wa,Xk hr,g1,g2];rcases fld (x:=x) v.hN o tb with h|⟨h,hb,h0,h1⟩
 .simp[h,Xa]
 have⟨w,w1,w2⟩:=Xcd v.hN o h0 h1;have⟨y,y1,y2⟩:=Xqh v.hN o h0 h1 c;simp only[h,Wa,hb,w1,w2,y1,y2,Xa,XdL (show 1000<N by have:=v.n6;omega),KP];cases KI (hdA x.h.w r) b<;>simp[Xa,w1,w2,y1,y2]
def gc6(v:VB N x L)(ta:tU a)(tb:tU b):QdR N x a b c=Qac N x 6 a b c:=by
 rw[QdR,Qac,JL v.hN v.ht,v.ev];simp only[Xa,Wh,Wa,Wb,XbG,Xs,simprocAttr,decide_false,decide_true,Qbx,Qbw,Qbv,Qaa];rcases v.thing ta with⟨r,e,e1,e2,he⟩|⟨e1,e2⟩|⟨r,e1,e2,hr,o⟩
 .simp[e1,e2,Xa,Xl,he,Xk]
 .simp[e1,e2,Xa]
 have⟨g1,g2⟩:=XcV v.hN o;simp only[e1,e2,Xa,Xkq,beq_self_eq_true,Wb,Wa,Xk hr,g1,g2];rcases fld (x:=x) v.hN o tb with h|⟨h,hb,h0,h1⟩
 .simp[h,Xa]
 have⟨w,w1,w2⟩:=Xcd v.hN o h0 h1;simp only[h,Wa,hb,w1,w2,Xa,XdL (show 1000<N by have:=v.n6;omega),KP];cases KI (hdA x.h.w r) b<;>simp[Xa,w1,w2]
def XuK(v:VB N x L)(ta:tU a):Qdu N x a b c=Qac N x 18 a b c:=by
 rw[Qdu,Qac,JL v.hN v.ht,v.ev];simp only[Xa,Wh,Wa,Wb,XbG,Xs,simprocAttr,decide_false,decide_true,Qb0,Qbh,Qaa];have⟨⟨q,e⟩,q1,q2,_⟩:=Xn2 v.hN v.ht v.hV v.ev ta;by_cases he:e=0
 .subst he;have p1:=XnR v.ht.eb.loc v.n6;have p2:=Xat v.ht.eb.loc v.n6;by_cases hp:(YV x.l).2=0;case neg=>simp[q1,q2,p1,p2,Xa,Xl hp]
  by_cases hw:q=0
  .subst hw;simp[q1,q2,Xa,p1,p2,hp]
  have⟨n1,n2,n3⟩:=Xq0 v.n6 (XcJ v.ht.eb.loc) q;rcases n3 with n3|⟨n3,z,z1,z2⟩
  .simp[q1,q2,Xk hw,Xl n3,Xa,n1,n2,p1,p2,hp]
  simp[q1,q2,Xk,hw,n3,z1,z2,Xa,n1,n2,p1,p2,hp]
 simp[q1,q2,Xa,Xl,he]
def XuL(v:VB N x L)(ta:tU a):Qdt N x a b c=Qac N x 17 a b c:=by
 rw[Qdt,Qac,JL v.hN v.ht,v.ev];simp only[Xa,Wh,Wa,Wb,XbG,Xs,simprocAttr,decide_false,decide_true,Qb0,Qaa];cases decide (a>64)with
 |true=>simp[Xa]
 |false=>
 have p1:=Xlw v.ht.eb.loc v.n6 (wI a);have p2:=Vc v.ht.eb.loc v.n6 (wI a);by_cases hp:(Zs x.l (wI a)).2=0
 .simp[p1,p2,Xa,hp]
 simp[p1,p2,Xa,Xl,hp,Xk]
end
section
variable {N:Nat}{x:W3}{L:List Int}{a b c:Int}
def Xai(l:Wp):(XU l 4096).2.2.2=(XU l 1).2.2.2:=by unfold XU;grind
def Xti(ta:tU a)(h:a<=2147483647):wI (if 2147483647<a then 2147483647 else a)=a/\wI (Zc .u64 a 2147483647)=a:=by have⟨a0,a1⟩:=ta;have e:=YF a 31 aa a0 a1;rw[Wi aa,show(2147483647:Int)=2 ^ 31-1 from rfl,e,Int.emod_eq_of_lt a0 aa,Xc aa aa];omega
def gc3(v:VB N x L)(ta:tU a)(tb:tU b):QdQ N x a b c=Qac N x 3 a b c:=by
 rw[QdQ,Qac,JL v.hN v.ht,v.ev];simp only[Xa,Wh,Wa,Wb,XbG,Xs,simprocAttr,decide_false,decide_true,Qci,Qcs,Qbh,Qaa];have n1:=XhW v.ht.eb.loc v.n6 4096;have n2:=Ku v.ht.eb.loc v.n6 1;have hl:=v.ht.eb.pins;by_cases hp:(x.P.length:Int)>0
 .simp only[n1,Xa,Wd hp,Wb];repeat rw[Xb aa]
 simp only[n1,n2,Xa,Wg hp,Wa];repeat rw[Xb aa]
 by_cases h1:a<=2147483647;case neg=>simp[Xa,Wg,h1]
 have⟨a1,a2⟩:=Xti ta h1;have⟨y,y1,y2,hy⟩:=Xjb v.hN v.ht (d:=⟨3,a,0⟩) ⟨ab,ab⟩;simp only[Wd h1,Wb,Wh,Wa,a1,a2,Xab v.n6,XcM (show 10<=N by have:=v.n6;omega),Xa,y1,y2];cases V5 x.h.c ⟨3,a,0⟩with
 |false=>simp[Xa]
 |true=>
 by_cases hf:(XU x.l 1).2.2.2=0;case neg=>simp[Xa,Xai,Xl hf]
 by_cases he:y.2.2=0;case neg=>simp[Xa,Xai,hf,Xl he]
 by_cases hw:y.2.1=0
 .simp[Xa,Xai,hf,he,hw]
 have⟨q1,q2,q3⟩:=Xq0 v.n6 hy.loc y.2.1;rcases q3 with q3|⟨q3,z,z1,z2⟩
 .simp[Xa,Xai,hf,he,Xk hw,q1,q2,Xl q3]
 simp[Xa,Xai,hf,he,Xk,hw,q1,q2,q3,z1,z2]
def Xtj(hN:NB N)(ht:ET x)(ev:Qa5 N x=some true):∃L,VB N x L:=by have⟨L,hV⟩:=Xja hN ht ev;exact⟨L,hN,ht,hV,ev⟩
end
section
variable {N k:Nat}{x:W3}{a b c:Int}
def CV.vb(h:CV N k x a b c):∃L,VB N x L:=Xtj h.hN h.s.et h.ev
def CV.g3(h:CV N k x a b c):Qa0 N x 3 a b c=Qac N x 3 a b c:=by obtain⟨L,v⟩:=h.vb;exact gc3 v h.ta h.tb
def CV.g6(h:CV N k x a b c):Qa0 N x 6 a b c=Qac N x 6 a b c:=by obtain⟨L,v⟩:=h.vb;exact gc6 v h.ta h.tb
def CV.g7(h:CV N k x a b c):Qa0 N x 7 a b c=Qac N x 7 a b c:=by obtain⟨L,v⟩:=h.vb;exact gc7 v h.ta h.tb
def CV.g17(h:CV N k x a b c):Qa0 N x 17 a b c=Qac N x 17 a b c:=by obtain⟨L,v⟩:=h.vb;exact XuL v h.ta
def CV.g18(h:CV N k x a b c):Qa0 N x 18 a b c=Qac N x 18 a b c:=by obtain⟨L,v⟩:=h.vb;exact XuK v h.ta
def Xgm(m:Nat):Qd0 (m+5000)=some true:=ac
def XaJ(hN:NB N)(l:List Int):Qdp N l=some true:=by
 have hN':=hN;unfold NB at hN';obtain⟨p,ep,k,hk,hp,s⟩:=Xr5 hN (M:=40) aa aa l;have aw:Qd0 N=some true:=by obtain⟨m,rfl⟩:∃m,N=m+5000:=⟨N-5000,aa⟩;exact Xgm m
 have t0:tU 0:=⟨aa,aa⟩
 have t1:tU 1:=⟨aa,aa⟩
 have t3:tU 3:=⟨aa,aa⟩
 have t77:tU 77:=⟨aa,aa⟩
 have c1:CV N k p.N 3 0 0:=⟨s,hN,t3,t0,t0⟩
 obtain⟨y1,e1,r1⟩:=Xs9 c1;rw[Qdp,ep,Xa,c1.g17,e1,Xa];rcases r1 with h17|⟨h0,ey,s1⟩
 .rw[h17,show((17:Int) != 0)=true from rfl,Wb,Xs,aw,Xa,Wb];rfl
 rw[h0,show((0:Int) != 0)=false from rfl,Wa];have c2:CV N (k+1) y1.1 1 0 0:=⟨s1,hN,t1,t0,t0⟩
 have sl1:y1.1.l.S=p.N.l.S:=by rw[ey]
 have sc1:y1.1.l.x=p.N.l.x++[⟨(y1.1.l.S.length:Int),3,false⟩]:=by rw[ey]
 obtain⟨y2,e2,r2⟩:=Xr7 c2 aa sc1;have c2':CV N (k+1) y1.1 1 0 0:=c2;rw[c2.g3,e2,Xa];rcases r2 with h15|h3|⟨h0,o,sl,hsl,s2,ho,hd,hw2,hl2⟩
 .rw[h15,show((15:Int)==3)=false from rfl,Wa,show((15:Int)==15)=true from rfl,Wb,aw,Xa]
 .rw[h3,show((3:Int)==3)=true from rfl,Wb,aw,Xa]
 have n1:=(XT.1 s1.vx.loc).slots;have i1:=s1.iss;have d:=Xr6 (i:=(y1.1.l.S.length:Int)) (g:=(y1.1.l.i.length:Int)+1) aa aa aa aa;have ga:y2.1.l.i=y1.1.l.i++[(y1.1.l.S.length:Int)]:=by rw[hl2]
 have gs:y2.1.l.S=sl++[⟨(y1.1.l.i.length:Int)+1,o,true⟩]:=by rw[hl2]
 have ra:∀{x:W3},Yb x.l=true->x.l=y2.1.l->ZY x y2.2.1=(o,0):=λ{x} v e=>by
  rw[hw2];refine Xkh v (i:=y1.1.l.S.length) (l:=true) aa ?_ ?_ ?_ aa aa
  .rw[e,ga,WJ];simp
  .rw[e,ga,show((y1.1.l.i.length:Int)+1-1).toNat=y1.1.l.i.length by omega];simp
  rw[e,gs,←hsl];simp
 have ta:tU y2.2.1:=by rw[hw2];exact d.2.1
 have c3:CV N (k+1+1) y2.1 y2.2.1 0 77:=⟨s2,hN,ta,t0,t77⟩
 obtain⟨y3,e3,h30,s3,ho3,hd3,h77,hl3⟩:=Xta c3 (ra s2.vx.loc rfl) ho hd;rw[h0,show((0:Int)==3)=false from rfl,Wa,show((0:Int)==15)=false from rfl,Wa,c3.g7,e3,Xa,show((0:Int) != 0)=false from rfl,Wa,h30,show((0:Int) != 0)=false from rfl,Wa];have c4:CV N (k+1+1+1) y3.1 y2.2.1 0 0:=⟨s3,hN,ta,t0,t0⟩
 have rs3:=ra s3.vx.loc hl3;obtain⟨y4,e4,r4⟩:=Xtb c4 aa rs3 ho3 (S:=p.N.l.x) (sl:=sl) (by rw[hl3,hl2,hsl];exact sc1) s.sc (by rw[hl3,gs]);rw[c4.g18,e4,Xa];rcases r4 with h10|⟨h40,s4,hh4,hw4,hl4⟩
 .rw[h10,show((10:Int) != 0)=true from rfl,Wb,Xs,aw,Xa,Wb];rfl
 rw[h40,show((0:Int) != 0)=false from rfl,Wa];have i3:y3.1.l.i=y1.1.l.i++[(y1.1.l.S.length:Int)]:=by rw[hl3,ga]
 have l3:y3.1.l.i.length=y1.1.l.i.length+1:=by rw[i3];simp
 have gi4:y4.1.l.i=y3.1.l.i++[(sl.length:Int)]:=by rw[hl4]
 have gs4:y4.1.l.S=sl++[⟨(y3.1.l.i.length:Int)+1,o,true⟩]:=by rw[hl4]
 have d4:=Xr6 (i:=(sl.length:Int)) (g:=(y3.1.l.i.length:Int)+1) aa aa aa aa;have tb:tU y4.2.1:=by rw[hw4];exact d4.2.1
 have c5:CV N (k+1+1+1+1) y4.1 y4.2.1 0 0:=⟨s4,hN,tb,t0,t0⟩
 have c6:CV N (k+1+1+1+1) y4.1 y2.2.1 0 0:=⟨s4,hN,ta,t0,t0⟩
 have rb:ZY y4.1 y4.2.1=(o,0):=by
  rw[hw4];refine Xkh s4.vx.loc (l:=true) aa ?_ ?_ ?_ aa aa
  .rw[gi4,WJ];simp
  .rw[gi4,show((y3.1.l.i.length:Int)+1-1).toNat=y3.1.l.i.length by omega];simp
  rw[gs4];simp
 have rst:ZY y4.1 y2.2.1=(0,7):=by
  rw[hw2];unfold ZY;rw[Wi d.1,d.2.2];dsimp only;have hi:y4.1.l.i.getD ((y1.1.l.i.length:Int)+1-1).toNat 0=(y1.1.l.S.length:Int):=by rw[gi4,i3,show((y1.1.l.i.length:Int)+1-1).toNat=y1.1.l.i.length by omega,Wj];simp
  have hg:y4.1.l.S[((y1.1.l.S.length:Int)).toNat]? = some ⟨(y3.1.l.i.length:Int)+1,o,true⟩:=by rw[gs4,show((y1.1.l.S.length:Int)).toNat=sl.length by omega];simp
  have hlen:(y4.1.l.i.length:Int)=(y1.1.l.i.length:Int)+2:=by rw[gi4,WJ,l3];simp;omega
  have hsl4:(y4.1.l.S.length:Int)=(sl.length:Int)+1:=by rw[gs4];simp
  rw[Wi ab,Wm rfl,YQ,s4.vx.loc,Wi ab,Wi aa,hi,Wi ab,Wi aa,hg];dsimp only;rw[Wm aa]
 have g1:=XuI c5 rb (by rw[hh4];exact ho3) (by rw[hh4];exact hd3);obtain⟨y6,e6,h67⟩:=Xp9 c6 rst ae;rw[c5.g6,g1,Xa,c6.g6,e6,Xa,aw,Xa,Wb];simp_all
end
end Go.Sx
