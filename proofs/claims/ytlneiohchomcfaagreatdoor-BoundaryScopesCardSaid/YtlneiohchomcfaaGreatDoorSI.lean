import Derived.Test.YtlneiohchomcfaaGreatDoorSE
set_option linter.all false
namespace Go.Sx
section
variable {N:Nat}{h0:Wk}{l:List Int}
structure Oz(h0:Wk)(l:List Int)(w:Ww):Prop where
 q:∀a∈w.q,okH (wd w.h.w a)=true
 old:∀a∈l,a∉w.q->Xbm (wd w.h.w a)=false->okH (wd w.h.w a)=true
 fw:∀a∈l,Xbm (wd w.h.w a)=true->YO .u64 (wd w.h.w a) 2≠0
 ws:∀x∈w.h.w,tU x
 ss:SpanS h0.c h0.p w.h.p
 k1:∀i,0<=i->(pg h0.p i).k=1->(pg w.h.p i).k=1
 pr:∀i,Prm w i->(pg h0.p i).k=1/\(pg w.h.p i).u=(pg h0.p i).u
 hw:∀b∈l,Prm w (pgi h0.c b)->wd w.h.w b=wd h0.w b
 bm:w.h.b=h0.b
 ol:w.o=Yo h0 l
def KeepW(w w':Ww):Prop:=w'=⟨⟨w.h.c,w'.h.w,w'.h.p,w.h.s,w.h.b⟩,w.o,w'.t,w'.q,w.d,⟨w'.r.j,w'.r.K,w.r.F,w.r.E,w.r.f,w.r.y⟩⟩
def Xga(w:Ww)(a:Int):∀(n:Nat) (i:Int) (f r:List Ws),0<=i->QaP N w a n i f=some r->∀j,0<=j->(((i<=j/\j<f.length/\∀x,i<=x->x<=j->(pg f x).k=3)/\pg r j=⟨3,wI (1-w.h.s),(pg f j).u,(pg f j).P⟩)\/(¬(i<=j/\j<f.length/\∀x,i<=x->x<=j->(pg f x).k=3)/\pg r j=pg f j))
 |0,i,f,r,_,e,_,_=>by simp_all[QaP]
 |n+1,i,f,r,h0,e,j,q=>by
  rw[QaP]at e;by_cases p:f.length<=140737488355328;rotate_left
  .unfold grd at e;rw[Wi p]at e;cases e
  rw[Xb p]at e;by_cases g:i<(f.length:Int);rotate_left
  .rw[Wg g,Wa]at e;cases e;exact .inr ⟨λh=>aa,rfl⟩
  rw[Wd g,Wb,Xr h0 g,Xa,Xa]at e;by_cases o:(pg f i).k=3;rotate_left
  .rw[Xk o,Wa]at e;cases e;exact .inr ⟨λh=>o (h.2.2 i aa h.1),rfl⟩
  rw[XC o,Wb,Xc (n:=i+1) aa aa,o]at e;have y:=λx v=>Y6 (ps:=f) (j:=x) ⟨3,wI (1-w.h.s),(pg f i).u,(pg f i).P⟩ h0 g v;have z:=Xga w a n (i+1) _ r aa e j q;grind
def Xs5{v:Int}(h:0<=v):YO .u64 v 2=v / 4:=YP v 2 aa h
def Xgb{v:Int}(f:4096<=v)(g:v<4294967296):Xbm (wU (wU (4*v)+2))=true/\YO .u64 (wU (wU (4*v)+2)) 2=v/\tU (wU (wU (4*v)+2)):=by
 rw[Xp (n:=4*v) aa aa,Xp aa aa];have e:YO .u64 (4*v+2) 2=v:=by rw[Xs5 aa];omega
 refine⟨?_,e,⟨aa,aa⟩⟩;unfold Xbm;grind
def Xct{ws:List Int}(h:∀x∈ws,tU x)(a:Int):tU (wd ws a):=by
 unfold wd;rw[Wj];cases e:ws[ix a]? with
 |none=>simp
 |some x=>grind
def XcQ{v:Int}(e:tU v)(h:okH v=true):Xbm v=false:=by rw[Xng e]at h;unfold Xbm;grind
def Oz.push{w:Ww}(f:Oz h0 l w){a:Int}(h:okH (wd w.h.w a)=true)(g:WR):Oz h0 l {w with q:=w.q++[a],r:=g}:=by
 refine⟨λb hb=>?_,λb hb j k=>f.old b hb (λe=>j (WT _ e)) k,f.fw,f.ws,f.ss,f.k1,f.pr,f.hw,f.bm,f.ol⟩;rcases Wt.1 hb with hb|hb
 .exact f.q b hb
 simp_all
structure OX(h0:Wk)(w:Ww)(qs:List Ws)(tk:List Int):Prop where
 ss:SpanS h0.c w.h.p qs
 kd:∀i,0<=i->(pg w.h.p i).k=1->(pg qs i).k=1
 pr:∀i:Int,0<=i->i<qs.length->(pg qs i).k=1->i∉tk->pg qs i=pg w.h.p i/\i∉w.t
def Oz.prm{w:Ww}{e:List Ws}{tk:List Int}(g:OX h0 w e tk){w':Ww}(j:w'.h.p=e)(k:w'.t=tk)(e3:w'.h.s=w.h.s){i:Int}(h:Prm w' i):Prm w i/\pg w'.h.p i=pg w.h.p i:=by have⟨⟨a,b⟩,c,d,f⟩:=h;rw[j]at b c d⊢;rw[k]at f;have⟨g1,g2⟩:=g.pr i a b c f;refine⟨⟨⟨a,by rw[←g.ss.1];omega⟩,by simp_all,by simp_all,g2⟩,g1⟩
def Oz.spn(hN:NB N)(hb:HB h0)(ep:Qab N h0=some true){w:Ww}(e:Oz h0 l w):OF h0.c w.h.p:=by have h:=e.ss.proper hN hb ep (ws:=h0.w) rfl (b:=-1) (.inl rfl);exact Xag hN (h:=⟨h0.c,h0.w,w.h.p,h0.s,-1⟩) ⟨hb.1,by rw[e.ss.1];exact hb.2⟩ h
def OF.sp{c:WN}{ps:List Ws}(h:OF c ps):∀i,0<=i->(pg ps i).k=1->0<=(pg ps i).s/\(pg ps i).s<=1:=λi f e=>by
 by_cases g:i<ps.length
 .exact(h.hd i f g aa).sp
 unfold pg at e;rw[Wj,WS aa]at e;cases e
def XqQ{w:Ww}(L:OF h0.c w.h.p)(O:0<=w.h.s/\w.h.s<=1){a i:Int}{n:Nat}{v:List Ws}(R:0<=i)(S:i<w.h.p.length)(I:(pg w.h.p i).k=2)(T:v.length=w.h.p.length)(e:QaP N w a n (i+1) (w.h.p.set i.toNat ⟨(pg w.h.p i).k,wI (1-w.h.s),(pg w.h.p i).u,(pg w.h.p i).P⟩)=some v):OX h0 w v w.t:=by
 have hw:wI (1-w.h.s)=1-w.h.s:=Xc aa aa;have M:=λx y=>Y6 (ps:=w.h.p) (j:=x) ⟨(pg w.h.p i).k,wI (1-w.h.s),(pg w.h.p i).u,(pg w.h.p i).P⟩ R S y;have U:=λj D=>Xga w a n (i+1) _ v aa e j D;have run:∀j,0<=j->(i<j/\j<w.h.p.length/\(∀x,i<x->x<=j->(pg w.h.p x).k=3)/\pg v j=⟨3,1-w.h.s,(pg w.h.p j).u,(pg w.h.p j).P⟩)\/(¬(i<j/\j<w.h.p.length/\∀x,i<x->x<=j->(pg w.h.p x).k=3)/\pg v j=if j=i then⟨2,1-w.h.s,(pg w.h.p i).u,(pg w.h.p i).P⟩else pg w.h.p j):=λj D=>by
  have h:=U j D;rw[WL,M j D,hw,I]at h;have eq:∀x,i<x->pg (w.h.p.set i.toNat ⟨2,1-w.h.s,(pg w.h.p i).u,(pg w.h.p i).P⟩) x=pg w.h.p x:=λx y=>by have:=M x aa;rw[I,hw]at this;rw[this,Wi aa]
  rcases h with⟨⟨E,J,z⟩,b⟩|⟨a,b⟩
  .rw[Wi (show¬j=i by omega)]at b;exact .inl ⟨aa,J,λx y o=>by rw[←eq x y];exact z x aa o,b⟩
  exact .inr ⟨λh=>a ⟨aa,h.2.1,λx y o=>by rw[eq x aa];exact h.2.2 x aa o⟩,b⟩
 refine⟨XbC L T (λj G H=>.inr ?_) λk m k0 kk V W Y=>?_,λj G H=>?_,λj G H jk jt=>?_⟩
 .rcases run j G with⟨E,J,z,b⟩|⟨a,b⟩
  .have:=z j E aa;rw[b,this];exact⟨rfl,rfl,rfl,.inr ⟨aa,by show 0<=1-w.h.s;omega,by show 1-w.h.s<=1;omega⟩⟩
  rw[b];by_cases q:j=i
  .rw[Wm q,q];exact⟨I.symm,rfl,rfl,.inr ⟨aa,by show 0<=1-w.h.s;omega,by show 1-w.h.s<=1;omega⟩⟩
  rw[Wi q];exact⟨rfl,rfl,rfl,.inl rfl⟩
 .have K:=L.hd k k0 aa aa;have r:=(K.k2 kk).2.2;by_cases A:k=i
  .subst A;have f:=run k k0;have g:=run (k+m) aa;have Z:∀x,k<x->x<=k+m->(pg w.h.p x).k=3:=λx y hxm=>by have:=(r (x-k) aa aa).1;rwa[show k+(x-k)=x by omega]at this
   rcases f with f|⟨_,f⟩
   .omega
   rcases g with g|⟨g,_⟩
   .rw[f,g.2.2.2,Wm rfl]
   exact absurd ⟨aa,Y,Z⟩ g
  have f:=run k k0;have g:=run (k+m) aa;have t:=r m V W;rcases f with f|⟨_,f⟩
  .have:=f.2.2.1 k f.1 aa;omega
  rw[Wi A]at f;rcases g with g|⟨_,g⟩
  .by_cases hlt:k<i
   .have:=(r (i-k) aa aa).1;rw[show k+(i-k)=i by omega]at this;omega
   have:=g.2.2.1 k aa aa;omega
  by_cases B:k+m=i
  .rw[B]at t;omega
  rw[Wi B]at g;rw[f,g];exact t.2.1
 .rcases run j G with⟨E,J,z,b⟩|⟨a,b⟩
  .have:=z j E aa;omega
  rw[b,Wi (λe=>by rw[e]at H;omega)];exact H
 grind
def Xj3{w w':Ww}(A:OF h0.c w.h.p)(D:0<=w.h.s/\w.h.s<=1)(B:∀j∈w.t,(pg w.h.p j).k=1){n at_ j u:Int}(O:0<=n)(o:OC h0 w n w' at_ j u):OX h0 w w'.h.p w'.t:=by
 have r:=o.rng;have t:=o.this;have f:=o.fit;have E:(pg w.h.p j).k=0\/(pg w.h.p j).k=1:=by rcases o.way with g|g;exact .inr (B j g.1);exact .inl g.1
 have hb:=A.hd j r.1 r.2 aa;have G:=hb.sp;have H:=hb.pn;refine⟨XbC A o.plen (λi v I=>?_) λi m v z J K R=>?_,λi v z=>?_,λi v I z y=>?_⟩
 .by_cases q:i=j
  .subst q;rcases o.sp with g|g
   .omega
   omega
  rw[o.other i v q];omega
 .have tl:=((A.hd i v aa aa).k2 z).2.2 m J K;have L:i≠j:=λe=>by rw[e]at z;omega
  have M:i+m≠j:=λe=>by rw[e]at tl;omega
  rw[o.other i v L,o.other (i+m) aa M];omega
 .by_cases q:i=j
  .simp_all
  rw[o.other i v q];omega
 have q:i≠j:=by
  rintro rfl;rcases o.way with g|g
  .rw[g.2.1]at y;exact y g.1
  rw[g.2.1]at y;simp at y
 refine⟨o.other i v q,λh=>y ?_⟩;rcases o.way with g|g<;>rw[g.2.1]
 .exact h
 simp_all
def Oz.pages{w:Ww}(e:Oz h0 l w){f:List Ws}(h:OX h0 w f w.t):Oz h0 l {w with h:={w.h with p:=f}}:=
 ⟨e.q,e.old,e.fw,e.ws,e.ss.trans h.ss,λi g j=>h.kd i g (e.k1 i g j),λi hp=>by
  have:=Oz.prm (w':={w with h:={w.h with p:=f}}) h rfl rfl rfl hp
  rw[this.2];exact e.pr i this.1,λb hb hp=>e.hw b hb (Oz.prm (w':={w with h:={w.h with p:=f}}) h rfl rfl rfl hp).1,e.bm,e.ol⟩
def XrV(hN:NB N)(R:Start N h0 l){w:Ww}{O:Int->Prop}{s:Int->Int}(z:CI h0 l w)(B:Ox h0 l w O s)(A:Oz h0 l w){a:Int}(ta:tU a):
 (∃r w2,QaL N w a=some r/\r.2.2≠0/\Qa4 N w a=some (0,r.2.2,w2)) \/
 ∃w' to,QaL N w a=some (w',to,0)/\OH h0 l w w' O s/\Oz h0 l w'/\tU to/\(a≠0->to≠0)/\KeepW w w'/\Qa4 N w a=some (to,0,w'):=by
 have hN':=hN;unfold NB at hN';have hb:=R.hb;have hql:=z.ql hb;have htl:=z.tl hb;have hwl:=z.wl hb;have hww:=z.wlen;have hpl:=z.plen;have hsl:=R.st.len;have hspc:=z.spc;have I:=z.conf;have hol:=z.old.length_le;have same:OH h0 l w w O s:=⟨z,⟨O,s,B,λ_ h=>⟨h,rfl⟩⟩,rfl,Uo _⟩
 have kp:KeepW w w:=rfl;have hlp:∀i ps,QbT N w a N i ps=QaP N w a N i ps:=λi ps=>Xs4 w a (λn i ps=>QbT N w a n i ps) (λi ps=>by rfl) (λn i ps=>by rfl) N i ps;rw[Qa4,Xs,QaL];by_cases h1:a=0
 .rw[XC h1,Wb,Wb];grind
 rw[Xk h1,Wa,Wa,Xaf _ _ aa aa,Yx a aa aa,Xa,Xa];cases h2:w.q.contains a with
 |true=>grind
 |false=>
 have hq:=YU h2;rw[Wa,Wa,Xaf _ _ aa aa,Yx a aa aa,Xa,Xa];cases h3:w.o.contains a with
 |false=>simp
 |true=>
 have g:a∈l:=z.old.subset (Yh h3);have hne:l≠[]:=IY g;have hp:=R.prop hne;have hg:=R.good hne;have hat:=R.st.obj.at_ a g;have ep:Qab N h0=some true:=by obtain⟨r,Y,hr⟩:=Xcn hN hb a;rw[R.st.obj.ev a g]at Y;obtain rfl:=WA Y;exact(hr rfl).2.1
 have J:=A.spn hN hb ep;have hwd0:=hp.words;have hpg0:=hp.pages;have hvc:=Xj.1 hp.conf;have L:=hat.rng;have hspr:=hp.space;have⟨_,q0,q1,_⟩:=Yq hp.conf L;obtain⟨o1,o2⟩:Qcy N w.h.c a=some (pgi h0.c a,pgo h0.c a,0)/\wI (wI (pgi h0.c a*w.h.c.W)+pgo h0.c a)=a-4096:=by rw[I];exact Xj2 (N:=N) hp.conf L
 have hin:inW w.h.w a:=by unfold inW;omega
 have hm4:h0.c.p*h0.c.W<=4096:=(XP hp.conf (i:=0) aa aa).2.2;have tw:=Xct A.ws a;have gp:∀n:Nat,1<=n->KX w.h.w (a-4096).toNat n 0=some (wd w.h.w a):=by intro n hn;rw[XcP aa aa aa];unfold wd ix;rw[Wj,Wc aa];simp
 have hof:Qch N w.h.c a=some (pgi h0.c a,pgo h0.c a,0):=by rw[K5,z.conf,hp.conf,Wi ab,Wm L];rfl
 rw[Wh,Wa,Wa,o1,Xa];rw[show((0:Int) != 0)=false from rfl,Wa,Xb aa,o2,Xc (n:=(w.h.w.length:Int)-(a-4096)) aa aa,Wg aa,Wa,Xc (n:=a-4096+1) aa aa,Xb aa,
  gp _ aa,Xa,Xd0 aa tw,Ye hwl,Xa,Wm hin,KJ,Xa]
 rw[show w.h.w.getD (ix a) 0=wd w.h.w a from rfl,KJ,Xa];cases h4:Xbm (wd w.h.w a)with
 |true=>refine .inr ⟨w,_,rfl,same,A,?_,λ_=>A.fw a g h4,kp,rfl⟩;simp[Xs5,tw]
 |false=>
 have Z:=A.old a g hq h4;rw[Wi ab,Wa,Wa,hof,Xa,Xa,Xb aa];rw[show((0:Int) != 0)=false from rfl,Wa,Wg (p:=pgi h0.c a>=_) aa,Wa,Wa];have⟨b,hbp,eb,hb'⟩:=Xf9 (N:=N) (w:=w) (i:=pgi h0.c a) hN htl aa aa J.sp;simp only[Xb (p:=w.h.p.length<=140737488355328) aa];rw[hb',eb,Xa,Xa];cases b with
 |true=>simp only[Wb,QcY,Xb (p:=w.q.length*8<=140737488355328) aa,Xb (p:=(w.q.length+1)*8<=140737488355328) aa,Xa];exact .inr ⟨_,a,rfl,z.push B (B.old a g).1 hq _,A.push Z _,ta,λh=>h,rfl,rfl⟩
 |false=>
 simp only[Wa,Xr (ps:=w.h.p) q0 aa,Xa];by_cases S:(pg w.h.p (pgi h0.c a)).k=2
 .simp only[XC S,Wb,hlp,Xc (n:=pgi h0.c a+1) aa aa,Xb (p:=w.h.p.length*32<=140737488355328) aa];obtain⟨qs,eqs,hqs⟩:=XfJ (N:=N) w a (ps:=w.h.p) aa N (pgi h0.c a+1) _ aa aa aa ((SameK.refl _).set q0 aa (wI (1-w.h.s)) (pg w.h.p (pgi h0.c a)).P);have hrc:=XqQ J aa q0 aa S hqs.1 eqs;simp only[eqs,Xa,QcY,Xb (p:=w.q.length*8<=140737488355328) aa,Xb (p:=(w.q.length+1)*8<=140737488355328) aa];have q:=λrp=>(z.pages hqs).push (B.pages z hqs) (B.old a g).1 hq rp;refine .inr ⟨{w with h:={w.h with p:=qs},q:=w.q++[a],r:=⟨w.r.j,wI (w.r.K+1),w.r.F,w.r.E,w.r.f,w.r.y⟩},a,rfl,⟨(q _).ci,(q _).ob,(q w.r).sc,(q w.r).ql⟩,((A.pages hrc).push Z _),ta,λh=>h,rfl,rfl⟩
 have V:∀x∈l,(pg h0.p (pgi h0.c x)).k=1\/(pg h0.p (pgi h0.c x)).k=2:=λx D=>(R.st.obj.at_ x D).kind;have hpr:∀x∈l,0<=pgi h0.c x:=λx D=>(Yq hp.conf (R.st.obj.at_ x D).rng).2.1;have hk1:(pg h0.p (pgi h0.c a)).k=1:=by
  rcases V a g with h|h
  .omega
  exact absurd (by rw[z.knd a g];omega) S
 have hsz:=hg.sz R.st g hk1;have hso:=(B.old a g).2;have hfit:=B.fit a (B.old a g).1;have H:=XL w.h.w a;have e1:Xw (Zq (wd w.h.w a))=szA w.h.w a:=H.1;simp only[Xk S,Wa,XdM (N:=N) aa tw,ZR,Xa,Z,Y1 (N:=N) aa,XW,e1];rw[show((0:Int) != 0)=false from rfl,Wa,Xb aa,o2,Xc (n:=(w.h.w.length:Int)-(a-4096)) aa aa,Wg aa,Wa,Xc (n:=a-4096+szA w.h.w a) aa aa,Xb aa,Wh,Wa,Xb aa];have eL:(((a-4096+szA w.h.w a).toNat-(a-4096).toNat:Nat):Int)=szA w.h.w a:=aa;have⟨y,ey,hy⟩:=Xdq hN hb hp z (n:=szA w.h.w a) H.2.1 aa;rcases XrS hN hb hp z (n:=szA w.h.w a) H.2.1 aa with⟨r,Y,er2,eg⟩|⟨j,u,ps,tk,rq,Y,eg⟩
 .simp[Y,Xa,er2,W6,Wb,eL,eg]
 have hft:=XuC (N:=N) (c:=h0.c) (c':=w.h.c) I.symm hp.conf aa (cp:=w.r.j) (X:=a-4096) (n:=szA w.h.w a) (i:=j) (u:=u) (ws:=w.h.w) (q:=w.q) (ps:=ps) (λx34 x35 x36 x37 x38 x39=>some (x34,x35,(Ww.mk (Wk.mk w.h.c x37 x38 w.h.s w.h.b) w.o tk x39 w.d (WR.mk x36 w.r.K w.r.F w.r.E w.r.f w.r.y)))) aa aa H.2.1 aa rq.rng.1 (by have:=rq.rng.2;have:=rq.len;omega) rq.fit.1 rq.fit.2 (by have:=rq.len;omega) hql;rw[FT,eL]at hft;rw[Y,Xa,eL,eg,Xa];rw[show((0:Int) != 0)=false from rfl,Wa,Xs];rw[Y]at ey;obtain rfl:=WA ey;have⟨j',u',pq⟩:=hy rfl;have T:=Xj3 J aa (λj hj=>(z.tk j hj).2.2.1) aa pq;have hcp:=λv hv rp=>XmW (n:=szA w.h.w a) hp V hpr z B g rfl H.2.1 pq v hv rp;have⟨i1,i2,aw,fr,aw2,hwd⟩:=XfK (n:=szA w.h.w a) hp z B g rfl H.2.1 pq (wU (wU (4*Xd h0.c j u)+2));have en:szA w.h.w a=(((szA w.h.w a).toNat:Nat):Int):=aa;have hmv:=XfD (N:=N) hwl (Xd h0.c j u) a (szA w.h.w a).toNat aa aa;rw[←en,Wm ⟨i1,i2⟩]at hmv;have ol:=Xbo i1 i2;have hin2:inW (ovr w.h.w ((w.h.w.drop (ix a)).take (szA w.h.w a).toNat) (ix (Xd h0.c j u))) a:=by unfold inW;rw[ol];exact hin
 dsimp only at i1 i2 aw fr aw2 hwd;have hr1:4096<=Xd h0.c j u/\Xd h0.c j u<10000:=by unfold YA at i2;omega
 have⟨f1,f2,f3⟩:=Xgb (v:=Xd h0.c j u) aa aa;have hOa:=(B.old a g).1;have off:∀b,O b->¬(Xd h0.c j u<=b/\b<Xd h0.c j u+szA w.h.w a):=λb hb=>by have:=aw2 b hb;have:=(B.fit b hb).2.1;omega
 have U:∀b,O b->b≠a->wd ((ovr w.h.w ((w.h.w.drop (ix a)).take (szA w.h.w a).toNat) (ix (Xd h0.c j u))).set (ix a) (wU (wU (4*Xd h0.c j u)+2))) b=wd w.h.w b:=λb hb G=>by rw[hwd b (B.fit b hb).1,Wi G,Wi (off b hb)]
 simp only[Wh,Wa];rw[hmv,Xa,Vt,Xa,Wi aa,Z3 (by grind) aa,Xa,Wm hin2,Xb aa,Xb aa];refine .inr ⟨_,Xd h0.c j u,rfl,(hcp _ (Xg8 _ aa aa) _).2.2.2.2,⟨λb hb=>?_,λb hb hbq M=>?_,λb hb M=>?_,λx D=>?_,?_,λi hi hki=>?_,λi hi=>?_,λb hb hbp2=>?_,A.bm,A.ol⟩,⟨aa,aa⟩,λ_=>aa,rfl,hft⟩
 .rcases Wt.1 hb with hb|hb
  .rw[U b (B.queue b hb) (λe=>hq (e▸hb))];exact A.q b hb
  grind
 .by_cases G:b=a
  .grind
  rw[U b (B.old b hb).1 G]at M⊢;exact A.old b hb (λe=>hbq (WT _ e)) M
 .by_cases G:b=a
  .grind
  rw[U b (B.old b hb).1 G]at M⊢;exact A.fw b hb M
 .rcases W0 D with D|D
  .rcases Wt.1 D with D|D
   .rcases Wt.1 D with D|D
    .exact A.ws x (WP D)
    exact A.ws x (WQ (WP D))
   exact A.ws x (WQ D)
  grind
 .exact A.ss.trans T.ss
 .exact T.kd i hi (A.k1 i hi hki)
 .have:=Oz.prm (w':=⟨_,_,_,_,_,_⟩) T rfl rfl rfl hi;rw[this.2];exact A.pr i this.1
 have hpm:=(Oz.prm (w':=⟨_,_,_,_,_,_⟩) T rfl rfl rfl hbp2).1;have G:b≠a:=λe=>by grind
 rw[U b (B.old b hb).1 G];exact A.hw b hb hpm
end
section
variable {N:Nat}
def XpY{t:Iw}{m:Int}(h0:0<=t.at_)(k:t.at_<=m)(o:m<=1000000){a:Int}(q:a<=1000000000):Ok (Qaj N t a) λr=>0<=r.1/\(1<=a->r.1<a)/\0<=r.2.at_/\r.2.at_<=m+1:=by
 refine Wq (λ_=>We ⟨ab,λh=>aa,h0,by grind⟩) λf=>?_;have f:=WV f;have rest:∀x:Int,Ok (grd (a≠0) <| grd (a≠0) <| some (((wI ((x.tmod a)+a)).tmod a),(Iw.mk t.L (wI (t.at_+1))))) λr=>0<=r.1/\(1<=a->r.1<a)/\0<=r.2.at_/\r.2.at_<=m+1:=by
  intro x;have s:=Int.tmod_lt_of_pos x (show 0<a by omega);have b2:-a<x.tmod a:=by have:=Int.tmod_lt_of_pos (-x) (show 0<a by omega);rw[Int.neg_tmod]at this;omega
  have e:=Xc (n:=x.tmod a+a) aa aa;have g:=Xc (n:=t.at_+1) aa aa;have c1:=Int.tmod_lt_of_pos (x.tmod a+a) (show 0<a by omega);have j:=Int.tmod_nonneg a (show 0<=x.tmod a+a by omega);refine Uc aa (Uc aa (We ?_));simp only[e,g];exact⟨j,λ_=>c1,aa,aa⟩
 refine Im (Wq (λh=>Ok.get h0 (Wy h) λp _=>rest p) λ_=>rest _)
def TA(m:Int)(t:Iw):Prop:=0<=t.at_/\t.at_<=m
def nxp{t:Iw}{m a:Int}(h:TA m t)(g:m<=1000000)(e:1<=a)(j:a<=1000000000):Ok (Qaj N t a) λr=>0<=r.1/\r.1<a/\TA (m+1) r.2:=(XpY h.1 h.2 g j).mono λr f=>⟨f.1,f.2.1 e,f.2.2⟩
def TA.le{t:Iw}{m n:Int}(h:TA m t)(e:m<=n):TA n t:=⟨h.1,by have:=h.2;omega⟩
def XaA{p:Io}{t:Iw}{m:Int}(hw:1<=p.w.length)(D:p.w.length<=1000)(h:TA m t)(G:m+5<=1000000):Ok (Qb4 N p t) λr=>TA (m+3) r.2:=by
 have k2:∀(k:Iw) (o:Bool),TA (m+1) k->Ok (bif o then(bnd (Qaj N k (p.w.length:Int)) λv=>bnd (Xe p.w v.1) λq=>some (q,v.2))else bnd (Qaj N k (if 6<(p.w.length:Int)then 6 else(p.w.length:Int))) λg=>bnd (Xe p.w (wI ((wI ((p.w.length:Int)-1))-g.1))) λs=>some (s,g.2)) λr=>TA (m+3) r.2:=by
  intro k o A;refine Wq (λ_=>Uw (nxp A aa aa aa) λy e=>Ok.get e.1 e.2.1 λ_ _=>We (e.2.2.le aa)) λ_=>?_;refine Uw (nxp A aa aa aa) λy e=>?_;have H:y.1<(p.w.length:Int):=by have:=e.2.1;split at this<;>omega
  have h0:=e.1;rw[Xc (n:=(p.w.length:Int)-1) aa aa,Xc (n:=(p.w.length:Int)-1-y.1) aa aa];exact Ok.get aa aa λ_ _=>We (e.2.2.le aa)
 refine Uw (nxp h aa aa aa) λy e=>Wq (λ_=>Uw (nxp e.2.2 aa aa aa) λz f=>Ok.get f.1 f.2.1 λ_ _=>We (f.2.2.le aa)) λ_=>Wq (λ_=>?_) λ_=>?_
 .exact Uw (nxp e.2.2 aa aa aa) λz f=>Ok.get f.1 f.2.1 λ_ _=>Uw (nxp f.2.2 aa aa aa) λu E=>We (E.2.2.le aa)
 refine Oj (λo=>k2 _ o e.2.2) λI B=>Uv (B _) (Oj (λJ=>B _) λj h=>Uv (h _) (h _))
def XpZ{p:Io}{t:Iw}{m:Int}(hw:1<=p.w.length)(f:p.w.length<=1000)(h:TA m t)(R:m+30<=1000000):Ok (Qc2 N p t) λr=>TA (m+20) r.2:=by
 refine Uw (nxp h aa aa aa) λS g=>Ok.get g.1 g.2.1 λB _=>Wq (λ_=>?_) λ_=>?_
 .refine Uw (nxp g.2.2 aa aa aa) λo A=>?_;have e:=Xp A.1 aa;refine Uc aa ?_;have T:1<=ZO .i64 1 (wU o.1)/\ZO .i64 1 (wU o.1)<=1000:=by rw[e];have a:=A.1;have b:=A.2.1;have c:o.1=0\/o.1=1\/o.1=2\/o.1=3:=aa;rcases c with c|c|c|c<;>rw[c]<;>decide
  exact Uw (nxp A.2.2 aa aa aa) λU I=>We (I.2.2.le aa)
 refine Oj (λV=>Wq (λ_=>?_) λ_=>Wq (λ_=>?_) λ_=>?_) λj h=>Uv (h _) (h _)
 .exact Uw (nxp g.2.2 aa aa aa) λW J=>Uw (nxp J.2.2 aa aa aa) λY H=>Uv (Uw (nxp H.2.2 aa aa aa) λZ K=>We (K.2.2.le aa)) (We (H.2.2.le aa))
 .exact Uw (nxp g.2.2 aa aa aa) λy9 L=>We (L.2.2.le aa)
 refine Uw (XaA hw f g.2.2 aa) λq D=>Uw (nxp D aa aa aa) λE G=>Uw (nxp G.2.2 aa aa aa) λM s=>?_;have k:∀(l:List Int) (at_ c:Int),TA (m+12) ⟨l,at_⟩->Ok (bif (B==10)then(bnd (Qb4 N p (Iw.mk l at_)) λu=>
  some ((Ot.mk B q.1 u.1 c),u.2))
 else some ((Ot.mk B q.1 (wU E.1) c),(Iw.mk l at_))) λr=>TA (m+20) r.2:=λl at_ c ht=>
  Uv (Uw (XaA hw f ht aa) λy v=>We (v.le aa)) (We (ht.le aa))
 refine Im (Uv (Uw (XaA hw f s.2.2 aa) λy v=>k _ _ _ (v.le aa)) (Uw (nxp s.2.2 aa aa aa) λO z=>Uv (Uw (XaA hw f z.2.2 aa) λy v=>k _ _ _ (v.le aa)) (k _ _ _ (z.2.2.le aa))))
structure PB(k:Nat)(p:Io):Prop where
 env:EB p.N
 wor:WB k p.z
 ty:K0 p
 w1:1<=p.w.length
 w2:p.w.length<=k+1
def Xnx(a b:W3)(op v e:Int):Ok (QeX N a b op v e) λ_=>True:=by
 have k2:∀x y:Bool,Ok (bif (op==19)then(bif (e==0)then some (Oy.mk x y v)
  else some (Oy.mk x y 0))
  else some (Oy.mk x y 0)) λ_=>True:=λx y=>Uv (Uv (We trivial) (We trivial)) (We trivial)
 refine Oj (λx=>Oj (λy=>k2 x y) λj h=>Uv (h _) (h _)) λj h=>Uv (h _) (Uv (h _) (h _))
def Xs6(hN:NB N){k:Nat}{p:Io}(hp:PB k p)(o:k+1<=900){d:Ot}(j:VZ d):Ok (Qb1 N p d) λr=>PB (k+1) r.1:=by
 have ty:=λr (e:Qb1 N p d=some r)=>QjM (N:=N) hp.ty j r e;have main:Ok (Qb1 N p d) λr=>EB r.1.N/\WB (k+1) r.1.z/\1<=r.1.w.length/\r.1.w.length<=k+1+1:=by
  have w1:=hp.w1;have w2:=hp.w2;have up:=hp.wor.up o;rw[Qb1];refine Wq (λ_=>?_) λ_=>?_
  .refine Uw (V3 hN hp.env) λB v=>Im (Uv (Uw (V6 hN hp.wor hp.ty.2.1) λD y=>We ⟨v,y.up o,w1,IN w2⟩) (We ⟨hp.env,up,w1,IN w2⟩))
  refine WI (Xm7 hN hp.env _ _ _ _) λf A g=>Uw (Xnx _ _ _ _ _) λq _=>Uw (Xhr hN hp.wor o hp.ty.2.1 d.Op j.1 j.2.1 j.2.2 q) λs u=>?_;have k2:∀w:WM,WB (k+1) w->Ok (α:=Io×Int×Int) (bif (f.2.2==0)then(bif (f.2.1 != 0)then(grd (p.w.length*8<=140737488355328) <| grd ((p.w.length+1)*8<=140737488355328) <| some ((Io.mk f.1 w (p.w++[f.2.1])),f.2.1,f.2.2))else some ((Io.mk f.1 w p.w),f.2.1,f.2.2))else some ((Io.mk p.N w p.w),f.2.1,f.2.2)) λr=>EB r.1.N/\WB (k+1) r.1.z/\1<=r.1.w.length/\r.1.w.length<=k+1+1:=by
   intro w hw;refine Uv (Uv (Uc aa (Uc aa (We ⟨g,hw,?_,?_⟩))) (We ⟨g,hw,w1,by grind⟩)) (We ⟨hp.env,hw,w1,by grind⟩)
   .simp
   simp_all
  exact Im (Uv (k2 s.1 u) (k2 p.z up))
 have⟨r,e,h⟩:=main;exact⟨r,e,h.1,h.2.1,(ty r e).1,h.2.2.1,h.2.2.2⟩
end
section
variable {N:Nat}
def Xlp{t:Iw}{m:Int}(h:TA m t)(g:m+5<=1000000):Ok (Qft N t) λr=>TA (m+2) r.2:=by exact Uw (nxp h aa aa aa) λy e=>Ok.get e.1 e.2.1 λ_ _=>Uw (nxp e.2.2 aa aa aa) λz f=>Ok.get f.1 f.2.1 λ_ _=>We (f.2.2.le aa)
def Xny(c:WN):Ok (Qe4 N c) λr=>EB r.1:=by
 rw[Qe4,Qgj,Zu,Xa];refine WI (Q:=λr:Wk×Int=>HB r.1) ?_ λy _ g=>We ⟨g,Z4,Xbq,Xbq,ab,ab⟩;refine Wq (λ_=>We KC) λf=>?_;have f:X9 c=true:=by simpa using f
 have h:=Xj.1 f;have j:=XP f (i:=0) aa aa;have e:=Xc (n:=c.p*c.W) aa aa;refine Uc aa (Uc aa (We ⟨?_,?_⟩))
 .rw[WY,e];omega
 grind
def XhI(c:WN):Ok (Qgk N c) λr=>WB 0 r.1:=by
 rw[Qgk,Zu,Xa];have z:∀c:WN,WB 0 ⟨c,[],zL,zT,zT,[],[]⟩:=λc=>⟨aa,ab,λx e=>by simp_all,Z4,by simp[zT],by simp[zT],ab,ab⟩
 exact Uv (We (z _)) (We (z _))
def Xnz{t:Iw}{m:Int}(h:TA m t)(o:m+5<=1000000):Ok (Qbq N t) λr=>PB 0 r.1/\TA (m+3) r.2:=by
 have main:Ok (Qbq N t) λr=>EB r.1.N/\WB 0 r.1.z/\1<=r.1.w.length/\r.1.w.length<=1/\TA (m+3) r.2:=by rw[Qbq];refine Uw (Xlp h o) λq j=>Uw (Xny _) λs g=>Uw (XhI _) λu f=>Uw (nxp j aa aa aa) λv k=>We ⟨⟨g.heap,⟨g.loc.1,ab,g.loc.2.2⟩,g.glo,g.wea,g.pins,g.roots⟩,⟨f.kk,f.things,f.fields,⟨f.loc.1,ab,f.loc.2.2⟩,f.gloK,f.weaK,f.marksK,f.rootsK⟩,ab,ab,k.2.2.le aa⟩
 have⟨r,e,j,g,f,k,p⟩:=main;exact⟨r,e,⟨j,g,Qh6 r e,f,k⟩,p⟩
end
section
variable {N:Nat}{h:Wk}{i:Int}{l:List Int}
def XcR(hN:NB N){h:Wk}(hb:HB h)(ep:Qab N h=some true){a:Int}(f:Iz h a):Qal N h a=some (hdA h.w a,0):=by
 have hp:=XJ hN hb ep;have j:=f.rng;have⟨_,o,s,v,y⟩:=Yq hp.conf j;have q:=hp.pages;have hw:=hp.words;have e:=f.kind;have z:=f.used;have g:=XL h.w a;have A:=Xj.1 hp.conf;have r:Xw (Zq (wd h.w a))=szA h.w a:=g.1;rw[Qal,ep,Xa,Wh,Wa,K5,hp.conf,Wi ab,Wm j,Xa];rw[show(a-4096) / h.c.W=pgi h.c a from rfl,show(a-4096) % h.c.W=pgo h.c a from rfl];rw[Xr o aa,Xa,Ye (by have:=hb.1;unfold BIG;omega),Xa,Wm (by unfold inW;omega),ZR,Xa,Xs,XW,Xa];rw[show h.w.getD (ix a) 0=wd h.w a from rfl,f.ok,r,Wg (show¬pgo h.c a>=(pg h.p (pgi h.c a)).u by omega),Wh];rcases e with e|e
 .have:=f.small e;rw[show((pg h.p (pgi h.c a)).k != 1)=false by grind,Wa,XC e,Wb,Xc (n:=pgo h.c a+szA h.w a) aa aa,Wg aa,Wa,show((pg h.p (pgi h.c a)).k==2)=false by grind,Wa];rfl
 have:=f.large e;rw[show((pg h.p (pgi h.c a)).k != 1)=true by grind,Wb,show((pg h.p (pgi h.c a)).k != 2)=false by grind,Wa,Xk aa,Wa,XC e,Wb,this.1,this.2];simp;rfl
def Chn(ws:List Int):Int->List Int->Int->Prop
 |p,[],q=>p=q
 |p,a::l,q=>a=p/\okH (wd ws a)=true/\Chn ws (a+szA ws a) l q
def Chn.le{ws:List Int}:∀{l:List Int} {p q:Int},Chn ws p l q->p<=q/\∀a∈l,p<=a/\a+szA ws a<=q/\okH (wd ws a)=true
 |[],p,q,h=>⟨by have:p=q:=h;omega,ab⟩
 |a::l,p,q,⟨e,f,h⟩=>by have⟨g,j⟩:=h.le;have:=(XL ws a).2.1;grind
def Chn.pw{ws:List Int}:∀{l:List Int} {p q:Int},Chn ws p l q->l.Pairwise λa b=>a+szA ws a<=b
 |[],_,_,_=>.nil
 |a::l,p,q,⟨_,_,h⟩=>U0.2 ⟨λb hb=>(h.le.2 b hb).1,h.pw⟩
def Chn.len{ws:List Int}:∀{l:List Int} {p q:Int},Chn ws p l q->p+l.length<=q
 |[],p,q,h=>by have:p=q:=h;simp_all
 |a::l,p,q,⟨e,_,h⟩=>by have:=h.len;have:=(XL ws a).2.1;grind
def Chn.app{ws:List Int}:∀{l m:List Int} {p q r:Int},Chn ws p l q->Chn ws q m r->Chn ws p (l++m) r
 |[],m,p,q,r,h,f=>by have:p=q:=h;simp_all
 |a::l,m,p,q,r,⟨e,g,h⟩,f=>⟨e,g,h.app f⟩
def Chn.congr{ws vs:List Int}:∀{l:List Int} {p q:Int},Chn ws p l q->(∀a∈l,wd vs a=wd ws a)->Chn vs p l q
 |[],_,_,h,_=>h
 |a::l,p,q,⟨e,j,h⟩,hw=>by
  have f:=hw a ab;have g:szA vs a=szA ws a:=by unfold szA hdA;rw[f]
  exact⟨e,by simp_all,by rw[g];exact h.congr λb hb=>hw b (WZ _ hb)⟩
structure Ou(h:Wk)(i:Int)(l:List Int):Prop where
 none:(pg h.p i).k=0\/(pg h.p i).k=3->l=[]
 small:(pg h.p i).k=1->Chn h.w (Xd h.c i 0) l (Xd h.c i (pg h.p i).u)
 large:(pg h.p i).k=2->l=[Xd h.c i 0]/\okH (wd h.w (Xd h.c i 0))=true/\szA h.w (Xd h.c i 0)=(pg h.p i).u
def Xd1(hp:Uy h)(h0:0<=i)(f:i<h.p.length)(g:(pg h.p i).k=1){o:Int}(j:0<=o)(e:okH (wd h.w (Xd h.c i o))=true)(r:o+szA h.w (Xd h.c i o)<=(pg h.p i).u):Iz h (Xd h.c i o):=by have s:=(hp.pgs i h0 f).small g;have v:=XL h.w (Xd h.c i o);have q:=hp.pages;have⟨y,z⟩:=YD (c:=h.c) hp.conf (p:=i) (o:=o) j aa;have A:=XP hp.conf h0 aa;refine⟨by unfold Xd;omega,by simp_all,e,by grind,λ_=>by simp_all,λh=>by simp_all⟩
def Xd2(hp:Uy h)(h0:0<=i)(g:i<h.p.length)(j:(pg h.p i).k=2)(e:okH (wd h.w (Xd h.c i 0))=true)(q:szA h.w (Xd h.c i 0)=(pg h.p i).u):Iz h (Xd h.c i 0):=by have r:=XL h.w (Xd h.c i 0);have f:=hp.pages;have s:=Xj.1 hp.conf;have⟨v,y⟩:=YD (c:=h.c) hp.conf (p:=i) (o:=0) aa aa;have z:=XP hp.conf h0 aa;refine⟨by unfold Xd;omega,by simp_all,e,by grind,λh=>by simp_all,λ_=>by simp_all⟩
def Xj4(hN:NB N)(hb:HB h)(ep:Qab N h=some true)(h0:0<=i)(g:i<h.p.length)(j:(pg h.p i).k=1):∀(n:Nat) (o:Int) (v t:List Int),0<=o->o<=64->(65-o).toNat<n->(v.length:Int)<=o->Chn h.w (Xd h.c i o) t (Xd h.c i (pg h.p i).u)->Qah N h i (pg h.p i) n o v=some (.nxt (v++t))
 |0,o,v,t,_,_,r,_,_=>by omega
 |n+1,o,v,t,s,H,r,I,f=>by
  have hp:=XJ hN hb ep;have J:=(hp.pgs i h0 g).small j;have y:=hp.pages;have z:=Xj.1 hp.conf;rw[Qah];cases t with
  |nil=>have e:Xd h.c i o=Xd h.c i (pg h.p i).u:=f;unfold Xd at e;simp_all
  |cons a t=>
   obtain⟨rfl,q,f⟩:=f;have A:=f.le.1;have B:=XL h.w (Xd h.c i o);have D:Xd h.c i o=4096+i*h.c.W+o:=rfl;have K:Xd h.c i (pg h.p i).u=4096+i*h.c.W+(pg h.p i).u:=rfl;have E:o+szA h.w (Xd h.c i o)<=(pg h.p i).u:=aa;have G:=Xd1 hp h0 g j s q E;rw[Wd (show o<(pg h.p i).u by omega),Wb,ZT,hp.conf,Xa,Wi ab,Wm aa];simp only[XcR hN hb ep G,Xa,show((0:Int) != 0)=false from rfl,Wa];rw[Xb aa,show((pg h.p i).k==2)=false by simp_all,Wa,XW,Xa,B.1,Xc aa aa];have e:Xd h.c i o+szA h.w (Xd h.c i o)=Xd h.c i (o+szA h.w (Xd h.c i o)):=by rw[D];unfold Xd;omega
   rw[e]at f;rw[Xj4 hN hb ep h0 g j n _ _ t aa aa aa (by grind) f,Ud];rfl
def Qhc(hN:NB N)(hb:HB h)(ep:Qab N h=some true)(h0:0<=i)(e:i<h.p.length)(p:Ou h i l):Qag N h i=some (l,0):=by
 have hp:=XJ hN hb ep;have j:=(hp.pgs i h0 e).kind;have f:=hN;unfold NB at f;rw[Qag,ep,Xa,Wh,Wa,Wg aa,Wa,Wg aa,Wa,Xr h0 e,Xa];by_cases k0:(pg h.p i).k=0
 .rw[p.none (.inl k0),k0];rfl
 by_cases g:(pg h.p i).k=3
 .rw[p.none (.inr g),g];rfl
 rw[Xk k0,Xk g,Wa,Wa];by_cases k1:(pg h.p i).k=1
 .rw[Xj4 hN hb ep h0 e k1 N 0 [] l aa aa aa ab (p.small k1),Xa,Xo];rfl
 have k2:(pg h.p i).k=2:=aa;obtain⟨rfl,o,q⟩:=p.large k2;have r:=Xd2 hp h0 e k2 o q;have u:=XL h.w (Xd h.c i 0);have s:=hp.pages;have v:=Xj.1 hp.conf;obtain⟨n,rfl⟩:∃n,N=n+1:=⟨N-1,aa⟩
 rw[Qah,Wd aa,Wb,ZT,hp.conf,Xa,Wi ab,Wm aa];simp only[XcR hN hb ep r,Xa,show((0:Int) != 0)=false from rfl,Wa];rw[Xb ab,k2];simp[Xa,Xo]
def Xd3(hN:NB N)(hb:HB h)(ep:Qab N h=some true)(h0:0<=i)(q:i<h.p.length)(s:(pg h.p i).k=1):∀(n:Nat) (o:Int) (v r:List Int),0<=o->o<=(pg h.p i).u->Qah N h i (pg h.p i) n o v=some (.nxt r)->∃t,r=v++t/\Chn h.w (Xd h.c i o) t (Xd h.c i (pg h.p i).u)
 |0,o,v,r,_,_,e=>by simp_all[Qah]
 |n+1,o,v,r,B,M,e=>by
  have hp:=XJ hN hb ep;have O:=(hp.pgs i h0 q).small s;have D:=hp.pages;have E:=Xj.1 hp.conf;have G:Xd h.c i o=4096+i*h.c.W+o:=rfl;have R:Xd h.c i (pg h.p i).u=4096+i*h.c.W+(pg h.p i).u:=rfl;rw[Qah]at e;by_cases f:o<(pg h.p i).u
  .rw[Wd f,Wb,ZT,hp.conf,Xa,Wi ab,Wm aa]at e;have⟨y,H,I⟩:=Xcn hN hb (Xd h.c i o);simp only[H,Xa]at e;by_cases z:y.2=0;case neg=>grind
   have⟨_,_,g,hd⟩:=I z;rw[z,show((0:Int) != 0)=false from rfl,Wa]at e;by_cases J:(v.length+1)*8<=140737488355328;case neg=>unfold grd at e;simp_all
   have j:=XL h.w (Xd h.c i o);have⟨K,L⟩:=YD (c:=h.c) hp.conf (p:=i) (o:=o) B aa;have A:=g.small (by simp_all);rw[K,L]at A;rw[Xb J,show((pg h.p i).k==2)=false by simp_all,Wa,hd,XW,Xa,j.1,Xc aa aa]at e;obtain⟨t,rfl,S⟩:=Xd3 hN hb ep h0 q s n _ _ r aa A e;have T:Xd h.c i o+szA h.w (Xd h.c i o)=Xd h.c i (o+szA h.w (Xd h.c i o)):=by rw[G];unfold Xd;omega
   exact⟨Xd h.c i o::t,ab,rfl,g.ok,by simp_all⟩
  rw[Wg f,Wa]at e;obtain rfl:=Ex.nxt.inj (WA e);exact⟨[],ab,by show _=_;omega⟩
def Xgc(hN:NB N)(hb:HB h)(ep:Qab N h=some true)(h0:0<=i)(g:i<h.p.length)(e:Qag N h i=some (l,0)):Ou h i l:=by
 have hp:=XJ hN hb ep;have B:=(hp.pgs i h0 g).small;have⟨r,D,G⟩:=QkO hN hb i;rw[e]at D;obtain rfl:=WA D;have⟨⟨w,_,_⟩,_,_⟩:=G.2.2 hp;rw[Qag,ep,Xa,Wh,Wa,Wg aa,Wa,Wg aa,Wa,Xr h0 g,Xa]at e;refine⟨λk=>?_,λk1=>?_,λk2=>?_⟩
 .grind
 .rw[k1,show((1:Int)==0)=false from rfl,show((1:Int)==3)=false from rfl,Wa,Wa]at e;cases j:Qah N h i (pg h.p i) N 0 []with
  |none=>simp_all[j,KH]
  |some x=>
   rw[j,Xa]at e;cases x with
   |ret a=>
    have q:=(QkN hN hb hp h0 g (.inl k1) N 0 [] aa (by unfold NB at hN;omega) ⟨⟨ab,ab,ab⟩,λa s=>by simp at s,ab,ab⟩ (λk=>(B k).1) (λ_=>rfl))
    have⟨z,E,f⟩:=q;rw[j]at E;obtain rfl:=WA E;have f:a=([],19):=f;simp_all[XA,f]
   |nxt v=>
    rw[Xo]at e;obtain rfl:v=l:=by simpa using e
    obtain⟨t,rfl,L⟩:=Xd3 hN hb ep h0 g k1 N 0 [] _ aa (B k1).1 j;omega
 have M:=Xj.1 hp.conf;have H:=hp.pages;obtain⟨n,rfl⟩:∃n,N=n+1:=⟨N-1,by unfold NB at hN;omega⟩
 rw[Qah]at e;have I:=(hp.pgs i h0 g).large k2;have A:0<(pg h.p i).u:=by
  apply Classical.byContradiction;intro O;have:XF h.c (pg h.p i).u = -1:=by unfold XF;rw[Wi aa]
  omega
 rw[Wd A,Wb,ZT,hp.conf,Xa,Wi ab,Wm aa]at e;have⟨y,J,R⟩:=Xcn hN hb (Xd h.c i 0);simp only[J,Xa]at e;by_cases f:y.2=0;case neg=>simp_all[Xl,f,Wb,Xa,XA]
 rw[f,show((0:Int) != 0)=false from rfl,Wa,Xb ab,k2,show((2:Int)==2)=true from rfl,Wb,Xa,Xo]at e;obtain rfl:[Xd h.c i 0]=l:=by simp_all
 have s:=w _ (Ui.2 rfl);have⟨K,S⟩:=YD (c:=h.c) hp.conf (p:=i) (o:=0) aa aa;have:=s.large (by simp_all);rw[K]at this;exact⟨rfl,s.ok,this.2⟩
end
def Stt(h:Wk)(a:Int):Prop:=∃i l,0<=i/\i<(h.p.length:Int)/\Ou h i l/\a∈l
def Obb(h:Wk)(a:Int):Prop:=Stt h a/\(hdA h.w a).k≠0
def Xcw(h:Wk)(i a:Int):Prop:=((pg h.p i).k=1->szA h.w a<=smC h.c)/\((pg h.p i).k=2->(hdA h.w a).k≠0)
def K2(p:Ws):Bool:=p.k==1&&decide (p.P>0)
structure GX(N:Nat)(h:Wk):Prop where
 ep:Qab N h=some true
 ps:∀i,0<=i->i<(h.p.length:Int)->∃l,Ou h i l
 sp:∀i,0<=i->i<(h.p.length:Int)->(pg h.p i).k≠0->(pg h.p i).s=h.s
 cl:∀i l,0<=i->i<(h.p.length:Int)->Ou h i l->∀a∈l,Xcw h i a
 dt:∀x,4096<=x->wd h.w x≠0->∃a,Stt h a/\a<=x/\x<a+KB h a
 pt:∀a,Obb h a->∀j∈X5 (hdA h.w a),wd h.w (a+1+j)=0\/Obb h (wd h.w (a+1+j))
 cr:((h.p.countP K2:Nat):Int)<=h.c.p / 4
section
variable {N:Nat}{h:Wk}
def Chn.fn{ws:List Int}:∀{l m:List Int} {p q:Int},Chn ws p l q->Chn ws p m q->l=m
 |[],[],_,_,_,_=>rfl
 |[],b::m,p,q,f,g=>by have e:p=q:=f;have:=g.len;grind
 |a::l,[],p,q,f,g=>by have e:p=q:=g;have:=f.len;grind
 |a::l,b::m,p,q,⟨j,_,f⟩,⟨k,_,g⟩=>by subst j;subst k;rw[f.fn g]
def Ou.fn{i:Int}{l m:List Int}(e:0<=(pg h.p i).k/\(pg h.p i).k<=3)(p:Ou h i l)(q:Ou h i m):l=m:=by
 by_cases k1:(pg h.p i).k=1
 .exact(p.small k1).fn (q.small k1)
 by_cases k2:(pg h.p i).k=2
 .rw[(p.large k2).1,(q.large k2).1]
 rw[p.none aa,q.none aa]
def Ou.at_(hp:Uy h){i:Int}{l:List Int}(h0:0<=i)(e:i<h.p.length)(p:Ou h i l){a:Int}(f:a∈l):Iz h a/\pgi h.c a=i:=by
 have s:=(hp.pgs i h0 e).kind;have v:=Xj.1 hp.conf;have g:∀o,Xd h.c i o=4096+i*h.c.W+o:=λ_=>rfl;by_cases k1:(pg h.p i).k=1
 .have c:=p.small k1;have y:=(hp.pgs i h0 e).small k1;have⟨c1,j⟩:=c.le;have⟨g1,g2,g3⟩:=j a f;have z:=XL h.w a;have A:=g 0;have B:=g (pg h.p i).u;obtain⟨o,rfl⟩:∃o,a=Xd h.c i o:=⟨a-Xd h.c i 0,by grind⟩
  have D:=g o;exact⟨Xd1 hp h0 e k1 aa g3 aa,(YD hp.conf aa aa).1⟩
 by_cases k2:(pg h.p i).k=2
 .obtain⟨rfl,q,r⟩:=p.large k2;rw[Ui.1 f];exact⟨Xd2 hp h0 e k2 q r,(YD hp.conf aa aa).1⟩
 rw[p.none aa]at f;grind
def Stt.at_(hp:Uy h){a:Int}(s:Stt h a):Iz h a:=by have⟨i,l,h0,e,p,f⟩:=s;exact(p.at_ hp h0 e f).1
def Stt.pars(hp:Uy h){a:Int}(s:Stt h a):∃l,Ou h (pgi h.c a) l/\a∈l:=by have⟨i,l,h0,e,p,f⟩:=s;have:=(p.at_ hp h0 e f).2;grind
def XhJ(hN:NB N){i:Int}(h0:0<=i)(o:i<h.p.length)(l:List Int)(r:l.length<=4096)(g:∀a∈l,Iz h a)(j:∀a∈l,Qal N h a=some (hdA h.w a,0)):∀(n k:Nat),k<=l.length->l.length-k<n ->
 ∃e,QaW N h i l n (k:Int)=some e/\((∀a∈l.drop k,Xcw h i a)->e=.nxt ())/\((¬∀a∈l.drop k,Xcw h i a)->∃a,e=.ret a/\a≠0)
 |0,k,_,s=>by omega
 |n+1,k,y,s=>by
  rw[QaW];by_cases f:k<l.length;case neg=>rw[Wg aa,Wa,Ub aa];exact⟨_,rfl,λ_=>rfl,λe=>absurd ab e⟩
  have q:=WG f;have⟨e,z,A,e3⟩:=XhJ hN h0 o l r g j n (k+1) aa aa;have u:l[k]≠0:=by have:=(g _ q).rng;omega
  have v:=(XL h.w l[k]).1;simp only[Wd (show(k:Int)<(l.length:Int) by omega),Wb,Xf,Wc f,Xa,j _ q,XW,XgZ,Xr h0 o,Xg (show k<=140737488355328 by omega),v];rw[Wo f];have B:Xcw h i l[k]↔((pg h.p i).k=1->szA h.w l[k]<=smC h.c)/\((pg h.p i).k=2->(hdA h.w l[k]).k≠0):=Iff.rfl;grind
def HeadP(h:Wk)(i r:Int):Prop:=0<=r/\r<=i/\(pg h.p r).k≠3/\∀m,r<m->m<=i->(pg h.p m).k=3
def HeadP.fn{i r s:Int}(a:HeadP h i r)(b:HeadP h i s):r=s:=by
 apply Classical.byContradiction;intro f;by_cases e:r<s
 .exact b.2.2.1 (a.2.2.2 s e b.2.1)
 exact a.2.2.1 (b.2.2.2 r aa a.2.1)
def Xgd(g:(pg h.p 0).k≠3)(j:h.p.length<=100000):∀(n:Nat) (i:Int),0<=i->i<h.p.length->i.toNat<n->∃r,QcV N h n i=some r/\HeadP h i r
 |0,i,_,_,o=>by omega
 |n+1,i,h0,q,o=>by
  rw[QcV,Xr h0 q,Xa];by_cases f:(pg h.p i).k=3
  .have:i≠0:=by rintro rfl;exact g f
   rw[XC f,Wb,Xc aa aa];obtain⟨r,e,s,y,u,z⟩:=Xgd g j n (i-1) aa aa aa;refine⟨r,e,s,aa,u,λm v w=>?_⟩;grind
  rw[Xk f,Wa];exact⟨i,rfl,h0,aa,f,λm v w=>aa⟩
structure Sb(N:Nat)(h:Wk)(i:Int):Prop where
 sp:(pg h.p i).k≠0->(pg h.p i).s=h.s
 ps:∃l,Ou h i l/\∀a∈l,Xcw h i a
 dt:∀r,HeadP h i r->∀l c,Qag N h r=some (l,c)->∀j:Nat,(j:Int)<h.c.W->Xlh h i l (j:Int)=false->wdP h i j=0
def XrW(hN:NB N)(hb:HB h)(hp:Uy h){i:Int}(h0:0<=i)(g:i<h.p.length):∃a,Qer N h i=some a/\(a=0↔∀r,HeadP h i r->∀l c,Qag N h r=some (l,c)->∀j:Nat,(j:Int)<h.c.W->Xlh h i l (j:Int)=false->wdP h i j=0):=by
 have k:=hN;unfold NB at k;have M:=Xj.1 hp.conf;have B:=hb.2;have⟨hd,D,o⟩:=Xgd (N:=N) hp.first hb.2 N i h0 g aa;have⟨r,z,E,A⟩:=QfT hN hb hp hd o.1 (by have:=o.2.1;omega);have⟨⟨v,w,_⟩,_,_⟩:=E;have⟨u,G,y,H⟩:=XjY hN hp i h0 g r.1 aa v w;have⟨e,I,J,e3⟩:=Xf0 hN hb hp h0 g u y N 0 aa aa;rw[Qer,Qe6,D,Xa,Xa,z,Xa,G,Xa,show(0:Int)=((0:Nat):Int)from rfl,I,Xa];by_cases f:∃j,0<=j/\j<u.length/\u.getD j false=false/\wdP h i j≠0
 .obtain⟨a,rfl,K⟩:=J f;refine⟨a,by rw[XA],λe=>absurd e K,λq=>?_⟩;grind
 have:=e3 f;subst this;refine⟨0,by rw[Xo];rfl,λ_ s L l c el j O R=>?_,λ_=>rfl⟩;rw[←o.fn L,z]at el;grind
def QpO(hN:NB N)(hb:HB h)(ep:Qab N h=some true){i:Int}(h0:0<=i)(j:i<h.p.length):∃f,Qes N h i=some f/\(f.Fault=0↔Sb N h i):=by
 have hp:=XJ hN hb ep;rw[Qes,Xs,Xr h0 j];simp only[Xa];by_cases g:(pg h.p i).k≠0/\(pg h.p i).s≠h.s
 .rw[Xl g.1,Xl g.2];exact⟨_,rfl,λe=>absurd e ab,λq=>absurd (q.sp g.1) g.2⟩
 have u:(pg h.p i).k≠0->(pg h.p i).s=h.s:=λk=>Classical.byContradiction λs=>g ⟨k,s⟩;have I:∀{α:Type} (x y:α),(bif ((pg h.p i).k != 0)then(bif ((pg h.p i).s != h.s)then x else y)else y)=y:=by
  intro α x y;by_cases k0:(pg h.p i).k=0
  .simp_all
  simp_all
 rw[I];have⟨r,w,J,G⟩:=QfT hN hb hp i h0 j;rw[w,Xa];by_cases H:r.2=0;case neg=>
  rw[Xl H]
  refine⟨_,rfl,λe=>absurd e (by show¬(3:Int)=0;omega),λq=>?_⟩
  obtain⟨l,p,_⟩:=q.ps
  rw[Qhc hN hb ep h0 j p]at w
  grind
 have z:Qag N h i=some (r.1,0):=by rw[w,←H]
 have v:=Xgc hN hb ep h0 j z;have A:=(hp.pgs i h0 j).kind;rw[show(r.2 != 0)=false by simp_all,Wa];have⟨⟨B,D,_⟩,_,_⟩:=J;have⟨e,c1,K,L⟩:=XhJ hN h0 j r.1 aa B D N 0 aa (by unfold NB at hN;omega);have c1:QaW N h i r.1 N 0=some e:=c1;rw[Qey,c1,Xa];by_cases E:∀a∈r.1,Xcw h i a;case neg=>
  obtain⟨a,rfl,M⟩:=L E
  rw[XA,Xa,Xl M]
  refine⟨_,rfl,λe=>absurd e (by show¬(5:Int)=0;omega),λq=>?_⟩
  obtain⟨l,p,q⟩:=q.ps
  rw[p.fn A v]at q
  simp_all
 have:=K E;subst this;rw[Xo,Xa];have⟨d,O,hd⟩:=XrW hN hb hp h0 j;rw[O,Xa];by_cases o:d=0
 .rw[show(d != 0)=false by simp_all,Wa];exact⟨_,rfl,λ_=>⟨u,⟨_,v,E⟩,hd.1 o⟩,λ_=>rfl⟩
 rw[Xl o];exact⟨_,rfl,λe=>absurd e ab,λq=>absurd (hd.2 q.dt) o⟩
def XhK(hN:NB N)(hb:HB h)(ep:Qab N h=some true):∀(n:Nat) (i:Int),0<=i->i<=h.p.length->(h.p.length-i).toNat<n->∃e,Qbk N h n i=some e/\((∀j,i<=j->j<h.p.length->Sb N h j)->e=.nxt ())/\((¬∀j,i<=j->j<h.p.length->Sb N h j)->∃f,e=.ret f/\f.Fault≠0)
 |0,i,_,_,o=>by omega
 |n+1,i,h0,A,o=>by
  have s:=hb.2;rw[Qbk];by_cases g:i<h.p.length;case neg=>rw[Wg g,Wa];exact⟨_,rfl,λ_=>rfl,λq=>absurd (λj a b=>aa) q⟩
  have⟨f,u,v⟩:=QpO hN hb ep h0 g;have⟨e,w,y,e3⟩:=XhK hN hb ep n (i+1) aa aa aa;rw[Wd g,Wb,u,Xa];by_cases k:f.Fault=0
  .rw[show(f.Fault != 0)=false by simpa using k,Wa,Xc aa aa,w];refine⟨e,rfl,λq=>y λj a b=>q j aa b,λq=>e3 λr=>q λj a b=>?_⟩;by_cases z:j=i
   .rw[z];exact v.1 k
   exact r j aa b
  grind
def Xd4(f:h.p.length<=100000):∀(n k c:Nat),k<=h.p.length->h.p.length-k<n->c<=k->Qa7 N h n (c:Int) (k:Int)=some (((c+(h.p.drop k).countP K2:Nat):Int))
 |0,k,c,_,g,_=>by omega
 |n+1,k,c,j,g,o=>by
  rw[Qa7];by_cases e:k<h.p.length;case neg=>rw[Wg aa,Wa,Ub aa];simp
  have:=Xd4 f n (k+1) c aa aa aa;have:=Xd4 f n (k+1) (c+1) aa aa aa;rw[Xn e,Wb,Xf,Wc e,Xa,Xg aa,Xg aa,Wo e,Ic];simp only[Xa];unfold K2 at *;grind
end
section
variable {N:Nat}{h:Wk}
def Xge(h:Wk)(a:Int):KB h a<=szA h.w a:=by have:=(XL h.w a).2.1;unfold KB;omega
def XcS(hp:Uy h){a x:Int}(f:Iz h a)(v:a<=x)(y:x<a+szA h.w a):HeadP h (pgi h.c x) (pgi h.c a)/\4096<=x/\x<4096+h.w.length:=by
 have⟨k,k1,k2,z,g⟩:=XcI hp f;have q:=f.rng;have A:=Ks hp f;have hw:=hp.words;have⟨e,r,B,D,E⟩:=Yq hp.conf q;have⟨G,H,I,J,K⟩:=Yq (a:=x) hp.conf aa;have L:=f.kind;have le:pgi h.c a<=pgi h.c x:=by apply Classical.byContradiction;intro s;have:=Vu hp.conf (i:=pgi h.c x) (j:=pgi h.c a) (o:=h.c.W) (p:=0) aa aa aa;have M:Xd h.c (pgi h.c x) h.c.W=4096+pgi h.c x*h.c.W+h.c.W:=rfl;have u:Xd h.c (pgi h.c x) (pgo h.c x)=4096+pgi h.c x*h.c.W+pgo h.c x:=rfl;have e3:Xd h.c (pgi h.c a) 0=4096+pgi h.c a*h.c.W+0:=rfl;have e4:Xd h.c (pgi h.c a) (pgo h.c a)=4096+pgi h.c a*h.c.W+pgo h.c a:=rfl;omega
 have lt:pgi h.c x<pgi h.c a+k:=by apply Classical.byContradiction;intro s;have O:(pgi h.c a+k)*h.c.W<=pgi h.c x*h.c.W:=Ut aa aa;have e3:Xd h.c (pgi h.c a+k) 0=4096+(pgi h.c a+k)*h.c.W+0:=rfl;have u:Xd h.c (pgi h.c x) (pgo h.c x)=4096+pgi h.c x*h.c.W+pgo h.c x:=rfl;omega
 refine⟨⟨r,le,aa,λm R S=>?_⟩,aa,aa⟩;have:=g (m-pgi h.c a) aa aa;grind
def XnA{ws:List Int}{x:Int}(h0:4096<=x)(h:wd ws x≠0):x<4096+ws.length:=by apply Classical.byContradiction;intro e;apply h;unfold wd ix;rw[Wj,WS aa];rfl
def XhL(hN:NB N)(hb:HB h)(ep:Qab N h=some true)(g:∀i,0<=i->i<(h.p.length:Int)->∃l,Ou h i l):∀(n:Nat) (i:Int) (v:List Int),0<=i->i<=h.p.length->(h.p.length-i).toNat<n->(v.length:Int)<=64*i ->
 ∃t,QaO N h n i v=some (.nxt (v++t))/\∀a,a∈t↔∃j l,i<=j/\j<(h.p.length:Int)/\Ou h j l/\a∈l
 |0,i,v,_,_,q,_=>by omega
 |n+1,i,v,h0,A,q,B=>by
  have hp:=XJ hN hb ep;have s:=hp.pages;have u:=Xj.1 hp.conf;rw[QaO];by_cases f:i<h.p.length;case neg=>
   rw[Wg f,Wa]
   exact⟨[],ab,λa=>⟨λe=>by grind,λ⟨j,l,a,b,_⟩=>aa⟩⟩
  have⟨l,pl⟩:=g i h0 f;have el:=Qhc hN hb ep h0 f pl;have⟨r,k,_,o⟩:=QfT hN hb hp i h0 f;rw[el]at k;obtain rfl:=WA k;have⟨t,et,ht⟩:=XhL hN hb ep g n (i+1) (v++l) aa aa aa (by grind);rw[Wd f,Wb,el,Xa,show((0:Int) != 0)=false from rfl,Wa,Xb aa,Xc aa aa,et,Ud];refine⟨l++t,rfl,λa=>?_⟩;rw[Wt,ht];constructor
  .grind
  rintro⟨j,m,D,E,w,y⟩;by_cases z:j=i
  .subst z;rw[pl.fn (hp.pgs j h0 f).kind w];exact .inl y
  grind
def Xca(hN:NB N)(hb:HB h)(ep:Qab N h=some true)(f:∀i,0<=i->i<(h.p.length:Int)->∃l,Ou h i l):∃S L,Iy N h S/\(∀a,a∈S↔Stt h a)/\QbH N h=some (S,0)/\Qap N h=some (L,0)/\L=Yo h S/\∀a,a∈L↔Obb h a:=by
 have g:=hN;unfold NB at g;have q:=hb.2;have⟨t,et,ht⟩:=XhL hN hb ep f N 0 [] aa aa aa ab;have est:QbH N h=some (t,0):=by rw[QbH,ep,Xa,Wh,Wa,et,Xa,Xo,Ue]
 have⟨r,j,e,_,_⟩:=J8 hN hb;rw[est]at j;obtain rfl:=WA j;have k:t.length<=4096:=e.len;have:=Xaz (N:=N) (h:=h) (t,0) (by grind) e.obj.ev N 0 [] aa (by grind) ab;rw[show((0:Nat):Int)=0 from rfl,W4,Ue]at this;have o:∀a,a∈t↔Stt h a:=λa=>by rw[ht];rfl
 refine⟨t,Yo h t,e,o,est,?_,rfl,λa=>?_⟩
 .simp[Qap,est,Xa,this]
 unfold Yo Obb;simp[W8,o,Y8,fnd]
def Vg(hN:NB N)(hb:HB h):Qbe N h=some true↔GX N h:=by
 have G:=hN;unfold NB at G;have⟨b,ep⟩:=ZU (N:=N) (h:=h) hN hb;cases b with
 |false=>rw[Qbe,Qfi,ep,Xa,W6,Wb,Xa];exact⟨(λe=>by grind),λg=>by simp_all[g.ep]⟩
 |true=>
 have hp:=XJ hN hb ep;have hpl:=hp.pages;have hw:=hp.words;have hvc:=Xj.1 hp.conf;have⟨e,V,Y,e3⟩:=XhK hN hb ep N 0 aa aa aa;rw[Qbe,Qfi,ep,Xa,Wh,Wa,V,Xa];by_cases v:∀j,(0:Int)<=j->j<h.p.length->Sb N h j;case neg=>
  obtain⟨f,rfl,E⟩:=e3 v
  rw[XA,Xa,Xk E]
  refine⟨(λe=>by grind),λg=>absurd (λi h0 o=>⟨g.sp i h0 o,?_,λr k l c el j H I=>?_⟩) v⟩
  .obtain⟨l,pl⟩:=g.ps i h0 o
   exact⟨l,pl,g.cl i l h0 o pl⟩
  .apply Classical.byContradiction;intro B
   unfold wdP at B
   have hm:=XP hp.conf (i:=i) h0 aa
   have ea:Xd h.c i 0=4096+i*h.c.W+0:=rfl
   have ej:Xd h.c i 0+(j:Int)=Xd h.c i j:=by unfold Xd;omega
   obtain⟨a,Z,a1,a2⟩:=g.dt _ aa B
   have z:=Z.at_ hp
   have u:=XcS hp (x:=Xd h.c i 0+j) z a1 (by have:=Xge h a;omega)
   rw[ej,(YD hp.conf aa H).1]at u
   have:=k.fn u.1
   subst this
   obtain⟨m,pm,am⟩:=Z.pars hp
   have:=Qhc hN hb ep k.1 (by have:=k.2.1;omega) pm
   rw[el]at this
   obtain rfl:l=m:=congrArg Prod.fst (WA this)
   have:Xlh h i l j=true:=Oh.2 ⟨a,am,by rw[decide_eq_true_iff];omega⟩
   simp_all
 have:=Y v;subst this;rw[Xo];have A:∀i,0<=i->i<(h.p.length:Int)->∃l,Ou h i l:=λi h0 o=>by obtain⟨l,p,_⟩:=(v i h0 o).ps;grind
 obtain⟨S,L,hS,mS,eS,eL,rfl,mL⟩:=Xca hN hb ep A;have⟨y,ey,hl,_,z,J,K⟩:=KR hN hb;rw[eL]at ey;obtain rfl:=WA ey;have⟨r,M,r2,r3⟩:=Xnm hN hb ep (Yo h S,0) aa z J K N 0 aa aa;have M:QbB N h (Yo h S,0) N 0=some r:=M;rw[QdF,eL,Xa,M,Xa];by_cases s:∃a∈Yo h S,XaH h (Yo h S) a
 .obtain⟨f,rfl,E⟩:=r2 s;rw[XA,Xa,Xl E,Wb,Xa,Xk E];refine⟨(λe=>by cases e),λg=>?_⟩;obtain⟨a,u,i,hi,O,hb2⟩:=s;rcases g.pt a ((mL a).1 u) i hi with q|q
  .exact absurd q O
  simp_all
 have:=r3 s;subst this;have D:=Xd4 (N:=N) (h:=h) hb.2 N 0 0 aa aa aa;have D:Qa7 N h N 0 0=some (((0+(h.p.drop 0).countP K2:Nat):Int)):=D;rw[Xo,Xa,show((Ur.mk 0 0 0).Fault != 0)=false from rfl,Wa,D,Xa,W4,UN];have ed:wI (h.c.p.tdiv 4)=h.c.p / 4:=by rw[UQ aa,Xc aa aa]
 by_cases I:((h.p.countP K2:Nat):Int)<=h.c.p / 4
 .rw[Wg aa,Wa,Xa];refine⟨λ_=>⟨ep,A,λi h0 o=>(v i h0 o).sp,λi l h0 o p=>?_,λx h0 D=>?_,λa u j H=>?_,I⟩,λ_=>rfl⟩
  .have⟨m,p',q⟩:=(v i h0 o).ps;rw[p.fn (hp.pgs i h0 o).kind p'];omega
  .have hlt:=XnA h0 D;have⟨e,q0,q1,q2,q3⟩:=Yq (a:=x) hp.conf aa;have⟨r,er,k⟩:=Xgd (N:=N) hp.first hb.2 N (pgi h.c x) q0 aa aa;have⟨l,pl⟩:=A r k.1 (by have:=k.2.1;omega);have el:=Qhc hN hb ep k.1 (by have:=k.2.1;omega) pl;have hd:=(v _ q0 aa).dt r k l 0 el (pgo h.c x).toNat aa;have ex:Xd h.c (pgi h.c x) 0+((pgo h.c x).toNat:Int)=x:=by have V:Xd h.c (pgi h.c x) 0=4096+pgi h.c x*h.c.W+0:=rfl;have Y:Xd h.c (pgi h.c x) (pgo h.c x)=4096+pgi h.c x*h.c.W+pgo h.c x:=rfl;omega
   have hwd:wdP h (pgi h.c x) (pgo h.c x).toNat=wd h.w x:=by unfold wdP;rw[ex]
   cases R:Xlh h (pgi h.c x) l ((pgo h.c x).toNat:Int)with
   |false=>grind
   |true=>have⟨a,u,T⟩:=Oh.1 R;rw[decide_eq_true_iff]at T;exact⟨a,⟨r,l,k.1,by have:=k.2.1;omega,pl,u⟩,aa,aa⟩
  by_cases hz:wd h.w (a+1+j)=0
  .omega
  cases U:(Yo h S).contains (wd h.w (a+1+j))with
  |true=>simp_all
  |false=>exact absurd ⟨a,(mL a).2 u,j,H,hz,U⟩ s
 rw[Wd aa,Wb,Xa];exact⟨(λe=>by grind),λg=>absurd g.cr I⟩
end
def ZM(c:WN):List UE->Int->Int
 |[],_=>0
 |p::l,i=>(if pgi c p.a=i then p.M else 0)+ZM c l i
structure MX(N:Nat)(h:Wk)(pins:List UE):Prop where
 gx:GX N h
 len:pins.length<=64
 ob:∀p∈pins,Obb h p.a/\1<=p.M/\p.M<=1000
 nd:(pins.map (·.a)).Nodup
 sm:∀i,0<=i->i<(h.p.length:Int)->(pg h.p i).P=ZM h.c pins i
structure VX(N:Nat)(x:W3):Prop where
 mx:MX N x.h x.P
 loc:Yb x.l=true
 glo:Yr x.g.e=true
 wea:Yr x.v.e=true
 gz:∀r∈Xz x.g.e,r≠0
 rr:∀r∈x.R,r=0\/Obb x.h r
 rl:∀r∈XM x.l.S,r=0\/Obb x.h r
 rg:∀r∈Xz x.g.e,r=0\/Obb x.h r
 rw_:∀r∈Xz x.v.e,r=0\/Obb x.h r
def Xd5{α:Type}(f:α->Int)(l:List α):(∀(j:Nat) (g:j<l.length),Zv (λp=>f p==f l[j]) l=j)↔(l.map f).Nodup:=by
 have key:∀(j:Nat) (g:j<l.length),Zv (λp=>f p==f l[j]) l=j↔∀k(r:k<j),f (l[k]'aa)≠f l[j]:=by
  intro j g;unfold Zv;cases e:l.findIdx? (λp=>f p==f l[j])with
  |none=>rw[List.findIdx?_eq_none_iff]at e;have:=e l[j] (WG g);simp at this
  |some m=>
   rw[UV]at e;have⟨v,s,u⟩:=e;constructor
   .intro h k r w;have:m=j:=Int.ofNat.inj h;subst this;simp_all
   intro h;by_cases o:m<j
   .exact absurd (by simpa using s) (h m o)
   by_cases q:j<m
   .have:=u j q;simp at this
   show(m:Int)=j;omega
 rw[List.Nodup,Un];grind
section
variable {N:Nat}{h:Wk}
def XhM(h:Wk)(pins:List UE)(L:List Int)(j:Nat):Prop:=∀e:j<pins.length,L.contains pins[j].a=true/\Zv (λp=>p.a==pins[j].a) pins=j/\1<=pins[j].M/\pins[j].M<=1000
def XhN(hN:NB N)(hp:Uy h)(pins:List UE)(A:pins.length<=64)(y:List Int×Int)(O:y.1.length<=4096)(s:∀a∈y.1,Iz h a):∀(n k:Nat) (v:List Int),k<=pins.length->pins.length-k<n->v.length=h.p.length->(∀i:Int,0<=i->0<=v.getD i.toNat 0/\v.getD i.toNat 0<=1000*k) ->
 ∃e,Qbl N h pins y n (k:Int) v=some e/\((∀j,k<=j->XhM h pins y.1 j)->∃g,e=.nxt g/\g.length=h.p.length/\∀i:Int,0<=i->i<(h.p.length:Int)->g.getD i.toNat 0=v.getD i.toNat 0+ZM h.c (pins.drop k) i)/\((¬∀j,k<=j->XhM h pins y.1 j)->e=.ret false)
 |0,k,v,R,S,B,_=>by omega
 |n+1,k,v,R,S,B,hb=>by
  have D:1000000<N:=by unfold NB at hN;omega
  rw[Qbl];by_cases f:k<pins.length;case neg=>
   rw[Wg aa,Wa,Ub aa]
   exact⟨_,rfl,λ_=>⟨v,rfl,B,λi _ _=>by simp[ZM]⟩,λq=>absurd (λj J T=>aa) q⟩
  have U:Xe pins (k:Int)=some pins[k]:=by rw[Xf,Wc f]
  simp only[Wd (show(k:Int)<(pins.length:Int) by omega),Wb,U,Xa,Yx pins[k].a (show y.1.length<=1000000000 by omega) (show y.1.length<N by omega),Xf5 pins pins[k].a aa D];have bad:¬XhM h pins y.1 k->∃e,some (Ex.ret false:Ex Bool (List Int))=some e/\((∀j,k<=j->XhM h pins y.1 j)->∃g,e=.nxt g/\g.length=h.p.length/\∀i:Int,0<=i->i<(h.p.length:Int)->g.getD i.toNat 0=v.getD i.toNat 0+ZM h.c (pins.drop k) i)/\((¬∀j,k<=j->XhM h pins y.1 j)->e=.ret false):=
   λq=>⟨_,rfl,λr=>absurd (r k (Uo k)) q,λ_=>rfl⟩
  cases E:y.1.contains pins[k].a with
  |false=>exact bad λq=>by rw[(q f).1]at E;grind
  |true=>
  by_cases z:Zv (λp=>p.a==pins[k].a) pins=k;case neg=>rw[Xl z];exact bad λq=>z (q f).2.1
  rw[show(Zv (λp=>p.a==pins[k].a) pins != (k:Int))=false by simpa using z,Wa];by_cases c1:pins[k].M<1
  .rw[Wd c1];exact bad λq=>by have:=(q f).2.2;omega
  rw[Wg c1,Wa];by_cases K:pins[k].M>1000
  .rw[Wd K];exact bad λq=>by have:=(q f).2.2;omega
  have V:=s _ (Yh E);have⟨W,u,Y⟩:=Jb (N:=N) hp V;have G:Xe v (pgi h.c pins[k].a)=some (v.getD (pgi h.c pins[k].a).toNat 0):=by have w:(pgi h.c pins[k].a).toNat<v.length:=aa;rw[Yd u aa,Wj,Wc w];rfl
  have b1:=hb _ u;rw[Wg K,Wa,W,Xa,G,Xa,Xa,Xg aa,Xc aa aa];have o:∀i:Int,0<=i->(v.set (pgi h.c pins[k].a).toNat (v.getD (pgi h.c pins[k].a).toNat 0+pins[k].M)).getD i.toNat 0=(if pgi h.c pins[k].a=i then pins[k].M else 0)+v.getD i.toNat 0:=by
   intro i H;rw[Wj,If];by_cases I:pgi h.c pins[k].a=i
   .rw[Wm aa,Wm aa,Wm I,←I];simp;omega
   rw[Wi aa,Wi I,←Wj];omega
  have⟨e,n1,n2,Z⟩:=XhN hN hp pins A y O s n (k+1) (v.set (pgi h.c pins[k].a).toNat (v.getD (pgi h.c pins[k].a).toNat 0+pins[k].M)) aa aa (by rw[WL];exact B) λi H=>by have:=hb i H;rw[o i H];split<;>omega
  rw[n1];have hk':XhM h pins y.1 k:=λ_=>⟨E,z,aa,aa⟩
  refine⟨e,rfl,λq=>?_,λq=>Z λr=>q λj J=>?_⟩
  .have⟨g,e1,e2,e3⟩:=n2 λj J=>q j aa;refine⟨g,e1,e2,λi L i1=>?_⟩;rw[e3 i L i1,o i L,Wo f,ZM];omega
  grind
def XhO(o:h.p.length<=100000)(v:List Int)(s:v.length=h.p.length):∀(n k:Nat),k<=h.p.length->h.p.length-k<n ->
 ∃e,QbI N h v n (k:Int)=some e/\((∀i:Int,k<=i->i<(h.p.length:Int)->(pg h.p i).P=v.getD i.toNat 0)->e=.nxt ())/\((¬∀i:Int,k<=i->i<(h.p.length:Int)->(pg h.p i).P=v.getD i.toNat 0)->e=.ret false)
 |0,k,_,u=>by omega
 |n+1,k,A,u=>by
  rw[QbI];by_cases f:k<h.p.length;case neg=>
   rw[Wg aa,Wa]
   exact⟨_,rfl,λ_=>rfl,λq=>absurd (λi a b=>aa) q⟩
  have g:Xe v (k:Int)=some (v.getD k 0):=by rw[Xf,Wj,Wc aa];rfl
  rw[Xn f,Wb,Xr aa aa,Xa,g,Xa,Xg aa];by_cases j:(pg h.p (k:Int)).P=v.getD k 0
  .have⟨e,w,y,e3⟩:=XhO o v s n (k+1) aa aa;rw[show((pg h.p (k:Int)).P != v.getD k 0)=false by simpa using j,Wa,w];refine⟨e,rfl,λq=>y λi a b=>q i aa b,λq=>e3 λr=>q λi a b=>?_⟩;by_cases z:i=k
   .subst z;exact j
   exact r i aa b
  grind
def XaB(hN:NB N)(hb:HB h)(pins:List UE):Qcn N h pins=some true↔MX N h pins:=by
 have r:=hN;unfold NB at r;have s:h.p.length<=100000:=hb.2;rw[Qcn];have⟨b,eb,G⟩:=KQ hN hb;rw[eb,Xa];cases b with
 |false=>exact⟨(λe=>by grind),λm=>by rw[(Vg hN hb).2 m.gx]at eb;grind⟩
 |true=>
 have gx:=(Vg hN hb).1 eb;have hp:=XJ hN hb gx.ep;obtain⟨S,L,V,mS,eS,eL,rfl,mL⟩:=Xca hN hb gx.ep gx.ps;have⟨y,D,W,_,u,H,I⟩:=KR hN hb;rw[eL]at D;obtain rfl:=WA D;by_cases f:pins.length<=64;case neg=>exact⟨(λe=>by grind),λm=>absurd m.len f⟩
 rw[Wg aa,Wa,eL,Xa,Xb aa];have E:∀i:Int,(List.replicate (h.p.length:Int).toNat (0:Int)).getD i.toNat 0=0:=λi=>by grind
 have⟨e,J,K,e3⟩:=XhN hN hp pins f (Yo h S,0) aa u N 0 (List.replicate (h.p.length:Int).toNat 0) aa aa ab (λi _=>by simp_all);have w:Qbl N h pins (Yo h S,0) N 0 (List.replicate (h.p.length:Int).toNat 0)=some e:=J;rw[w,Xa];have O:∀(m:(∀p∈pins,Obb h p.a/\1<=p.M/\p.M<=1000)),(pins.map (·.a)).Nodup->∀j,0<=j->XhM h pins (Yo h S) j:=λm nd j _ g=>by have R:=m _ (WG g);exact⟨by simp_all,(Xd5 (λp:UE=>p.a) pins).2 nd j g,R.2⟩
 by_cases k:∀j,0<=j->XhM h pins (Yo h S) j;case neg=>
  rw[e3 k,XA]
  exact⟨(λe=>by grind),λm=>absurd (O m.ob m.nd) k⟩
 obtain⟨v,rfl,T,Y⟩:=K k;have⟨e',f1,f2,U⟩:=XhO (N:=N) s v T N 0 aa aa;have z:QbI N h v N 0=some e':=f1;rw[Xo,z,Xa];have o:∀i:Int,0<=i->i<(h.p.length:Int)->v.getD i.toNat 0=ZM h.c pins i:=λi a b=>by simp_all
 have A:∀p∈pins,Obb h p.a/\1<=p.M/\p.M<=1000:=λp hp=>by obtain⟨j,g,rfl⟩:=WE hp;have:=k j aa g;simp_all
 have B:(pins.map (·.a)).Nodup:=(Xd5 (λp:UE=>p.a) pins).1 λj g=>(k j aa g).2.1;by_cases q:∀i:Int,((0:Nat):Int)<=i->i<(h.p.length:Int)->(pg h.p i).P=v.getD i.toNat 0
 .rw[f2 q,Xo];exact⟨λ_=>⟨gx,f,A,B,λi a b=>(q i aa b).trans (o i a b)⟩,λ_=>rfl⟩
 rw[U q,XA];exact⟨(λe=>by grind),λm=>absurd (λi a b=>(m.sm i aa b).trans (o i aa b).symm) q⟩
def Xa4(hN:NB N)(ht:HT h){l:List Int}(e:l.length<=1000000)(gx:GX N h):∃b,QbJ N h l=some b/\(b=true↔∀r∈l,r=0\/Obb h r):=by have hb:=ht.hb;obtain⟨S,L,f,mS,eS,eL,rfl,mL⟩:=Xca hN hb gx.ep gx.ps;refine⟨_,ZK hN ht aa ((Vg hN hb).2 gx) eL,?_⟩;simp_all
def XaC(hN:NB N){x:W3}(ht:ET x):Qa5 N x=some true↔VX N x:=by
 have j:1000000<N:=by unfold NB at hN;omega
 have k:=ht.eb;have u:=Zi k.loc;have w:=Yf x.g.e;have y:=Yf x.v.e;have z:=k.pins;have B:=k.roots;rw[Qa5];have⟨b,eb,_⟩:=Vd hN k.heap z;rw[eb,Xa];cases b with
 |false=>exact⟨(λe=>by grind),λm=>by rw[(XaB hN k.heap _).2 m.mx]at eb;grind⟩
 |true=>
 have mx:=(XaB hN k.heap _).1 eb;simp only[Wh,Wa,Zr k.loc j,Y2 k.glo j,Y2 k.wea j,X7 k.glo j,X7 k.wea j,Y3 k.loc j,Xa];cases el:Yb x.l with
 |false=>exact⟨(λe=>by grind),λm=>by simp_all[m.loc]⟩
 |true=>
 cases et:Yr x.g.e with
 |false=>exact⟨(λe=>by grind),λm=>by simp_all[m.glo]⟩
 |true=>
 cases p:Yr x.v.e with
 |false=>exact⟨(λe=>by grind),λm=>by simp_all[m.wea]⟩
 |true=>
 rw[el,Wb]at u;rw[et,Wb]at w;rw[p,Wb]at y;simp only[Wh,Wa,Wb];rw[Yx 0 aa aa,Xa];cases s:(Xz x.g.e).contains 0 with
 |true=>exact⟨(λe=>by grind),λm=>absurd rfl (m.gz 0 (Yh s))⟩
 |false=>
 have o:∀r∈Xz x.g.e,r≠0:=λr f e=>YU s (e▸f);rw[Wa,Xb aa,Xb aa,Xb aa,Xb aa];have⟨b,A,f⟩:=Xa4 hN ht.ht (l:=x.R++XM x.l.S++Xz x.g.e++Xz x.v.e) (by grind) mx.gx;rw[A,Xa,Option.some_inj,f];refine⟨λq=>⟨mx,el,et,p,o,λr f=>q r (by grind),λr f=>q r (by grind),λr f=>q r (by grind),λr f=>q r (by grind)⟩,λm r f=>?_⟩;simp only[Wt]at f;rcases f with(((f|f)|f)|f)
 .exact m.rr r f
 .exact m.rl r f
 .exact m.rg r f
 exact m.rw_ r f
end
end Go.Sx

namespace Go.Sx
def rel(M:List (Int×Int))(v e:Int):Prop:=(v=0/\e=0)\/(v,e)∈M
def cpy(h:Wk)(a:Int):Prop:=(pg h.p (pgi h.c a)).k=1/\¬(pg h.p (pgi h.c a)).P>0
def CM(h:Wk)(M:List (Int×Int)):Int->List Int->Int->Prop
 |p,[],q=>p=q
 |p,b::l,q=>b=p/\∃a,(a,b)∈M/\cpy h a/\CM h M (p+szA h.w a) l q
def CM.mono{h:Wk}{M M':List (Int×Int)}(f:∀p∈M,p∈M'):∀{l:List Int} {p q:Int},CM h M p l q->CM h M' p l q
 |[],_,_,e=>e
 |b::l,_,_,⟨e,a,g,j,k⟩=>⟨e,a,f _ g,j,k.mono f⟩
def CM.snoc{h:Wk}{M:List (Int×Int)}{a:Int}:∀{l:List Int} {p q:Int},CM h M p l q->(a,q)∈M->cpy h a->CM h M p (l++[q]) (q+szA h.w a)
 |[],p,q,e,f,g=>by subst e;exact⟨rfl,a,f,g,rfl⟩
 |b::l,_,_,⟨e,x,f,g,j⟩,g1,g2=>⟨e,x,f,g,j.snoc g1 g2⟩
structure JX(N:Nat)(h0:Wk)(S:List Int)(P:Int->Prop)(w:Ww)(M:List (Int×Int))(D:Int->Prop):Prop where
 ci:CI h0 S w
 ss:SpanS h0.c h0.p w.h.p
 tu:∀x∈w.h.w,tU x
 ol:w.o=Yo h0 S
 q:w.q=M.map (·.2)
 l:∀p∈M,Obb h0 p.1/\P p.1
 n1:(M.map (·.1)).Nodup
 k:∀p∈M,(p.2=p.1/\¬cpy h0 p.1)\/(cpy h0 p.1/\wd w.h.w p.1=wU (wU (4*p.2)+2)/\∃i∈w.t,Xd h0.c i 0<=p.2/\p.2+szA h0.w p.1<=Xd h0.c i (pg w.h.p i).u)
 hd:∀p∈M,wd w.h.w p.2=wd h0.w p.1
 fl:∀p∈M,∀j,0<=j->j<(hdA h0.w p.1).n->(¬D (p.2+1+j)->wd w.h.w (p.2+1+j)=wd h0.w (p.1+1+j))/\(D (p.2+1+j)->rel M (wd h0.w (p.1+1+j)) (wd w.h.w (p.2+1+j)))
 o:∀x,4096<=x->(∀p∈M,x≠p.1/\¬(p.2<=x/\x<p.2+szA h0.w p.1))->wd w.h.w x=wd h0.w x
 d:∀x,D x->∃p∈M,p.2<x/\x<p.2+szA h0.w p.1
 t:∀i∈w.t,(pg h0.p i).k=0/\(pg w.h.p i).P=0/\(pg w.h.p i).s=1-h0.s/\∃l,CM h0 M (Xd h0.c i 0) l (Xd h0.c i (pg w.h.p i).u)
 pgs:∀i,0<=i->i<(h0.p.length:Int)->i∉w.t->(pg w.h.p i).k=(pg h0.p i).k/\(pg w.h.p i).u=(pg h0.p i).u/\(pg w.h.p i).P=(pg h0.p i).P/\((pg h0.p i).k=1->(pg w.h.p i).s=if(pg h0.p i).P>0 then 1-h0.s else h0.s)/\((pg h0.p i).k=2->(pg w.h.p i).s=if Xd h0.c i 0∈M.map (·.1)then 1-h0.s else h0.s)/\((pg h0.p i).k=0->pg w.h.p i=pg h0.p i)
section
variable {N:Nat}{h0:Wk}{S:List Int}{P:Int->Prop}
structure BX(N:Nat)(h0:Wk)(S:List Int):Prop where
 gx:GX N h0
 st:Start N h0 S
 mS:∀a,a∈S↔Stt h0 a
 hp:Uy h0
def XqR(hN:NB N){w:Ww}(q:w.t.length<=100000)(i:Int):∃b,Qb5 N w i=some b/\(b=true↔Prm w i):=by
 unfold NB at hN;rw[Qb5];by_cases g:i<0
 .rw[Wd g];exact⟨false,rfl,(λe=>by grind),λp=>by have:=p.1.1;omega⟩
 by_cases o:i>=(w.h.p.length:Int)
 .rw[Wg g,Wd o];exact⟨false,rfl,(λe=>by grind),λp=>by have:=p.1.2;omega⟩
 rw[Wg g,Wg o,Wa,Wa,Xr aa aa,Xa];by_cases f:(pg w.h.p i).k=1;rotate_left
 .rw[Xk f];exact⟨false,rfl,(λe=>by grind),λp=>absurd p.2.1 f⟩
 by_cases j:(pg w.h.p i).s=w.h.s
 .rw[XC f,show((pg w.h.p i).s != w.h.s)=false by simp_all];exact⟨false,rfl,(λe=>by grind),λp=>absurd j p.2.2.1⟩
 rw[XC f,Xl j,Wb,Wb,Xfb w i aa aa,Xa];refine⟨_,rfl,?_⟩;rw[IL];exact⟨λe=>⟨⟨aa,aa⟩,f,j,YU e⟩,λp=>by rw[←IT,Ik];exact p.2.2.2⟩
def BX.at_(B:BX N h0 S){a:Int}(h:Obb h0 a):Iz h0 a/\a∈S/\0<=pgi h0.c a/\pgi h0.c a<h0.p.length/\4096<=a:=by have e:=h.1.at_ B.hp;have q:=Yq B.hp.conf e.rng;have:=B.hp.pages;exact⟨e,(B.mS a).2 h.1,q.2.1,aa,e.rng.1⟩
variable {w:Ww}{M:List (Int×Int)}{D:Int->Prop}
def JS{ws e:List Int}{a b:Int}(h:wd ws a=wd e b):szA ws a=szA e b:=by unfold szA hdA;rw[h]
def JX.geo(J:JX N h0 S P w M D){O:Int->Prop}{s:Int->Int}(e:Ox h0 S w O s){p:Int×Int}(hp:p∈M):O p.2/\szA h0.w p.1<=s p.2:=by have f:=e.queue p.2 (by rw[J.q];exact WU.2 ⟨p,hp,rfl⟩);have g:=(e.fit p.2 f).2.2.2;rw[JS (J.hd p hp)]at g;simp_all
def JX.tk(J:JX N h0 S P w M D)(B:BX N h0 S){i:Int}(e:i∈w.t):0<=i/\i<h0.p.length/\(pg w.h.p i).k=1/\0<=(pg w.h.p i).u/\(pg w.h.p i).u<=h0.c.W:=by have f:=J.ci.tk i e;have g:=J.ci.plen;omega
def JX.q_old(J:JX N h0 S P w M D)(B:BX N h0 S){a:Int}(j:Obb h0 a){p:Int×Int}(hp:p∈M)(e:p.2=a):p=(a,a):=by
 rcases J.k p hp with⟨k,_⟩|⟨_,_,i,g,k1,k2⟩
 .grind
 have t:=J.tk B g;have r:=(XL h0.w p.1).2.1;have f:=(B.at_ j).1;have s:Xd h0.c i 0=4096+i*h0.c.W+0:=rfl;have v:Xd h0.c i (pg w.h.p i).u=4096+i*h0.c.W+(pg w.h.p i).u:=rfl;have:=(YD (c:=h0.c) B.hp.conf (p:=i) (o:=a-Xd h0.c i 0) aa aa).1;rw[show Xd h0.c i (a-Xd h0.c i 0)=a by unfold Xd;omega]at this;have q:=f.kind;rw[this]at q;have:=(J.t i g).1;omega
def JX.fn(J:JX N h0 S P w M D){p q:Int×Int}(hp:p∈M)(f:q∈M)(e:p.1=q.1):p=q:=by have h:=J.n1;rw[List.Nodup,List.pairwise_map,Un]at h;obtain⟨i,g,rfl⟩:=WE hp;obtain⟨j,k,rfl⟩:=WE f;grind
def JX.inj(J:JX N h0 S P w M D){p q:Int×Int}(hp:p∈M)(f:q∈M)(e:p.2=q.2):p=q:=by have h:=J.ci.qnd;rw[J.q,List.Nodup,List.pairwise_map,Un]at h;obtain⟨i,g,rfl⟩:=WE hp;obtain⟨j,k,rfl⟩:=WE f;grind
def JX.same(J:JX N h0 S P w M D)(B:BX N h0 S){a:Int}(j:Obb h0 a)(q:a∉M.map (·.1)){x:Int}(y:a<=x)(h2:x<a+szA h0.w a):wd w.h.w x=wd h0.w x:=by
 have⟨O,s,f⟩:=J.ci.obj;have r:=B.at_ j;have k:=f.old a r.2.1;refine J.o x aa λp hp=>?_;have g:=J.geo f hp;have u:=B.at_ (J.l p hp).1;have ol:=f.old p.1 u.2.1;have n1:p.1≠a:=λe=>q (WU.2 ⟨p,hp,e⟩);have n2:p.2≠a:=λe=>by have:=J.q_old B j hp e;exact n1 (by rw[this])
 have z:=f.apart p.1 a ol.1 k.1 n1;have A:=f.apart p.2 a g.1 k.1 n2;have:=(XL h0.w p.1).2.1;omega
def JX.prm(J:JX N h0 S P w M D)(B:BX N h0 S){a:Int}(g:Obb h0 a):pgi h0.c a∉w.t/\(Prm w (pgi h0.c a)↔(pg h0.p (pgi h0.c a)).k=1/\(pg h0.p (pgi h0.c a)).P>0):=by
 have f:=B.at_ g;have o:=f.1.kind;have e:pgi h0.c a∉w.t:=λh=>by have:=(J.t _ h).1;omega
 have p:=J.pgs _ f.2.2.1 f.2.2.2.1 e;have j:=J.ci.plen;refine⟨e,λq=>?_,λq=>?_⟩
 .have k1:(pg h0.p (pgi h0.c a)).k=1:=by rw[←p.1];exact q.2.1
  have:=q.2.2.1;rw[p.2.2.2.1 k1,J.ci.spc]at this;omega
 refine⟨⟨f.2.2.1,aa⟩,aa,?_,e⟩;rw[p.2.2.2.1 q.1,J.ci.spc,Wm q.2];omega
def JX.keep(J:JX N h0 S P w M D)(B:BX N h0 S){a:Int}(I:Obb h0 a)(hP:P a)(R:a∉M.map (·.1))(hc:¬cpy h0 a){z:List Ws}(hs:SpanS h0.c h0.p z)(hq:∀i,0<=i->i<(h0.p.length:Int)->(i≠pgi h0.c a\/(pg h0.p i).k≠2)->(pg h0.p i).k≠3->pg z i=pg w.h.p i)(h3:∀i,0<=i->i<(h0.p.length:Int)->i∉w.t->(pg z i).k=(pg h0.p i).k/\(pg z i).u=(pg h0.p i).u/\(pg z i).P=(pg h0.p i).P)(T:(pg h0.p (pgi h0.c a)).k=2->(pg z (pgi h0.c a)).s=1-h0.s){w':Ww}(U:w'.h.p=z)(E:w'.h.w=w.h.w)(e3:w'.t=w.t)(e4:w'.q=w.q++[a])(e5:w'.o=w.o)(ci:CI h0 S w'):JX N h0 S P w' (M++[(a,a)]) D:=by
 have⟨O,s,V⟩:=J.ci.obj;have W:=B.at_ I;have oa:=V.old a W.2.1;have Y:∀p∈M,p∈M++[(a,a)]:=λp hp=>WT _ hp;have pt:∀i∈w.t,pg z i=pg w.h.p i:=λi r=>by have t:=J.tk B r;have:=(J.t i r).1;simp_all
 refine⟨ci,by simp_all,by rw[E];exact J.tu,by rw[e5];exact J.ol,?_,λp hp=>?_,?_,λp hp=>?_,λp hp=>?_,λp hp j j0 Z=>?_,λx h0x K=>?_,λx K=>?_,λi r=>?_,λi G L r=>?_⟩
 .simp[e4,J.q,U1]
 .rcases Wt.1 hp with hp|hp
  .exact J.l p hp
  simp_all
 .rw[U1,U4];refine⟨J.n1,ab,λx K y hy e=>?_⟩;simp_all
 .rw[U,E,e3];rcases Wt.1 hp with hp|hp
  .rcases J.k p hp with k|⟨k1,k2,i,r,k3⟩
   .exact .inl k
   exact .inr ⟨k1,k2,i,r,by rw[pt i r];exact k3⟩
  simp_all
 .rw[E];rcases Wt.1 hp with hp|hp
  .exact J.hd p hp
  rw[Ui.1 hp];exact J.same B I R (Ux _) (by have:=(XL h0.w a).2.1;omega)
 .rw[E];rcases Wt.1 hp with hp|hp
  .have f:=J.fl p hp j j0 Z;exact⟨f.1,λh=>(f.2 h).imp id (Y _)⟩
  rw[Ui.1 hp]at Z⊢;refine⟨λ_=>J.same B I R (by show a<=a+1+j;omega) (by show a+1+j<_;unfold szA;dsimp only at Z;omega),λh=>?_⟩;have⟨p',A,d1,d2⟩:=J.d _ h;have g:=J.geo V A;have n2:p'.2≠a:=λe=>R (by have:=J.q_old B I A e;exact WU.2 ⟨p',A,by rw[this]⟩);have a2:=V.apart p'.2 a g.1 oa.1 n2;have:szA h0.w a=(hdA h0.w a).n+1:=rfl;grind
 .rw[E];exact J.o x h0x λp hp=>K p (Y p hp)
 .have⟨p,hp,h⟩:=J.d x K;grind
 .rw[e3]at r;have t:=J.t i r;have⟨l,T⟩:=t.2.2.2;rw[U,pt i r];exact⟨t.1,t.2.1,t.2.2.1,l,T.mono Y⟩
 rw[e3]at r;have p:=J.pgs i G L r;have p3:=h3 i G L r;rw[U];refine⟨p3.1,p3.2.1,p3.2.2,λk1=>?_,λk2=>?_,λk0=>?_⟩
 .rw[hq i G L (.inr aa) aa];exact p.2.2.2.1 k1
 .have lg:∀H,0<=H->Xd h0.c H 0=a->H=pgi h0.c a:=λH h e=>by have hv:=Xj.1 B.hp.conf;have:=(YD (c:=h0.c) B.hp.conf (p:=H) (o:=0) aa aa).1;rw[←this,e]
  by_cases v:i=pgi h0.c a
  .rw[v,T (by rw[←v];exact k2),Wm];rw[U1,Wt];have:=(W.1.large (by rw[←v];exact k2)).1;have e:=(Yq B.hp.conf W.1.rng).1;rw[this]at e;rw[←e];simp
  rw[hq i G L (.inl v) aa,p.2.2.2.2.1 k2];congr 1;rw[U1,Wt];apply propext;refine⟨.inl,λh=>?_⟩;rcases h with h|h
  .exact h
  simp at h;exact absurd (lg i G h) v
 simp_all
end
section
variable {N:Nat}{h0:Wk}{S:List Int}{P:Int->Prop}{w:Ww}{M:List (Int×Int)}{D:Int->Prop}
def JX.copy(J:JX N h0 S P w M D)(B:BX N h0 S){a:Int}(ha:Obb h0 a)(hP:P a)(hn:a∉M.map (·.1))(hc:cpy h0 a){w1:Ww}{n at_ j u:Int}(en:n=szA h0.w a)(z:OC h0 w n w1 at_ j u)(hs:SpanS h0.c h0.p w1.h.p){w':Ww}(e1:w'.h.p=w1.h.p)(e2:w'.h.w=(ovr w.h.w ((w.h.w.drop (ix a)).take n.toNat) (ix at_)).set (ix a) (wU (wU (4*at_)+2)))(e3:w'.t=w1.t)(e4:w'.q=w.q++[at_])(e5:w'.o=w.o)(ci:CI h0 S w'):JX N h0 S P w' (M++[(a,at_)]) D/\4096<=at_:=by
 obtain⟨O,s,G⟩:=J.ci.obj;have hA:=B.at_ ha;have oa:=G.old a hA.2.1;have mm:∀p∈M,p∈M++[(a,at_)]:=λp hp=>WT _ hp;have I:∀x,a<=x->x<a+n->wd w.h.w x=wd h0.w x:=λx h1 h2=>J.same B ha hn h1 aa;have hz:=(XL h0.w a).2;have en':n=szA w.h.w a:=by rw[en];exact(JS (I a (Ux _) aa)).symm
 obtain⟨i1,i2,away,fresh,aw2,hwd⟩:=XfK B.hp J.ci G hA.2.1 en' aa z (wU (wU (4*at_)+2));have h2:∀x,4096<=x->wd w'.h.w x=if x=a then wU (wU (4*at_)+2)else if at_<=x/\x<at_+n then wd w.h.w (a+(x-at_))else wd w.h.w x:=λx v=>by simp_all
 have ef:=G.fit a oa.1;have hpl:=J.ci.plen;have hpl0:=B.hp.pages;have hwl:=J.ci.wlen;have hw0:=B.hp.words;have r:=z.rng;have hm:=XP B.hp.conf (i:=j) r.1 aa;have hat0:at_=4096+j*h0.c.W+u:=z.addr;have hft:=z.fit;have nea:a≠at_:=λe=>fresh (e▸oa.1);have rgn:∀x,O x->∀y,x<=y->y<x+s x->¬(at_<=y/\y<at_+n):=λx v y h1 h2=>by grind
 have H:∀x,O x->∀y,x<=y->y<x+s x->y≠a->wd w'.h.w y=wd w.h.w y:=λx v y h1 h2' h3=>by have:=G.fit x v;grind
 have nq:∀p∈M,p.2≠a:=λp hp e=>hn (by have:=J.q_old B ha hp e;simp_all);have np:∀p∈M,p.1≠a:=λp hp e=>hn (WU.2 ⟨p,hp,e⟩);have nra:∀p∈M,∀y,p.2<=y->y<p.2+szA h0.w p.1->y≠a:=λp hp y h1 h2' e=>by have g:=J.geo G hp;have:=G.apart p.2 a g.1 oa.1 (nq p hp);omega
 have hcopy:∀d,1<=d->d<n->wd w'.h.w (at_+d)=wd h0.w (a+d):=λd d1 d2=>by grind
 have hj:∀i∈w1.t,i=j\/i∈w.t/\i≠j:=λi A=>by
  by_cases E:i=j
  .omega
  right;refine⟨?_,E⟩;rcases z.way with⟨_,g2,_⟩|⟨_,g2,_⟩
  .rwa[g2]at A
  simp_all
 have L:j∈w1.t:=by
  rcases z.way with⟨g1,g2,_⟩|⟨_,g2,_⟩
  .simp_all
  simp_all
 have R:∀i∈w.t,i∈w1.t:=λi A=>by
  rcases z.way with⟨_,g2,_⟩|⟨_,g2,_⟩
  .rw[g2];exact A
  simp_all
 have T:=z.this;have U:=z.sp;refine⟨⟨ci,by simp_all,?_,by rw[e5];exact J.ol,?_,λp hp=>?_,?_,λp hp=>?_,λp hp=>?_,λp hp k k0 k1=>?_,λx V v=>?_,λx v=>?_,λi A=>?_,λi i0 i1 A=>?_⟩,aa⟩
 .intro x v;rw[e2]at v;rcases W0 v with v|v
  .unfold ovr at v;simp only[Wt]at v;rcases v with(v|v)|v
   .exact J.tu x (WP v)
   .exact J.tu x (WQ (WP v))
   exact J.tu x (WQ v)
  simp_all
 .simp[e4,J.q,U1]
 .rcases Wt.1 hp with hp|hp
  .exact J.l p hp
  simp_all
 .rw[U1,U4];refine⟨J.n1,ab,λx v y hy e=>?_⟩;grind
 .rw[e1,e3];rcases Wt.1 hp with hp|hp
  .rcases J.k p hp with k|⟨k1,k2,i,A,k3,k4⟩
   .simp_all
   refine .inr ⟨k1,?_,i,R i A,k3,?_⟩
   .have hp1:=B.at_ (J.l p hp).1;have op:=G.old p.1 hp1.2.1;rw[H p.1 op.1 p.1 (Ux _) (by have:=(G.fit p.1 op.1).2.1;omega) (np p hp)];omega
   have t:=J.tk B A;by_cases E:i=j
   .subst E;rw[T.2];rcases z.way with⟨_,_,g⟩|⟨g,_,_⟩
    .have e5':Xd h0.c i (pg w.h.p i).u=4096+i*h0.c.W+(pg w.h.p i).u:=rfl;have e6:Xd h0.c i (u+n)=4096+i*h0.c.W+(u+n):=rfl;omega
    omega
   rw[z.other i t.1 E];omega
  rw[Ui.1 hp];refine .inr ⟨hc,by simp_all,j,L,?_,?_⟩
  .have e7:Xd h0.c j 0=4096+j*h0.c.W+0:=rfl;omega
  have e6:Xd h0.c j (u+n)=4096+j*h0.c.W+(u+n):=rfl;grind
 .rcases Wt.1 hp with hp|hp
  .have g:=J.geo G hp;have:=(XL h0.w p.1).2.1;rw[H p.2 g.1 p.2 (Ux _) aa (nq p hp)];exact J.hd p hp
  grind
 .rcases Wt.1 hp with hp|hp
  .have f:=J.fl p hp k k0 k1;have g:=J.geo G hp;have ez:szA h0.w p.1=(hdA h0.w p.1).n+1:=rfl;rw[H p.2 g.1 (p.2+1+k) aa aa (nra p hp _ aa aa)];exact⟨f.1,λh=>(f.2 h).imp id (mm _)⟩
  rw[Ui.1 hp]at k1⊢;dsimp only at k1⊢;have ez:szA h0.w a=(hdA h0.w a).n+1:=rfl;refine⟨λ_=>?_,λh=>?_⟩
  .grind
  have⟨p',hp',d1,d2⟩:=J.d _ h;have g:=J.geo G hp';have:=aw2 p'.2 g.1;omega
 .have Y:=v (a,at_) ab;dsimp only at Y;rw[h2 x V,Wi Y.1,Wi aa];exact J.o x V λp hp=>v p (mm p hp)
 .have⟨p,hp,h⟩:=J.d x v;grind
 .rw[e3]at A;rw[e1];rcases hj i A with rfl|⟨Z,hi2⟩
  .rw[T.2];have ea:Xd h0.c i (u+n)=at_+szA h0.w a:=by rw[z.addr,←en];unfold Xd;omega
   rw[ea];have mem:(a,at_)∈M++[(a,at_)]:=by simp
   rcases z.way with⟨g1,g2,g3⟩|⟨g1,g2,g3⟩
   .have t:=J.t i g1;have⟨l,K⟩:=t.2.2.2;have K:=(K.mono mm)
    rw[←g3,←z.addr]at K;have sp:(pg w1.h.p i).P=0/\(pg w1.h.p i).s=1-h0.s:=by
     rcases U with⟨_,s1,s2⟩|⟨s1,s2⟩
     .omega
     simp[s1,s2,J.ci.spc]
    exact⟨t.1,sp.1,sp.2,l++[at_],K.snoc mem hc⟩
   have hnt:i∉w.t:=λh=>by have:=(J.ci.tk i h).2.2.1;omega
   have k0:=(J.pgs i r.1 aa hnt).1;have sp:(pg w1.h.p i).P=0/\(pg w1.h.p i).s=1-h0.s:=by
    rcases U with⟨s0,_⟩|⟨s1,s2⟩
    .simp_all
    simp[s1,s2,J.ci.spc]
   refine⟨aa,sp.1,sp.2,[at_],?_,a,mem,hc,?_⟩
   .rw[z.addr,g3]
   show Xd h0.c i 0+szA h0.w a=_;rw[z.addr,g3]
  have t:=J.t i Z;have t':=J.tk B Z;have⟨l,K⟩:=t.2.2.2;rw[z.other i t'.1 hi2];exact⟨t.1,t.2.1,t.2.2.1,l,K.mono mm⟩
 rw[e3]at A;have E:i≠j:=λe=>A (e▸L);have p:=J.pgs i i0 i1 λh=>A (R i h);rw[e1,z.other i i0 E];refine⟨p.1,p.2.1,p.2.2.1,p.2.2.2.1,λk2=>?_,p.2.2.2.2.2⟩;rw[p.2.2.2.2.1 k2];congr 1;rw[U1,Wt];apply propext;refine⟨.inl,λh=>?_⟩;rcases h with h|h
 .omega
 simp at h;have:=(YD (c:=h0.c) B.hp.conf (p:=i) (o:=0) aa aa).1;rw[h]at this;rw[←this]at k2;have:=hc.1;omega
end
section
variable {N:Nat}{h0:Wk}{S:List Int}{P:Int->Prop}{w:Ww}{M:List (Int×Int)}{D:Int->Prop}
def JM{M:List (Int×Int)}{a:Int}(h:a∈M.map (·.1)):∃b,(a,b)∈M:=by simp_all
def JX.rng(J:JX N h0 S P w M D)(B:BX N h0 S){p:Int×Int}(hp:p∈M):4096<=p.2/\p.2<=100000:=by have⟨O,s,e⟩:=J.ci.obj;have g:=e.fit _ (J.geo e hp).1;have:=J.ci.wlen;have hw:=B.hp.words;have f:=Xj.1 B.hp.conf;have j:=XP B.hp.conf (i:=0) aa aa;omega
def XqS(hN:NB N)(B:BX N h0 S)(J:JX N h0 S P w M D){a:Int}(H:a=0\/Obb h0 a/\P a):Ok (QaL N w a) λr=>r.2.2=3\/(r.2.2=0/\∃M',JX N h0 S P r.1 M' D/\(∃t,M'=M++t)/\rel M' a r.2.1/\r.1.d=w.d):=by
 have hN':=hN;unfold NB at hN';have W:=B.st;have hb:=W.hb;have hp:=B.hp;have g:=J.ci;have⟨O,s,ho⟩:=J.ci.obj;have⟨r,er,hr⟩:=XaY hN W g ho a;suffices main:Ok (QaL N w a) λr=>r.2.2=3\/(r.2.2=0/\(CI h0 S r.1->∃M',JX N h0 S P r.1 M' D/\(∃t,M'=M++t)/\rel M' a r.2.1)) by
  obtain⟨r',Y,h⟩:=main;rw[er]at Y;obtain rfl:=WA Y;refine⟨r,er,?_⟩;rcases h with h|⟨h1,h2⟩
  .omega
  obtain⟨M',m1,m2,m3⟩:=h2 (hr h1).ci;exact .inr ⟨h1,M',m1,m2,m3,(hr h1).sc⟩
 have hql:=g.ql hb;have Z:=g.wl hb;have hww:=g.wlen;have hpl:=g.plen;have hb2:=hb.2;rw[QaL];by_cases hz:a=0
 .rw[XC hz,Wb];exact We (.inr ⟨rfl,λ_=>⟨M,J,⟨[],ab⟩,.inl ⟨hz,hz⟩⟩⟩)
 have⟨H,hP⟩:=H.resolve_left hz;have A:=B.at_ H;have I:=A.1;rw[Xk hz,Wa,Yx a aa aa,Xa];cases hq:w.q.contains a with
 |true=>have hm:=Yh hq;rw[J.q]at hm;have⟨p,hpm,e⟩:=WU.1 hm;have:=J.q_old B H hpm e;exact We (.inr ⟨rfl,λ_=>⟨M,J,⟨[],ab⟩,.inr (by simp_all)⟩⟩)
 |false=>
 have hal:a∈w.o:=by rw[J.ol];unfold Yo;rw[W8];exact⟨A.2.1,by simp[Y8,fnd,H.2]⟩
 have hol:=g.old.length_le;have hsl:=W.st.len;have hin:inW w.h.w a:=by have:=I.rng;have:=hp.words;unfold inW;omega
 rw[Wa,Yx a aa aa,Xa,show w.o.contains a=true by simp_all,Wh,Wa,Ye Z,Xa,Wm hin,KJ,Xa];have etw:w.h.w.getD (ix a) 0=wd w.h.w a:=rfl;rw[etw];by_cases hn:a∈M.map (·.1)
 ·
  obtain⟨b,R⟩:=JM hn;have hr:=J.rng B R;rcases J.k _ R with⟨k,_⟩|⟨_,k,_⟩
  .simp_all[J.q]
  have f:=Xgb (v:=b) aa aa;have k:wd w.h.w a=wU (wU (4*b)+2):=k;rw[k,f.1,f.2.1];exact We (.inr ⟨rfl,λ_=>⟨M,J,⟨[],ab⟩,.inr R⟩⟩)
 have hsm:=J.same B H hn (x:=a) (Ux _) (by have:=(XL h0.w a).2.1;omega);have hf:=XcQ (Xct J.tu a) (by rw[hsm];exact I.ok);have hof:Qch N w.h.c a=some (pgi h0.c a,pgo h0.c a,0):=by rw[K5,g.conf,hp.conf,Wi ab,Wm I.rng];rfl
 rw[hf,Wi ab,Wa,hof,Xa,show((0:Int) != 0)=false from rfl,Wa,Wg aa,Wa];have K:=J.prm B H;have hpg:=J.pgs _ A.2.2.1 A.2.2.2.1 K.1;have⟨b,eb,hbp⟩:=XqR hN (g.tl hb) (pgi h0.c a);have hsps:=B.hp.space;have hwsp:wI (1-w.h.s)=1-h0.s:=by rw[g.spc,Xc aa aa]
 rw[eb,Xa];have hk12:=I.kind;cases b with
 |true=>have hpin:=K.2.1 (hbp.1 rfl);rw[Wb,QcY,Xb aa,Xb aa,Xa];refine We (.inr ⟨rfl,λci=>⟨M++[(a,a)],?_,⟨_,rfl⟩,.inr ab⟩⟩);exact J.keep B H hP hn (λc=>c.2 hpin.2) J.ss (λi _ _ _ _=>rfl) (λi z E L=>⟨(J.pgs i z E L).1,(J.pgs i z E L).2.1,(J.pgs i z E L).2.2.1⟩) (λh2=>aa) rfl rfl rfl rfl rfl ci
 |false=>
 have hnp:¬((pg h0.p (pgi h0.c a)).k=1/\(pg h0.p (pgi h0.c a)).P>0):=λh=>by simp_all
 rw[Wa,Xr A.2.2.1 aa,Xa];by_cases hk2:(pg h0.p (pgi h0.c a)).k=2
 .rw[XC (hpg.1.trans hk2),Wb,Xb aa,Xa,Xc (n:=pgi h0.c a+1) aa aa];have G:OF h0.c w.h.p:=by have h:=J.ss.proper hN hb B.gx.ep (ws:=h0.w) rfl (b:=-1) (.inl rfl);exact Xag hN (h:=⟨h0.c,h0.w,w.h.p,h0.s,-1⟩) ⟨hb.1,by simp_all⟩ h
  refine WI (XfJ w a (ps:=w.h.p) aa N (pgi h0.c a+1) _ aa aa aa ((SameK.refl _).set A.2.2.1 aa _ _)) λqs eqs hqs=>?_;have hrun:=XqQ (w:=w) G (by simp_all[g.spc]) A.2.2.1 aa (hpg.1.trans hk2) hqs.1 eqs;have hfr:=λj hj=>Xga w a N (pgi h0.c a+1) _ qs aa eqs j hj;have e2:=λx hx=>Y6 (ps:=w.h.p) (j:=x) ⟨(pg w.h.p (pgi h0.c a)).k,wI (1-w.h.s),(pg w.h.p (pgi h0.c a)).u,(pg w.h.p (pgi h0.c a)).P⟩ A.2.2.1 aa hx;have hpq:∀i,0<=i->(pg w.h.p i).k≠3->pg qs i=if i=pgi h0.c a then⟨(pg w.h.p (pgi h0.c a)).k,wI (1-w.h.s),(pg w.h.p (pgi h0.c a)).u,(pg w.h.p (pgi h0.c a)).P⟩else pg w.h.p i:=λi z hk=>by grind
  have hp3:∀i,0<=i->(pg qs i).u=(pg w.h.p i).u/\(pg qs i).k=(pg w.h.p i).k/\(pg qs i).P=(pg w.h.p i).P:=λi z=>by have hk:=hqs.2 i z;grind
  rw[QcY,Xb (by grind),Xb (by grind),Xa];refine We (.inr ⟨rfl,λci=>⟨M++[(a,a)],?_,⟨_,rfl⟩,.inr ab⟩⟩);have kk:∀i,0<=i->i<(h0.p.length:Int)->(pg h0.p i).k≠3->(pg w.h.p i).k≠3:=λi z E h=>by
   by_cases L:i∈w.t
   .rw[(J.tk B L).2.2.1];omega
   rw[(J.pgs i z E L).1];omega
  exact J.keep B H hP hn (λc=>by have:=c.1;omega) (J.ss.trans hrun.ss) (λi z E h1 h2=>by
   grind)
   (λi z E L=>by have q:=hp3 i z;have p:=J.pgs i z E L;omega)
   (λ_=>by simp_all) rfl rfl rfl rfl rfl ci
 have T:(pg h0.p (pgi h0.c a)).k=1:=aa;rw[Xk aa,Wa];have hcp:cpy h0 a:=⟨T,λh=>hnp ⟨T,h⟩⟩
 have hsz:=(W.good (IY A.2.1)).sz W.st A.2.1 T;have U:=XL w.h.w a;have esz:szA w.h.w a=szA h0.w a:=JS hsm;rw[ZR,Xa,XW,Xa];have e1:Xw (Zq (wd w.h.w a))=szA w.h.w a:=U.1;rw[e1];refine WI (Xdq hN hb hp g (n:=szA w.h.w a) U.2.1 aa) λy ey hy=>?_;cases hy2:y.2.2 with
 |false=>exact We (.inl rfl)
 |true=>
 have⟨j,u,V⟩:=hy hy2;have cw:=XfK hp g ho A.2.1 rfl U.2.1 V (wU (wU (4*y.2.1)+2));have⟨E,i2,_⟩:=cw;rw[Wh,Wa,V.words];have en:szA w.h.w a=(((szA w.h.w a).toNat:Nat):Int):=aa;have hmv:=XfD (N:=N) Z y.2.1 a (szA w.h.w a).toNat aa aa;rw[←en,Wm ⟨E,i2⟩]at hmv;have ol:=Xbo E i2;have hr1:y.2.1<4294967296:=by have:=i2.2;have:=hb.1;omega
 rw[hmv,Xa,Vt,Xa,Wi aa];rw[Z3 (by grind) aa,Xa];have hin2:inW (ovr w.h.w ((w.h.w.drop (ix a)).take (szA w.h.w a).toNat) (ix y.2.1)) a:=by unfold inW;rw[ol];exact hin
 rw[Wm hin2];have hqe:=V.queue;have G:OF h0.c w.h.p:=by have h:=J.ss.proper hN hb B.gx.ep (ws:=h0.w) rfl (b:=-1) (.inl rfl);exact Xag hN (h:=⟨h0.c,h0.w,w.h.p,h0.s,-1⟩) ⟨hb.1,by grind⟩ h
 have hpc:=Xj3 G (by grind[g.spc]) (λj hj=>(g.tk j hj).2.2.1) aa V;refine Uc (by grind) (Uc (by grind) (We (.inr ⟨rfl,λci=>⟨M++[(a,y.2.1)],?_,⟨_,rfl⟩,.inr ab⟩⟩)));exact(J.copy B H hP hn hcp esz V (J.ss.trans hpc.ss) (by rfl) (by rfl) (by rfl) (by grind) (by exact V.old) ci).1
end
def R2{α β:Type}(r:α->β->Prop)(l:List α)(m:List β):Prop:=m.length=l.length/\∀(k:Nat) (a:α) (b:β),l[k]? = some a->m[k]? = some b->r a b
section
variable {α β:Type}{r s:α->β->Prop}{l:List α}{m:List β}{a:α}{b:β}
def R2.nil(r:α->β->Prop):R2 r [] []:=⟨rfl,λk a b h=>ab⟩
def R2.mono(h:R2 r l m)(e:∀a b,r a b->s a b):R2 s l m:=⟨h.1,λk a b x y=>e a b (h.2 k a b x y)⟩
def R2.app{g:List α}{j:List β}(h:R2 r l m)(o:R2 r g j):R2 r (l++g) (m++j):=by
 refine⟨by simp[h.1,o.1],λk x y e f=>?_⟩;by_cases p:k<l.length
 .rw[Uh p]at e;rw[Uh (by rw[h.1];omega)]at f;exact h.2 k x y e f
 rw[Uf aa]at e;rw[Uf (by rw[h.1];omega),h.1]at f;exact o.2 _ x y e f
def R2.one(h:r a b):R2 r [a] [b]:=⟨rfl,λk x y e f=>by
 grind⟩
def R2.snoc(h:R2 r l m)(e:r a b):R2 r (l++[a]) (m++[b]):=h.app (.one e)
def R2.cons(e:r a b)(h:R2 r l m):R2 r (a::l) (b::m):=(R2.one e).app h
def R2.unc(h:R2 r (a::l) m):∃b m',m=b::m'/\r a b/\R2 r l m':=by
 cases m with
 |nil=>have:=h.1;simp_all
 |cons b m'=>refine⟨b,m',rfl,h.2 0 a b rfl rfl,by have:=h.1;simp_all,λk x y e f=>h.2 (k+1) x y ag ag⟩
def R2.take(h:R2 r l m)(n:Nat):R2 r (l.take n) (m.take n):=by
 refine⟨by simp[h.1],λk x y e f=>?_⟩;rw[Us]at e f;split at e
 .rename_i g;rw[Wm g]at f;exact h.2 k x y e f
 simp_all
def R2.drop(h:R2 r l m)(n:Nat):R2 r (l.drop n) (m.drop n):=by refine⟨by simp[h.1],λk x y e f=>?_⟩;rw[UK]at e f;exact h.2 _ x y e f
def R2.memr(h:R2 r l m)(hb:b∈m):∃a∈l,r a b:=by obtain⟨k,e,rfl⟩:=WE hb;have f:=h.1;exact⟨l[k],WG aa,h.2 k _ _ (Wc aa) (Wc e)⟩
def R2.meml(h:R2 r l m)(e:a∈l):∃b∈m,r a b:=by obtain⟨k,f,rfl⟩:=WE e;have g:=h.1;exact⟨m[k],WG aa,h.2 k _ _ (Wc f) (Wc aa)⟩
def R2.get(h:R2 r l m){k:Nat}(e:l[k]? = some a):∃b,m[k]? = some b/\r a b:=by have f:=(UU.1 e).1;have g:=h.1;exact⟨m[k],Wc aa,h.2 k _ _ e (Wc aa)⟩
def R2.set(h:R2 r l m)(k:Nat)(j:r a b):R2 r (l.set k a) (m.set k b):=by
 refine⟨by simp[h.1],λi x y e f=>?_⟩;rw[If]at e f;by_cases g:k=i
 .simp_all
 rw[Wi g]at e f;exact h.2 i x y e f
end
def rel.mono{M M':List (Int×Int)}{a b:Int}(h:rel M a b)(e:∃t,M'=M++t):rel M' a b:=by obtain⟨t,rfl⟩:=e;exact h.imp id λh=>WT _ h
def Xah{d:Wv}:∀{k:Nat} {i:Int},(YC d k i).Pairwise (·<·)
 |0,i=>.nil
 |k+1,i=>by
  rw[YC];split
  .exact U0.2 ⟨λx e=>by have:=K8 e;omega,Xah⟩
  exact Xah
def XnB(d:Wv):(X5 d).Pairwise (·<·):=by
 unfold X5;split
 .exact Xah
 simp
section
variable {N:Nat}{h0:Wk}{S:List Int}{P:Int->Prop}{w:Ww}{M:List (Int×Int)}{D:Int->Prop}
def JX.cong(J:JX N h0 S P w M D){w':Ww}(f:w'.h.p=w.h.p)(e:w'.h.w=w.h.w)(e3:w'.t=w.t)(e4:w'.q=w.q)(g:w'.o=w.o)(ci:CI h0 S w'){D':Int->Prop}(j:∀x,D' x↔D x):JX N h0 S P w' M D':=by have:D'=D:=funext λx=>propext (j x);subst this;refine⟨ci,by rw[f];exact J.ss,by rw[e];exact J.tu,by rw[g];exact J.ol,by rw[e4];exact J.q,J.l,J.n1,by rw[f,e,e3];exact J.k,by rw[e];exact J.hd,by rw[e];exact J.fl,by rw[e];exact J.o,J.d,by rw[f,e3];exact J.t,by rw[f,e3];exact J.pgs⟩
def JX.store(J:JX N h0 S P w M D)(B:BX N h0 S){p:Int×Int}(hp:p∈M){j v:Int}(j0:0<=j)(j1:j<(hdA h0.w p.1).n)(W:rel M (wd h0.w (p.1+1+j)) v):inW w.h.w (p.2+1+j)/\∀{w':Ww},w'.h.p=w.h.p->w'.h.w=w.h.w.set (ix (p.2+1+j)) v->w'.t=w.t->w'.q=w.q->w'.o=w.o->CI h0 S w'->JX N h0 S P w' M (λx=>D x\/x=p.2+1+j):=by
 have⟨O,s,A⟩:=J.ci.obj;have g:=J.geo A hp;have ez:szA h0.w p.1=(hdA h0.w p.1).n+1:=rfl;have hf:=A.fit p.2 g.1;have H:inW w.h.w (p.2+1+j):=by unfold inW;omega
 refine⟨H,λL Y e3 e4 e5 ci=>?_⟩;rename_i w';have E:∀x,4096<=x->wd w'.h.w x=if x=p.2+1+j then v else wd w.h.w x:=λx z=>by rw[Y];exact XbU H z
 have ne:∀y,O y->y≠p.2->∀x,y<=x->x<y+s y->x≠p.2+1+j:=λy hy h x R h2' e=>by have:=A.apart y p.2 hy g.1 h;omega
 have I:∀q∈M,q.2≠p.2+1+j:=λq u e=>by
  have T:=J.geo A u;have:=(XL h0.w q.1).2.1;by_cases h:q.2=p.2
  .omega
  exact ne q.2 T.1 h q.2 (Ux _) aa e
 refine⟨ci,by rw[L];exact J.ss,?_,by rw[e5];exact J.ol,by rw[e4];exact J.q,J.l,J.n1,λq u=>?_,λq u=>?_,λq u k k0 k1=>?_,λx Z z=>?_,λx z=>?_,by rw[L,e3];exact J.t,by rw[L,e3];exact J.pgs⟩
 .intro x z;rw[Y]at z;rcases W0 z with z|z
  .exact J.tu x z
  rcases W with⟨_,h⟩|h
  .simp_all
  have:=J.rng B h;exact⟨aa,aa⟩
 .rw[L,e3];rcases J.k q u with k|⟨k1,k2,k3⟩
  .simp_all
  refine .inr ⟨k1,?_,k3⟩;have G:=B.at_ (J.l q u).1;have oq:=A.old q.1 G.2.1;have:q.1≠p.2:=λe=>by
   have R:=J.q_old B (J.l q u).1 hp e.symm;have E:=J.fn u (q:=(q.1,q.1)) (by rw[←R];exact hp) rfl;rcases J.k p hp with k|⟨_,_,i,hi,g1,g2⟩
   .rw[R]at k;exact k.2 k1
   have K:=J.hd q u;rw[E]at K k2;have:=G.1.ok;have U:=XcQ (Xct J.tu q.1) (by rw[K];exact this);rw[k2]at U;have hr:=J.rng B u;rw[E]at hr;have:=(Xgb (v:=q.1) aa aa).1;rw[this]at U;cases U
  rw[E q.1 G.2.2.2.2,Wi (ne q.1 oq.1 this q.1 (Ux _) (by have:=(A.fit _ oq.1).2.1;omega))];omega
 .rw[E q.2 (by have:=J.rng B u;omega),Wi (I q u)];exact J.hd q u
 .have f:=J.fl q u k k0 k1;have hr:=J.rng B u;rw[E _ aa];by_cases he:q.2+1+k=p.2+1+j
  .rw[Wm he];have T:=J.geo A u;have ezq:szA h0.w q.1=(hdA h0.w q.1).n+1:=rfl;have V:q.2=p.2:=by apply Classical.byContradiction;intro h;exact ne q.2 T.1 h (q.2+1+k) aa aa he
   have:=J.inj u hp V;subst this;have:k=j:=aa;subst this;exact⟨λh=>absurd (.inr rfl) h,λ_=>W⟩
  simp_all
 .rw[E x Z,Wi]
  .exact J.o x Z z
  grind
 rcases z with z|z
 .exact J.d x z
 grind
def Xj5(hN:NB N)(B:BX N h0 S)(rs:List Int)(H:rs.length<=1000000)(A:∀r∈rs,r=0\/Obb h0 r/\P r):∀(n k:Nat) (w:Ww) (M:List (Int×Int)) (out:List Int),k<=rs.length->rs.length-k<n->JX N h0 S P w M D->R2 (rel M) (rs.take k) out ->
 Ok (Qa8 N rs n (k:Int) w.h.c.W w.h.c.p w.h.w w.h.p w.h.s w.h.b w.o w.t w.q w.d w.r.j w.r.K w.r.F w.r.E w.r.f w.r.y out) λe=>match e with
  |.ret r=>r.2.2=3
  |.nxt t=>∃(w':Ww) (M':List (Int×Int)) (u:List Int),JX N h0 S P w' M' D/\w'.d=w.d/\(∃t,M'=M++t)/\R2 (rel M') rs u/\t=(w'.h.c.W,w'.h.c.p,w'.h.w,w'.h.p,w'.h.s,w'.h.b,w'.o,w'.t,w'.q,w'.d,w'.r.j,w'.r.K,w'.r.F,w'.r.E,w'.r.f,w'.r.y,u)
 |0,k,w,M,out,_,I,_,_=>by omega
 |n+1,k,w,M,out,T,I,J,G=>by
  rw[Qa8];by_cases g:k<rs.length;rotate_left
  .rw[Wg aa,Wa];exact We ⟨w,M,out,J,rfl,⟨[],ab⟩,by grind,rfl⟩
  rw[Xn g,Wb,Xf,Wc g,Xa,Xg aa];have z:=G.1;rw[Wl]at z;refine WI (XqS hN B J (A _ (WG g))) λy _ L=>?_;rcases L with O|⟨h0,M',J',⟨t,rfl⟩,v,R⟩
  .rw[O];exact We rfl
  rw[h0];refine Uc aa ((Xj5 hN B rs H A n (k+1) y.1 (M++t) (out++[y.2.1]) aa aa J' ?_).mono λe U=>?_)
  .rw[Ig,Wc g];exact(G.mono λa b h=>h.mono ⟨t,rfl⟩).snoc v
  grind
def Xj6(hN:NB N)(B:BX N h0 S){p:Int×Int}(hP:∀j∈X5 (hdA h0.w p.1),wd h0.w (p.1+1+j)=0\/P (wd h0.w (p.1+1+j))):∀(n k:Nat) (w:Ww) (M:List (Int×Int)) (D:Int->Prop),k<=(X5 (hdA h0.w p.1)).length->(X5 (hdA h0.w p.1)).length-k<n->p∈M->JX N h0 S P w M D->(∀j∈(X5 (hdA h0.w p.1)).drop k,¬D (p.2+1+j)) ->
 Ok (Qbm N p.2 (X5 (hdA h0.w p.1)) n (k:Int) w.h.c.W w.h.c.p w.h.w w.h.p w.h.s w.h.b w.o w.t w.q w.d w.r.j w.r.K w.r.F w.r.E w.r.f w.r.y) λe=>match e with
  |.ret r=>r.2.2=3
  |.nxt t=>∃(w':Ww) (M':List (Int×Int)),JX N h0 S P w' M' (λx=>D x\/∃j∈(X5 (hdA h0.w p.1)).drop k,x=p.2+1+j)/\w'.d=w.d/\(∃t,M'=M++t)/\t=(w'.h.c.W,w'.h.c.p,w'.h.w,w'.h.p,w'.h.s,w'.h.b,w'.o,w'.t,w'.q,w'.d,w'.r.j,w'.r.K,w'.r.F,w'.r.E,w'.r.f,w'.r.y)
 |0,k,w,M,D,_,hn,_,_,_=>by omega
 |n+1,k,w,M,D,hk,hn,hp,J,R=>by
  have T:=hN;unfold NB at T;have hkl:=Xaq (hdA h0.w p.1);rw[Qbm];by_cases u:k<(X5 (hdA h0.w p.1)).length;rotate_left
  .rw[Wg aa,Wa];refine We ⟨w,M,J.cong rfl rfl rfl rfl rfl J.ci λx=>?_,rfl,⟨[],ab⟩,rfl⟩;grind
  rw[Xn u,Wb,Xf,Wc u,Xa,Xg aa];have hdr:=Wo u;have G:=(XnB (hdA h0.w p.1)).drop (i:=k);have U:=WG u;rw[hdr,U0]at G;rw[hdr]at R;have H:=ZA U;have v:(X5 (hdA h0.w p.1))[k]∈X5 (hdA h0.w p.1):=U;generalize ej:(X5 (hdA h0.w p.1))[k]=j at G R H v U;have V:=(J.l p hp).1;have hpt:=B.gx.pt p.1 V j v;have hr:=J.rng B hp;have z:=(XO (Kc (wd h0.w p.1))).2.2.2;have z:(hdA h0.w p.1).n<=255:=z;have Y:=J.fl p hp j H.1 H.2;rw[Xp (n:=p.2+1) aa aa,Xp (n:=j) aa aa,Xp (n:=p.2+1+j) aa aa];have Z:inW w.h.w (p.2+1+j):=by obtain⟨O,s,I⟩:=J.ci.obj;have g:=J.geo I hp;have hf:=I.fit p.2 g.1;have ez:szA h0.w p.1=(hdA h0.w p.1).n+1:=rfl;unfold inW;omega
  rw[Ye (J.ci.wl B.st.hb),Xa,Wm Z];have ew:w.h.w.getD (ix (p.2+1+j)) 0=wd h0.w (p.1+1+j):=Y.1 (R j (List.mem_cons_self));rw[ew];refine WI (XqS hN B J (a:=wd h0.w (p.1+1+j)) ?_) λy _ hy=>?_
  .grind
  rcases hy with h3|⟨hz,M',J',⟨t,rfl⟩,L,hsc⟩
  .rw[h3];exact We rfl
  rw[hz];have A:p∈M++t:=WT _ hp;have st:=J'.store B A H.1 H.2 L;rw[Z3 (J'.ci.wl B.st.hb) aa,Xa,Wm st.1];have⟨O,s,I⟩:=J'.ci.obj;have g:=J'.geo I A;have ez:szA h0.w p.1=(hdA h0.w p.1).n+1:=rfl;have sq:=XfL J'.ci I g.1 (x:=p.2+1+j) aa aa y.2.1;have J2:=st.2 (w':={y.1 with h:={y.1.h with w:=y.1.h.w.set (ix (p.2+1+j)) y.2.1}}) rfl rfl rfl rfl rfl sq.2.1;refine(Xj6 hN B hP n (k+1) {y.1 with h:={y.1.h with w:=y.1.h.w.set (ix (p.2+1+j)) y.2.1}} (M++t) _ aa aa A J2 λi hi h=>?_).mono λe he=>?_
  .grind
  cases e with
  |ret r=>omega
  |nxt t'=>have⟨w',M',c1,c2,⟨t2,c3⟩,c5⟩:=he;refine⟨w',M',c1.cong rfl rfl rfl rfl rfl c1.ci λx=>?_,c2.trans hsc,⟨t++t2,by rw[c3,Ud]⟩,c5⟩;grind
end
def Dn(h:Wk)(M:List (Int×Int))(k:Nat)(x:Int):Prop:=∃(i:Nat) (p:Int×Int) (j:Int),i<k/\M[i]? = some p/\j∈X5 (hdA h.w p.1)/\x=p.2+1+j
section
variable {N:Nat}{h0:Wk}{S:List Int}{P:Int->Prop}{w:Ww}{M:List (Int×Int)}
def XrX(hN:NB N)(B:BX N h0 S)(G:∀a,Obb h0 a->P a->∀j∈X5 (hdA h0.w a),wd h0.w (a+1+j)=0\/P (wd h0.w (a+1+j))){k:Nat}(J:JX N h0 S P w M (Dn h0 M k))(U:w.d=k)(hk:k<=M.length):
 Ok (Qet N w) λr=>r.2.2=3\/(r.2.2=0/\((k=M.length/\r.1=w/\r.2.1=false)\/(k<M.length/\r.2.1=true/\∃M',JX N h0 S P r.1 M' (Dn h0 M' (k+1))/\r.1.d=((k+1:Nat):Int)/\∃t,M'=M++t))):=by
 have H:=hN;unfold NB at H;have Z:=J.ci.ql B.st.hb;have f:w.q.length=M.length:=by rw[J.q,Um]
 rw[Qet,U,f];by_cases o:k<M.length;rotate_left
 .rw[Wd aa];exact We (.inr ⟨rfl,.inl ⟨aa,rfl,rfl⟩⟩)
 have v:M[k]∈M:=WG o;have I:Xe w.q (k:Int)=some M[k].2:=by rw[Xf,J.q,IJ,Wc o];rfl
 have⟨O,s,z⟩:=J.ci.obj;have g:=J.geo z v;have hf:=z.fit _ g.1;have K:inW w.h.w M[k].2:=by unfold inW;omega
 have ehd:Zq (w.h.w.getD (ix M[k].2) 0)=hdA h0.w M[k].1:=by show Zq (wd w.h.w M[k].2)=_;rw[J.hd _ v];rfl
 have V:=J.l _ v;rw[Wg aa,Wa,I,Xa,Qdw,Ye (J.ci.wl B.st.hb),Xa,Wm K,ZR,Xa,Xa,ehd,Xdl aa,Xa];have L:∀j∈(X5 (hdA h0.w M[k].1)).drop 0,¬Dn h0 M k (M[k].2+1+j):=by
  rintro j u ⟨i,q,j',A,E,y,e⟩;have u:=ZA (WQ u);have y:=ZA y;have f:q∈M:=W7 E;have gq:=J.geo z f;have e1:szA h0.w M[k].1=(hdA h0.w M[k].1).n+1:=rfl;have e2:szA h0.w q.1=(hdA h0.w q.1).n+1:=rfl;have R:q.2=M[k].2:=by apply Classical.byContradiction;intro h;have:=z.apart _ _ gq.1 g.1 h;omega
  have:=J.inj f v R;have W:=J.n1;rw[List.Nodup,List.pairwise_map,Un]at W;have:=W i k aa o A;obtain⟨_,E⟩:=UU.1 E;rw[E]at this;simp_all
 have Y:=Xj6 hN B (p:=M[k]) (G _ V.1 V.2) N 0 w M (Dn h0 M k) aa (by have:=Xaq (hdA h0.w M[k].1);omega) v J L;rw[show((0:Nat):Int)=0 from rfl,U]at Y;refine IS Y (λa q=>We (.inl q)) λt q=>?_;obtain⟨w',M',c1,c2,⟨t2,c3⟩,rfl⟩:=q;have e:wI (w'.d+1)=((k+1:Nat):Int):=by rw[c2,Xg aa]
 refine We (.inr ⟨rfl,.inr ⟨o,rfl,M',c1.cong (by rfl) (by rfl) (by rfl) (by rfl) (by rfl) ?_ λx=>?_,e,t2,c3⟩⟩)
 .have ci:=c1.ci;have⟨O,s,h⟩:=ci.obj;exact⟨ci.conf,ci.wlen,ci.plen,ci.spc,ci.old,ci.tk,ci.tnd,ci.knd,ci.qnd,O,s,⟨h.old,h.queue,h.fit,h.apart,h.taken,h.free⟩⟩
 have T:∀i,i<M.length->M'[i]? = M[i]?:=λi A=>by grind
 constructor
 .rintro⟨i,p,j,A,hp,u,e⟩;rw[T i aa]at hp;by_cases hik:i=k
  .simp_all
  exact .inl ⟨i,p,j,aa,hp,u,e⟩
 rintro(⟨i,p,j,A,hp,u,e⟩|⟨j,u,e⟩)
 .exact⟨i,p,j,aa,by grind,u,e⟩
 exact⟨k,M[k],j,aa,by simp_all,u,e⟩
def XqT(hN:NB N)(B:BX N h0 S)(e:∀a,Obb h0 a->P a->∀j∈X5 (hdA h0.w a),wd h0.w (a+1+j)=0\/P (wd h0.w (a+1+j))):∀(n k:Nat) (w:Ww) (M:List (Int×Int)),JX N h0 S P w M (Dn h0 M k)->w.d=k->k<=M.length->100001-k<n ->
 Ok (QbZ N n w.h.c.W w.h.c.p w.h.w w.h.p w.h.s w.h.b w.o w.t w.q w.d w.r.j w.r.K w.r.F w.r.E w.r.f w.r.y) λr=>r.2=3\/(r.2=0/\∃M',JX N h0 S P r.1 M' (Dn h0 M' M'.length)/\∃t,M'=M++t)
 |0,k,w,M,_,_,_,I=>by omega
 |n+1,k,w,M,J,L,O,I=>by
  refine WI (XrX hN B e J L O) λy _ g=>?_;rcases g with u|⟨v,g⟩
  .rw[u];exact We (.inl rfl)
  rw[v,show((0:Int) != 0)=false from rfl,Wa];rcases g with⟨G,z,u⟩|⟨G,z,M',J',A,t,ht⟩
  .rw[u,z];subst G;exact We (.inr ⟨rfl,M,J,[],ab⟩)
  rw[z];have R:=J'.ci.ql B.st.hb;have T:y.1.q.length=M'.length:=by rw[J'.q,Um]
  have H:M.length<=M'.length:=by rw[ht,WJ];omega
  refine(XqT hN B e n (k+1) y.1 M' J' A aa aa).mono λr U=>?_;grind
end
section
variable {N:Nat}{h0:Wk}{S:List Int}{P:Int->Prop}{w:Ww}{M:List (Int×Int)}{D:Int->Prop}
def Xs7(hN:NB N)(hb:HB h0)(g:GX N h0):∃S,BX N h0 S/\Qap N h0=some (Yo h0 S,0):=by obtain⟨S,L,j,mS,eS,eL,rfl,mL⟩:=Xca hN hb g.ep g.ps;have⟨b,eb,e⟩:=KQ hN hb;rw[(Vg hN hb).2 g]at eb;obtain rfl:=WA eb;have f:=e rfl;exact⟨S,⟨g,⟨hb,λ_=>f,λ_=>f.prop,j⟩,mS,f.prop⟩,eL⟩
def Xd6(e:List Int×Int)(o:h0.p.length<=100000):∀(n k:Nat) (v:List Ws),k<=h0.p.length->h0.p.length-k<n->v.length=h0.p.length->(∀j:Nat,k<=j->pg v j=pg h0.p j) ->
 ∃r,QbK N h0 e n (k:Int) v=some r/\r.length=h0.p.length/\∀j:Nat,pg r j=if j<k\/¬((pg h0.p j).k=1/\(pg h0.p j).P>0)then pg v j else⟨1,wI (1-h0.s),(pg h0.p j).u,(pg h0.p j).P⟩
 |0,k,v,_,z,_,_=>by omega
 |n+1,k,v,H,z,f,q=>by
  rw[QbK,Xb aa,f];by_cases h:k<h0.p.length
  .rw[Xn h,Wb,Xr (ps:=v) (i:=(k:Int)) aa aa,Xa,Xg aa];simp only[Xa,q k (Uo k)];by_cases I:(pg h0.p k).k=1/\(pg h0.p k).P>0
   .have J:=λx:Nat=>Y6 (ps:=v) (i:=(k:Int)) (j:=(x:Int)) ⟨(pg h0.p k).k,wI (1-h0.s),(pg h0.p k).u,(pg h0.p k).P⟩ aa aa aa;obtain⟨r,A,B,E⟩:=Xd6 e o n (k+1) (v.set (k:Int).toNat ⟨(pg h0.p k).k,wI (1-h0.s),(pg h0.p k).u,(pg h0.p k).P⟩) aa aa (by simp_all) λj g=>by grind
    grind
   have⟨r,A,B,E⟩:=Xd6 e o n (k+1) v aa aa f λj g=>q j aa;grind
  obtain rfl:k=h0.p.length:=aa;rw[XI,Wa];refine⟨v,rfl,f,λj=>?_⟩;by_cases G:j<h0.p.length\/¬((pg h0.p j).k=1/\(pg h0.p j).P>0)
  .grind
  exfalso;apply G;right;intro y;have:pg h0.p j=Zm:=by unfold pg;rw[Wj,WS aa];rfl
  rw[this]at y;exact absurd y.1 ae
def Xp0(hN:NB N)(ht:HT h0)(B:BX N h0 S)(eL:Qap N h0=some (Yo h0 S,0)):∃w,Qda N h0=some (w,0)/\JX N h0 S P w [] (Dn h0 [] 0)/\w.d=0:=by
 have hb:=B.st.hb;have v:=hb.2;have hp:=B.hp;have y:=hp.space;have hw:wI (1-h0.s)=1-h0.s:=Xc aa aa;have e:=Xag hN hb B.gx.ep;have⟨r,o,q,L⟩:=Xd6 (N:=N) (h0:=h0) (Yo h0 S,0) aa N 0 h0.p aa (by unfold NB at hN;omega) rfl λ_ _=>rfl;rw[show((0:Nat):Int)=0 from rfl]at o;have z:∀j,0<=j->((pg h0.p j).k=1/\(pg h0.p j).P>0/\(pg r j)=⟨1,1-h0.s,(pg h0.p j).u,(pg h0.p j).P⟩)\/(¬((pg h0.p j).k=1/\(pg h0.p j).P>0)/\pg r j=pg h0.p j):=λj A=>by
  obtain⟨m,rfl⟩:∃m:Nat,j=m:=⟨j.toNat,aa⟩
  grind
 have E:SameK h0.p r:=⟨q,λj A=>by
  grind⟩
 have ci:=Xds hb hp B.st.st (w:=⟨⟨h0.c,h0.w,r,h0.s,h0.b⟩,Yo h0 S,[],[],0,⟨0,0,0,0,0,0⟩⟩) rfl rfl rfl E List.filter_sublist rfl rfl;refine⟨⟨⟨h0.c,h0.w,r,h0.s,h0.b⟩,Yo h0 S,[],[],0,⟨0,0,0,0,0,0⟩⟩,?_,⟨ci,?_,ht.tw,rfl,rfl,ab,ab,ab,ab,ab,λ_ _ _=>rfl,λx G=>?_,λi H=>by simp_all,λi f g _=>?_⟩,rfl⟩
 .rw[Qda,B.gx.ep,Xa,Wh,Wa,(Vg hN hb).2 B.gx,Xa,Wh,Wa,eL,Xa,Xb aa,o,Xa]
 .refine XbC e q (λi f g=>?_) λi m f I J K O=>?_
  .have hb:=e.hd i f g;rcases z i f with⟨a,_,b⟩|⟨_,b⟩
   .have:=(hb aa).k1 a;have:=(hb aa).pn;rw[b];exact .inl ⟨aa,rfl,⟨by show 0<=1-h0.s;omega,by show 1-h0.s<=1;omega⟩,ag,by dsimp only;omega,by dsimp only;omega⟩
   simp_all
  have tl:=((e.hd i f aa aa).k2 I).2.2 m J K;grind
 .have⟨i,p,j,H,_⟩:=G;omega
 have R:=B.gx.sp i f g;grind
def JX.upd(J:JX N h0 S P w M D)(sc:Int)(f:WR):JX N h0 S P ⟨w.h,w.o,w.t,w.q,sc,f⟩ M D:=by
 have ci:=J.ci;have⟨O,s,h⟩:=ci.obj;have e:CI h0 S ⟨w.h,w.o,w.t,w.q,sc,f⟩:=⟨ci.conf,ci.wlen,ci.plen,ci.spc,ci.old,ci.tk,ci.tnd,ci.knd,ci.qnd,O,s,⟨h.old,h.queue,h.fit,h.apart,h.taken,h.free⟩⟩
 exact J.cong (by rfl) (by rfl) (by rfl) (by rfl) (by rfl) e λ_=>Iff.rfl
def wk(M:List (Int×Int))(a b:Int):Prop:=(a=0/\b=0)\/(a,b)∈M\/(a∉M.map (·.1)/\b=0)
def Xp1(hN:NB N)(B:BX N h0 S)(J:JX N h0 S P w M D){a:Int}(j:Obb h0 a):∃b,QcM N w a=some b/\wk M a b:=by
 have o:=hN;unfold NB at o;have H:=J.ci.ql B.st.hb;have E:=B.at_ j;rw[QcM,Yx a aa aa,Xa];cases I:w.q.contains a with
 |true=>have G:=Yh I;rw[J.q]at G;have⟨p,u,e⟩:=WU.1 G;have:=J.q_old B j u e;exact⟨a,rfl,.inr (.inl (by simp_all))⟩
 |false=>
 have y:inW w.h.w a:=by have:=E.1.rng;have:=B.hp.words;have:=J.ci.wlen;unfold inW;omega
 rw[Wa,Ye (J.ci.wl B.st.hb),Xa,Wm y,KJ,Xa];rw[show w.h.w.getD (ix a) 0=wd w.h.w a from rfl];by_cases z:a∈M.map (·.1)
 .have⟨b,g⟩:=JM z;have L:=J.rng B g;rcases J.k _ g with⟨k,_⟩|⟨_,k,_⟩
  .simp_all[J.q]
  have f:=Xgb (v:=b) aa aa;exact⟨b,by simp_all,.inr (.inl g)⟩
 have A:=J.same B j z (x:=a) (Ux _) (by have:=(XL h0.w a).2.1;omega);have K:=XcQ (Xct J.tu a) (by rw[A];exact E.1.ok);rw[K];exact⟨_,rfl,.inr (.inr ⟨z,rfl⟩)⟩
def XnC(hN:NB N)(B:BX N h0 S)(ws:List Int)(z:ws.length<=1000000)(hw:∀r∈ws,r=0\/Obb h0 r)(o:Ww×List Int×Int)(e:Ww×Int)(J:JX N h0 S P e.1 M D):∀(n k:Nat) (c:Int) (out:List Int),k<=ws.length->ws.length-k<n->R2 (wk M) (ws.take k) out->Ok (QaQ N ws o e n (k:Int) c out) λr=>R2 (wk M) ws r.2
 |0,k,c,out,_,A,_=>by omega
 |n+1,k,c,out,G,A,v=>by
  rw[QaQ];by_cases f:k<ws.length;rotate_left
  .rw[Wg aa,Wa];exact We (by grind)
  have p:=v.1;rw[Wl]at p;rw[Xn f,Wb,Xf,Wc f,Xa,Xg aa];have next:∀q b,wk M ws[k] b->Ok (QaQ N ws o e n ((k+1:Nat):Int) q (out++[b])) λr=>R2 (wk M) ws r.2:=λq b hb=>by refine XnC hN B ws z hw o e J n (k+1) q (out++[b]) aa aa ?_;rw[Ig,Wc f];exact v.snoc hb
  by_cases g:ws[k]=0
  .rw[g];refine Im (Uc aa (next _ _ (.inl ⟨g,rfl⟩)))
  have u:=(hw _ (WG f)).resolve_left g;rw[Xl g,Xs,Wb];have Jc:=J.upd e.1.d (WR.mk e.1.r.j e.1.r.K e.1.r.F e.1.r.E c e.1.r.y);have⟨b,eb,hb⟩:=Xp1 hN B Jc u;rw[Xa,eb,Xa];exact Im (Wq (λ_=>Uc aa (next _ _ hb)) λ_=>Uc aa (next _ _ hb))
end
def Xcx(h:Wk)(M:List (Int×Int))(a:Int):Prop:=Obb h a/\a∉M.map (·.1)/\(pg h.p (pgi h.c a)).k=1/\(pg h.p (pgi h.c a)).P>0
def XhP(h:Wk)(a:Int):Int:=ZH ⟨0,(hdA h.w a).n,0⟩
def XqU{d:Int}(h:0<=d/\d<=255):XN ⟨0,d,0⟩=true:=by unfold XN;grind
section
variable {N:Nat}{h0:Wk}{S:List Int}{P:Int->Prop}{w:Ww}{M:List (Int×Int)}{D:Int->Prop}
def XcT(ws:List Int)(a:Int):0<=(hdA ws a).n/\(hdA ws a).n<=255/\szA ws a=(hdA ws a).n+1:=by have:=XO (Kc (wd ws a));exact⟨this.2.2.1,this.2.2.2,rfl⟩
def Xgf(hN:NB N)(B:BX N h0 S)(J:JX N h0 S P w M D):∀(n k:Nat) (v:List Int) (c:Int),k<=w.o.length->w.o.length-k<n->v.length=h0.w.length->(∀x∈v,tU x)->(∀a∈w.o.drop k,Xcx h0 M a->wd v a=wd h0.w a) ->
 ∃u T,QaI N w n (k:Int) v c=some (u,T)/\u.length=h0.w.length/\(∀x∈u,tU x)/\(∀a∈w.o.drop k,Xcx h0 M a->wd u a=XhP h0 a/\∀j,0<=j->j<(hdA h0.w a).n->wd u (a+1+j)=0)/\∀x,4096<=x->(∀a∈w.o.drop k,Xcx h0 M a->¬(a<=x/\x<a+szA h0.w a))->wd u x=wd v x
 |0,k,v,c,_,hn,_,_,_=>by omega
 |n+1,k,v,c,hk,hn,hv,tv,hw=>by
  have hN':=hN;unfold NB at hN';have hb1:=B.st.hb.1;have V:=J.ci;have hql:=V.ql B.st.hb;have htl:=V.tl B.st.hb;have hol:=V.old.length_le;have hsl:=B.st.st.len;rw[QaI];by_cases h:k<w.o.length;rotate_left
  .rw[Wg aa,Wa,Ub aa];simp_all
  have hdr:=Wo h;have z:w.o[k]∈w.o:=WG h;have H:=(B.st.st.obj.pw.sublist V.old).drop (i:=k);rw[hdr]at hw H⊢;rw[U0]at H;rw[Xn h,Wb,Xf,Wc h,Xa,Xg aa];generalize w.o[k]=a at z hw H⊢;have I:Obb h0 a:=by rw[J.ol]at z;unfold Yo at z;rw[W8]at z;exact⟨(B.mS a).1 z.1,by simp_all[Y8,fnd]⟩
  have hA:=B.at_ I;have hfit:=Ks B.hp hA.1;have hof:Qch N w.h.c a=some (pgi h0.c a,pgo h0.c a,0):=by rw[K5,V.conf,B.hp.conf,Wi ab,Wm hA.1.rng];rfl
  have⟨b,eb,A⟩:=XqR (N:=N) (w:=⟨⟨w.h.c,v,w.h.p,w.h.s,w.h.b⟩,w.o,w.t,w.q,w.d,⟨w.r.j,w.r.K,c,w.r.E,w.r.f,w.r.y⟩⟩) hN htl (pgi h0.c a);have A:b=true↔Prm w (pgi h0.c a):=A;rw[(J.prm B I).2]at A;rw[hof,Xa,eb,Xa];have skip:¬Xcx h0 M a->∃u T,QaI N w n ((k+1:Nat):Int) v c=some (u,T)/\u.length=h0.w.length/\(∀x∈u,tU x)/\(∀x∈a::w.o.drop (k+1),Xcx h0 M x->wd u x=XhP h0 x/\∀j,0<=j->j<(hdA h0.w x).n->wd u (x+1+j)=0)/\∀x,4096<=x->(∀y∈a::w.o.drop (k+1),Xcx h0 M y->¬(y<=x/\x<y+szA h0.w y))->wd u x=wd v x:=λhd=>by have⟨u,T,e1,e2,e3,e4,e5⟩:=Xgf hN B J n (k+1) v c aa aa hv tv λx g=>hw x (WZ _ g);simp_all
  cases hbv:b with
  |false=>exact skip λd=>by have:=A.2 d.2.2;simp_all
  |true=>
   have L:=A.1 hbv;rw[Wh,Wa,Xa,Yx a aa aa,Xa];cases W:w.q.contains a with
   |true=>have U:=Yh W;rw[J.q]at U;have⟨p,Y,e⟩:=WU.1 U;have:=J.q_old B I Y e;exact skip λd=>d.2.1 (WU.2 ⟨p,Y,by grind⟩)
   |false=>
    have hq:=YU W;have hd:Xcx h0 M a:=by
     refine⟨I,λU=>?_,L⟩;obtain⟨b,Z⟩:=JM U;rcases J.k _ Z with⟨k1,_⟩|⟨k1,_⟩
     .exact hq (by rw[J.q];exact WU.2 ⟨(a,b),Z,k1⟩)
     exact k1.2 L.2
    have ewd:=hw a ab hd;have hl:=XcT h0.w a;have eL:(Zq (wd v a)).n=(hdA h0.w a).n:=by rw[ewd];rfl
    rw[Wa,Xa,Qdw,Ye (by show v.length<=_;unfold BIG;omega),Xa,Wm (by show inW v a;unfold inW;omega),ZR,Xa,Xa];rw[show v.getD (ix a) 0=wd v a from rfl,eL,KO,Wm (XqU aa),Xa,Xa,Xb aa,Xb aa];have G:([ZH ⟨0,(hdA h0.w a).n,0⟩]++List.replicate (hdA h0.w a).n.toNat (0:Int)).length=(hdA h0.w a).n.toNat+1:=by simp
    rw[ZG (by unfold BIG;omega) (by rw[G];unfold BIG;omega) (by rw[G];omega),G,Wm (by unfold YA;omega),Xa];have hi:ix a+([ZH ⟨0,(hdA h0.w a).n,0⟩]++List.replicate (hdA h0.w a).n.toNat (0:Int)).length<=v.length:=by rw[G];unfold ix;omega
    have hlen:=ZF hi;have hwv:∀x,4096<=x->wd (ovr v ([ZH ⟨0,(hdA h0.w a).n,0⟩]++List.replicate (hdA h0.w a).n.toNat (0:Int)) (ix a)) x=if a<=x/\x<a+szA h0.w a then(if x=a then XhP h0 a else 0)else wd v x:=λx g=>by
     unfold wd;rw[V0 hi,G];by_cases hr:a<=x/\x<a+szA h0.w a
     .rw[Wm hr,Wm (by unfold ix;omega)];by_cases O:x=a
      .rw[Wm O,O,U8];rfl
      rw[Wi O];obtain⟨m,U⟩:∃m,ix x-ix a=m+1:=⟨ix x-ix a-1,by unfold ix;omega⟩
      rw[U,Wj,List.singleton_append,Ib,Ip];split<;>rfl
     rw[Wi hr,Wi (by unfold ix;omega)]
    have tv':∀x∈ovr v ([ZH ⟨0,(hdA h0.w a).n,0⟩]++List.replicate (hdA h0.w a).n.toNat (0:Int)) (ix a),tU x:=λx g=>by
     unfold ovr at g;simp only[Wt,Ui]at g;rcases g with(g|g|g)|g
     .exact tv x (WP g)
     .rw[g];unfold ZH;exact VW _
     .rw[(IW.1 g).2];exact⟨aa,aa⟩
     exact tv x (WQ g)
    have apart:∀b∈w.o.drop (k+1),a+szA h0.w a<=b:=λb hb=>H.1 b hb;have⟨u,T,e1,e2,e3,e4,e5⟩:=Xgf hN B J n (k+1) _ (wI (c+1)) aa aa (hlen.trans hv) tv' λx g R=>by have h1:=apart x g;rw[hwv x aa,Wi aa];exact hw x (WZ _ g) R
    have low:∀x,4096<=x->x<a+szA h0.w a->wd u x=if a<=x then(if x=a then XhP h0 a else 0)else wd v x:=λx x0 x1=>by
     rw[e5 x x0 λy hy _ h=>by have:=apart y hy;omega,hwv x x0];by_cases g:a<=x
     .rw[Wm ⟨g,x1⟩,Wm g]
     rw[Wi aa,Wi g]
    refine⟨u,T,e1,e2,e3,λx g R=>?_,λx x0 g=>?_⟩
    .rcases U6.1 g with rfl|g
     .refine⟨by rw[low x hA.2.2.2.2 aa,Wm (Ux _),Wm rfl],λj j0 j1=>?_⟩;rw[low _ aa aa,Wm aa,Wi aa]
     exact e4 x g R
    grind
def XqV{w:Ww}(j:List Ws)(q:Ws)(i c:Int)(hp:Uy h0)(u:w.h.c=h0.c)(y:0<=i)(g1:i<h0.c.p):∀(n:Nat) (k:Int) (v:List Int),0<=k->k<=h0.c.W->(65-k).toNat<n->v.length=h0.w.length->(∀x∈v,tU x) ->
 ∃r,Qbn N w j q i c n k v=some r/\r.length=h0.w.length/\(∀x∈r,tU x)/\∀x,4096<=x->wd r x=if Xd h0.c i k<=x/\x<Xd h0.c i h0.c.W then 0 else wd v x
 |0,k,v,_,_,A,_,_=>by omega
 |n+1,k,v,k0,k1,A,B,E=>by
  have G:=Xj.1 hp.conf;have O:=XP hp.conf y g1;have hw:=hp.words;rw[Qbn,u];have f:∀o,Xd h0.c i o=4096+i*h0.c.W+o:=λ_=>rfl;by_cases H:k<h0.c.W
  .rw[Wd H,Wb,Xc (n:=k+1) aa aa,Xc (n:=i*h0.c.W) aa aa,Xc (n:=i*h0.c.W+k) aa aa,Yd aa aa,Xa];have eix:(i*h0.c.W+k).toNat=ix (Xd h0.c i k):=by rw[f];unfold ix;omega
   rw[eix];have g:inW v (Xd h0.c i k):=by rw[f];unfold inW;omega
   obtain⟨r,I,J,K,L⟩:=XqV j q i c hp u y g1 n (k+1) (v.set (ix (Xd h0.c i k)) 0) aa aa aa (by rw[WL];exact B) λx e=>by
    rcases W0 e with e|e
    .exact E x e
    exact⟨aa,aa⟩
   refine⟨r,I,J,K,λx e=>?_⟩;rw[L x e,XbU g e,f,f,f];by_cases z:x=4096+i*h0.c.W+k
   .rw[Wi aa,Wm z,Wm aa]
   rw[Wi z];congr 1;apply propext;omega
  grind
def ZB(w:Ww)(j:Int):Prop:=(pg w.h.p j).k≠0/\(pg w.h.p j).s=w.h.s
def Xi0(hN:NB N){w:Ww}(hb:HB h0)(hp:Uy h0)(J:w.h.c=h0.c)(B:w.h.p.length=h0.p.length):∀(n:Nat) (i c:Int) (v:List Int) (ps:List Ws),0<=i->i<=h0.p.length->(h0.p.length-i).toNat<n->v.length=h0.w.length->(∀x∈v,tU x)->ps.length=h0.p.length->(∀j,i<=j->pg ps j=pg w.h.p j) ->
 ∃u g f,QaR N w n i c v ps=some (u,g,f)/\g.length=h0.w.length/\(∀x∈g,tU x)/\f.length=h0.p.length/\(∀j,0<=j->(i<=j/\j<h0.p.length/\ZB w j->pg f j=Zm)/\(¬(i<=j/\j<h0.p.length/\ZB w j)->pg f j=pg ps j))/\∀x,4096<=x->((∃j,i<=j/\j<h0.p.length/\ZB w j/\Xd h0.c j 0<=x/\x<Xd h0.c j h0.c.W)->wd g x=0)/\((¬∃j,i<=j/\j<h0.p.length/\ZB w j/\Xd h0.c j 0<=x/\x<Xd h0.c j h0.c.W)->wd g x=wd v x)
 |0,i,c,v,ps,_,_,hn,_,_,_,_=>by omega
 |n+1,i,c,v,ps,K,gi,hn,L,O,o,A=>by
  have R:=hN;unfold NB at R;have hpp:=hp.pages;have hvc:=Xj.1 hp.conf;rw[QaR,Xb aa,o];by_cases T:i<h0.p.length;rotate_left
  .rw[Wg T,Wa];exact⟨c,v,ps,rfl,L,O,o,λj _=>⟨λh=>aa,λ_=>rfl⟩,λx _=>⟨λ⟨j,a,b,_⟩=>aa,λ_=>rfl⟩⟩
  rw[Wd T,Wb,Xr K aa,Xa,A i (Ux _),Xc (n:=i+1) aa aa];have skip:¬ZB w i->∃u g f,QaR N w n (i+1) c v ps=some (u,g,f)/\g.length=h0.w.length/\(∀x∈g,tU x)/\f.length=h0.p.length/\(∀j,0<=j->(i<=j/\j<h0.p.length/\ZB w j->pg f j=Zm)/\(¬(i<=j/\j<h0.p.length/\ZB w j)->pg f j=pg ps j))/\∀x,4096<=x->((∃j,i<=j/\j<h0.p.length/\ZB w j/\Xd h0.c j 0<=x/\x<Xd h0.c j h0.c.W)->wd g x=0)/\((¬∃j,i<=j/\j<h0.p.length/\ZB w j/\Xd h0.c j 0<=x/\x<Xd h0.c j h0.c.W)->wd g x=wd v x):=λU=>by
   obtain⟨u,g,f,e1,E,e3,e4,e5,e6⟩:=Xi0 hN hb hp J B n (i+1) c v ps aa aa aa L O o λj h=>A j aa;have ne:∀j,i<=j->ZB w j->i+1<=j:=λj h A=>by
    by_cases e:j=i
    .rw[e]at A;exact absurd A U
    omega
   refine⟨u,g,f,e1,E,e3,e4,λj q=>⟨λh=>(e5 j q).1 ⟨ne j h.1 h.2.2,h.2⟩,λh=>(e5 j q).2 λV=>h ⟨aa,V.2⟩⟩,λx y=>⟨λ⟨j,a,b,d,e⟩=>(e6 x y).1 ⟨j,ne j a d,b,d,e⟩,λh=>(e6 x y).2 λ⟨j,a,b⟩=>h ⟨j,aa,b⟩⟩⟩
  by_cases k0:(pg w.h.p i).k=0
  .rw[XC k0,Wb];exact skip λh=>h.1 k0
  rw[Xk k0,Wa];by_cases H:(pg w.h.p i).s=w.h.s;rotate_left
  .rw[Xl H,Wb];exact skip λh=>H h.2
  have U:ZB w i:=⟨k0,H⟩
  have⟨r,r1,r2,r3,r4⟩:=XqV (N:=N) (w:=w) ps (pg w.h.p i) i c hp J K aa N 0 v aa aa aa L O;rw[show((pg w.h.p i).s != w.h.s)=false by simpa using H,Wa,Xa,r1,Xa];have E:=λx I=>Y6 (ps:=ps) (j:=x) ⟨0,0,0,0⟩ K aa I;have⟨u,g,f,f1,f2,f3,f4,Y,Z⟩:=Xi0 hN hb hp J B n (i+1) (wI (c+1)) r (ps.set i.toNat ⟨0,0,0,0⟩) aa aa aa r2 r3 (by rw[WL];exact o) λj h=>by rw[E j aa,Wi aa];exact A j aa
  refine⟨u,g,f,f1,f2,f3,f4,λj q=>⟨λh=>?_,λh=>?_⟩,λx y=>⟨λ⟨j,a,b,d,e⟩=>?_,λh=>?_⟩⟩
  .by_cases z:j=i
   .rw[(Y j q).2 aa,E j q,Wm z];rfl
   exact(Y j q).1 ⟨aa,h.2⟩
  .rw[(Y j q).2 λV=>h ⟨aa,V.2⟩,E j q,Wi];rintro rfl;exact h ⟨Ux _,T,U⟩
  .by_cases z:j=i
   .subst z;by_cases I:∃G,j+1<=G/\G<h0.p.length/\ZB w G/\Xd h0.c G 0<=x/\x<Xd h0.c G h0.c.W
    .exact(Z x y).1 I
    rw[(Z x y).2 I,r4 x y,Wm e]
   exact(Z x y).1 ⟨j,aa,b,d,e⟩
  grind
end
section
variable {N:Nat}{h0:Wk}{S:List Int}{P:Int->Prop}{w:Ww}{M:List (Int×Int)}{D:Int->Prop}
def OF.nxt{c:WN}{ps:List Ws}(s:OF c ps){i n:Int}(e:0<=i)(f:(pg ps i).k≠3)(z:n=if(pg ps i).k=2 then XF c (pg ps i).u else 1)(A:1<=n)(g:i+n<ps.length):(pg ps (i+n)).k≠3:=by
 intro j;have⟨k,k0,k1,o,k2,B⟩:=s.tl (i+n) aa g j;have p:=(o.k2 k2).2.2;have q:=s.hd i e aa f;by_cases v:k<i
 .have:=(p (i-k) aa aa).1;grind
 by_cases E:k=i
 .simp_all
 by_cases y:(pg ps i).k=2
 .have:=((q.k2 y).2.2 (k-i) aa aa).1;rw[show i+(k-i)=k by omega]at this;omega
 omega
def Xfd{h:Wk}(j:h.p.length<=100000)(hN:1000000<N)(s:OF h.c h.p):∀(n i:Nat),i<=h.p.length->h.p.length-i<n->(i<h.p.length->(pg h.p (i:Int)).k≠3)->Qaf N h n (i:Int)=some (.nxt ())
 |0,i,_,q,_=>by omega
 |n+1,i,y,q,o=>by
  rw[Qaf];by_cases f:i<h.p.length;rotate_left
  .rw[Wg aa,Wa]
  have b:=s.hd (i:Int) aa aa (o f);have sp:=XbB (c:=h.c) f;have e:=sp.2 b;have u:=sp.1.2 b;have ep:=ZL f;have v:=Xbx (c:=h.c) f (p:=h.p[i]);rw[Xn f,Wb,Kx j hN f,Xa];generalize Yi h.c h.p i h.p[i]=m at *;rw[show((m:Int)==0)=false by simp_all,Wa,Xc aa aa,show(i:Int)+(m:Int)=((i+m:Nat):Int) by omega];refine Xfd j hN s n (i+m) aa aa λz=>?_;have:=s.nxt (i:=(i:Int)) (n:=(m:Int)) aa (o f) (by
   rw[ep]
   by_cases g:h.p[i].k=2
   .rw[Wm g]at e⊢
    have:=(b.k2 (by rw[ep];exact g)).1
    omega
   .rw[Wi g]at e⊢;omega) aa aa
  assumption
def JT(hN:NB N){h:Wk}(hb:HB h)(hp:OU h)(s:OF h.c h.p):Qab N h=some true:=by
 have f:1000000<N:=by unfold NB at hN;omega
 have g:0<h.p.length->(pg h.p (0:Int)).k≠3:=λj k=>by have⟨k,k0,k1,_⟩:=s.tl 0 aa aa k;omega
 have e:=Xfd (N:=N) hb.2 f s N 0 aa (by have:=hb.2;omega) g;have e:Qaf N h N 0=some (.nxt ()):=e;rw[←Yc hb.2 f,KM hp,e,Xa,Xo]
def JX.spn(J:JX N h0 S P w M D)(hN:NB N)(B:BX N h0 S):OF h0.c w.h.p:=by have h:=J.ss.proper hN B.st.hb B.gx.ep (ws:=h0.w) rfl (b:=-1) (.inl rfl);exact Xag hN (h:=⟨h0.c,h0.w,w.h.p,h0.s,-1⟩) ⟨B.st.hb.1,by rw[J.ss.1];exact B.st.hb.2⟩ h
structure FX(h0:Wk)(w:Ww)(M:List (Int×Int))(v v':List Int)(ps:List Ws):Prop where
 fd:∀a,Xcx h0 M a->wd v a=XhP h0 a/\∀j,0<=j->j<(hdA h0.w a).n->wd v (a+1+j)=0
 fo:∀x:Int,4096<=x->(∀a,Xcx h0 M a->¬(a<=x/\x<a+szA h0.w a))->wd v x=wd w.h.w x
 pl:ps.length=h0.p.length
 vl:v'.length=h0.w.length
 pz:∀j,0<=j->j<(h0.p.length:Int)->ZB w j->pg ps j=Zm
 pk:∀j,0<=j->j<(h0.p.length:Int)->¬ZB w j->pg ps j=pg w.h.p j
 wz:∀x:Int,4096<=x->x<4096+h0.w.length->ZB w (pgi h0.c x)->wd v' x=0
 wk:∀x:Int,4096<=x->x<4096+h0.w.length->¬ZB w (pgi h0.c x)->wd v' x=wd v x
def JX.fz(J:JX N h0 S P w M D)(hN:NB N)(B:BX N h0 S){i:Int}(f:0<=i)(g:i<(h0.p.length:Int)):
 (i∈w.t->¬ZB w i)/\(i∉w.t->((pg h0.p i).k=0->¬ZB w i)/\((pg h0.p i).k=1->(ZB w i↔¬(pg h0.p i).P>0))/\((pg h0.p i).k=2->(ZB w i↔Xd h0.c i 0∉M.map (·.1)))):=by
 have j:=J.ci.spc;refine⟨λe h=>?_,λe=>?_⟩
 .have:=(J.t i e).2.2.1;have:=h.2;omega
 have p:=J.pgs i f g e;unfold ZB;grind
def JX.fza(J:JX N h0 S P w M D)(hN:NB N)(B:BX N h0 S){a x:Int}(o:Iz h0 a)(z:a<=x)(A:x<a+szA h0.w a):pgi h0.c x∉w.t/\pgi h0.c a∉w.t/\(ZB w (pgi h0.c x)↔ZB w (pgi h0.c a)):=by
 have⟨⟨q,E,G,u⟩,T,U⟩:=XcS B.hp o z A;have V:=o.kind;have H:=B.hp.pages;have I:=Yq (a:=x) B.hp.conf (by have:=B.hp.words;omega);have g:pgi h0.c a∉w.t:=λh=>by have:=(J.t _ h).1;omega
 by_cases K:pgi h0.c x=pgi h0.c a
 .rw[K];exact⟨g,g,Iff.rfl⟩
 have nx:∀m,pgi h0.c a<m->m<=pgi h0.c x->m∉w.t:=λm e f h=>by have:=(J.t _ h).1;have:=u m e f;omega
 have nxx:=nx _ aa (Ux _);have kw:∀m,pgi h0.c a<m->m<=pgi h0.c x->(pg w.h.p m).k=3:=λm e f=>by rw[(J.pgs m aa aa (nx m e f)).1];exact u m e f
 have L:(pg w.h.p (pgi h0.c a)).k≠3:=by rw[(J.pgs _ q aa g).1];exact G
 have v:=J.ci.plen;have⟨k,k0,k1,O,k2,W⟩:=(J.spn hN B).tl (pgi h0.c x) I.2.1 aa (kw _ aa (Ux _));have y:=(O.k2 k2).2.2;have R:HeadP w.h (pgi h0.c x) k:=⟨k0,aa,aa,λm e f=>by
  have:=(y (m-k) aa aa).1
  rwa[show k+(m-k)=m by omega]at this⟩
 have j:HeadP w.h (pgi h0.c x) (pgi h0.c a):=⟨q,E,L,kw⟩
 have:=R.fn j;subst this;have Y:=(y (pgi h0.c x-pgi h0.c a) aa aa).2.1;unfold ZB;grind
def JX.fzm(J:JX N h0 S P w M D)(hN:NB N)(B:BX N h0 S){p:Int×Int}(hp:p∈M){x:Int}(q:p.2<=x)(v:x<p.2+szA h0.w p.1):¬ZB w (pgi h0.c x)/\4096<=x/\x<4096+h0.w.length:=by
 have y:=(J.l p hp).1;have g:=B.at_ y;rcases J.k p hp with⟨k1,k2⟩|⟨k1,_,i,A,H,I⟩
 .rw[k1]at q v;have f:=J.fza hN B g.1 q v;have E:=XcS B.hp g.1 q v;refine⟨?_,E.2⟩;rw[f.2.2];have z:=(J.fz hN B g.2.2.1 g.2.2.2.1).2 f.2.1;rcases g.1.kind with j|j
  .rw[z.2.1 j];exactλh=>k2 ⟨j,h⟩
  rw[z.2.2 j];intro h;have e:=(Yq B.hp.conf g.1.rng).1;rw[(g.1.large j).1]at e;grind
 have t:=J.tk B A;have K:Xd h0.c i 0=4096+i*h0.c.W+0:=rfl;have L:Xd h0.c i (pg w.h.p i).u=4096+i*h0.c.W+(pg w.h.p i).u:=rfl;have G:=B.hp.pages;have O:=XP B.hp.conf (i:=i) t.1 aa;have hw:=B.hp.words;have:=(YD (c:=h0.c) B.hp.conf (p:=i) (o:=x-Xd h0.c i 0) aa aa).1;rw[show Xd h0.c i (x-Xd h0.c i 0)=x by unfold Xd;omega]at this;rw[this];exact⟨(J.fz hN B t.1 t.2.1).1 A,aa,aa⟩
def JX.kw(J:JX N h0 S P w M D)(hN:NB N)(B:BX N h0 S){v k:List Int}{ps:List Ws}(F:FX h0 w M v k ps){p:Int×Int}(hp:p∈M){x:Int}(o:p.2<=x)(q:x<p.2+szA h0.w p.1):wd k x=wd w.h.w x:=by have f:=J.fzm hN B hp o q;rw[F.wk x f.2.1 f.2.2 f.1];refine F.fo x f.2.1 λa hd z=>?_;have⟨O,s,j⟩:=J.ci.obj;have g:=J.geo j hp;have u:=B.at_ hd.1;have y:=j.old a u.2.1;have:p.2≠a:=λe=>hd.2.1 (by have:=J.q_old B hd.1 hp e;grind);have:=j.apart p.2 a g.1 y.1 this;omega
end
def Chn.tr{ws f:List Int}:∀{l:List Int} {p q:Int},Chn ws p l q->(∀a∈l,okH (wd f a)=true/\szA f a=szA ws a)->Chn f p l q
 |[],_,_,h,_=>h
 |a::l,p,q,⟨e,j,h⟩,hw=>by have g:=hw a ab;exact⟨e,g.1,by rw[g.2];exact h.tr λb hb=>hw b (WZ _ hb)⟩
def CM.chn{h:Wk}{M:List (Int×Int)}{vs:List Int}(hw:∀p∈M,okH (wd vs p.2)=true/\szA vs p.2=szA h.w p.1):∀{l:List Int} {p q:Int},CM h M p l q->Chn vs p l q/\∀b∈l,∃a,(a,b)∈M/\cpy h a
 |[],_,_,e=>⟨e,ab⟩
 |b::l,p,q,⟨e,a,g,k,j⟩=>by subst e;have f:=hw _ g;have r:=j.chn hw;refine⟨⟨rfl,f.1,by rw[f.2];exact r.1⟩,λx o=>?_⟩;grind
def CM.cov{h:Wk}{M:List (Int×Int)}{x:Int}:∀{l:List Int} {p q:Int},CM h M p l q->p<=x->x<q->∃b∈l,∃a,(a,b)∈M/\b<=x/\x<b+szA h.w a
 |[],p,q,e,g,f=>by have e:p=q:=e;omega
 |b::l,p,q,⟨e,a,g1,g2,g3⟩,g,f=>by
  by_cases j:x<b+szA h.w a
  .grind
  have⟨c,k,r⟩:=g3.cov aa f;grind
def Xj7{d:Wv}(g:XN d=true)(ht:tW d.Map):okH (ZH d)=true/\Zq (ZH d)=d/\ZH d≠0:=by
 have hb:=XO g;have j:=ht;unfold tW at j;have e:ZH d=1+4*d.k+16*d.n+d.Map*65536:=by unfold ZH;have s:∀x:Int,ZO .u64 x 16=wU (x*65536):=λ_=>rfl;rw[s];simp only[Xcm];omega
 have tu:tU (ZH d):=by rw[e];exact⟨aa,aa⟩
 have o:XbR (ZH d)=d:=by rw[XcN tu,e];obtain⟨k,l,m⟩:=d;dsimp only at *;congr 1<;>omega
 have f:okH (ZH d)=true:=by unfold okH;rw[o,g];simp
 exact⟨f,by unfold Zq;simp_all,aa⟩
def XrY(h:Wk)(a:Int):okH (XhP h a)=true/\Zq (XhP h a)=⟨0,(hdA h.w a).n,0⟩:=by have e:=XcT h.w a;have:=Xj7 (d:=⟨0,(hdA h.w a).n,0⟩) (XqU aa) ⟨ab,ab⟩;exact⟨this.1,this.2.1⟩
section
variable {N:Nat}{h0:Wk}{S:List Int}{P:Int->Prop}{w:Ww}{M:List (Int×Int)}{D:Int->Prop}{v v':List Int}{ps:List Ws}
def JX.q_st(J:JX N h0 S P w M D)(B:BX N h0 S){a:Int}(j:Stt h0 a){p:Int×Int}(hp:p∈M)(e:p.2=a):p=(a,a):=by
 rcases J.k p hp with⟨k,_⟩|⟨_,_,i,g,k1,k2⟩
 .grind
 have t:=J.tk B g;have y:=(XL h0.w p.1).2.1;have f:=j.at_ B.hp;have z:Xd h0.c i 0=4096+i*h0.c.W+0:=rfl;have A:Xd h0.c i (pg w.h.p i).u=4096+i*h0.c.W+(pg w.h.p i).u:=rfl;have:=(YD (c:=h0.c) B.hp.conf (p:=i) (o:=a-Xd h0.c i 0) aa aa).1;rw[show Xd h0.c i (a-Xd h0.c i 0)=a by unfold Xd;omega]at this;have q:=f.kind;rw[this]at q;have:=(J.t i g).1;omega
def JX.nw(J:JX N h0 S P w M D)(B:BX N h0 S){a:Int}(j:Stt h0 a)(I:(hdA h0.w a).k=0)(F:FX h0 w M v v' ps)(A:¬ZB w (pgi h0.c a)):wd v' a=wd h0.w a:=by
 have q:=j.at_ B.hp;have u:=q.rng;have hw:=B.hp.words;have y:=(B.mS a).2 j;have⟨O,s,f⟩:=J.ci.obj;have z:=f.old a y;have E:=(XL h0.w a).2.1;rw[F.wk a u.1 aa A,F.fo a u.1 λb hb K=>?_]
 .refine J.o a u.1 λp hp=>?_;have G:=(J.l p hp).1;have n1:a≠p.1:=λe=>G.2 (by simp_all);have g:=J.geo f hp;have n2:p.2≠a:=λe=>n1 (by have:=J.q_st B j hp e;grind);have:=f.apart p.2 a g.1 z.1 n2;omega
 have H:=B.at_ hb.1;have ob:=f.old b H.2.1;have n1:a≠b:=λe=>hb.1.2 (by simp_all);have:=f.apart a b z.1 ob.1 n1;omega
def JX.hdr(J:JX N h0 S P w M D)(hN:NB N)(B:BX N h0 S)(F:FX h0 w M v v' ps){a:Int}(j:Stt h0 a)(y:(pg h0.p (pgi h0.c a)).k=1)(hp:(pg h0.p (pgi h0.c a)).P>0):okH (wd v' a)=true/\szA v' a=szA h0.w a/\((∃p∈M,p.2=a)\/(hdA v' a).k=0):=by
 have g:=j.at_ B.hp;have z:=g.rng;have hw:=B.hp.words;have G:=B.hp.pages;have q:=Yq B.hp.conf z;have o:pgi h0.c a∉w.t:=λh=>by have:=(J.t _ h).1;omega
 have A:¬ZB w (pgi h0.c a):=λh=>(((J.fz hN B q.2.1 aa).2 o).2.1 y).1 h hp;by_cases u:(hdA h0.w a).k=0
 .have e:=J.nw B j u F A;refine⟨by rw[e];exact g.ok,JS e,.inr ?_⟩;unfold hdA at u⊢;grind
 by_cases E:a∈M.map (·.1)
 .have⟨b,f⟩:=JM E;rcases J.k _ f with⟨k1,_⟩|⟨k1,_⟩
  .have k1:b=a:=k1;subst k1;have e:=J.kw hN B F f (x:=b) (Ux _) (by have:=(XL h0.w b).2.1;grind);have e:=e.trans (J.hd _ f);exact⟨by rw[e];exact g.ok,JS e,.inl ⟨_,f,rfl⟩⟩
  exact absurd hp k1.2
 have hd:Xcx h0 M a:=⟨⟨j,u⟩,E,y,hp⟩
 have e:=(F.fd a hd).1;have H:wd v' a=XhP h0 a:=by rw[F.wk a z.1 aa A];exact e
 have fo:=XrY h0 a;have I:hdA v' a=⟨0,(hdA h0.w a).n,0⟩:=by unfold hdA;rw[H];exact fo.2
 exact⟨by grind,by unfold szA;grind,.inr (by grind)⟩
def JX.pars(J:JX N h0 S P w M D)(hN:NB N)(B:BX N h0 S)(F:FX h0 w M v v' ps){G:Wk}(T:G.c=h0.c)(U:G.w=v')(ep:G.p=ps){i:Int}(j:0<=i)(o:i<(h0.p.length:Int)):
 ∃l,Ou G i l/\(∀b∈l,Xcw G i b/\((∃p∈M,p.2=b)\/(hdA G.w b).k=0))/\(i∈w.t->∀p∈M,Xd h0.c i 0<=p.2->p.2<Xd h0.c i (pg w.h.p i).u->p.2∈l)/\(i∉w.t->¬ZB w i->∀m,Ou h0 i m->m=l):=by
 have V:=(B.hp.pgs i j o).kind;have g:∀p∈M,wd v' p.2=wd h0.w p.1:=λp hp=>by have:=(XL h0.w p.1).2.1;rw[J.kw hN B F hp (x:=p.2) (Ux _) aa];exact J.hd p hp
 by_cases A:ZB w i
 .have e:=F.pz i j o A;rw[←ep]at e;refine⟨[],⟨λ_=>rfl,λk=>?_,λk=>?_⟩,ab,λq=>absurd A ((J.fz hN B j o).1 q),λ_ h=>absurd A h⟩
  .rw[e]at k;exact absurd k ae
  rw[e]at k;exact absurd k ae
 have e:=F.pk i j o A;rw[←ep]at e;by_cases q:i∈w.t
 .have t:=J.t i q;have tk:=J.tk B q;have⟨l,Z⟩:=t.2.2.2;have c:=Z.chn (vs:=v') λp hp=>by have R:=B.at_ (J.l p hp).1;exact⟨by rw[g p hp];exact R.1.ok,JS (g p hp)⟩
  refine⟨l,⟨λk=>?_,λk=>?_,λk=>?_⟩,λb hb=>?_,λ_ p hp h1 h2=>?_,λh=>absurd q h⟩
  .simp_all
  .simp_all
  .simp_all
  .have⟨a,f,hc⟩:=c.2 b hb;refine⟨⟨λ_=>?_,λk=>by rw[e,tk.2.2.1]at k;omega⟩,.inl ⟨_,f,rfl⟩⟩;have E:=(J.l _ f).1;have⟨m,W,am⟩:=E.1.pars B.hp;have R:=B.at_ E;have:=(B.gx.cl _ m R.2.2.1 R.2.2.2.1 W a am).1 hc.1;have es:szA v' b=szA h0.w a:=JS (g _ f);simp_all
  have⟨b,hb,a,f,b1,b2⟩:=Z.cov h1 h2;have:p.2=b:=by apply Classical.byContradiction;intro hn;obtain⟨O,s,H⟩:=J.ci.obj;have g1:=J.geo H hp;have g2:=J.geo H f;have:=H.apart p.2 b g1.1 g2.1 hn;have:=(XL h0.w p.1).2.1;dsimp only at g2;omega
  simp_all
 have p:=J.pgs i j o q;have z:=(J.fz hN B j o).2 q;have⟨l,pl⟩:=B.gx.ps i j o;have I:∀a∈l,Stt h0 a/\Iz h0 a/\pgi h0.c a=i:=λa E=>⟨⟨i,l,j,o,pl,E⟩,pl.at_ B.hp j o E⟩
 refine⟨l,⟨λk=>?_,λk=>?_,λk=>?_⟩,λb hb=>?_,λh=>absurd h q,λ_ _ m W=>W.fn V pl⟩
 .rw[e,p.1]at k;exact pl.none k
 .rw[e,p.1]at k;have K:(pg h0.p i).P>0:=Classical.byContradiction λh=>A ((z.2.1 k).2 h);rw[U,T,e,p.2.1];refine(pl.small k).tr λa E=>?_;have y:=I a E;have:=J.hdr hN B F y.1 (by rw[y.2.2];exact k) (by rw[y.2.2];exact K);simp_all
 .rw[e,p.1]at k;obtain⟨rfl,H,hs⟩:=pl.large k;have Y:Xd h0.c i 0∈M.map (·.1):=Classical.byContradiction λh=>A ((z.2.2 k).2 h);have⟨b,f⟩:=JM Y;have hb:b=Xd h0.c i 0:=by
   rcases J.k _ f with⟨k1,_⟩|⟨k1,_⟩
   .omega
   have:=k1.1;simp_all
  subst hb;have:=g _ f;rw[T,U,e,p.2.1];exact⟨rfl,by simp_all,by rw[JS this];omega⟩
 have y:=I b hb;have cl:=B.gx.cl i l j o pl b hb;have L:=y.2.1.kind;rw[y.2.2]at L;unfold Xcw;rw[U,T,e,p.1];rcases L with k|k
 .have:=J.hdr hN B F y.1 (by simp_all) (by simp_all);exact⟨⟨λ_=>by rw[this.2.1];exact cl.1 k,λh=>aa⟩,this.2.2⟩
 obtain⟨rfl,H,hs⟩:=pl.large k;rw[Ui.1 hb]at y cl⊢;have Y:Xd h0.c i 0∈M.map (·.1):=Classical.byContradiction λh=>A ((z.2.2 k).2 h);have⟨b,f⟩:=JM Y;have hb:b=Xd h0.c i 0:=by
  rcases J.k _ f with⟨k1,_⟩|⟨k1,_⟩
  .omega
  have:=k1.1;simp_all
 subst hb;have:=g _ f;refine⟨⟨λh=>aa,λ_=>?_⟩,.inl ⟨_,f,rfl⟩⟩;unfold hdA;rw[this];exact cl.2 k
end
structure OS(N:Nat)(h0:Wk)(P:Int->Prop)(M:List (Int×Int))(h:Wk):Prop where
 gx:GX N h
 cf:h.c=h0.c
 sp:h.s=1-h0.s
 wl:h.w.length=h0.w.length
 pl:h.p.length=h0.p.length
 n1:(M.map (·.1)).Nodup
 n2:(M.map (·.2)).Nodup
 l:∀p∈M,Obb h0 p.1/\P p.1
 ob:∀b,Obb h b↔b∈M.map (·.2)
 hd:∀p∈M,hdA h.w p.2=hdA h0.w p.1
 f1:∀p∈M,∀j,0<=j->j<(hdA h0.w p.1).n->j∉X5 (hdA h0.w p.1)->wd h.w (p.2+1+j)=wd h0.w (p.1+1+j)
 f2:∀p∈M,∀j∈X5 (hdA h0.w p.1),rel M (wd h0.w (p.1+1+j)) (wd h.w (p.2+1+j))
 pn:∀i,0<=i->i<(h0.p.length:Int)->((pg h0.p i).k=2->(pg h0.p i).P>0->Xd h0.c i 0∈M.map (·.1))->(pg h.p i).P=(pg h0.p i).P
 kp:∀p∈M,(pg h0.p (pgi h0.c p.1)).P>0->p.2=p.1
def Xa5{α:Type}(q:α->Bool):∀(l m:List α),l.length=m.length->(∀(i:Nat) (e:i<l.length) (f:i<m.length),q l[i]=true->q m[i]=true)->l.countP q<=m.countP q
 |[],m,_,_=>by simp
 |a::l,[],h,_=>by grind
 |a::l,b::m,h,g=>by
  have j:=Xa5 q l m (by simpa using h) λi e f=>by have:=g (i+1) (by simpa using e) (by simpa using f);exact this
  grind
section
variable {N:Nat}{h0:Wk}{S:List Int}{P:Int->Prop}{w:Ww}{M:List (Int×Int)}{v v':List Int}{ps:List Ws}
def Xd7{h f:Wk}{a b:Int}(e:hdA f.w b=hdA h.w a):KB f b=KB h a:=by unfold KB szA;rw[e]
def JX.fin(J:JX N h0 S P w M (Dn h0 M M.length))(hN:NB N)(B:BX N h0 S)(F:FX h0 w M v v' ps){h':Wk}(Z:h'.c=h0.c)(R:h'.w=v')(ep:h'.p=ps)(es:h'.s=1-h0.s)(hbp:h'.b = -1\/h'.b∈w.t):OS N h0 P M h':=by
 have y:=B.hp;have hsp0:=y.space;have hpl0:=y.pages;have hw0:=y.words;have hvc:=Xj.1 y.conf;have hb0:=B.st.hb;have spn:=J.spn hN B;have hwsp:=J.ci.spc;have hwpl:=J.ci.plen;have hb':HB h':=⟨by rw[R,F.vl];exact hb0.1,by rw[ep,F.pl];omega⟩
 have wspc:∀i,0<=i->i<(h0.p.length:Int)->0<=(pg w.h.p i).s/\(pg w.h.p i).s<=1:=λi u g=>by
  by_cases H:(pg w.h.p i).k=3
  .have⟨k,k0,k1,K,k2,k4⟩:=spn.tl i u aa H;have:=((K.k2 k2).2.2 (i-k) aa aa).2.1;rw[show k+(i-k)=i by omega]at this;have:=K.sp;omega
  exact(spn.hd i u aa H).sp
 have pgq:∀i,0<=i->i<(h0.p.length:Int)->(pg h'.p i=Zm/\ZB w i)\/(pg h'.p i=pg w.h.p i/\¬ZB w i):=λi u g=>by
  by_cases A:ZB w i
  .exact .inl ⟨by rw[ep];exact F.pz i u g A,A⟩
  exact .inr ⟨by rw[ep];exact F.pk i u g A,A⟩
 have spn':OF h'.c h'.p:=by
  rw[Z];have lp:h'.p.length=h0.p.length:=by rw[ep,F.pl]
  refine⟨λi u g H=>?_,λi u g H=>?_⟩
  .rw[lp]at g;rcases pgq i u g with⟨e,A⟩|⟨e,A⟩
   .refine⟨?_,?_,λ_=>e,λk=>?_,λk=>?_,?_⟩<;>rw[e]at *<;>simp[Zm]at *
   rw[e]at H;have b:=spn.hd i u aa H;refine⟨by rw[e];exact b.sp,by rw[e];exact b.pn,by rw[e];exact b.k0,by rw[e];exact b.k1,λk=>?_,by rw[e];exact b.kd⟩;rw[e]at k⊢;have k2:=b.k2 k;refine⟨k2.1,aa,λm m0 m1=>?_⟩;have t:=k2.2.2 m m0 m1;rcases pgq (i+m) aa aa with⟨_,hz'⟩|⟨e',_⟩
   .exfalso;exact A ⟨aa,by have:=hz'.2;omega⟩
   simp_all
  rw[lp]at g;rcases pgq i u g with⟨e,A⟩|⟨e,A⟩
  .rw[e]at H;exact absurd H ae
  rw[e]at H;have⟨k,k0,k1,K,k2,k4⟩:=spn.tl i u aa H;have t:=(K.k2 k2).2.2;have ti:=(t (i-k) aa aa).2.1;rw[show k+(i-k)=i by omega]at ti;have hzk:¬ZB w k:=λh=>A ⟨aa,by have:=h.2;omega⟩;have W:pg h'.p k=pg w.h.p k:=by
   rcases pgq k k0 aa with⟨_,h⟩|⟨e,_⟩
   .exact absurd h hzk
   exact e
  refine⟨k,k0,k1,⟨by rw[W];exact K.sp,by rw[W];exact K.pn,by rw[W];exact K.k0,by rw[W];exact K.k1,λ_=>?_,by rw[W];exact K.kd⟩,by rw[W];exact k2,by rw[W];exact k4⟩;have kk:=K.k2 k2;rw[W];refine⟨kk.1,aa,λm m0 m1=>?_⟩;have tm:=t m m0 m1;rcases pgq (k+m) aa aa with⟨_,hz'⟩|⟨e',_⟩
  .exfalso;exact hzk ⟨aa,by have:=hz'.2;omega⟩
  simp_all
 have pre:OU h':=by
  refine⟨by rw[Z];exact y.conf,by simp_all[R,Z,F.vl],by simp_all[ep,Z,F.pl],aa,?_⟩;rcases hbp with h|h
  .omega
  have t:=J.tk B h;have:pg h'.p h'.b=pg w.h.p h'.b:=by rw[ep];exact F.pk _ t.1 t.2.1 ((J.fz hN B t.1 t.2.1).1 h)
  simp_all[this,ep,F.pl]
 have epr:=JT hN hb' pre spn';have hp':=XJ hN hb' epr;have pars:=λi u g=>J.pars hN B F Z R ep (i:=i) u g;have lp:h'.p.length=h0.p.length:=by rw[ep,F.pl]
 have hkw:∀p∈M,wd h'.w p.2=wd h0.w p.1:=λp hp=>by have:=(XL h0.w p.1).2.1;rw[R,J.kw hN B F hp (x:=p.2) (Ux _) aa];exact J.hd p hp
 have T:∀p∈M,hdA h'.w p.2=hdA h0.w p.1:=λp hp=>by unfold hdA;grind
 have st_of:∀p∈M,Stt h' p.2:=λp hp=>by
  have I:=(J.l p hp).1;have hA:=B.at_ I;rcases J.k p hp with⟨k1,k2⟩|⟨k1,_,i,E,H,k4⟩
  .have⟨m,pm,am⟩:=I.1.pars y;have⟨l,pl,_,_,l2⟩:=pars _ hA.2.2.1 hA.2.2.2.1;have f:=J.fzm hN B hp (x:=p.2) (Ux _) (by have:=(XL h0.w p.1).2.1;omega);rw[k1]at f⊢;have:=(J.prm B I).1;rw[l2 this f.1 m pm]at am;exact⟨_,l,hA.2.2.1,aa,pl,am⟩
  have t:=J.tk B E;have⟨l,pl,_,l1,_⟩:=pars i t.1 t.2.1;exact⟨i,l,t.1,aa,pl,l1 E p hp H (by have:=(XL h0.w p.1).2.1;omega)⟩
 have ob:∀b,Obb h' b↔b∈M.map (·.2):=λb=>by
  constructor
  .rintro⟨⟨i,l,u,g,pl,hb⟩,hk⟩;rw[lp]at g;have⟨l',pl',q,_,_⟩:=pars i u g;have:=pl.fn (hp'.pgs i u (by rw[lp];exact g)).kind pl';grind
  intro hb;obtain⟨p,hp,rfl⟩:=WU.1 hb;exact⟨st_of p hp,by rw[T p hp];exact(J.l p hp).1.2⟩
 have f1:∀p∈M,∀j,0<=j->j<(hdA h0.w p.1).n->j∉X5 (hdA h0.w p.1)->wd h'.w (p.2+1+j)=wd h0.w (p.1+1+j):=λp hp j j0 j1 hj=>by
  have ez:szA h0.w p.1=(hdA h0.w p.1).n+1:=rfl;rw[R,J.kw hN B F hp (x:=p.2+1+j) aa aa];refine(J.fl p hp j j0 j1).1 ?_;rintro⟨i,q,j',E,U,hj',e⟩;have hqm:q∈M:=W7 U;have r':=ZA hj';have ezq:szA h0.w q.1=(hdA h0.w q.1).n+1:=rfl;have⟨O,s,ho⟩:=J.ci.obj;have g1:=J.geo ho hp;have g2:=J.geo ho hqm;have:q.2=p.2:=by apply Classical.byContradiction;intro hn;have:=ho.apart _ _ g2.1 g1.1 hn;omega
  grind
 have f2:∀p∈M,∀j∈X5 (hdA h0.w p.1),rel M (wd h0.w (p.1+1+j)) (wd h'.w (p.2+1+j)):=λp hp j hj=>by have ez:szA h0.w p.1=(hdA h0.w p.1).n+1:=rfl;have r:=ZA hj;rw[R,J.kw hN B F hp (x:=p.2+1+j) aa aa];have⟨i,E,e⟩:=WE hp;exact(J.fl p hp j r.1 r.2).2 ⟨i,p,j,E,by simp_all,hj,rfl⟩
 have zfree:∀i,0<=i->i<(h0.p.length:Int)->(pg h0.p i).k=0->(pg h0.p i).P=0:=λi u g k=>by rw[(y.pgs i u g).free k];rfl
 have hpins:∀i,0<=i->i<(h0.p.length:Int)->¬ZB w i->(pg h'.p i).P=(pg h0.p i).P:=λi u g A=>by
  have e:pg h'.p i=pg w.h.p i:=by
   rcases pgq i u g with⟨_,h⟩|⟨e,_⟩
   .simp_all
   omega
  rw[e];by_cases E:i∈w.t
  .have t:=J.t i E;simp_all
  exact(J.pgs i u g E).2.2.1
 refine⟨⟨epr,λi u g=>?_,λi u g k=>?_,λi l u g pl a ha=>?_,λx x0 Y=>?_,λb hb j hj=>?_,?_⟩,Z,es,by rw[R,F.vl],lp,J.n1,?_,J.l,ob,T,f1,f2,λi u g hl=>?_,λp hp h=>?_⟩
 .grind
 .rw[lp]at g;rcases pgq i u g with⟨e,_⟩|⟨e,A⟩
  .rw[e]at k;exact absurd rfl k
  rw[e]at k⊢;have:=wspc i u g;have:(pg w.h.p i).s≠w.h.s:=λh=>A ⟨k,h⟩;omega
 .rw[lp]at g;have⟨l',pl',q,_,_⟩:=pars i u g;have:=pl.fn (hp'.pgs i u (by rw[lp];exact g)).kind pl';simp_all
 ·
  have x1:x<4096+h0.w.length:=by have:=XnA x0 Y;rw[R,F.vl]at this;exact this
  rw[R]at Y;have A:¬ZB w (pgi h0.c x):=λh=>Y (F.wz x x0 x1 h);rw[F.wk x x0 x1 A]at Y;have seen:∀p∈M,p.2<=x->x<p.2+szA h0.w p.1->∃a,Stt h' a/\a<=x/\x<a+KB h' a:=λp hp V h2=>by refine⟨p.2,st_of p hp,V,?_⟩;rw[Xd7 (T p hp)];unfold KB;rw[Wi (J.l p hp).1.2];omega
  have prom:∀a,Stt h0 a->(pg h0.p (pgi h0.c a)).k=1->(pg h0.p (pgi h0.c a)).P>0->Stt h' a:=λa ha hk L=>by
   have G:=ha.at_ y;have q:=Yq y.conf G.rng;have hnt:pgi h0.c a∉w.t:=λh=>by have:=(J.t _ h).1;omega
   obtain⟨m,pm,am⟩:=ha.pars y;obtain⟨l,pl,_,_,l2⟩:=pars _ q.2.1 aa;have hzz:¬ZB w (pgi h0.c a):=λh=>(((J.fz hN B q.2.1 aa).2 hnt).2.1 hk).1 h L;rw[l2 hnt hzz m pm]at am;exact⟨_,l,q.2.1,aa,pl,am⟩
  by_cases hd:∃a,Xcx h0 M a/\a<=x/\x<a+szA h0.w a
  .obtain⟨a,hd,V,h2⟩:=hd;have fd:=F.fd a hd;have ez:szA h0.w a=(hdA h0.w a).n+1:=rfl;have hxa:x=a:=by apply Classical.byContradiction;intro hn;have:=fd.2 (x-a-1) aa aa;rw[show a+1+(x-a-1)=x by omega]at this;exact Y this
   subst hxa;refine⟨x,prom x hd.1.1 hd.2.2.1 hd.2.2.2,Ux _,?_⟩;have:1<=KB h' x:=(XfZ h' x).1;omega
  rw[F.fo x x0 λa V h2=>hd ⟨a,V,h2⟩]at Y;by_cases hs:∃p∈M,p.2<=x/\x<p.2+szA h0.w p.1
  .grind
  by_cases V:∃p∈M,x=p.1
  .obtain⟨p,hp,rfl⟩:=V;rcases J.k p hp with⟨k1,_⟩|⟨k1,_⟩
   .exact absurd ⟨p,hp,aa,by have:=(XL h0.w p.1).2.1;omega⟩ hs
   have I:=(J.l p hp).1;have hA:=B.at_ I;exact absurd ((((J.fz hN B hA.2.2.1 hA.2.2.2.1).2 (J.prm B I).1).2.1 k1.1).2 k1.2) A
  rw[J.o x x0 λp hp=>⟨λe=>V ⟨p,hp,e⟩,λe=>hs ⟨p,hp,e⟩⟩]at Y;have⟨a,sa,a1,a2⟩:=B.gx.dt x x0 Y;have G:=sa.at_ y;have q:=Yq y.conf G.rng;have hext:=Xge h0 a;have fz:=J.fza hN B G a1 aa;rw[fz.2.2]at A;have z:=(J.fz hN B q.2.1 aa).2 fz.2.1;have⟨m,pm,am⟩:=sa.pars y;by_cases hf:(hdA h0.w a).k=0
  .have hk1:(pg h0.p (pgi h0.c a)).k=1:=by
    rcases G.kind with k|k
    .omega
    exact absurd hf ((B.gx.cl _ m q.2.1 aa pm a am).2 k)
   have L:(pg h0.p (pgi h0.c a)).P>0:=Classical.byContradiction λh=>A ((z.2.1 hk1).2 h);have e:=J.nw B sa hf F A;refine⟨a,prom a sa hk1 L,a1,?_⟩;have:KB h' a=KB h0 a:=Xd7 (by rw[R];unfold hdA;rw[e]);omega
  by_cases hm:a∈M.map (·.1)
  .have⟨b,hab⟩:=JM hm;rcases J.k _ hab with⟨k1,_⟩|⟨k1,_⟩
   .grind
   exact absurd ((z.2.1 k1.1).2 k1.2) A
  rcases G.kind with k|k
  .have L:(pg h0.p (pgi h0.c a)).P>0:=Classical.byContradiction λh=>A ((z.2.1 k).2 h);exact absurd ⟨a,⟨⟨sa,hf⟩,hm,k,L⟩,a1,aa⟩ hd
  have e:=q.1;rw[(G.large k).1]at e;grind
 .rw[ob]at hb;obtain⟨p,hp,rfl⟩:=WU.1 hb;rw[T p hp]at hj;rcases f2 p hp j hj with h|h
  .exact .inl h.2
  grind
 .have hcr:=B.gx.cr;rw[Z];refine Int.le_trans (Int.ofNat_le.2 (Xa5 K2 h'.p h0.p lp λi V h2 U=>?_)) hcr;rw[←ZL V]at U;rw[←ZL h2];unfold K2 at U⊢;rw[WK,decide_eq_true_iff,beq_iff_eq]at U⊢;rcases pgq (i:Int) aa aa with⟨e,_⟩|⟨e,A⟩
  .rw[e]at U;exact absurd U.1 ae
  rw[hpins _ aa aa A]at U;have hk:=U.1;rw[e]at hk;by_cases E:(i:Int)∈w.t
  .have:=(J.t _ E).1;grind
  rw[(J.pgs _ aa aa E).1]at hk;omega
 .have:=J.ci.qnd;simp_all[J.q]
 .by_cases A:ZB w i
  .have e:pg h'.p i=Zm:=by rw[ep];exact F.pz i u g A
   rw[e];have E:i∉w.t:=λE=>(J.fz hN B u g).1 E A;have z:=(J.fz hN B u g).2 E;have pk:=y.pgs i u g;have h4:=pk.kind;have hpp:=pk.pins;show(0:Int)=_;by_cases k0:(pg h0.p i).k=0
   .exact(zfree i u g k0).symm
   by_cases k1:(pg h0.p i).k=1
   .have:=(z.2.1 k1).1 A;omega
   by_cases k2:(pg h0.p i).k=2
   .have h5:=(z.2.2 k2).1 A;apply Classical.byContradiction;intro hn;exact h5 (hl k2 aa)
   have H:(pg h0.p i).k=3:=aa;have⟨k,q0,q1,K,q2,q4⟩:=(Xag hN hb0 B.gx.ep).tl i u g H;have:=((K.k2 q2).2.2 (i-k) aa aa).2.2.2;rw[show k+(i-k)=i by omega]at this;omega
  simp_all
 rcases J.k p hp with⟨k1,_⟩|⟨k1,_⟩
 .omega
 exact absurd h k1.2
end
section
variable {N:Nat}{h0:Wk}{P:Int->Prop}
def Qoi(hN:NB N)(ht:HT h0)(gx:GX N h0){rs ws:List Int}(lr:rs.length<=1000000)(lw:ws.length<=1000000)(O:∀r∈rs,r=0\/Obb h0 r/\P r)(hw:∀r∈ws,r=0\/Obb h0 r)(V:∀a,Obb h0 a->P a->∀j∈X5 (hdA h0.w a),wd h0.w (a+1+j)=0\/P (wd h0.w (a+1+j))):
 Ok (Qcr N h0 rs ws) λr=>r.2.2.2.2=3\/(r.2.2.2.2=0/\HT r.1/\∃M,OS N h0 P M r.1/\R2 (rel M) rs r.2.1/\R2 (wk M) ws r.2.2.1):=by
 have Y:=hN;unfold NB at Y;have hb:=ht.hb;have⟨S,B,eL⟩:=Xs7 hN hb gx;have hp:=B.hp;have hsp:=hp.space;have⟨b1,er,Z⟩:=Xa4 hN ht lr gx;have⟨b2,ew,hb2⟩:=Xa4 hN ht lw gx;rw[Z.2 λr h=>(O r h).imp id And.left]at er;rw[hb2.2 hw]at ew;have⟨w0,ebg,J0,hs0⟩:=Xp0 (P:=P) hN ht B eL;rw[Qcr,gx.ep,Xa,Wh,Wa];refine Im ?_;rw[er,Xa,Wh,Wa,ew,Xa,Wh,Wa,ebg,Xa];have hroots:Ok (Qdb N w0 rs) λr=>r.2.2=3\/(r.2.2=0/\∃M,JX N h0 S P r.1 M (Dn h0 M 0)/\r.1.d=0/\R2 (rel M) rs r.2.1):=by have hx:=Xj5 (D:=Dn h0 [] 0) hN B rs lr O N 0 w0 [] [] aa aa J0 (R2.nil _);refine IS hx (λa q=>We (.inl q)) λt q=>?_;obtain⟨w',M',o',c1,c2,_,c4,rfl⟩:=q;refine We (.inr ⟨rfl,M',c1.cong (by rfl) (by rfl) (by rfl) (by rfl) (by rfl) c1.ci λx=>?_,c2.trans hs0,c4⟩);exact⟨λ⟨i,p,j,hi,_⟩=>aa,λ⟨i,p,j,hi,_⟩=>aa⟩
 refine WI hroots λR _ hy5=>?_;rcases hy5 with h3|⟨k,M1,J1,hs1,hrr⟩
 .rw[h3];exact We (.inl rfl)
 rw[k,show((0:Int) != 0)=false from rfl,Wa];have G:Ok (Qez N R.1) λr=>r.2=3\/(r.2=0/\∃M',JX N h0 S P r.1 M' (Dn h0 M' M'.length)/\∃t,M'=M1++t):=
  WI (XqT hN B V N 0 R.1 M1 J1 hs1 aa aa) λr _ O=>We O
 refine WI G λe _ hy6=>?_;rcases hy6 with h3|⟨hz6,M,J,hM⟩
 .rw[h3];exact We (.inl rfl)
 rw[hz6,show((0:Int) != 0)=false from rfl,Wa];refine WI (XnC hN B ws lw hw R e J N 0 _ [] aa aa (R2.nil _)) λf _ H=>?_;have J':=J.upd e.1.d (WR.mk e.1.r.j e.1.r.K e.1.r.F e.1.r.E f.1 e.1.r.y);have z:=J.ci.wlen;have g:=J.ci.plen;have hol:=J.ci.old.length_le;have hsl:=B.st.st.len;have⟨v,c,f1,f2,f3,f4,f5⟩:=Xgf hN B J' N 0 e.1.h.w e.1.r.F aa (by grind) z J.tu λa ha hd=>J.same B hd.1 hd.2.1 (Ux _) (by have:=(XL h0.w a).2.1;omega);have f1:QaI N (Ww.mk e.1.h e.1.o e.1.t e.1.q e.1.d (WR.mk e.1.r.j e.1.r.K e.1.r.F e.1.r.E f.1 e.1.r.y)) N 0 e.1.h.w e.1.r.F=some (v,c):=f1;have hdO:∀a,Xcx h0 M a->a∈e.1.o:=λa hd=>by rw[J.ol];unfold Yo;rw[W8];exact⟨(B.at_ hd.1).2.1,by simp[Y8,fnd,hd.1.2]⟩
 rw[Qev];rw[f1,Xa,Xa];have⟨c',v',ps,g1,g2,g3,g4,g5,g6⟩:=Xi0 hN (w:=Ww.mk (Wk.mk e.1.h.c v e.1.h.p e.1.h.s e.1.h.b) e.1.o e.1.t e.1.q e.1.d (WR.mk e.1.r.j e.1.r.K c e.1.r.E f.1 e.1.r.y)) hb hp J.ci.conf g N 0 e.1.r.E v e.1.h.p aa aa (by have:=hb.2;omega) f2 f3 g λ_ _=>rfl;have hb1':=hb.1;have hb2':=hb.2;rw[Qeu];dsimp only;rw[Xb aa,Xb aa,g1,Xa,Xa];dsimp only;have hw0:=hp.words;have hpl0:=hp.pages;have F:FX h0 e.1 M v v' ps:=by
  have pgx:∀x:Int,4096<=x->x<4096+h0.w.length->∀j,0<=j->(Xd h0.c j 0<=x/\x<Xd h0.c j h0.c.W↔j=pgi h0.c x):=λx u T j A=>by
   have q:=Yq (a:=x) hp.conf aa;have e1:∀i o,Xd h0.c i o=4096+i*h0.c.W+o:=λ_ _=>rfl;constructor
   .rintro⟨h1,h2⟩;rw[e1]at h1 h2;have:=(YD (c:=h0.c) hp.conf (p:=j) (o:=x-Xd h0.c j 0) (by rw[e1];omega) (by rw[e1];omega)).1;rw[show Xd h0.c j (x-Xd h0.c j 0)=x by unfold Xd;omega]at this;exact this.symm
   grind
  refine⟨λa hd=>f4 a (hdO a hd) hd,λx u hx=>f5 x u λa _ hd=>hx a hd,g4,g2,λj A j1 k=>(g5 j A).1 ⟨A,j1,k⟩,λj A j1 k=>(g5 j A).2 λh=>k h.2.2,λx u T k=>?_,λx u T k=>?_⟩
  .have q:=Yq (a:=x) hp.conf aa;have:=(pgx x u T _ q.2.1).2 rfl;exact(g6 x u).1 ⟨pgi h0.c x,q.2.1,aa,k,this.1,this.2⟩
  refine(g6 x u).2 ?_;rintro⟨j,A,j1,I,h1,h2⟩;have:=(pgx x u T j A).1 ⟨h1,h2⟩;rw[this]at I;exact k I
 have esp:wI (1-e.1.h.s)=1-h0.s:=by rw[J.ci.spc,Xc aa aa]
 have fin:∀U:Int,U = -1\/U∈e.1.t->Ok (some ((Wk.mk e.1.h.c v' ps (wI (1-e.1.h.s)) U),R.2.1,f.2,(WR.mk e.1.r.j e.1.r.K c c' f.1 e.1.r.y),0)) λr:Wk×List Int×List Int×WR×Int=>r.2.2.2.2=3\/(r.2.2.2.2=0/\HT r.1/\∃M,OS N h0 P M r.1/\R2 (rel M) rs r.2.1/\R2 (wk M) ws r.2.2.1):=λU hbp=>
  We (.inr ⟨rfl,⟨⟨by simp_all,by simp_all⟩,g3⟩,M,J.fin hN B F J.ci.conf rfl rfl esp hbp,hrr.mono λ_ _ h=>h.mono hM,H⟩)
 refine Im (Wq (λL=>?_) λ_=>fin _ (.inl rfl));have L:0<(e.1.t.length:Int):=Wy L;have htl:=J.ci.tl hb;rw[Xc aa aa];exact Ok.get aa aa λp hp=>fin _ (.inr (YI hp))
end
def eR(r:Int->Int->Prop)(a b:W5):Prop:=b.G=a.G/\b.V=a.V/\(a.V=true->r a.a b.a)/\(a.V=false->b.a=a.a)
def sR(r:Int->Int->Prop)(a b:UB):Prop:=b.J=a.J/\b.V=a.V/\(a.V=true->r a.a b.a)/\(a.V=false->b.a=a.a)
def Xd8{α β σ:Type}{q:σ->Nat->α->Bool}{p:σ->Nat->β->Bool}{f:σ->α->σ}{g:σ->β->σ}:∀{l:List α} {m:List β} {s:σ} {k:Nat},R2 (λa b=>(∀s k,p s k b=q s k a)/\∀s,g s b=f s a) l m->YW p g s k m=YW q f s k l
 |[],m,s,k,h=>by
  have:=h.1;cases m with
  |nil=>rfl
  |cons b m=>simp_all
 |a::l,m,s,k,h=>by obtain⟨b,o,rfl,e,j⟩:=h.unc;rw[YW,YW,e.1,e.2,Xd8 j]
def R2.filt{α β:Type}{r:α->β->Prop}{p:α->Bool}{q:β->Bool}:∀{l:List α} {m:List β},R2 (λa b=>q b=p a/\(p a=true->r a b)) l m->R2 r (l.filter p) (m.filter q)
 |[],m,h=>by
  have:=h.1;cases m with
  |nil=>exact R2.nil _
  |cons b m=>simp_all
 |a::l,m,h=>by
  obtain⟨b,g,rfl,⟨j,f⟩,e⟩:=h.unc;cases hp:p a with
  |false=>rw[UC (by grind),UC (by simp_all)];exact e.filt
  |true=>rw[Uq hp,Uq (by simp_all)];exact R2.cons (f hp) e.filt
def R2.map{α β γ δ:Type}{r:α->β->Prop}{s:γ->δ->Prop}{f:α->γ}{g:β->δ}{l:List α}{m:List β}(h:R2 r l m)(q:∀a b,r a b->s (f a) (g b)):R2 s (l.map f) (m.map g):=by
 refine⟨by simp[h.1],λk x y e j=>?_⟩;rw[IJ]at e j;cases o:l[k]? with
 |none=>simp_all
 |some a=>
  cases p:m[k]? with
  |none=>simp_all
  |some b=>rw[o]at e;rw[p]at j;cases e;cases j;exact q a b (h.2 k a b o p)
def OE{r:Int->Int->Prop}{l m:List W5}(h:R2 (eR r) l m):R2 r (Xz l) (Xz m):=
 R2.map (r:=λa b=>r a.a b.a) (R2.filt (h.mono λa b q=>⟨q.2.1,q.2.2.1⟩)) λ_ _ q=>q
def OV{r:Int->Int->Prop}{l m:List UB}(h:R2 (sR r) l m):R2 r (XM l) (XM m):=
 R2.map (r:=λa b=>r a.a b.a) (R2.filt (h.mono λa b q=>⟨q.2.1,q.2.2.1⟩)) λ_ _ q=>q
def R2.all{α β:Type}{p:α->Bool}{q:β->Bool}:∀{l:List α} {m:List β},R2 (λa b=>q b=p a) l m->m.all q=l.all p
 |[],m,h=>by have:=h.1;simp_all
 |a::l,m,h=>by obtain⟨b,g,rfl,e,f⟩:=h.unc;rw[I7,I7,e,R2.all f]
def R2.countP{α β:Type}{p:α->Bool}{q:β->Bool}:∀{l:List α} {m:List β},R2 (λa b=>q b=p a) l m->m.countP q=l.countP p
 |[],m,h=>by have:=h.1;simp_all
 |a::l,m,h=>by obtain⟨b,g,rfl,e,f⟩:=h.unc;rw[Ic,Ic,e,R2.countP f]
def Xj8{r:Int->Int->Prop}{l m:List W5}(h:R2 (eR r) l m):Yr m=Yr l:=by
 unfold Yr;rw[R2.all (p:=JA) (q:=JA) (h.mono λa b q=>?_),h.1];unfold JA;rw[q.1,q.2.1];cases e:a.V with
 |true=>rfl
 |false=>rw[q.2.2.2 e]
def Xp2{r:Int->Int->Prop}{a b:Wp}(j:∀x y,r x y->(y=0↔x=0))(e:b.x=a.x)(f:b.i=a.i)(h:R2 (sR r) a.S b.S):Yb b=Yb a:=by
 have o:stB b.i b.S=stB a.i a.S:=by
  unfold stB;rw[f];refine Xd8 (h.mono λx y q=>⟨λs k=>?_,λs=>q.1⟩);unfold stQ;rw[q.1,q.2.1];have:(y.a != 0)=(x.a != 0):=by
   cases g:x.V with
   |false=>rw[q.2.2.2 g]
   |true=>have:=j _ _ (q.2.2.1 g);grind
  rw[this]
 have z:XbV b=XbV a:=by
  unfold XbV;rw[e];congr 1;funext u i p;have et:toL b i=toL a i:=by unfold toL;rw[e,h.1]
  unfold Xha YL;rw[et];have:=(h.drop p.O.toNat).take ((toL a i).toNat-p.O.toNat);rw[R2.countP (p:=λx:UB=>x.V) (q:=λx:UB=>x.V) (this.mono λ_ _ q=>q.2.1)]
 unfold Yb;rw[e,f,h.1,←o,z,f]
section
variable {N:Nat}{r:Int->Int->Prop}
def Xd9(E:List W5)(z:E.length<=1000000)(rs:List Int)(f:rs.length<=1000000):∀(n k c:Nat) (v:List W5),k<=E.length->E.length-k<n->v.length=E.length->v.drop k=E.drop k->c<=rs.length->R2 r (Xz (E.drop k)) (rs.drop c) ->
 ∃t,Qbp N rs n (c:Int) (k:Int) v=some (v.take k++t)/\R2 (eR r) (E.drop k) t
 |0,k,c,v,_,A,_,_,_,_=>by omega
 |n+1,k,c,v,K,A,B,hd,H,h=>by
  rw[Qbp,Xb aa,B];by_cases g:k<E.length;rotate_left
  .obtain rfl:k=E.length:=aa;rw[XI,Wa,Ub aa];exact⟨[],by grind,R2.nil _⟩
  have hdr:=Wo g;have o:=Wo (show k<v.length by omega);rw[o,hdr]at hd;have⟨I,p⟩:=IP hd;rw[Xn g,Wb,Xf,Wc aa,Xa,I,Xg (k:=k) aa];rw[hdr]at h⊢;cases J:E[k].V with
  |false=>
   have q:Xz (E[k]::E.drop (k+1))=Xz (E.drop (k+1)):=by unfold Xz;rw[UC (by grind)]
   rw[q]at h;have⟨t,e,ht⟩:=Xd9 E z rs f n (k+1) c v aa aa B p H h;refine⟨E[k]::t,by grind,R2.cons ⟨rfl,rfl,(λh=>by grind),λ_=>rfl⟩ ht⟩
  |true=>
   have q:Xz (E[k]::E.drop (k+1))=E[k].a::Xz (E.drop (k+1)):=by unfold Xz;rw[Uq J];rfl
   rw[q]at h;have⟨b,L,u,O,R⟩:=h.unc;have j:c<rs.length:=by apply Classical.byContradiction;intro A;rw[Ub aa]at u;cases u
   rw[Wo j]at u;rw[Wb,Xf,Wc j,Xa,Xa,Xg (k:=c) aa];have⟨t,e,ht⟩:=Xd9 E z rs f n (k+1) (c+1) (v.set k ⟨E[k].G,rs[c],E[k].V⟩) aa aa (by grind) (by rw[UP aa];omega) aa (by grind);have y:(v.set k ⟨E[k].G,rs[c],E[k].V⟩).take (k+1)=v.take k++[⟨E[k].G,rs[c],E[k].V⟩]:=by rw[Ig,If,Wm rfl,Wm aa,IR aa];rfl
   rw[show(k:Int).toNat=k from rfl,e,y,Ud];exact⟨_,rfl,R2.cons ⟨rfl,rfl,λ_=>by grind,λh=>by grind⟩ ht⟩
def Xj9(hN:NB N){t:Wu}(ht:TB t)(g:Yr t.e=true){rs:List Int}(h:R2 r (Xz t.e) rs):∃m,Qcg N t rs=some (m,0)/\R2 (eR r) t.e m.e:=by
 have f:1000000<N:=by unfold NB at hN;omega
 have j:=JB g;have:=Va t.e;have k:=h.1;have⟨m,e,o⟩:=Xd9 (N:=N) (r:=r) t.e aa rs aa N 0 0 t.e aa aa rfl rfl aa ag;rw[show((0:Nat):Int)=0 from rfl,Oo,Ue]at e;refine⟨⟨m⟩,?_,o⟩;rw[Qcg,Y2 ht f,g,Xa,Wh,Wa,X7 ht f,g,Wb,Xa,Xb aa,k];simp;rw[Xb aa,e,Xa]
def Xea(a:Wp)(A:a.S.length<=1000000)(rs:List Int)(g:rs.length<=1000000)(o:∀x∈rs,x≠0):∀(n k c:Nat) (v:List UB),k<=a.S.length->a.S.length-k<n->v.length=a.S.length->v.drop k=a.S.drop k->c<=rs.length->R2 r (XM (a.S.drop k)) (rs.drop c) ->
 ∃t,Qbo N a rs n (c:Int) (k:Int) v=some (.nxt (v.take k++t))/\R2 (sR r) (a.S.drop k) t
 |0,k,c,v,_,B,_,_,_,_=>by omega
 |n+1,k,c,v,K,B,E,hd,G,h=>by
  rw[Qbo,Xb aa,E];by_cases j:k<a.S.length;rotate_left
  .obtain rfl:k=a.S.length:=aa;rw[XI,Wa,Ub aa];exact⟨[],by grind,R2.nil _⟩
  have hdr:=Wo j;have p:=Wo (show k<v.length by omega);rw[p,hdr]at hd;have⟨H,q⟩:=IP hd;rw[Xn j,Wb,Xf,Wc aa,Xa,H,Xg (k:=k) aa];rw[hdr]at h⊢;cases I:a.S[k].V with
  |false=>
   have u:XM (a.S[k]::a.S.drop (k+1))=XM (a.S.drop (k+1)):=by unfold XM;rw[UC (by grind)]
   rw[u]at h;have⟨t,e,ht⟩:=Xea a A rs g o n (k+1) c v aa aa E q G h;refine⟨a.S[k]::t,by grind,R2.cons ⟨rfl,rfl,(λh=>by grind),λ_=>rfl⟩ ht⟩
  |true=>
   have u:XM (a.S[k]::a.S.drop (k+1))=a.S[k].a::XM (a.S.drop (k+1)):=by unfold XM;rw[Uq I];rfl
   rw[u]at h;have⟨b,L,y,O,R⟩:=h.unc;have f:c<rs.length:=by apply Classical.byContradiction;intro B;rw[Ub aa]at y;cases y
   rw[Wo f]at y;rw[Wh,Wa,Xf,Wc f,Xa,Xk (o _ (WG f)),Wa,Xa,Xa,Xg (k:=c) aa];have⟨t,e,ht⟩:=Xea a A rs g o n (k+1) (c+1) (v.set k ⟨a.S[k].J,rs[c],a.S[k].V⟩) aa aa (by grind) (by rw[UP aa];omega) aa (by grind);have z:(v.set k ⟨a.S[k].J,rs[c],a.S[k].V⟩).take (k+1)=v.take k++[⟨a.S[k].J,rs[c],a.S[k].V⟩]:=by rw[Ig,If,Wm rfl,Wm aa,IR aa];rfl
   rw[show(k:Int).toNat=k from rfl,e,z,Ud];exact⟨_,rfl,R2.cons ⟨rfl,rfl,λ_=>by grind,λh=>by grind⟩ ht⟩
def Xp3(hN:NB N){a:Wp}(j:LBp a)(g:Yb a=true){rs:List Int}(h:R2 r (XM a.S) rs)(k:∀x∈rs,x≠0):∃m,Qdi N a rs=some (⟨m,a.x,a.i⟩,0)/\R2 (sR r) a.S m:=by
 have f:1000000<N:=by unfold NB at hN;omega
 have o:=(XT.1 g).slots;have:=(XT.1 g).iss;have:=Xas a.S;have p:=h.1;have⟨m,e,q⟩:=Xea (N:=N) (r:=r) a aa rs aa k N 0 0 a.S aa aa rfl rfl aa ag;rw[show((0:Nat):Int)=0 from rfl,Oo,Ue]at e;refine⟨m,?_,q⟩;rw[Qdi,Zr j f,g,Xa,Wh,Wa,Y3 j f,g,Wb,Xa,p];simp;rw[Xb aa,e,Xa,Xo]
end
structure O0(N:Nat)(x y:W3)(P:Int->Prop)(M:List (Int×Int)):Prop where
 et:ET y
 vx:VX N y
 ch:OS N x.h P M y.h
 rt:R2 (rel M) x.R y.R
 ls:R2 (sR (rel M)) x.l.S y.l.S
 lc:y.l.x=x.l.x/\y.l.i=x.l.i
 gl:R2 (eR (rel M)) x.g.e y.g.e
 we:R2 (eR (wk M)) x.v.e y.v.e
 pi:y.P=x.P
 st:∀r∈Z5 x,r=0\/r∈M.map (·.1)
 ps:∀p∈x.P,(p.a,p.a)∈M
def Xgg{c:WN}:∀{l:List UE},(∀p∈l,1<=p.M)->∀i,0<=ZM c l i
 |[],_,_=>by simp[ZM]
 |p::l,h,i=>by have:=Xgg (c:=c) (l:=l) (λq e=>h q (WZ _ e)) i;grind[ZM]
def Xeb{c:WN}:∀{l:List UE},(∀p∈l,1<=p.M)->∀p∈l,0<ZM c l (pgi c p.a)
 |[],_,p,hp=>by simp_all
 |q::l,h,p,hp=>by
  have f:=Xgg (c:=c) (l:=l) λq e=>h q (WZ _ e);have g:=h q ab;rw[ZM];rcases U6.1 hp with rfl|hp
  .grind
  have:=Xeb (c:=c) (l:=l) (λq e=>h q (WZ _ e)) p hp;omega
def Xka{c:WN}:∀{l:List UE} {i:Int},0<ZM c l i->∃p∈l,pgi c p.a=i
 |[],i,h=>by simp_all[ZM]
 |q::l,i,h=>by
  rw[ZM]at h;by_cases e:pgi c q.a=i
  .simp_all
  have⟨p,hp,e⟩:=Xka (c:=c) (l:=l) (i:=i) aa;grind
def MX.col{N:Nat}{h y:Wk}{pins:List UE}{P:Int->Prop}{M:List (Int×Int)}(m:MX N h pins)(c:OS N h P M y)(hp:Uy h)(z:∀p∈pins,p.a∈M.map (·.1)):MX N y pins/\∀p∈pins,(p.a,p.a)∈M:=by
 have A:∀p∈pins,1<=p.M:=λp hp=>(m.ob p hp).2.1;have g:∀p∈pins,(p.a,p.a)∈M:=λp f=>by have⟨b,hb⟩:=JM (z p f);have j:=(m.ob p f).1.1.at_ hp;have q:=Yq hp.conf j.rng;have B:=hp.pages;have E:=m.sm _ q.2.1 aa;have:=Xeb (c:=h.c) A p f;have:=c.kp _ hb (by dsimp only;omega);grind
 refine⟨⟨c.gx,m.len,λp f=>⟨(c.ob _).2 (WU.2 ⟨_,g p f,rfl⟩),(m.ob p f).2⟩,m.nd,λi u o=>?_⟩,g⟩;rw[c.pl]at o;rw[c.pn i u o λk2 k=>?_,c.cf]
 .exact m.sm i u o
 rw[m.sm i u o]at k;have⟨p,f,e⟩:=Xka k;have j:=(m.ob p f).1.1.at_ hp;have q:=Yq hp.conf j.rng;have:=(j.large (by rw[e];exact k2)).1;grind
section
variable {N:Nat}{x:W3}
def XnD(s:List Int)(f:Wk×List Int×List Int×WR×Int)(g j:List Int)(o:Wp×Int)(p q:Wu×Int)(z:x.P.length<=1000000)(u:∀k(A:k<x.P.length),Xe f.2.1 (wI (wI (wI ((x.R.length:Int)+(g.length:Int))+(j.length:Int))+(k:Int)))=some x.P[k].a):∀(n k:Nat) (v:List UE),k<=x.P.length->x.P.length-k<n->v=x.P.take k->QaZ N x f g j o p q n (k:Int) v=some x.P
 |0,k,v,_,B,_=>by omega
 |n+1,k,v,A,B,y=>by
  rw[QaZ];by_cases e:k<x.P.length
  .have E:v.length<=1000000:=by rw[y,Wl];omega
   rw[Xn e,Wb,u k e,Xa,Xf,Wc e,Xa,Xb aa,Xg aa];exact XnD s f g j o p q z u n (k+1) _ aa aa (by rw[Ig,Wc e,y];rfl)
  grind
def R2.rel_ob{h:Wk}{M:List (Int×Int)}(e:∀b,Obb h b↔b∈M.map (·.2)){l m:List Int}(r:R2 (rel M) l m):∀b∈m,b=0\/Obb h b:=λb hb=>by
 have⟨a,f,h⟩:=r.memr hb;rcases h with h|h
 .exact .inl h.2
 grind
def XrZ(hN:NB N)(ht:ET x)(vx:VX N x){P:Int->Prop}(V:∀a,Obb x.h a->P a->∀j∈X5 (hdA x.h.w a),wd x.h.w (a+1+j)=0\/P (wd x.h.w (a+1+j)))(hP:∀r∈Z5 x,r=0\/P r):Ok (QbG N x) λr=>r.2.2=3\/(r.2.2=0/\∃M,O0 N x r.1 P M):=by
 have A:1000000<N:=by unfold NB at hN;omega
 have z:=ht.eb;have h1:=Zi z.loc;have h2:=Yf x.g.e;have h5:=Yf x.v.e;have h3:=z.pins;have h4:=z.roots;rw[vx.loc,Wb]at h1;rw[vx.glo,Wb]at h2;rw[vx.wea,Wb]at h5;have hp64:=vx.mx.len;have gx:=vx.mx.gx;have hp:=XJ hN z.heap gx.ep;have H:Z5 x=((x.R++XM x.l.S)++Xz x.g.e)++x.P.map (·.a):=by unfold Z5;rw[vx.loc,vx.glo];rfl
 have hll:(Z5 x).length=x.R.length+(XM x.l.S).length+(Xz x.g.e).length+x.P.length:=by rw[H];simp only[WJ,Um]
 have hsl:∀r∈Z5 x,r=0\/Obb x.h r:=λr o=>by
  rw[H]at o;simp only[Wt]at o;rcases o with((o|o)|o)|o
  .exact vx.rr r o
  .exact vx.rl r o
  .exact vx.rg r o
  obtain⟨p,hp,rfl⟩:=WU.1 o;exact .inr (vx.mx.ob p hp).1
 rw[QbG,(XaC hN ht).2 vx,Xa,Wh,Wa,XdT hN z,Xa,X7 z.wea A,vx.wea,Wb,Xa];refine WI (Qoi hN ht.ht gx (P:=P) (rs:=Z5 x) (ws:=Xz x.v.e) aa aa (λr o=>?_) vx.rw_ V) λy _ hy=>?_
 .grind
 rcases hy with h|⟨hz,B,M,c,o,hw⟩
 .rw[h];exact We (.inl rfl)
 rw[hz,show((0:Int) != 0)=false from rfl,Wa];have hs1:=o.1;generalize hs:y.2.1=s at *;generalize W:XM x.l.S=f at *;generalize hm:Xz x.g.e=u at *;have en:(x.R.length:Int).toNat=x.R.length:=rfl;have w1:wI ((x.R.length:Int)+(f.length:Int))=((x.R.length+f.length:Nat):Int):=by rw[Xc aa aa];omega
 have w2:wI (((x.R.length+f.length:Nat):Int)+(u.length:Int))=((x.R.length+f.length+u.length:Nat):Int):=by rw[Xc aa aa];omega
 have t1:((x.R.length+f.length:Nat):Int).toNat=x.R.length+f.length:=rfl;have t2:((x.R.length+f.length+u.length:Nat):Int).toNat=x.R.length+f.length+u.length:=rfl;have r1:R2 (rel M) x.R (s.take x.R.length):=by have:=o.take x.R.length;rwa[H,Ud,Ud,List.take_left]at this
 have r2:R2 (rel M) f ((s.drop x.R.length).take f.length):=by have:=(o.drop x.R.length).take f.length;rwa[H,Ud,Ud,List.drop_left,List.take_left]at this
 have r3:R2 (rel M) u ((s.drop (x.R.length+f.length)).take u.length):=by
  have:=(o.drop (x.R.length+f.length)).take u.length;have e:(Z5 x).drop (x.R.length+f.length)=u++x.P.map (·.a):=by rw[H,Ud,←WJ,List.drop_left]
  rwa[e,List.take_left]at this
 have r4:R2 (rel M) (x.P.map (·.a)) (s.drop (x.R.length+f.length+u.length)):=by
  have:=o.drop (x.R.length+f.length+u.length);have e:(Z5 x).drop (x.R.length+f.length+u.length)=x.P.map (·.a):=by rw[H,←WJ,←WJ,List.drop_left]
  rwa[e]at this
 have Y:∀p∈x.P,p.a∈M.map (·.1):=λp I=>by
  obtain⟨b,_,hb⟩:=r4.meml (WU.2 ⟨p,I,rfl⟩);rcases hb with h|h
  .have:=((vx.mx.ob p I).1.1.at_ hp).rng;omega
  grind
 have E:=vx.mx.col c hp Y;have nz:∀a b,rel M a b->(b=0↔a=0):=λa b h=>by
  rcases h with h|h
  .omega
  have h1:=((c.l _ h).1.1.at_ hp).rng;have h2:=(((c.ob b).2 (WU.2 ⟨_,h,rfl⟩)).1.at_ (XJ hN B.hb c.gx.ep)).rng;omega
 have lz:∀v∈f,v≠0:=λv J=>by rw[←W]at J;unfold XM at J;obtain⟨p,hp,rfl⟩:=WU.1 J;have hp:=W8.1 hp;obtain⟨q,hq,eq⟩:=WE hp.1;exact(Xar (XT.1 vx.loc).st (i:=q) (p:=p) (by simp_all)).2.2.2.1 hp.2
 have Z:∀v∈(s.drop x.R.length).take f.length,v≠0:=λv J e=>by obtain⟨a,ha,h⟩:=r2.memr J;grind
 obtain⟨ml,e1,O⟩:=Xp3 hN z.loc vx.loc (by rw[W];exact r2) Z;obtain⟨mg,e2,K⟩:=Xj9 hN z.glo vx.glo (by rw[hm];exact r3);have⟨mw,e3,T⟩:=Xj9 hN z.wea vx.wea hw;rw[Y3 z.loc A,vx.loc,Wb,W,Xa,X7 z.glo A,vx.glo,Wb,hm,Xa,w1,w2,t1,t2,en];rw[Xb aa,Xb aa,Xb aa,Xb aa,show x.R.length+f.length-x.R.length=f.length by omega,e1,Xa,Xb aa,show x.R.length+f.length+u.length-(x.R.length+f.length)=u.length by omega,e2,Xa,e3,Xa];have L:=XnD (N:=N) (x:=x) s y f u (⟨ml,x.l.x,x.l.i⟩,0) (mg,0) (mw,0) h3 (λk hkp=>by
  rw[hs,w1,w2,Xc aa aa,show((x.R.length+f.length+u.length:Nat):Int)+(k:Int)=((x.R.length+f.length+u.length+k:Nat):Int) by omega,Xf,←UK]
  have⟨b,eb,hb⟩:=r4.get (k:=k) (a:=x.P[k].a) (by simp_all)
  have hsf:=E.2 _ (WG hkp)
  rcases hb with h|h
  .simp_all
  .have hn:=c.n1
   have:b=x.P[k].a:=by
    rw[List.Nodup,List.pairwise_map,Un]at hn
    obtain⟨i,hi,ei⟩:=WE h
    obtain⟨j,hj,U⟩:=WE hsf
    rcases Nat.lt_trichotomy i j with g|g|g
    .exact absurd (by rw[ei,U]) (hn i j hi hj g)
    .subst g;rw[ei]at U;exact congrArg Prod.snd U
    .exact absurd (by rw[ei,U]) (hn j i hj hi g)
   grind) N 0 [] aa aa rfl
 rw[show((0:Nat):Int)=0 from rfl]at L;rw[L,Xa];have hgz:∀r∈Xz mg.e,r≠0:=λr G e=>by have⟨a,ha,h⟩:=(OE K).memr G;exact vx.gz a ha ((nz a r h).1 e)
 refine We (.inr ⟨rfl,M,⟨⟨⟨B.hb,⟨by rw[O.1];exact z.loc.1,z.loc.2⟩,by show mg.e.length<=_;rw[K.1];exact z.glo,by show mw.e.length<=_;rw[T.1];exact z.wea,h3,by grind⟩,B.tw⟩,⟨E.1,?_,?_,?_,hgz,r1.rel_ob c.ob,(OV O).rel_ob c.ob,(OE K).rel_ob c.ob,?_⟩,c,r1,O,⟨rfl,rfl⟩,K,T,rfl,λr G=>?_,E.2⟩⟩)
 .exact(Xp2 (a:=x.l) (b:=⟨ml,x.l.x,x.l.i⟩) nz rfl rfl O).trans vx.loc
 .exact(Xj8 K).trans vx.glo
 .exact(Xj8 T).trans vx.wea
 .intro b hb;have⟨a,ha,h⟩:=(OE T).memr hb;rcases h with h|h|h
  .exact .inl h.2
  .exact .inr ((c.ob b).2 (WU.2 ⟨_,h,rfl⟩))
  omega
 have⟨b,_,h⟩:=o.meml G;rcases h with h|h
 .exact .inl h.1
 grind
end
structure O3(N:Nat)(h h2:Wk)(a:Int)(d:Wv):Prop where
 ep:Qab N h2=some true
 cf:h2.c=h.c
 sp:h2.s=h.s
 wl:h2.w.length=h.w.length
 pl:h2.p.length=h.p.length
 vd:XN d=true/\tW d.Map/\d.k≠0
 w:∀x:Int,4096<=x->wd h2.w x=if x=a then ZH d else wd h.w x
 z:∀x:Int,a<=x->x<a+(d.n+1)->4096<=x/\wd h.w x=0
 pa:0<=pgi h.c a/\pgi h.c a<(h.p.length:Int)
 st:∀b,Stt h b->b≠a/\¬(b<=a/\a<b+szA h.w b)
 po:∀i,0<=i->i<(h.p.length:Int)->i≠pgi h.c a->pg h2.p i=pg h.p i\/(pg h.p i).k=0/\(pg h2.p i).k=3/\(pg h2.p i).s=h.s/\(pg h2.p i).P=0
 pp:(pg h2.p (pgi h.c a)).P=(pg h.p (pgi h.c a)).P/\(pg h2.p (pgi h.c a)).s=h.s /\
  (((pg h.p (pgi h.c a)).k=1/\(pg h2.p (pgi h.c a)).k=1/\a=Xd h.c (pgi h.c a) (pg h.p (pgi h.c a)).u/\(pg h2.p (pgi h.c a)).u=(pg h.p (pgi h.c a)).u+(d.n+1)/\d.n+1<=smC h.c) \/
   ((pg h.p (pgi h.c a)).k=0/\a=Xd h.c (pgi h.c a) 0/\(pg h2.p (pgi h.c a)).u=d.n+1/\((pg h2.p (pgi h.c a)).k=1/\d.n+1<=smC h.c\/(pg h2.p (pgi h.c a)).k=2)))
structure OZ(N:Nat)(h h2:Wk)(a:Int)(d:Wv):Prop where
 gx:GX N h2
 cf:h2.c=h.c
 sp:h2.s=h.s
 wl:h2.w.length=h.w.length
 pl:h2.p.length=h.p.length
 ge:4096<=a
 hd:hdA h2.w a=d
 zf:∀j,0<=j->j<d.n->wd h2.w (a+1+j)=0
 ob:∀b,Obb h2 b↔Obb h b\/b=a
 fr:¬Obb h a
 w:∀b,Obb h b->∀x,b<=x->x<b+szA h.w b->wd h2.w x=wd h.w x
 pn:∀i,0<=i->i<(h.p.length:Int)->(pg h2.p i).P=(pg h.p i).P
section
variable {N:Nat}{h h2:Wk}{a:Int}{d:Wv}
def O3.new(q:O3 N h h2 a d)(g:GX N h)(hN:NB N)(hb:HB h):OZ N h h2 a d:=by
 have hp:=XJ hN hb g.ep;have hb2:HB h2:=⟨by rw[q.wl];exact hb.1,by rw[q.pl];exact hb.2⟩
 have V:=XJ hN hb2 q.ep;have⟨v1,v2,v3⟩:=q.vd;have vl:=XO v1;have ge:4096<=a:=(q.z a (Ux _) aa).1;have ed:=Xj7 v1 v2;have I:wd h2.w a=ZH d:=by rw[q.w a ge,Wm rfl]
 have K:hdA h2.w a=d:=by unfold hdA;rw[I];exact ed.2.1
 have sza:szA h2.w a=d.n+1:=by unfold szA;rw[K]
 have keep:∀b,Stt h b->wd h2.w b=wd h.w b:=λb A=>by have:=(A.at_ hp).rng;rw[q.w b this.1,Wi (q.st b A).1]
 have kh:∀b,Stt h b->hdA h2.w b=hdA h.w b:=λb A=>by unfold hdA;simp_all
 have ks:∀b,Stt h b->szA h2.w b=szA h.w b:=λb A=>JS (keep b A);have pars:∀i l,0<=i->i<(h.p.length:Int)->Ou h i l->Ou h2 i (if i=pgi h.c a then l++[a]else l):=λi l y f pl=>by
  have L:∀b∈l,Stt h b:=λb hb=>⟨i,l,y,f,pl,hb⟩
  by_cases B:i=pgi h.c a
  .rw[Wm B];subst B;rcases q.pp.2.2 with⟨E,O,Y,Z,p5⟩|⟨E,O,Y,Z⟩
   .refine⟨λk=>aa,λ_=>?_,λk=>aa⟩;rw[q.cf,Z];have c1:=(pl.small E).congr (vs:=h2.w) λb hb=>keep b (L b hb);rw[←Y]at c1;refine c1.app ⟨rfl,by rw[I];exact ed.1,?_⟩;show a+szA h2.w a=_;have e1:∀o,Xd h.c (pgi h.c a) o=4096+pgi h.c a*h.c.W+o:=λ_=>rfl;grind
   rw[pl.none (.inl E),Ue];refine⟨λk=>aa,λ_=>?_,λ_=>?_⟩
   .rw[q.cf,Y,←O];refine⟨rfl,by rw[I];exact ed.1,?_⟩;show a+szA h2.w a=_;have e1:∀o,Xd h.c (pgi h.c a) o=4096+pgi h.c a*h.c.W+o:=λ_=>rfl;grind
   rw[q.cf,Y,←O,I,sza];grind
  rw[Wi B];rcases q.po i y f B with e|⟨E,O,_⟩
  .refine⟨λk=>pl.none (by simp_all),λk=>?_,λk=>?_⟩
   .rw[q.cf,e];rw[e]at k;exact(pl.small k).congr λb hb=>keep b (L b hb)
   rw[e]at k;obtain⟨rfl,h1,h2'⟩:=pl.large k;have:=L (Xd h.c i 0) ab;simp_all[q.cf,e,keep,this,ks]
  rw[pl.none (.inl E)];exact⟨λ_=>rfl,λk=>aa,λk=>aa⟩
 have G:∀b,Stt h2 b↔Stt h b\/b=a:=λb=>by
  constructor
  .rintro⟨i,l,y,f,pl,u⟩;rw[q.pl]at f;have⟨m,H⟩:=g.ps i y f;have:=pl.fn (V.pgs i y (by simp_all[q.pl])).kind (pars i m y f H);subst this;split at u
   .rcases Wt.1 u with u|u
    .exact .inl ⟨i,m,y,f,H,u⟩
    simp_all
   exact .inl ⟨i,m,y,f,H,u⟩
  rintro(⟨i,l,y,f,pl,u⟩|rfl)
  .refine⟨i,_,y,by rw[q.pl];exact f,pars i l y f pl,?_⟩;grind
  have⟨m,H⟩:=g.ps _ q.pa.1 q.pa.2;have:=pars _ m q.pa.1 q.pa.2 H;exact⟨_,_,q.pa.1,by rw[q.pl];exact q.pa.2,this,ab⟩
 have ob2:∀b,Obb h2 b↔Obb h b\/b=a:=λb=>by
  constructor
  .rintro⟨R,hk⟩;rcases(G b).1 R with R|R
   .rw[kh b R]at hk;exact .inl ⟨R,hk⟩
   omega
  rintro(⟨R,hk⟩|rfl)
  .exact⟨(G b).2 (.inl R),by simp_all⟩
  exact⟨(G b).2 (.inr rfl),by simp_all⟩
 have ww:∀b,Stt h b->∀x,b<=x->x<b+szA h.w b->wd h2.w x=wd h.w x:=λb A x x0 x1=>by have:=(A.at_ hp).rng;rw[q.w x aa,Wi];rintro rfl;exact(q.st b A).2 ⟨x0,x1⟩
 have pins:∀i,0<=i->i<(h.p.length:Int)->(pg h2.p i).P=(pg h.p i).P:=λi y f=>by
  by_cases B:i=pgi h.c a
  .rw[B];exact q.pp.1
  rcases q.po i y f B with e|⟨E,_,_,Z⟩
  .rw[e]
  rw[Z,(hp.pgs i y f).free E];rfl
 have zf:∀j,0<=j->j<d.n->wd h2.w (a+1+j)=0:=λj j0 j1=>by rw[q.w _ aa,Wi aa];exact(q.z _ aa aa).2
 refine⟨⟨q.ep,λi y f=>?_,λi y f k=>?_,λi l y f pl b u=>?_,λx x0 hx=>?_,λb T j hj=>?_,?_⟩,q.cf,q.sp,q.wl,q.pl,ge,K,zf,ob2,λho=>(q.st a ho.1).1 rfl,λb T=>ww b T.1,pins⟩
 .rw[q.pl]at f;have⟨m,H⟩:=g.ps i y f;grind
 .rw[q.pl]at f;rw[q.sp];by_cases B:i=pgi h.c a
  .rw[B];exact q.pp.2.1
  rcases q.po i y f B with e|⟨_,_,Y,_⟩
  .rw[e]at k⊢;exact g.sp i y f k
  omega
 .rw[q.pl]at f;have⟨m,H⟩:=g.ps i y f;have:=pl.fn (V.pgs i y (by rw[q.pl];exact f)).kind (pars i m y f H);subst this;have old:∀b∈m,Xcw h2 i b:=λb U=>by
   have A:Stt h b:=⟨i,m,y,f,H,U⟩
   have c:=g.cl i m y f H b U;have hat:=H.at_ hp y f U;have hk:=hat.1.kind;rw[hat.2]at hk;unfold Xcw;rw[kh b A,ks b A,q.cf];by_cases B:i=pgi h.c a
   .rcases q.pp.2.2 with⟨E,O,_⟩|⟨E,_⟩
    .rw[←B]at E O;exact⟨λ_=>c.1 E,λk=>aa⟩
    rw[←B]at E;omega
   rcases q.po i y f B with e|⟨E,_⟩
   .rw[e];exact c
   omega
  split at u
  .rename_i B;rcases Wt.1 u with u|u
   .exact old b u
   rw[Ui.1 u];unfold Xcw;rw[K,sza,q.cf];refine⟨λk=>?_,λ_=>v3⟩;rcases q.pp.2.2 with⟨E,O,_,_,p5⟩|⟨E,_,_,⟨_,p5⟩|Z⟩
   .exact p5
   .exact p5
   rw[B]at k;omega
  simp_all
 .rw[q.w x x0]at hx;by_cases hxa:x=a
  .refine⟨a,(G a).2 (.inr rfl),aa,?_⟩;have:=(XfZ h2 a).1;omega
  rw[Wi hxa]at hx;have⟨b,sb,b1,b2⟩:=g.dt x x0 hx;exact⟨b,(G b).2 (.inl sb),b1,by rw[Xd7 (kh b sb)];omega⟩
 .rcases(ob2 b).1 T with ho|rfl
  .rw[kh b ho.1]at hj;have hr:=ZA hj;have ez:szA h.w b=(hdA h.w b).n+1:=rfl;rw[ww b ho.1 (b+1+j) aa aa];rcases g.pt b ho j hj with e|e
   .exact .inl e
   simp_all
  have hr:=ZA hj;simp_all
 rw[q.cf];refine Int.le_trans (Int.ofNat_le.2 (Xa5 K2 h2.p h.p q.pl λi h1 h3 J=>?_)) g.cr;rw[←ZL h1]at J;rw[←ZL h3];unfold K2 at J⊢;rw[WK,decide_eq_true_iff,beq_iff_eq]at J⊢;have hpi:=pins (i:Int) aa aa;rw[hpi]at J;refine⟨?_,J.2⟩;have zk:(pg h.p (i:Int)).k=0->False:=λk=>by have:=(hp.pgs (i:Int) aa aa).free k;rw[this]at J;exact absurd J.2 ae
 by_cases B:(i:Int)=pgi h.c a
 .rcases q.pp.2.2 with⟨E,_⟩|⟨E,_⟩
  .rw[B];exact E
  grind
 rcases q.po (i:Int) aa aa B with e|⟨E,_⟩
 .rw[e]at J;exact J.1
 omega
end
section
variable {N:Nat}{h:Wk}{d:Wv}
def GX.nocov(g:GX N h)(hp:Uy h){x:Int}(z:4096<=x)(I:x<4096+h.w.length)(f:(pg h.p (pgi h.c x)).k=0\/(pg h.p (pgi h.c x)).k=1/\(pg h.p (pgi h.c x)).u<=pgo h.c x):(∀b,Stt h b->¬(b<=x/\x<b+szA h.w b))/\wd h.w x=0:=by
 have A:∀b,Stt h b->¬(b<=x/\x<b+szA h.w b):=by
  rintro b q ⟨b0,y⟩;have e:=q.at_ hp;obtain⟨J,K,L,B⟩:=(XcS hp e b0 y).1;have j:pgi h.c b=pgi h.c x:=by apply Classical.byContradiction;intro O;have:=B (pgi h.c x) aa (Ux _);omega
  have E:=e.kind;rw[j]at E;rcases f with f|⟨f,R⟩
  .omega
  have:=e.small (by rw[j];exact f);have eb:=(Yq hp.conf e.rng).1;have G:=(Yq (a:=x) hp.conf (by have:=hp.words;omega)).1;rw[j]at this eb;have H:∀o,Xd h.c (pgi h.c x) o=4096+pgi h.c x*h.c.W+o:=λ_=>rfl;rw[H]at eb G;omega
 refine⟨A,Classical.byContradiction λhw=>?_⟩;have⟨b,q,b0,y⟩:=g.dt x z hw;have:=Xge h b;grind
def XnE(hN:NB N){e:Wk}(hb:HB e)(ep:Qab N e=some true)(k:XN d=true){a:Int}(z:4096<=a)(A:a+(d.n+1)<=4096+e.w.length):∃ws,Qbf N e a d=some (⟨e.c,ws,e.p,e.s,e.b⟩,0)/\ws.length=e.w.length/\(∀x:Int,4096<=x->wd ws x=if x=a then ZH d else if a<x/\x<a+(d.n+1)then 0 else wd e.w x)/\((∀x∈e.w,tU x)->∀x∈ws,tU x):=by
 have u:=hb.1;have vl:=XO k;have f:([ZH d]++List.replicate d.n.toNat (0:Int)).length=d.n.toNat+1:=by simp
 have o:ix a+([ZH d]++List.replicate d.n.toNat (0:Int)).length<=e.w.length:=by rw[f];unfold ix;omega
 refine⟨ovr e.w ([ZH d]++List.replicate d.n.toNat (0:Int)) (ix a),?_,ZF o,λx g=>?_,λtu x g=>?_⟩
 .rw[Qbf,KO,Wm k,ep,Xa,Xa,Wh,Wa];rw[show((0:Int) != 0)=false from rfl,Wa,Xb aa,Xb aa,ZG (by unfold BIG;omega) (by rw[f];unfold BIG;omega) (by rw[f];unfold NB at hN;omega),f,Wm (by unfold YA;omega),Xa];rfl
 .unfold wd;rw[V0 o,f];by_cases j:x=a
  .simp_all
  rw[Wi j];by_cases q:a<x/\x<a+(d.n+1)
  .rw[Wm q,Wm (by unfold ix;omega)];obtain⟨m,y⟩:∃m,ix x-ix a=m+1:=⟨ix x-ix a-1,by unfold ix;omega⟩
   rw[y,Wj,List.singleton_append,Ib,Ip];grind
  rw[Wi q,Wi (by unfold ix;omega)]
 unfold ovr at g;simp only[Wt,Ui]at g;rcases g with(g|g|g)|g
 .exact tu x (WP g)
 .rw[g];exact VW _
 .rw[(IW.1 g).2];exact⟨aa,aa⟩
 grind
def Vz(hN:NB N){e:Wk}(hb:HB e)(ep:Qab N e=some true){ws:List Int}(hw:ws.length=e.w.length):Qab N ⟨e.c,ws,e.p,e.s,e.b⟩=some true:=
 Xae hN hb ep rfl (λ_ _=>rfl) hw (XJ hN hb ep).bump
def Xp4{ps l:List Ws}{j:Nat}(e:j+l.length<=ps.length)(i:Int)(f:0<=i):pg (Kl ps l j) i=if(j:Int)<=i/\i<(j:Int)+l.length then l.getD (i-j).toNat Zm else pg ps i:=by
 obtain⟨m,rfl⟩:∃m:Nat,i=m:=⟨i.toNat,aa⟩
 unfold pg;rw[Wj,show(m:Int).toNat=m from rfl,XhC e m];grind
def XqW(hN:NB N)(ht:HT h)(g:GX N h)(G:XN d=true)(tm:tW d.Map)(H:d.k≠0)(hnd:XF h.c (Xw d)≠-1):Ok (Qcc N h d) λr=>r.2.2=3\/(r.2.2=0/\HT r.1/\O3 N h r.1 r.2.1 d):=by
 have R:1000000<N:=by unfold NB at hN;omega
 have hb:=ht.hb;have hl:=hb.2;have eb:=g.ep;have hp:=XJ hN hb eb;have hcv:=Xj.1 hp.conf;have hvb:=XO G;have hpages:=hp.pages;have hw:=hp.words;have hs:Xw d=d.n+1:=by unfold Xw;rw[Wm G]
 have hnr:=Ja h.c (Xw d);have⟨u,eu,hu⟩:=V2 (N:=N) (ps:=h.p) aa aa;have⟨f1,I,_⟩:=Zh (N:=N) (ps:=h.p) 1 aa aa;rw[Qcc,eb,Xa,Wh,Wa,XbA R,Xa,G,Xl H,Xl hnd];rw[show(!(true&&(true&&true)))=false from rfl,Wa,XW,Xa,ZS aa,Xa,Xb9 hN hb hp (n:=Xw d) ⟨aa,aa⟩ eu I,Xa,Xs];by_cases B:XF h.c (Xw d)=0
 ·
  rw[B,Wg aa,Wa];have T:Xw d<=smC h.c:=by
   unfold XF at B;rw[Wm ⟨hp.conf,aa⟩]at B;unfold smC;rw[Wm hp.conf];by_cases hle:Xw d<=h.c.W / 4
   .omega
   omega
  have hn:1<=Xw d/\Xw d<=h.c.W:=by refine⟨aa,?_⟩;unfold smC at T;rw[Wm hp.conf]at T;omega
  cases z:Xf8 N h (Xw d) u f1 with
  |none=>exact We (.inl rfl)
  |some ja=>
   have⟨j,o⟩:=ja;have⟨q1,q2,q3,q4⟩:=Xnu hN hb eb hn I z;have hm:=XP hp.conf (i:=(j:Int)) aa aa;have y:=XdX hb (Xw d) j o;have ea:Xd h.c (j:Int) o=4096+j*h.c.W+o:=rfl;have eqa:=YD (c:=h.c) hp.conf (p:=(j:Int)) (o:=o) q2 aa;have J:(pg h.p (j:Int)).k=1/\o=(pg h.p (j:Int)).u\/(pg h.p (j:Int)).k=0/\o=0:=by
    unfold Xf8 at z;split at z
    .cases z;rename_i hc;have hbump:0<=h.b/\h.b<h.p.length/\(pg h.p h.b).k=1:=by
      rcases hp.bump with K|K
      .omega
      exact K
     grind
    split at z
    .cases z;rename_i hc;have q:RunOK h.p f1 1:=by
      rcases(Zh (N:=N) (ps:=h.p) 1 aa aa).get_eq I with K|K
      .omega
      exact K
     have:=q.2.2.2 0 aa aa;rw[Int.add_zero]at this;rw[show(f1.toNat:Int)=f1 by omega];exact .inr ⟨this,rfl⟩
    simp_all
   have⟨ws,U,L,i3,i4⟩:=XnE hN y q4 G (a:=Xd h.c (j:Int) o) aa (by show _<=4096+(h.w.length:Int);omega);dsimp only;have V:Qbf N (Wk.mk (WN.mk (Kj h (Xw d) j o).c.W (Kj h (Xw d) j o).c.p) (Kj h (Xw d) j o).w (Kj h (Xw d) j o).p (Kj h (Xw d) j o).s (Kj h (Xw d) j o).b) (Xd h.c (j:Int) o) d=_:=U;rw[V,Xa];have epr:=Vz hN y q4 L;have e2:=λi E=>Y6 (ps:=h.p) (i:=(j:Int)) (j:=i) ⟨1,h.s,o+Xw d,(pg h.p (j:Int)).P⟩ aa aa E;have epg:∀i,0<=i->pg (Kj h (Xw d) j o).p i=if i=(j:Int)then⟨1,h.s,o+Xw d,(pg h.p (j:Int)).P⟩else pg h.p i:=λi E=>e2 i E
   have cov:∀x,Xd h.c (j:Int) o<=x->x<Xd h.c (j:Int) o+(d.n+1)->(∀b,Stt h b->¬(b<=x/\x<b+szA h.w b))/\wd h.w x=0:=λx A Y=>by
    have Z:=YD (c:=h.c) hp.conf (p:=(j:Int)) (o:=x-Xd h.c (j:Int) 0) (by unfold Xd at *;omega) (by unfold Xd at *;omega);rw[show Xd h.c (j:Int) (x-Xd h.c (j:Int) 0)=x by unfold Xd;omega]at Z;refine g.nocov hp aa aa ?_;rw[Z.1,Z.2];rcases J with⟨k1,ho⟩|⟨k0,ho⟩
    .exact .inr ⟨k1,by unfold Xd at *;omega⟩
    omega
   refine We (.inr ⟨rfl,⟨⟨by rw[L];exact hb.1,y.2⟩,i4 ht.tw⟩,⟨epr,rfl,rfl,L,?_,⟨G,tm,H⟩,λx A=>?_,λx A Y=>have A:Xd h.c (j:Int) o<=x:=A;⟨aa,(cov x A Y).2⟩,by grind,λb sb=>?_,λi E U hi=>?_,?_⟩⟩)
   .show(h.p.set j _).length=_;simp
   .rw[i3 x A];split
    .rfl
    split
    .grind
    rfl
   .have c:=(cov (Xd h.c (j:Int) o) (Ux _) aa).1 b sb;exact⟨λe=>have e:b=Xd h.c (j:Int) o:=e;c ⟨aa,by have:=(XL h.w b).2.1;omega⟩,c⟩
   .simp_all
   rw[eqa.1];rw[epg (j:Int) aa,Wm rfl];grind
 
 have⟨k,hk⟩:∃k:Nat,XF h.c (Xw d)=(k:Int):=⟨(XF h.c (Xw d)).toNat,aa⟩
 have O:=XfG hp.conf (w:=Xw d) aa;rw[hk]at O B hnr⊢;have⟨f,ef,hf⟩:=Zh (N:=N) (ps:=h.p) (k:Int) aa aa;rw[Wd (show(k:Int)>0 by omega),Wb,QeC,ef,Xa];by_cases h1:f<0
 .rw[Wd h1,Wb,Xa];exact We (.inl rfl)
 rw[Wg h1,Wa,eu,Xa,XbS,Xa,Xc (n:=u+(k:Int)) aa aa];by_cases h2:u+(k:Int)>K9 h.c
 .rw[Wd h2,Wb,Xa];exact We (.inl rfl)
 have q:RunOK h.p f (k:Int):=by
  rcases hf with K|K
  .omega
  omega
 obtain⟨j,rfl⟩:∃j:Nat,f=(j:Int):=⟨f.toNat,aa⟩
 have hfit:=q.2.2.1;rw[Wg h2,Wa,XhD R hl hp aa aa hk q,Xa,Xa];have hpr:=XdZ hN hb eb aa q hk;have y:=XhE hb (Xw d) (j:=j) (k:=k) aa aa;have hm:=XP hp.conf (i:=(j:Int)) aa aa;have hmul:((j:Int)+(k:Int))*h.c.W<=h.c.p*h.c.W:=Ut aa aa;rw[IB]at hmul;have ea0:Xd h.c (j:Int) 0=4096+j*h.c.W+0:=rfl;have eqa:=YD (c:=h.c) hp.conf (p:=(j:Int)) (o:=0) aa aa;have⟨ws,U,L,i3,i4⟩:=XnE hN y hpr G (a:=Xd h.c (j:Int) 0) aa (by show _<=4096+(h.w.length:Int);omega);have ea:wU (wI (4096+wI ((j:Int)*h.c.W)))=Xd h.c (j:Int) 0:=by rw[ea0,Xc (n:=(j:Int)*h.c.W) aa aa,Xc (n:=4096+(j:Int)*h.c.W) aa aa,Xp aa aa];omega
 have i1':Qbf N (Wk.mk (WN.mk h.c.W h.c.p) h.w (Xa3 h (Xw d) j k).p h.s h.b) (Xd h.c (j:Int) 0) d=_:=U;dsimp only;rw[ea,Wh,Wa,i1',Xa];have epr:=Vz hN y hpr L;have hll:(Ws.mk 2 h.s (Xw d) 0::List.replicate (k-1) (Ws.mk 3 h.s 0 0)).length=k:=by simp;omega
 have epg:∀i,0<=i->pg (Xa3 h (Xw d) j k).p i=if(j:Int)<=i/\i<(j:Int)+k then(Ws.mk 2 h.s (Xw d) 0::List.replicate (k-1) (Ws.mk 3 h.s 0 0)).getD (i-j).toNat Zm else pg h.p i:=λi E=>by have:=Xp4 (ps:=h.p) (l:=Ws.mk 2 h.s (Xw d) 0::List.replicate (k-1) (Ws.mk 3 h.s 0 0)) (j:=j) aa i E;rw[hll]at this;exact this
 have k0:(pg h.p (j:Int)).k=0:=by have:=q.2.2.2 0 aa aa;rwa[Int.add_zero]at this
 have cov:∀x,Xd h.c (j:Int) 0<=x->x<Xd h.c (j:Int) 0+(d.n+1)->(∀b,Stt h b->¬(b<=x/\x<b+szA h.w b))/\wd h.w x=0:=λx A Y=>by
  have rx:=Yq (a:=x) hp.conf aa;have e1:∀i o,Xd h.c i o=4096+i*h.c.W+o:=λ_ _=>rfl;have Z:=rx.1;rw[e1]at Z;have lo:(j:Int)<=pgi h.c x:=by apply Classical.byContradiction;intro hn;have:=Vu hp.conf (i:=pgi h.c x) (j:=(j:Int)) (o:=h.c.W) (p:=0) aa aa aa;rw[e1,e1]at this;omega
  have hi:pgi h.c x<(j:Int)+k:=by apply Classical.byContradiction;intro hn;have:((j:Int)+k)*h.c.W<=pgi h.c x*h.c.W:=Ut aa aa;rw[IB]at this;omega
  refine g.nocov hp aa aa (.inl ?_);have:=q.2.2.2 (pgi h.c x-j) aa aa;grind
 refine We (.inr ⟨rfl,⟨⟨by rw[L];exact hb.1,y.2⟩,i4 ht.tw⟩,⟨epr,rfl,rfl,L,?_,⟨G,tm,H⟩,λx A=>?_,λx A Y=>have A:Xd h.c (j:Int) 0<=x:=A;⟨aa,(cov x A Y).2⟩,by grind,λb sb=>?_,λi E U hi=>?_,?_⟩⟩)
 .exact Xad aa
 .rw[i3 x A];split
  .rfl
  split
  .grind
  rfl
 .have c:=(cov (Xd h.c (j:Int) 0) (Ux _) aa).1 b sb;exact⟨λe=>have e:b=Xd h.c (j:Int) 0:=e;c ⟨aa,by have:=(XL h.w b).2.1;omega⟩,c⟩
 .rw[eqa.1]at hi;rw[epg i E];by_cases hr:(j:Int)<=i/\i<(j:Int)+k
  .right;have kf:=q.2.2.2 (i-j) aa aa;rw[show(j:Int)+(i-j)=i by omega]at kf;obtain⟨m,hm'⟩:∃m,(i-(j:Int)).toNat=m+1:=⟨(i-(j:Int)).toNat-1,aa⟩
   rw[Wm hr,hm',Wj,Ib,Ip,Wm aa];exact⟨kf,rfl,rfl,rfl⟩
  grind
 rw[eqa.1];have hz:(pg h.p (j:Int)).P=0:=by rw[(hp.pgs (j:Int) aa aa).free k0];rfl
 grind
end
section
variable {N:Nat}{h:Wk}{a:Int}
def XhQ(hN:NB N)(hb:HB h)(g:GX N h){a b:Int}(k:Stt h a)(e:Stt h b)(o:a≠b):a+szA h.w a<=b\/b+szA h.w b<=a:=by have⟨S,L,p,mS,_⟩:=Xca hN hb g.ep g.ps;have f:=p.obj.pw;rw[Un]at f;have⟨i,q,u⟩:=WE ((mS a).2 k);have⟨j,y,z⟩:=WE ((mS b).2 e);grind
def GX.words(g:GX N h)(hN:NB N)(hb:HB h){h2:Wk}(cf:h2.c=h.c)(sp:h2.s=h.s)(wl:h2.w.length=h.w.length)(pl:h2.p.length=h.p.length)(ep:Qab N h2=some true)(B:∀i,0<=i->i<(h.p.length:Int)->(pg h2.p i).k=(pg h.p i).k/\(pg h2.p i).u=(pg h.p i).u/\(pg h2.p i).s=(pg h.p i).s)(hw:∀b,Stt h b->wd h2.w b=wd h.w b)(T:∀x:Int,4096<=x->wd h2.w x=wd h.w x\/∃b,Obb h b/\b<=x/\x<b+szA h.w b)(U:∀a,Obb h a->∀j∈X5 (hdA h.w a),wd h2.w (a+1+j)=0\/Obb h (wd h2.w (a+1+j)))(V:((h2.p.countP K2:Nat):Int)<=h.c.p / 4):GX N h2/\(∀b,Obb h2 b↔Obb h b)/\∀b,Stt h2 b↔Stt h b:=by
 have I:HB h2:=⟨by rw[wl];exact hb.1,by rw[pl];exact hb.2⟩
 have A:=XJ hN I ep;have H:∀b,Stt h b->hdA h2.w b=hdA h.w b:=λb z=>by unfold hdA;simp_all
 have W:∀b,Stt h b->szA h2.w b=szA h.w b:=λb z=>JS (hw b z);have pars:∀i l,0<=i->i<(h.p.length:Int)->Ou h i l->Ou h2 i l:=λi l o f p=>by
  have J:∀b∈l,Stt h b:=λb hb=>⟨i,l,o,f,p,hb⟩
  have e:=B i o f;refine⟨λk=>p.none aa,λk=>?_,λk=>?_⟩
  .rw[cf,e.2.1];exact(p.small aa).congr λb hb=>hw b (J b hb)
  obtain⟨rfl,h1,Y⟩:=p.large (by rw[←e.1];exact k);simp_all
 have st:∀b,Stt h2 b↔Stt h b:=λb=>by
  constructor
  .rintro⟨i,l,o,f,p,q⟩;rw[pl]at f;have⟨m,E⟩:=g.ps i o f;have:=p.fn (A.pgs i o aa).kind (pars i m o f E);subst this;exact⟨i,l,o,f,E,q⟩
  rintro⟨i,l,o,f,p,q⟩;exact⟨i,l,o,aa,pars i l o f p,q⟩
 have ob:∀b,Obb h2 b↔Obb h b:=λb=>by
  constructor
  .rintro⟨z,Z⟩;have:=(st b).1 z;exact⟨this,by simp_all⟩
  rintro⟨z,Z⟩;exact⟨(st b).2 z,by simp_all⟩
 refine⟨⟨ep,λi o f=>?_,λi o f k=>?_,λi l o f p b q=>?_,λx L O=>?_,λb y j hj=>?_,by simp_all⟩,ob,st⟩
 .rw[pl]at f;have⟨m,E⟩:=g.ps i o f;grind
 .rw[pl]at f;have e:=B i o f;rw[sp,e.2.2];exact g.sp i o f aa
 .rw[pl]at f;have⟨m,E⟩:=g.ps i o f;have:=p.fn (A.pgs i o aa).kind (pars i m o f E);subst this;have z:Stt h b:=⟨i,l,o,f,E,q⟩
  have c:=g.cl i l o f E b q;unfold Xcw;rw[H b z,W b z,cf,(B i o f).1];exact c
 .rcases T x L with e|⟨b,y,K,b2⟩
  .rw[e]at O;have⟨b,R,K,b2⟩:=g.dt x L O;exact⟨b,(st b).2 R,K,by rw[Xd7 (H b R)];omega⟩
  refine⟨b,(st b).2 y.1,K,?_⟩;rw[Xd7 (H b y.1)];unfold KB;rw[Wi y.2];omega
 have G:=(ob b).1 y;rw[H b G.1]at hj;simp_all
structure O7(N:Nat)(h h2:Wk)(a i v:Int):Prop where
 ht:HT h2
 gx:GX N h2
 cf:h2.c=h.c
 sp:h2.s=h.s
 pl:h2.p=h.p
 ob:∀b,Obb h2 b↔Obb h b
 hd:∀b,Obb h b->hdA h2.w b=hdA h.w b
 w:∀x:Int,4096<=x->wd h2.w x=if x=a+1+i then v else wd h.w x
def Xa6(hN:NB N)(ht:HT h)(g:GX N h)(A:Obb h a){i v:Int}(L:0<=i)(O:i<(hdA h.w a).n)(R:i∈X5 (hdA h.w a)->v=0\/Obb h v)(T:tU v):∃h2,QbN N h a i v=some (h2,0)/\O7 N h h2 a i v:=by
 have hb:=ht.hb;have hp:=XJ hN hb g.ep;have k:=A.1.at_ hp;have U:=k.rng;have V:=Ks hp k;have W:szA h.w a=(hdA h.w a).n+1:=rfl;have I:=hb.1;have u:inW h.w (a+1+i):=by unfold inW;omega
 have o:∀x:Int,4096<=x->wd (h.w.set (ix (a+1+i)) v) x=if x=a+1+i then v else wd h.w x:=λx z=>XbU u z
 have nst:∀b,Stt h b->b≠a+1+i:=λb B e=>by
  by_cases y:b=a
  .omega
  have:=XhQ hN hb g B A.1 y;have:=(XL h.w b).2.1;omega
 have E:Qab N ⟨h.c,h.w.set (ix (a+1+i)) v,h.p,h.s,h.b⟩=some true:=Vz hN hb g.ep ab;have q:=g.words (h2:=⟨h.c,h.w.set (ix (a+1+i)) v,h.p,h.s,h.b⟩) hN hb rfl rfl ab rfl E (λ_ _ _=>⟨rfl,rfl,rfl⟩) (λb B=>by
  rw[o b (B.at_ hp).rng.1,Wi (nst b B)]) (λx Y=>by
  grind) (λb f j H=>by
  have J:=ZA H
  have ezb:szA h.w b=(hdA h.w b).n+1:=rfl
  have:=(f.1.at_ hp).rng
  rw[o _ aa]
  by_cases K:b+1+j=a+1+i
  .by_cases y:b=a
   .simp_all
   .have:=XhQ hN hb g f.1 A.1 y
    omega
  .rw[Wi K];exact g.pt b f j H) g.cr
 have G:=XcR hN hb g.ep k;refine⟨⟨h.c,h.w.set (ix (a+1+i)) v,h.p,h.s,h.b⟩,?_,⟨⟨by simp_all,hb.2⟩,λx z=>?_⟩,q.1,rfl,rfl,rfl,q.2.1,λb f=>?_,o⟩
 .rw[QbN,Qb6,Xf2 hN hb g.ep k G A.2,Xa];dsimp only;rw[show((0:Int) != 0)=false from rfl,Wa,Wg aa,Wa,Wg aa,Wa,Xp (n:=a+1) aa aa,Xp (n:=i) aa aa,Xp (n:=a+1+i) aa aa,Ye (by unfold BIG;omega),Xa,Wm u,Xa];rw[show((0:Int) != 0)=false from rfl,Wa,Z3 (by unfold BIG;omega) (by unfold NB at hN;omega),Xa,Wm u]
 .rcases W0 z with z|z
  .exact ht.tw x z
  simp_all
 unfold hdA;rw[o b (f.1.at_ hp).rng.1,Wi (nst b f.1)]
def OF.pins{c:WN}{ps:List Ws}(s:OF c ps){j:Int}(o:0<=j)(p:j<ps.length)(z:(pg ps j).k=1\/(pg ps j).k=2){q:Int}(A:0<=q)(B:q<=2147483647):OF c (ps.set j.toNat ⟨(pg ps j).k,(pg ps j).s,(pg ps j).u,q⟩):=by
 have y:=λi f=>Y6 (ps:=ps) (i:=j) (j:=i) ⟨(pg ps j).k,(pg ps j).s,(pg ps j).u,q⟩ o p f;have e3:∀i,0<=i->(pg (ps.set j.toNat ⟨(pg ps j).k,(pg ps j).s,(pg ps j).u,q⟩) i).k=(pg ps i).k/\(pg (ps.set j.toNat ⟨(pg ps j).k,(pg ps j).s,(pg ps j).u,q⟩) i).s=(pg ps i).s/\(pg (ps.set j.toNat ⟨(pg ps j).k,(pg ps j).s,(pg ps j).u,q⟩) i).u=(pg ps i).u/\(i≠j->(pg (ps.set j.toNat ⟨(pg ps j).k,(pg ps j).s,(pg ps j).u,q⟩) i)=pg ps i):=λi f=>by grind
 have spb:∀i,0<=i->i<(ps.length:Int)->OW c ps i->OW c (ps.set j.toNat ⟨(pg ps j).k,(pg ps j).s,(pg ps j).u,q⟩) i:=λi f g b=>by
  have e:=e3 i f;refine⟨by rw[e.2.1];exact b.sp,?_,λk=>?_,λk=>?_,λk=>?_,by rw[e.1];exact b.kd⟩
  .rw[y i f];split
   .simp_all
   exact b.pn
  .rw[e.1]at k;have:i≠j:=λh=>by simp_all
   rw[e.2.2.2 this];exact b.k0 k
  .rw[e.1]at k;rw[e.2.2.1];exact b.k1 k
  rw[e.1]at k;have k2:=b.k2 k;grind
 refine⟨λi f g k=>?_,λi f g k=>?_⟩
 .rw[WL]at g;rw[(e3 i f).1]at k;exact spb i f g (s.hd i f g k)
 rw[WL]at g;rw[(e3 i f).1]at k;have⟨m,E,G,H,I,J⟩:=s.tl i f g k;grind
structure OP(N:Nat)(h h2:Wk):Prop where
 ht:HT h2
 gx:GX N h2
 cf:h2.c=h.c
 sp:h2.s=h.s
 wd:h2.w=h.w
 ob:∀b,Obb h2 b↔Obb h b
def Xkb(hN:NB N)(ht:HT h)(g:GX N h)(L:Obb h a){by_:Int}(O:0<=(pg h.p (pgi h.c a)).P+by_)(R:(pg h.p (pgi h.c a)).P+by_<=2147483647)(T:(pg h.p (pgi h.c a)).k=1->(pg h.p (pgi h.c a)).P+by_>0->(pg h.p (pgi h.c a)).P>0\/((h.p.countP K2:Nat):Int)<h.c.p / 4):
 ∃h2,Qb7 N h a by_=some h2/\OP N h h2/\h2.p.length=h.p.length/\∀i,0<=i->(pg h2.p i).P=if i=pgi h.c a then(pg h.p i).P+by_ else(pg h.p i).P:=by
 have hb:=ht.hb;have U:=hb.2;have hp:=XJ hN hb g.ep;have A:=L.1.at_ hp;have⟨V,I,J⟩:=Jb (N:=N) hp A;have W:=A.kind;generalize Z:pgi h.c a=j at *;have K:=λi G=>Y6 (ps:=h.p) (i:=j) (j:=i) ⟨(pg h.p j).k,(pg h.p j).s,(pg h.p j).u,(pg h.p j).P+by_⟩ I J G;have spn:=(Xag hN hb g.ep).pins I J W O R;have f:(h.p.set j.toNat ⟨(pg h.p j).k,(pg h.p j).s,(pg h.p j).u,(pg h.p j).P+by_⟩).length=h.p.length:=WL;have pre:OU ⟨h.c,h.w,h.p.set j.toNat ⟨(pg h.p j).k,(pg h.p j).s,(pg h.p j).u,(pg h.p j).P+by_⟩,h.s,h.b⟩:=by
  refine⟨hp.conf,hp.words,by rw[f];exact hp.pages,hp.space,?_⟩;rcases hp.bump with o|o
  .exact .inl o
  right;rw[f];refine⟨o.1,o.2.1,?_⟩;rw[K _ o.1];split
  .rename_i e;rw[←e];exact o.2.2
  exact o.2.2
 have B:HB ⟨h.c,h.w,h.p.set j.toNat ⟨(pg h.p j).k,(pg h.p j).s,(pg h.p j).u,(pg h.p j).P+by_⟩,h.s,h.b⟩:=⟨hb.1,by rw[f];exact hb.2⟩
 have epr:=JT hN B pre spn;have E:((((h.p.set j.toNat ⟨(pg h.p j).k,(pg h.p j).s,(pg h.p j).u,(pg h.p j).P+by_⟩).countP K2:Nat)):Int)<=h.c.p / 4:=by
  have Y:=g.cr;have y:j.toNat<h.p.length:=aa;rw[Ie,Wm y,List.countP_append,Ic];have H:h.p.countP K2=(h.p.take j.toNat).countP K2+((h.p.drop (j.toNat+1)).countP K2+if K2 h.p[j.toNat]=true then 1 else 0):=by
   conv=>lhs;rw[←IH j.toNat h.p]
   rw[List.countP_append,Wo y,Ic]
  have epj:pg h.p j=h.p[j.toNat]:=by have:=ZL y;rwa[show(j.toNat:Int)=j by omega]at this
  rw[←epj]at H;by_cases z:K2 ⟨(pg h.p j).k,(pg h.p j).s,(pg h.p j).u,(pg h.p j).P+by_⟩=true
  .rw[Wm z];unfold K2 at z;rw[WK,decide_eq_true_iff,beq_iff_eq]at z;rcases T z.1 z.2 with o|o
   .have:K2 (pg h.p j)=true:=by unfold K2;rw[WK,decide_eq_true_iff,beq_iff_eq];exact⟨z.1,o⟩
    rw[Wm this]at H;omega
   split at H<;>omega
  rw[Wi z];split at H<;>omega
 have q:=g.words (h2:=⟨h.c,h.w,h.p.set j.toNat ⟨(pg h.p j).k,(pg h.p j).s,(pg h.p j).u,(pg h.p j).P+by_⟩,h.s,h.b⟩) hN hb rfl rfl rfl f epr (λi G i1=>by
  rw[K i G]
  split
  .rename_i e;rw[e];exact⟨rfl,rfl,rfl⟩
  .exact⟨rfl,rfl,rfl⟩) (λ_ _=>rfl) (λ_ _=>.inl rfl) g.pt E
 refine⟨⟨h.c,h.w,h.p.set j.toNat ⟨(pg h.p j).k,(pg h.p j).s,(pg h.p j).u,(pg h.p j).P+by_⟩,h.s,h.b⟩,?_,⟨⟨B,ht.tw⟩,q.1,rfl,rfl,rfl,q.2.1⟩,f,λi G=>?_⟩
 .rw[Qb7,Xb aa,V,Xa,Xr I J,Xa,Xa,Xc aa aa]
 grind
end
section
variable {N:Nat}{h:Wk}{a:Int}{pins:List UE}{c:WN}
def XbD:∀{l m:List UE} {i:Int},ZM c (l++m) i=ZM c l i+ZM c m i
 |[],m,i=>by simp[ZM]
 |p::l,m,i=>by rw[Oi,ZM,ZM,XbD];omega
def Xgh:∀{l:List UE},(∀p∈l,p.M<=1000)->∀i,ZM c l i<=1000*l.length
 |[],_,i=>by simp[ZM]
 |p::l,h,i=>by have:=Xgh (l:=l) (λq e=>h q (WZ _ e)) i;grind[ZM,Uz]
def Xa7{l:List UE}{k:Nat}(e:k<l.length)(i:Int):ZM c l i=ZM c (l.take k) i+(if pgi c l[k].a=i then l[k].M else 0)+ZM c (l.drop (k+1)) i:=by
 conv=>lhs;rw[←IH k l,Wo e]
 rw[XbD,ZM];omega
def XhR{l:List UE}{k:Nat}(e:k<l.length){p:UE}(hp:p.a=l[k].a)(i:Int):ZM c (l.set k p) i=ZM c l i+if pgi c l[k].a=i then p.M-l[k].M else 0:=by have f:=Xa7 (c:=c) (l:=l.set k p) (k:=k) (by rw[WL];exact e) i;have h2:=Xa7 (c:=c) e i;rw[List.getElem_set_self,IR (Uo _),UP aa,hp]at f;omega
def Xi1{l:List UE}{k:Nat}(e:k<l.length)(i:Int):ZM c (l.eraseIdx k) i=ZM c l i-if pgi c l[k].a=i then l[k].M else 0:=by rw[Xa7 e i,List.eraseIdx_eq_take_drop_succ,XbD];omega
def Xec{α:Type}{p:α->Bool}{l:List α}(h:0<=Zv p l):∃(k:Nat) (f:k<l.length),Zv p l=k/\p l[k]=true:=by
 unfold Zv at h⊢;cases e:l.findIdx? p with
 |none=>simp_all
 |some k=>grind[UV]
def Xi2{α:Type}{p:α->Bool}{l:List α}(h:Zv p l<0):∀x∈l,p x=false:=by unfold Zv at h;grind
def fiP(pins:List UE)(a:Int):Int:=Zv (λp=>p.a==a) pins
def Xr0(pins:List UE)(a:Int):List UE:=if 0<=fiP pins a then pins.set (fiP pins a).toNat ⟨(pins.getD (fiP pins a).toNat ⟨0,0⟩).a,(pins.getD (fiP pins a).toNat ⟨0,0⟩).M+1⟩else pins++[⟨a,1⟩]
def Xs8(pins:List UE)(a:Int):List UE:=if(pins.getD (fiP pins a).toNat ⟨0,0⟩).M=1 then pins.eraseIdx (fiP pins a).toNat else pins.set (fiP pins a).toNat ⟨(pins.getD (fiP pins a).toNat ⟨0,0⟩).a,(pins.getD (fiP pins a).toNat ⟨0,0⟩).M-1⟩
def Xkc(hN:NB N)(hb:HB h)(g:GX N h)(k:Obb h a):QdK N h a=some true:=by
 have e:=hN;unfold NB at e;obtain⟨S,L,j,mS,eS,eL,rfl,mL⟩:=Xca hN hb g.ep g.ps;have f:(Yo h S).length<=4096:=by have o:=j.len;have:(Yo h S).length<=S.length:=List.length_filter_le _ _;omega
 rw[QdK,eL,Xa];dsimp only;rw[Yx a aa aa,Xa,show(Yo h S).contains a=true by simp_all]
def Xlq(hN:NB N)(hb:HB h)(g:GX N h)(u:Obb h a):∃b,Qc0 N h a=some b/\(b=true↔(pg h.p (pgi h.c a)).k=1/\(pg h.p (pgi h.c a)).P=0/\h.c.p / 4<=((h.p.countP K2:Nat):Int)):=by
 have j:=hN;unfold NB at j;have hp:=XJ hN hb g.ep;have z:=hb.2;have A:=Xj.1 hp.conf;have⟨B,E,G⟩:=Jb (N:=N) hp (u.1.at_ hp);have H:∀(n k c:Nat),k<=h.p.length->h.p.length-k<n->c<=k->Qby N h a n (c:Int) (k:Int)=some (((c+(h.p.drop k).countP K2:Nat):Int)):=by
  intro n;induction n with
  |zero=>intro k c _ I;omega
  |succ n y=>
   intro k c R I T;rw[Qby];by_cases f:k<h.p.length;case neg=>rw[Wg aa,Wa,Ub aa];simp
   have:=y (k+1) c aa aa aa;have:=y (k+1) (c+1) aa aa aa;rw[Xn f,Wb,Xf,Wc f,Xa,Xg aa,Xg aa,Wo f,Ic];simp only[Xa];unfold K2 at *;cases J:(h.p[k].k==1)<;>cases K:decide (h.p[k].P>0)<;>simp_all<;>omega
 have L:Qby N h a N 0 0=some (((0+(h.p.drop 0).countP K2:Nat):Int)):=H N 0 0 aa aa aa;have O:wI (h.c.p.tdiv 4)=h.c.p / 4:=by rw[UQ aa,Xc aa aa]
 rw[Qc0,(Vg hN hb).2 g,Xa,Wh,Wa,Xkc hN hb g u,Xa,Wh,Wa,L,Xa,B,Xa,Xr E G,Xa,O];by_cases o:(pg h.p (pgi h.c a)).k=1;rotate_left
 .rw[Xk o];exact⟨false,rfl,(λe=>by cases e),λq=>absurd q.1 o⟩
 by_cases h2:(pg h.p (pgi h.c a)).P=0;rotate_left
 .rw[XC o,Xk h2];exact⟨false,rfl,(λe=>by cases e),λq=>absurd q.2.1 h2⟩
 simp_all
def MX.moved(m:MX N h pins){h2:Wk}(q:OP N h h2)(g:h2.p.length=h.p.length){ps:List UE}(f:ps.length<=64)(e:∀p∈ps,Obb h p.a/\1<=p.M/\p.M<=1000)(j:(ps.map (·.a)).Nodup)(k:∀i,0<=i->i<(h.p.length:Int)->(pg h2.p i).P=ZM h.c ps i):MX N h2 ps:=
 ⟨q.gx,f,λp hp=>⟨(q.ob _).2 (e p hp).1,(e p hp).2⟩,j,λi o u=>by simp_all[g,q.cf]⟩
def XnF(hN:NB N)(ht:HT h)(m:MX N h pins)(A:Obb h a):Ok (QfE N h pins a) λr=>r.2.2.2=18\/(r.2.2.2=0/\OP N h r.1/\MX N r.1 r.2.1/\r.2.1=Xr0 pins a/\r.2.2.1=a+1/\(0<=fiP pins a->(pins.getD (fiP pins a).toNat ⟨0,0⟩).M≠1000)/\(fiP pins a<0->pins.length≠64)):=by
 have E:=hN;unfold NB at E;have hb:=ht.hb;have g:=m.gx;have hp:=XJ hN hb g.ep;have o:=A.1.at_ hp;have hr:=o.rng;have⟨eh,U,V⟩:=Jb (N:=N) hp o;have W:=m.len;have Y:=XP hp.conf (i:=0) aa (by have:=Xj.1 hp.conf;omega);have⟨b,Z,hbc⟩:=Xlq hN hb g A;have T:=m.sm _ U V;have hnn:=Xgg (c:=h.c) (l:=pins) (λp hp=>(m.ob p hp).2.1) (pgi h.c a);have hle:=Xgh (c:=h.c) (l:=pins) (λp hp=>(m.ob p hp).2.2) (pgi h.c a);rw[QfE,(XaB hN hb pins).2 m,Xa,Wh,Wa,Xk aa,Wa,Xkc hN hb g A,Xa,Wh,Wa,Xf5 pins a aa aa,Xa,Xs];rw[show Zv (λp:UE=>p.a==a) pins=fiP pins a from rfl,Z];simp only[Xa];have cnt:b=false->∃h2,Qb7 N h a 1=some h2/\OP N h h2/\h2.p.length=h.p.length/\∀i,0<=i->(pg h2.p i).P=if i=pgi h.c a then(pg h.p i).P+1 else(pg h.p i).P:=λhbf=>
  Xkb hN ht g A aa aa λk _=>by
   grind
 by_cases G:0<=fiP pins a
 .have⟨k,B,H,I⟩:=Xec G;have H:fiP pins a=k:=H;have J:pins.getD k ⟨0,0⟩=pins[k]:=by rw[Wj,Wc B];rfl
  have K:pins[k].a=a:=by simpa using I
  have hob:=m.ob _ (WG B);unfold Xr0;rw[Wm G,H,show(k:Int).toNat=k from rfl,J,Wd aa,Wb,Xf,Wc B,Xa];by_cases f:pins[k].M=1000
  .rw[XC f,Wb];exact We (.inl rfl)
  rw[Xk f,Wa,Wg aa,Wa];cases j:b with
  |true=>exact We (.inl rfl)
  |false=>
   have⟨h2,L,q,pl,ps⟩:=cnt j;rw[Wa,Xb aa,Xs,Wb,Xa,Xa,L];dsimp only;rw[Xa,Xc aa aa,Xp aa aa];refine We (.inr ⟨rfl,q,?_,rfl,rfl,λ_=>f,λh=>aa⟩);refine m.moved q pl (by simp_all) (λp hp=>?_) ?_ λi u O=>?_
   .rcases W0 hp with hp|hp
    .exact m.ob p hp
    grind
   .rw[List.map_set];have:(pins.map (·.a)).set k pins[k].a=pins.map (·.a):=by
     apply List.ext_getElem
     .simp
     grind
    rw[this];exact m.nd
   rw[XhR (p:=⟨pins[k].a,pins[k].M+1⟩) B rfl,K,ps i u,m.sm i u O];grind
 have R:=Xi2 (p:=λp:UE=>p.a==a) (l:=pins) (by have:Zv (λp:UE=>p.a==a) pins=fiP pins a:=rfl;omega);unfold Xr0;rw[Wi G,Wg aa,Wa,Wd aa,Wb];by_cases z:pins.length=64
 .rw[show((pins.length:Int)==64)=true by simp_all,Wb];exact We (.inl rfl)
 rw[Xk (show¬(pins.length:Int)=64 by omega),Wa];cases j:b with
 |true=>exact We (.inl rfl)
 |false=>
  have⟨h2,L,q,pl,ps⟩:=cnt j;rw[Wa,Xb aa,Xs,Wa,Xb aa,L];dsimp only;rw[Xa,Xp aa aa];refine We (.inr ⟨rfl,q,?_,rfl,rfl,λh=>aa,λ_=>z⟩);refine m.moved q pl (by grind) (λp hp=>?_) ?_ λi u O=>?_
  .rcases Wt.1 hp with hp|hp
   .exact m.ob p hp
   simp_all
  .rw[U1,U4];refine⟨m.nd,ab,λx hx y hy e=>?_⟩;grind
  rw[XbD,ZM,ZM,ps i u,m.sm i u O];grind
def XnG(hN:NB N)(ht:HT h)(m:MX N h pins)(H:Obb h a):Ok (Qdz N h pins a) λr=>(r.2.2=12/\fiP pins a<0)\/(r.2.2=0/\0<=fiP pins a/\OP N h r.1/\MX N r.1 r.2.1/\r.2.1=Xs8 pins a):=by
 have y:=hN;unfold NB at y;have hb:=ht.hb;have g:=m.gx;have hp:=XJ hN hb g.ep;have j:=H.1.at_ hp;have hr:=j.rng;have⟨eh,O,R⟩:=Jb (N:=N) hp j;have T:=m.len;have I:=m.sm _ O R;have U:=Xgh (c:=h.c) (l:=pins) (λp hp=>(m.ob p hp).2.2) (pgi h.c a);rw[Qdz,(XaB hN hb pins).2 m,Xa,Wh,Wa,Xk aa,Wa,Xf5 pins a aa aa,Xa];rw[show Zv (λp:UE=>p.a==a) pins=fiP pins a from rfl];by_cases J:fiP pins a<0
 .rw[Wd J,Wb];exact We (.inl ⟨rfl,J⟩)
 have z:0<=fiP pins a:=aa;have⟨k,e,A,B⟩:=Xec (p:=λp:UE=>p.a==a) (l:=pins) z;have A:fiP pins a=k:=A;have E:pins.getD k ⟨0,0⟩=pins[k]:=by rw[Wj,Wc e];rfl
 have f:pins[k].a=a:=by simpa using B
 have V:=m.ob _ (WG e);have o:=Xeb (c:=h.c) (l:=pins) (λp hp=>(m.ob p hp).2.1) _ (WG e);rw[f]at o;obtain⟨h2,K,u,pl,ps⟩:=Xkb hN ht g H (by_:=-1) aa aa λk W=>.inl aa;unfold Xs8;rw[A,show(k:Int).toNat=k from rfl,E,Wg aa,Wa,Xb aa,Xf,Wc e,Xa,Xa,Xc (n:=pins[k].M-1) aa aa,Xf,IZ e,Xa];dsimp only;by_cases L:pins[k].M=1
 .rw[Wm L,XC aa,Wb,Xb aa,Xg aa,Xb aa,show((k+1:Nat):Int).toNat=k+1 from rfl,Xb aa,K,Xa];have Y:(((((pins.set k (UE.mk pins[k].a (pins[k].M-1))).take k)++(((pins.set k (UE.mk pins[k].a (pins[k].M-1))).drop (k+1)).take (pins.length-(k+1))))++((pins.set k (UE.mk pins[k].a (pins[k].M-1))).drop (k+(pins.length-(k+1))))).take (k+(pins.length-(k+1))))=pins.eraseIdx k:=by
   have Z:((pins.set k (UE.mk pins[k].a (pins[k].M-1))).take k++((pins.set k (UE.mk pins[k].a (pins[k].M-1))).drop (k+1)).take (pins.length-(k+1))).length=k+(pins.length-(k+1)):=by rw[WJ,Wl,Wl,Wn,WL];omega
   rw[List.take_append_of_le_length aa,Ul aa,Ul (l:=List.drop _ _) ab,IR (Uo _),UP aa,List.eraseIdx_eq_take_drop_succ]
  rw[Y];refine We (.inr ⟨rfl,aa,u,?_,rfl⟩);refine m.moved u pl (by grind) (λp hp=>m.ob p (List.mem_of_mem_eraseIdx hp)) ?_ λi q G=>?_
  .exact m.nd.sublist ((List.eraseIdx_sublist pins k).map _)
  rw[Xi1 e,f,ps i q,m.sm i q G];omega
 rw[Wi L,Xk aa,Wa,K,Xa];refine We (.inr ⟨rfl,aa,u,?_,rfl⟩);refine m.moved u pl (by simp_all) (λp hp=>?_) ?_ λi q G=>?_
 .rcases W0 hp with hp|hp
  .exact m.ob p hp
  grind
 .rw[List.map_set];have:(pins.map (·.a)).set k pins[k].a=pins.map (·.a):=by
   apply List.ext_getElem
   .simp
   grind
  rw[this];exact m.nd
 rw[XhR (p:=⟨pins[k].a,pins[k].M-1⟩) e rfl,f,ps i q,m.sm i q G];grind
end
def XaD{α:Type}(f:α->Int):∀(l:List α) (s:Int),l.foldl (λ_ p=>f p) s=match l.getLast? with|some p=>f p|none=>s
 |[],s=>rfl
 |[x],s=>rfl
 |x::y::l,s=>by rw[Iu,XaD f (y::l),List.getLast?_cons_cons];rfl
def Xcb{α:Type}{l:List α}{i:Nat}{q:α}(h:l[i]? = some q):(l.take (i+1)).getLast? = some q:=by grind
structure Sj(iss:List Int)(i:Nat)(p:UB):Prop where
 pos:0<p.J
 le:p.J<=(iss.length:Int)
 ix:iss.getD (p.J-1).toNat 0=i
 lv:p.V=true↔p.a≠0
def XaE{iss:List Int}{l:List UB}:stB iss l=true↔(∀i p,l[i]? = some p->Sj iss i p)/\∀i p q,l[i]? = some q->l[i+1]? = some p->q.J<p.J:=by
 constructor
 .intro h;refine⟨λi p hp=>?_,λi p q f hp=>?_⟩
  .have:=Xar h hp;exact⟨aa,this.2.1,this.2.2.1,this.2.2.2⟩
  have:=(Zn l (0:Int) 0).1 h (i+1) p hp;rw[XaD,Xcb f]at this;unfold stQ at this;simp_all
 rintro⟨g,h2⟩;refine(Zn l (0:Int) 0).2 λi p hp=>?_;have e:=g i p hp;have j:(l.take i).foldl (λ_ (p:UB)=>p.J) 0<p.J:=by
  cases i with
  |zero=>exact e.pos
  |succ i=>have k:=XG hp;have f:=Wc (show i<l.length by omega);rw[XaD,Xcb f];exact h2 i p _ f hp
 have o:=e.le;have u:=e.ix;have e3:=e.lv;unfold stQ;grind
structure Sg(n i:Nat)(p:UM):Prop where
 f0:0<=p.O
 fn:p.O<=(n:Int)
 c0:0<=p.C0
 c1:p.C0<=64
 z:i=0->p.O=0/\p.B0=true
def VA{n:Nat}{l:List UM}:neB n l=true↔(∀i p,l[i]? = some p->Sg n i p)/\∀i p q,l[i]? = some q->l[i+1]? = some p->q.O<=p.O:=by
 constructor
 .intro h;refine⟨λi p hp=>?_,λi p q f hp=>?_⟩
  .have:=KU h hp;exact⟨this.1,this.2.1,this.2.2.1,this.2.2.2.1,this.2.2.2.2.1⟩
  exact(KU h f).2.2.2.2.2 p hp
 rintro⟨g,h2⟩;refine(Zn l (0:Int) 0).2 λi p hp=>?_;have e:=g i p hp;have j:(l.take i).foldl (λ_ (p:UM)=>p.O) 0<=p.O:=by
  cases i with
  |zero=>exact e.f0
  |succ i=>have k:=XG hp;have f:=Wc (show i<l.length by omega);rw[XaD,Xcb f];exact h2 i p _ f hp
 have o:=e.fn;have u:=e.c0;have e3:=e.c1;have e4:=e.z;unfold neQ;grind
def KV{a:Wp}:XbV a=true↔∀i p,a.x[i]? = some p->((YL a.S p.O.toNat (toL a i).toNat:Nat):Int)<=p.C0:=by unfold XbV;rw[Zn];unfold Xha;simp
def OR.mono{a:Wp}(h:OR a){i j:Nat}{p q:UM}(hp:a.x[i]? = some p)(f:a.x[j]? = some q)(e:i<=j):p.O<=q.O:=by
 have g:=(VA.1 h.ne).2;obtain⟨k,rfl⟩:∃k,j=i+k:=⟨j-i,aa⟩
 induction k generalizing q with
 |zero=>simp_all
 |succ k o=>grind
def Xlr{l m:List UB}{f t:Nat}(h:t<=l.length):YL (l++m) f t=YL l f t:=by
 unfold YL;by_cases e:f<=l.length
 .grind
 rw[show t-f=0 by omega];simp
def Xgi{a:Wp}(h:a.x.length≠0):a.x[a.x.length-1]? = some (Zk a):=by have e:=Wc (show a.x.length-1<a.x.length by omega);unfold Zk;grind
def Xed{a:Wp}{i:Nat}(h:a.x.length<=i+1):toL a i=(a.S.length:Int):=by unfold toL;simp_all
def JF{a:Wp}{i:Nat}{p:UM}(h:a.x[i+1]? = some p):toL a i=p.O:=by unfold toL;rw[h]
def XhS{a:Wp}{x:Int}(h:(XU a x).2.2.2=0):Yb (XU a x).1=true/\x≠0/\(XU a x).1=⟨a.S++[⟨(a.i.length:Int)+1,x,true⟩],a.x,a.i++[(a.S.length:Int)]⟩/\(XU a x).2.1=(a.S.length:Int)/\(XU a x).2.2.1=(a.i.length:Int)+1:=by
 unfold XU at h⊢;by_cases A:Yb a=false
 .simp_all
 rw[Wi A]at h⊢;by_cases h2:x=0
 .simp_all
 rw[Wi h2]at h⊢;by_cases u:a.x.length=0
 .simp_all
 rw[Wi u]at h⊢;by_cases H:(Zk a).C0<=((YL a.S (Zk a).O.toNat a.S.length:Nat):Int)
 .simp_all
 rw[Wi H]at h⊢;by_cases I:a.i.length=4096
 .simp_all
 rw[Wi I];refine⟨?_,h2,rfl,rfl,rfl⟩;have f:=XT.1 (by simpa using A);have R:=f.slots;have T:=f.iss;have⟨B,U⟩:=XaE.1 f.st;have⟨n1,n2⟩:=VA.1 f.ne;refine XT.2 ⟨by grind,f.sc,λe=>absurd e u,λy o=>?_,XaE.2 ⟨λi p hp=>?_,λi p q E hp=>?_⟩,VA.2 ⟨λi p hp=>?_,n2⟩,KV.2 λi p hp=>?_⟩
 .rcases Wt.1 o with o|o
  .exact f.issr y o
  grind
 .by_cases j:i<a.S.length
  .rw[Uh j]at hp;have e:=B i p hp;have G:=e.le;refine⟨e.pos,by grind,?_,e.lv⟩;rw[Wj,Uh aa,←Wj];exact e.ix
  rw[Uf aa]at hp;have g:i=a.S.length:=by apply Classical.byContradiction;intro k;rw[WS ah]at hp;cases hp
  subst g;rw[U8]at hp;cases hp;refine⟨by dsimp only;omega,ab,?_,?_⟩
  .rw[show((a.i.length:Int)+1-1).toNat=a.i.length by omega,Wj,Uf aa,U8];rfl
  simp_all
 .by_cases j:i+1<a.S.length
  .grind
  have g:i+1=a.S.length:=by apply Classical.byContradiction;intro k;rw[WS ah]at hp;cases hp
  rw[Uh aa]at E;rw[Uf aa,g,U8]at hp;have:=(B i q E).le;grind
 .have e:=n1 i p hp;have G:=e.fn;exact⟨e.f0,by grind,e.c0,e.c1,e.z⟩
 dsimp only at hp⊢;have e:=n1 i p hp;have G:=e.fn;have J:=KV.1 f.cap i p hp;by_cases K:a.x.length<=i+1
 .have L:=XG hp;have:i=a.x.length-1:=aa;rw[this,Xgi u]at hp;cases hp;rw[Xed (a:=Wp.mk (a.S++[UB.mk ((a.i.length:Int)+1) x true]) a.x (a.i++[(a.S.length:Int)])) K];have:YL (a.S++[⟨(a.i.length:Int)+1,x,true⟩]) (Zk a).O.toNat (((a.S++[(⟨(a.i.length:Int)+1,x,true⟩:UB)]).length:Nat):Int).toNat=YL a.S (Zk a).O.toNat a.S.length+1:=by unfold YL;rw[List.drop_append_of_le_length aa,Ul ah,Ul (by rw[Wn];omega),List.countP_append];simp
  grind
 have k:=Wc (show i+1<a.x.length by omega);rw[JF k]at J;rw[JF (a:=Wp.mk (a.S++[UB.mk ((a.i.length:Int)+1) x true]) a.x (a.i++[(a.S.length:Int)])) k];have:=(n1 (i+1) _ k).fn;rw[Xlr aa];omega
def Xeu{l:List UB}{k:Nat}{s:UB}(h:s.V=false):(l.set k s).countP (·.V)<=l.countP (·.V):=by
 by_cases e:k<l.length
 .grind
 rw[List.set_eq_of_length_le aa];omega
def XnH{a:Wp}{i g:Int}(h:(YQ a i g).2=0):Yb a=true/\0<=i/\∃p,a.S[i.toNat]? = some p/\p.J=g/\p.V=true/\(YQ a i g).1=p.a:=Vb h
def XnI{a:Wp}{i g:Int}(h:(JO a i g).2=0):Yb (JO a i g).1=true/\(JO a i g).1=⟨a.S.set i.toNat ⟨g,0,false⟩,a.x,a.i⟩/\(YQ a i g).2=0:=by
 unfold JO at h⊢;by_cases z:(YQ a i g).2=0;rotate_left
 .simp_all
 rw[Wi aa];refine⟨?_,rfl,z⟩;have⟨A,I,p,hp,ep,K,_⟩:=XnH z;have f:=XT.1 A;have⟨B,L⟩:=XaE.1 f.st;have key:∀(j:Nat) (q:UB),(a.S.set i.toNat ⟨g,0,false⟩)[j]? = some q->∃k:UB,a.S[j]? = some k/\q.J=k.J/\(q=k\/q.V=false/\q.a=0):=λj q o=>by grind
 refine XT.2 ⟨f.iss,f.sc,λe=>by rw[WL];exact f.none e,f.issr,XaE.2 ⟨λj q o=>?_,λj q r R o=>?_⟩,by rw[WL];exact f.ne,KV.2 λj q o=>?_⟩
 .have⟨k,u,y,E⟩:=key j q o;have e:=B j k u;refine⟨by rw[y];exact e.pos,by rw[y];exact e.le,by rw[y];exact e.ix,?_⟩;rcases E with rfl|⟨G,h2⟩
  .exact e.lv
  simp_all
 .grind
 have H:=KV.1 f.cap j q o;have et:toL ⟨a.S.set i.toNat ⟨g,0,false⟩,a.x,a.i⟩ j=toL a j:=by unfold toL;simp
 rw[et];refine Int.le_trans (Int.ofNat_le.2 ?_) H;unfold YL;by_cases G:q.O.toNat<=i.toNat
 .rw[List.drop_set,Wi aa,List.take_set];exact Xeu rfl
 rw[UP aa];omega
def Xls{a:Wp}{c:Int}(h:(Zs a c).2=0):Yb (Zs a c).1=true/\(Zs a c).1=⟨a.S,a.x++[⟨(a.S.length:Int),c,false⟩],a.i⟩:=by
 unfold Zs at h⊢;by_cases z:Yb a=false\/c<0\/64<c
 .simp_all
 rw[Wi z]at h⊢;by_cases h2:a.x.length=0
 .simp_all
 rw[Wi h2]at h⊢;by_cases A:a.x.length=64
 .simp_all
 rw[Wi A];refine⟨?_,rfl⟩;have o:Yb a=true:=by
  cases E:Yb a with
  |true=>rfl
  |false=>simp_all
 have f:=XT.1 o;have B:=f.sc;have⟨n1,n2⟩:=VA.1 f.ne;refine XT.2 ⟨f.iss,by grind,λe=>by grind,f.issr,f.st,VA.2 ⟨λi p hp=>?_,λi p q u hp=>?_⟩,KV.2 λi p hp=>?_⟩
 .by_cases j:i<a.x.length
  .grind
  rw[Uf aa]at hp;have g:i=a.x.length:=by apply Classical.byContradiction;intro k;rw[WS (by grind)]at hp;cases hp
  subst g;rw[U8]at hp;cases hp;exact⟨ab,Ux _,by simp_all,by simp_all,λe=>absurd e h2⟩
 .by_cases j:i+1<a.x.length
  .grind
  have g:i+1=a.x.length:=by apply Classical.byContradiction;intro k;rw[WS (by grind)]at hp;cases hp
  rw[Uh aa]at u;rw[Uf aa,g,U8]at hp;cases hp;exact(n1 i q u).fn
 by_cases j:i<a.x.length
 .rw[Uh j]at hp;have G:=KV.1 f.cap i p hp;have et:toL ⟨a.S,a.x++[⟨(a.S.length:Int),c,false⟩],a.i⟩ i=toL a i:=by
   by_cases y:i+1<a.x.length
   .have k:=Wc y;rw[JF k,JF (p:=a.x[i+1]) (by rw[Uh y];exact k)]
   rw[Xed (a:=a) aa,JF (p:=⟨(a.S.length:Int),c,false⟩) (by rw[Uf aa,show i+1-a.x.length=0 by omega];rfl)]
  simp_all
 rw[Uf aa]at hp;have g:i=a.x.length:=by apply Classical.byContradiction;intro k;rw[WS ah]at hp;cases hp
 subst g;rw[U8]at hp;cases hp;unfold YL;simp_all
def XnJ{a:Wp}(h:(YV a).2=0):Yb (YV a).1=true/\(YV a).1=⟨a.S.take (Zk a).O.toNat,a.x.take (a.x.length-1),a.i⟩:=by
 unfold YV at h⊢;by_cases y:Yb a=false
 .simp_all
 rw[Wi y]at h⊢;by_cases h2:a.x.length=0
 .simp_all
 rw[Wi h2]at h⊢;by_cases B:(Zk a).B0=true
 .simp_all
 rw[Wi B];refine⟨?_,rfl⟩;have f:=XT.1 (by simpa using y);have E:=f.sc;have⟨G,H⟩:=XaE.1 f.st;have⟨n1,n2⟩:=VA.1 f.ne;have ht:=Xgi h2;have et:=n1 _ _ ht;have U:=et.fn;have A:a.x.length≠1:=λe=>by have:=et.z aa;simp_all
 have tk:∀{i:Nat} {p:UM},(a.x.take (a.x.length-1))[i]? = some p->a.x[i]? = some p/\i<a.x.length-1:=λ{i p} hp=>by grind
 have j:∀{i:Nat} {p:UB},(a.S.take (Zk a).O.toNat)[i]? = some p->a.S[i]? = some p:=λ{i p} hp=>by grind
 have sl:(a.S.take (Zk a).O.toNat).length=(Zk a).O.toNat:=by rw[Wl];omega
 refine XT.2 ⟨f.iss,by grind,λe=>by grind,f.issr,XaE.2 ⟨λi p hp=>G i p (j hp),λi p q k hp=>H i p q (j k) (j hp)⟩,VA.2 ⟨λi p hp=>?_,λi p q k hp=>n2 i p q (tk k).1 (tk hp).1⟩,KV.2 λi p hp=>?_⟩
 .have⟨hp,I⟩:=tk hp;have e:=n1 i p hp;have:=f.mono hp ht aa;exact⟨e.f0,by grind,e.c0,e.c1,e.z⟩
 have⟨o,I⟩:=tk hp;have J:=KV.1 f.cap i p o;have g:=Wc (show i+1<a.x.length by omega);rw[JF g]at J;have K:=n1 _ _ g;have V:=K.f0;have L:=f.mono g ht aa;have u:toL ⟨a.S.take (Zk a).O.toNat,a.x.take (a.x.length-1),a.i⟩ i=a.x[i+1].O:=by
  by_cases R:i+1<a.x.length-1
  .rw[JF (p:=a.x[i+1]) (by rw[Us,Wm R];exact g)]
  rw[Xed (by rw[Wl];omega)];rw[sl];have:i+1=a.x.length-1:=aa;have T:a.x[i+1]? = some (Zk a):=by rw[this];exact ht
  rw[WA (g.symm.trans T)];omega
 rw[u];dsimp only;have:YL (a.S.take (Zk a).O.toNat) p.O.toNat (a.x[i+1].O).toNat=YL a.S p.O.toNat (a.x[i+1].O).toNat:=by unfold YL;rw[List.drop_take,List.take_take,I5 aa]
 omega
structure Si(r:Int->Int->Prop)(a b:Wp):Prop where
 sc:b.x=a.x
 is_:b.i=a.i
 sl:R2 (sR r) a.S b.S
section
variable {r:Int->Int->Prop}{a b:Wp}{x y i g:Int}{s t:Wu}
def R2.none{α β:Type}{r:α->β->Prop}{l:List α}{m:List β}(h:R2 r l m){k:Nat}(e:l[k]? = none):m[k]? = none:=by rw[List.getElem?_eq_none_iff]at e⊢;rw[h.1];omega
def XhT(h:(ZI t x).2.2.2=0):Yr (ZI t x).1.e=true/\∀r∈Xz (ZI t x).1.e,r∈Xz t.e\/r=x:=by
 unfold ZI at h⊢;by_cases u:Yr t.e=false
 .simp_all
 rw[Wi u]at h⊢;have u:Yr t.e=true:=by simpa using u
 have f:=u;unfold Yr at f;rw[WK,WX,decide_eq_true_iff]at f;have lt:∀{e:W5} {l:List W5},e∈l->e.V=true->e.a∈Xz l:=λG I=>WU.2 ⟨_,W8.2 ⟨G,I⟩,rfl⟩;have tl:∀{q:Int} {l:List W5},q∈Xz l->∃e∈l,e.V=true/\e.a=q:=λA=>by obtain⟨e,G,rfl⟩:=WU.1 A;grind
 cases e:Xhc t.e with
 |none=>
  rw[e]at h;dsimp only at h⊢;by_cases o:t.e.length=64
  .rw[Wm o]at h;exact absurd h ae
  rw[Wi o];refine⟨?_,λq A=>?_⟩
  .unfold Yr;rw[WK,WX,decide_eq_true_iff];refine⟨λz j=>?_,ah⟩;rcases Wt.1 j with j|j
   .exact f.1 z j
   rw[Ui.1 j];rfl
  grind
 |some k=>
  have B:=e;unfold Xhc at B;rw[UV]at B;obtain⟨p,hp,_⟩:=B;rw[WK,decide_eq_true_iff]at hp;have E:t.e.getD k ⟨0,0,false⟩=t.e[k]:=by rw[Wj,Wc p];rfl
  dsimp only;rw[E];have H:=f.1 _ (WG p);unfold JA at H;simp at H;refine⟨?_,λq A=>?_⟩
  .unfold Yr;rw[WK,WX,decide_eq_true_iff];refine⟨λz j=>?_,by rw[WL];exact f.2⟩;rcases W0 j with j|j
   .exact f.1 z j
   rw[j];unfold JA;simp;omega
  grind
def XhU(h:(Kv t i g).2=0):Yr (Kv t i g).1.e=true/\∀r∈Xz (Kv t i g).1.e,r∈Xz t.e:=by
 unfold Kv at h⊢;by_cases A:(YN t.e i g).2=0;rotate_left
 .simp_all
 rw[Wi aa];have ok:=Jm A;have⟨B,_,p,hp,ep,_,_⟩:=ok;have f:=B;unfold Yr at f;rw[WK,WX,decide_eq_true_iff]at f;have o:=f.1 p (W7 hp);unfold JA at o;refine⟨?_,λq E=>?_⟩
 .unfold Yr;rw[WK,WX,decide_eq_true_iff];refine⟨λz j=>?_,by simp_all⟩;rcases W0 j with j|j
  .simp_all
  unfold JA;simp_all
 obtain⟨z,j,rfl⟩:=WU.1 E;have k:=W8.1 j;rcases W0 k.1 with u|u
 .exact WU.2 ⟨z,W8.2 ⟨u,k.2⟩,rfl⟩
 simp_all
def Xlt(l m:List UB):XM (l++m)=XM l++XM m:=by unfold XM;simp
def Xlu{l:List UB}{k:Nat}{s:UB}(p:s.V=false):∀q∈XM (l.set k s),q∈XM l:=λq j=>by
 obtain⟨z,o,rfl⟩:=WU.1 j;have e:=W8.1 o;rcases W0 e.1 with f|f
 .exact WU.2 ⟨z,W8.2 ⟨f,e.2⟩,rfl⟩
 simp_all
def Xi3{l:List UB}{k:Nat}:∀q∈XM (l.take k),q∈XM l:=λq f=>by obtain⟨z,j,rfl⟩:=WU.1 f;have e:=W8.1 j;exact WU.2 ⟨z,W8.2 ⟨WP e.1,e.2⟩,rfl⟩
end
end Go.Sx
