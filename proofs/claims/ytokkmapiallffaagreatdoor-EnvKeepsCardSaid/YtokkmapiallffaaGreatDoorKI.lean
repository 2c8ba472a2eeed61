import Derived.Test.YtokkmapiallffaaGreatDoorKE
set_option linter.all false
namespace Go.Sx
section
variable {N:Nat}{h0:Wh}{l:List Int}
structure OE(h0:Wh)(l:List Int)(w:Wu):Prop where
 q:∀a∈w.q,okH (wd w.h.w a)=true
 old:∀a∈l,a∉w.q->Xbw (wd w.h.w a)=false->okH (wd w.h.w a)=true
 fw:∀a∈l,Xbw (wd w.h.w a)=true->Yy .u64 (wd w.h.w a) 2≠0
 ws:∀x∈w.h.w,tU x
 ss:SpanS h0.c h0.p w.h.p
 k1:∀i,0<=i->(pg h0.p i).k=1->(pg w.h.p i).k=1
 pr:∀i,Prm w i->(pg h0.p i).k=1/\(pg w.h.p i).u=(pg h0.p i).u
 hw:∀b∈l,Prm w (pgi h0.c b)->wd w.h.w b=wd h0.w b
 bm:w.h.b=h0.b
 ol:w.o=Ye h0 l
def KeepW(w w':Wu):Prop:=w'=⟨⟨w.h.c,w'.h.w,w'.h.p,w.h.s,w.h.b⟩,w.o,w'.t,w'.q,w.d,⟨w'.r.j,w'.r.K,w.r.F,w.r.E,w.r.f,w.r.y⟩⟩
def Xgw(w:Wu)(a:Int):∀(n:Nat) (i:Int) (f r:List Wp),0<=i->QaK N w a n i f=some r->∀j,0<=j->(((i<=j/\j<f.length/\∀x,i<=x->x<=j->(pg f x).k=3)/\pg r j=⟨3,wI (1-w.h.s),(pg f j).u,(pg f j).P⟩)\/(¬(i<=j/\j<f.length/\∀x,i<=x->x<=j->(pg f x).k=3)/\pg r j=pg f j))
 |0,i,f,r,_,e,_,_=>by simp_all[QaK]
 |n+1,i,f,r,h0,e,j,q=>by
  rw[QaK]at e;by_cases p:f.length<=140737488355328;rotate_left
  .unfold grd at e;rw[Wj p]at e;cases e
  rw[Xb p]at e;by_cases g:i<(f.length:Int);rotate_left
  .rw[We g,Wa]at e;cases e;exact .inr ⟨λh=>ab,rfl⟩
  rw[Wg g,Wc,Xn h0 g,Xa,Xa]at e;by_cases o:(pg f i).k=3;rotate_left
  .rw[Xj o,Wa]at e;cases e;exact .inr ⟨λh=>o (h.2.2 i ab h.1),rfl⟩
  rw[Xp o,Wc,Xe (n:=i+1) ab ab,o]at e;have y:=λx v=>YW (ps:=f) (j:=x) ⟨3,wI (1-w.h.s),(pg f i).u,(pg f i).P⟩ h0 g v;have z:=Xgw w a n (i+1) _ r ab e j q;grind
def Xt4{v:Int}(h:0<=v):Yy .u64 v 2=v / 4:=YA v 2 ab h
def Xgx{v:Int}(f:4096<=v)(g:v<4294967296):Xbw (wU (wU (4*v)+2))=true/\Yy .u64 (wU (wU (4*v)+2)) 2=v/\tU (wU (wU (4*v)+2)):=by
 rw[Xt (n:=4*v) ab ab,Xt ab ab];have e:Yy .u64 (4*v+2) 2=v:=by rw[Xt4 ab];omega
 refine⟨?_,e,⟨ab,ab⟩⟩;unfold Xbw;grind
def XcE{ws:List Int}(h:∀x∈ws,tU x)(a:Int):tU (wd ws a):=by
 unfold wd;rw[Wk];cases e:ws[ix a]? with
 |none=>simp
 |some x=>grind
def Xc3{v:Int}(e:tU v)(h:okH v=true):Xbw v=false:=by rw[Xn5 e]at h;unfold Xbw;grind
def OE.push{w:Wu}(f:OE h0 l w){a:Int}(h:okH (wd w.h.w a)=true)(g:WS):OE h0 l {w with q:=w.q++[a],r:=g}:=by
 refine⟨λb hb=>?_,λb hb j k=>f.old b hb (λe=>j (WU _ e)) k,f.fw,f.ws,f.ss,f.k1,f.pr,f.hw,f.bm,f.ol⟩;rcases Wr.1 hb with hb|hb
 .exact f.q b hb
 simp_all
structure O4(h0:Wh)(w:Wu)(qs:List Wp)(tk:List Int):Prop where
 ss:SpanS h0.c w.h.p qs
 kd:∀i,0<=i->(pg w.h.p i).k=1->(pg qs i).k=1
 pr:∀i:Int,0<=i->i<qs.length->(pg qs i).k=1->i∉tk->pg qs i=pg w.h.p i/\i∉w.t
def OE.prm{w:Wu}{e:List Wp}{tk:List Int}(g:O4 h0 w e tk){w':Wu}(j:w'.h.p=e)(k:w'.t=tk)(e3:w'.h.s=w.h.s){i:Int}(h:Prm w' i):Prm w i/\pg w'.h.p i=pg w.h.p i:=by have⟨⟨a,b⟩,c,d,f⟩:=h;rw[j]at b c d⊢;rw[k]at f;have⟨g1,g2⟩:=g.pr i a b c f;refine⟨⟨⟨a,by rw[←g.ss.1];omega⟩,by simp_all,by simp_all,g2⟩,g1⟩
def OE.spn(hN:NB N)(hb:HB h0)(ep:Qaa N h0=some true){w:Wu}(e:OE h0 l w):OO h0.c w.h.p:=by have h:=e.ss.proper hN hb ep (ws:=h0.w) rfl (b:=-1) (.inl rfl);exact Vy hN (h:=⟨h0.c,h0.w,w.h.p,h0.s,-1⟩) ⟨hb.1,by rw[e.ss.1];exact hb.2⟩ h
def OO.sp{c:WP}{ps:List Wp}(h:OO c ps):∀i,0<=i->(pg ps i).k=1->0<=(pg ps i).s/\(pg ps i).s<=1:=λi f e=>by
 by_cases g:i<ps.length
 .exact(h.hd i f g ab).sp
 unfold pg at e;rw[Wk,WN ab]at e;cases e
def XrM{w:Wu}(L:OO h0.c w.h.p)(O:0<=w.h.s/\w.h.s<=1){a i:Int}{n:Nat}{v:List Wp}(R:0<=i)(S:i<w.h.p.length)(I:(pg w.h.p i).k=2)(T:v.length=w.h.p.length)(e:QaK N w a n (i+1) (w.h.p.set i.toNat ⟨(pg w.h.p i).k,wI (1-w.h.s),(pg w.h.p i).u,(pg w.h.p i).P⟩)=some v):O4 h0 w v w.t:=by
 have hw:wI (1-w.h.s)=1-w.h.s:=Xe ab ab;have M:=λx y=>YW (ps:=w.h.p) (j:=x) ⟨(pg w.h.p i).k,wI (1-w.h.s),(pg w.h.p i).u,(pg w.h.p i).P⟩ R S y;have U:=λj D=>Xgw w a n (i+1) _ v ab e j D;have run:∀j,0<=j->(i<j/\j<w.h.p.length/\(∀x,i<x->x<=j->(pg w.h.p x).k=3)/\pg v j=⟨3,1-w.h.s,(pg w.h.p j).u,(pg w.h.p j).P⟩)\/(¬(i<j/\j<w.h.p.length/\∀x,i<x->x<=j->(pg w.h.p x).k=3)/\pg v j=if j=i then⟨2,1-w.h.s,(pg w.h.p i).u,(pg w.h.p i).P⟩else pg w.h.p j):=λj D=>by
  have h:=U j D;rw[WL,M j D,hw,I]at h;have eq:∀x,i<x->pg (w.h.p.set i.toNat ⟨2,1-w.h.s,(pg w.h.p i).u,(pg w.h.p i).P⟩) x=pg w.h.p x:=λx y=>by have:=M x ab;rw[I,hw]at this;rw[this,Wj ab]
  rcases h with⟨⟨E,J,z⟩,b⟩|⟨a,b⟩
  .rw[Wj (show¬j=i by omega)]at b;exact .inl ⟨ab,J,λx y o=>by rw[←eq x y];exact z x ab o,b⟩
  exact .inr ⟨λh=>a ⟨ab,h.2.1,λx y o=>by rw[eq x ab];exact h.2.2 x ab o⟩,b⟩
 refine⟨XbM L T (λj G H=>.inr ?_) λk m k0 kk V W Y=>?_,λj G H=>?_,λj G H jk jt=>?_⟩
 .rcases run j G with⟨E,J,z,b⟩|⟨a,b⟩
  .have:=z j E ab;rw[b,this];exact⟨rfl,rfl,rfl,.inr ⟨ab,by show 0<=1-w.h.s;omega,by show 1-w.h.s<=1;omega⟩⟩
  rw[b];by_cases q:j=i
  .rw[Wm q,q];exact⟨I.symm,rfl,rfl,.inr ⟨ab,by show 0<=1-w.h.s;omega,by show 1-w.h.s<=1;omega⟩⟩
  rw[Wj q];exact⟨rfl,rfl,rfl,.inl rfl⟩
 .have K:=L.hd k k0 ab ab;have r:=(K.k2 kk).2.2;by_cases A:k=i
  .subst A;have f:=run k k0;have g:=run (k+m) ab;have Z:∀x,k<x->x<=k+m->(pg w.h.p x).k=3:=λx y hxm=>by have:=(r (x-k) ab ab).1;rwa[show k+(x-k)=x by omega]at this
   rcases f with f|⟨_,f⟩
   .omega
   rcases g with g|⟨g,_⟩
   .rw[f,g.2.2.2,Wm rfl]
   exact absurd ⟨ab,Y,Z⟩ g
  have f:=run k k0;have g:=run (k+m) ab;have t:=r m V W;rcases f with f|⟨_,f⟩
  .have:=f.2.2.1 k f.1 ab;omega
  rw[Wj A]at f;rcases g with g|⟨_,g⟩
  .by_cases hlt:k<i
   .have:=(r (i-k) ab ab).1;rw[show k+(i-k)=i by omega]at this;omega
   have:=g.2.2.1 k ab ab;omega
  by_cases B:k+m=i
  .rw[B]at t;omega
  rw[Wj B]at g;rw[f,g];exact t.2.1
 .rcases run j G with⟨E,J,z,b⟩|⟨a,b⟩
  .have:=z j E ab;omega
  rw[b,Wj (λe=>by rw[e]at H;omega)];exact H
 grind
def XkE{w w':Wu}(z:OO h0.c w.h.p)(B:0<=w.h.s/\w.h.s<=1)(A:∀j∈w.t,(pg w.h.p j).k=1){n at_ j u:Int}(M:0<=n)(o:OL h0 w n w' at_ j u):O4 h0 w w'.h.p w'.t:=by
 have r:=o.rng;have t:=o.this;have f:=o.fit;have D:(pg w.h.p j).k=0\/(pg w.h.p j).k=1:=by rcases o.way with g|g;exact .inr (A j g.1);exact .inl g.1
 have hb:=z.hd j r.1 r.2 ab;have E:=hb.sp;have G:=hb.pn;refine⟨XbM z o.plen (λi v H=>?_) λi m v y I J O=>?_,λi v y=>?_,λi v H y x=>?_⟩
 .by_cases q:i=j
  .subst q;rcases o.sp with g|g
   .omega
   omega
  rw[o.other i v q];omega
 .have tl:=((z.hd i v ab ab).k2 y).2.2 m I J;have K:i≠j:=λe=>by rw[e]at y;omega
  have L:i+m≠j:=λe=>by rw[e]at tl;omega
  rw[o.other i v K,o.other (i+m) ab L];omega
 .by_cases q:i=j
  .simp_all
  rw[o.other i v q];omega
 have q:i≠j:=by
  rintro rfl;rcases o.way with g|g
  .rw[g.2.1]at x;exact x g.1
  rw[g.2.1]at x;simp at x
 refine⟨o.other i v q,λh=>x ?_⟩;rcases o.way with g|g<;>rw[g.2.1]
 .exact h
 simp_all
def OE.pages{w:Wu}(e:OE h0 l w){f:List Wp}(h:O4 h0 w f w.t):OE h0 l {w with h:={w.h with p:=f}}:=
 ⟨e.q,e.old,e.fw,e.ws,e.ss.trans h.ss,λi g j=>h.kd i g (e.k1 i g j),λi hp=>by
  have:=OE.prm (w':={w with h:={w.h with p:=f}}) h rfl rfl rfl hp
  rw[this.2];exact e.pr i this.1,λb hb hp=>e.hw b hb (OE.prm (w':={w with h:={w.h with p:=f}}) h rfl rfl rfl hp).1,e.bm,e.ol⟩
def XsM(hN:NB N)(R:Start N h0 l){w:Wu}{O:Int->Prop}{s:Int->Int}(z:CI h0 l w)(B:OC h0 l w O s)(A:OE h0 l w){a:Int}(ta:tU a):
 (∃r w2,QaF N w a=some r/\r.2.2≠0/\Qa1 N w a=some (0,r.2.2,w2)) \/
 ∃w' to,QaF N w a=some (w',to,0)/\OS h0 l w w' O s/\OE h0 l w'/\tU to/\(a≠0->to≠0)/\KeepW w w'/\Qa1 N w a=some (to,0,w'):=by
 have hN':=hN;unfold NB at hN';have hb:=R.hb;have hql:=z.ql hb;have htl:=z.tl hb;have hwl:=z.wl hb;have hww:=z.wlen;have hpl:=z.plen;have hsl:=R.st.len;have hspc:=z.spc;have I:=z.conf;have hol:=z.old.length_le;have same:OS h0 l w w O s:=⟨z,⟨O,s,B,λ_ h=>⟨h,rfl⟩⟩,rfl,Uh _⟩
 have kp:KeepW w w:=rfl;have hlp:∀i ps,QbM N w a N i ps=QaK N w a N i ps:=λi ps=>Xt3 w a (λn i ps=>QbM N w a n i ps) (λi ps=>by rfl) (λn i ps=>by rfl) N i ps;rw[Qa1,Xv,QaF];by_cases h1:a=0
 .rw[Xp h1,Wc,Wc];grind
 rw[Xj h1,Wa,Wa,V9 _ _ ab ab,XY a ab ab,Xa,Xa];cases h2:w.q.contains a with
 |true=>grind
 |false=>
 have hq:=YE h2;rw[Wa,Wa,V9 _ _ ab ab,XY a ab ab,Xa,Xa];cases h3:w.o.contains a with
 |false=>simp
 |true=>
 have g:a∈l:=z.old.subset (X5 h3);have hne:l≠[]:=I8 g;have hp:=R.prop hne;have hg:=R.good hne;have hat:=R.st.obj.at_ a g;have ep:Qaa N h0=some true:=by obtain⟨r,Y,hr⟩:=Xcw hN hb a;rw[R.st.obj.ev a g]at Y;obtain rfl:=Wz Y;exact(hr rfl).2.1
 have J:=A.spn hN hb ep;have hwd0:=hp.words;have hpg0:=hp.pages;have hvc:=Xh.1 hp.conf;have L:=hat.rng;have hspr:=hp.space;have⟨_,q0,q1,_⟩:=XL hp.conf L;obtain⟨o1,o2⟩:Qcn N w.h.c a=some (pgi h0.c a,pgo h0.c a,0)/\wI (wI (pgi h0.c a*w.h.c.W)+pgo h0.c a)=a-4096:=by rw[I];exact XkD (N:=N) hp.conf L
 have hin:inW w.h.w a:=by unfold inW;omega
 have hm4:h0.c.p*h0.c.W<=4096:=(XE hp.conf (i:=0) ab ab).2.2;have tw:=XcE A.ws a;have gp:∀n:Nat,1<=n->KI w.h.w (a-4096).toNat n 0=some (wd w.h.w a):=by intro n hn;rw[Xc2 ab ab ab];unfold wd ix;rw[Wk,Wb ab];simp
 have hof:Qca N w.h.c a=some (pgi h0.c a,pgo h0.c a,0):=by rw[KR,z.conf,hp.conf,Wj ac,Wm L];rfl
 rw[Wi,Wa,Wa,o1,Xa];rw[show((0:Int) != 0)=false from rfl,Wa,Xb ab,o2,Xe (n:=(w.h.w.length:Int)-(a-4096)) ab ab,We ab,Wa,Xe (n:=a-4096+1) ab ab,Xb ab,
  gp _ ab,Xa,Xed ab tw,Yg hwl,Xa,Wm hin,Kr,Xa]
 rw[show w.h.w.getD (ix a) 0=wd w.h.w a from rfl,Kr,Xa];cases h4:Xbw (wd w.h.w a)with
 |true=>refine .inr ⟨w,_,rfl,same,A,?_,λ_=>A.fw a g h4,kp,rfl⟩;simp[Xt4,tw]
 |false=>
 have Z:=A.old a g hq h4;rw[Wj ac,Wa,Wa,hof,Xa,Xa,Xb ab];rw[show((0:Int) != 0)=false from rfl,Wa,We (p:=pgi h0.c a>=_) ab,Wa,Wa];have⟨b,hbp,eb,hb'⟩:=Xgv (N:=N) (w:=w) (i:=pgi h0.c a) hN htl ab ab J.sp;simp only[Xb (p:=w.h.p.length<=140737488355328) ab];rw[hb',eb,Xa,Xa];cases b with
 |true=>simp only[Wc,QcO,Xb (p:=w.q.length*8<=140737488355328) ab,Xb (p:=(w.q.length+1)*8<=140737488355328) ab,Xa];exact .inr ⟨_,a,rfl,z.push B (B.old a g).1 hq _,A.push Z _,ta,λh=>h,rfl,rfl⟩
 |false=>
 simp only[Wa,Xn (ps:=w.h.p) q0 ab,Xa];by_cases S:(pg w.h.p (pgi h0.c a)).k=2
 .simp only[Xp S,Wc,hlp,Xe (n:=pgi h0.c a+1) ab ab,Xb (p:=w.h.p.length*32<=140737488355328) ab];obtain⟨qs,eqs,hqs⟩:=Xf9 (N:=N) w a (ps:=w.h.p) ab N (pgi h0.c a+1) _ ab ab ab ((SameK.refl _).set q0 ab (wI (1-w.h.s)) (pg w.h.p (pgi h0.c a)).P);have hrc:=XrM J ab q0 ab S hqs.1 eqs;simp only[eqs,Xa,QcO,Xb (p:=w.q.length*8<=140737488355328) ab,Xb (p:=(w.q.length+1)*8<=140737488355328) ab];have q:=λrp=>(z.pages hqs).push (B.pages z hqs) (B.old a g).1 hq rp;refine .inr ⟨{w with h:={w.h with p:=qs},q:=w.q++[a],r:=⟨w.r.j,wI (w.r.K+1),w.r.F,w.r.E,w.r.f,w.r.y⟩},a,rfl,⟨(q _).ci,(q _).ob,(q w.r).sc,(q w.r).ql⟩,((A.pages hrc).push Z _),ta,λh=>h,rfl,rfl⟩
 have V:∀x∈l,(pg h0.p (pgi h0.c x)).k=1\/(pg h0.p (pgi h0.c x)).k=2:=λx D=>(R.st.obj.at_ x D).kind;have hpr:∀x∈l,0<=pgi h0.c x:=λx D=>(XL hp.conf (R.st.obj.at_ x D).rng).2.1;have hk1:(pg h0.p (pgi h0.c a)).k=1:=by
  rcases V a g with h|h
  .omega
  exact absurd (by rw[z.knd a g];omega) S
 have hsz:=hg.sz R.st g hk1;have hso:=(B.old a g).2;have hfit:=B.fit a (B.old a g).1;have H:=Xy w.h.w a;have e1:XB (Zd (wd w.h.w a))=szA w.h.w a:=H.1;simp only[Xj S,Wa,Xd4 (N:=N) ab tw,ZE,Xa,Z,ZG (N:=N) ab,XQ,e1];rw[show((0:Int) != 0)=false from rfl,Wa,Xb ab,o2,Xe (n:=(w.h.w.length:Int)-(a-4096)) ab ab,We ab,Wa,Xe (n:=a-4096+szA w.h.w a) ab ab,Xb ab,Wi,Wa,Xb ab];have eL:(((a-4096+szA w.h.w a).toNat-(a-4096).toNat:Nat):Int)=szA w.h.w a:=ab;have⟨y,ey,hy,_⟩:=XdG hN hb hp z (n:=szA w.h.w a) H.2.1 ab;rcases XsJ hN hb hp z (n:=szA w.h.w a) H.2.1 ab with⟨r,Y,er2,eg⟩|⟨j,u,ps,tk,rq,Y,eg⟩
 .simp[Y,Xa,er2,Ub,Wc,eL,eg]
 have hft:=Xvx (N:=N) (c:=h0.c) (c':=w.h.c) I.symm hp.conf ab (cp:=w.r.j) (X:=a-4096) (n:=szA w.h.w a) (i:=j) (u:=u) (ws:=w.h.w) (q:=w.q) (ps:=ps) (λx34 x35 x36 x37 x38 x39=>some (x34,x35,(Wu.mk (Wh.mk w.h.c x37 x38 w.h.s w.h.b) w.o tk x39 w.d (WS.mk x36 w.r.K w.r.F w.r.E w.r.f w.r.y)))) ab ab H.2.1 ab rq.rng.1 (by have:=rq.rng.2;have:=rq.len;omega) rq.fit.1 rq.fit.2 (by have:=rq.len;omega) hql;rw[FT,eL]at hft;rw[Y,Xa,eL,eg,Xa];rw[show((0:Int) != 0)=false from rfl,Wa,Xv];rw[Y]at ey;obtain rfl:=Wz ey;have⟨j',u',pq⟩:=hy rfl;have T:=XkE J ab (λj hj=>(z.tk j hj).2.2.1) ab pq;have hcp:=λv hv rp=>XnI (n:=szA w.h.w a) hp V hpr z B g rfl H.2.1 pq v hv rp;have⟨i1,i2,aw,fr,aw2,hwd⟩:=Xga (n:=szA w.h.w a) hp z B g rfl H.2.1 pq (wU (wU (4*Xc h0.c j u)+2));have en:szA w.h.w a=(((szA w.h.w a).toNat:Nat):Int):=ab;have hmv:=Xf3 (N:=N) hwl (Xc h0.c j u) a (szA w.h.w a).toNat ab ab;rw[←en,Wm ⟨i1,i2⟩]at hmv;have ol:=Xbz i1 i2;have hin2:inW (ovr w.h.w ((w.h.w.drop (ix a)).take (szA w.h.w a).toNat) (ix (Xc h0.c j u))) a:=by unfold inW;rw[ol];exact hin
 dsimp only at i1 i2 aw fr aw2 hwd;have hr1:4096<=Xc h0.c j u/\Xc h0.c j u<10000:=by unfold Yt at i2;omega
 have⟨f1,f2,f3⟩:=Xgx (v:=Xc h0.c j u) ab ab;have hOa:=(B.old a g).1;have off:∀b,O b->¬(Xc h0.c j u<=b/\b<Xc h0.c j u+szA w.h.w a):=λb hb=>by have:=aw2 b hb;have:=(B.fit b hb).2.1;omega
 have U:∀b,O b->b≠a->wd ((ovr w.h.w ((w.h.w.drop (ix a)).take (szA w.h.w a).toNat) (ix (Xc h0.c j u))).set (ix a) (wU (wU (4*Xc h0.c j u)+2))) b=wd w.h.w b:=λb hb G=>by rw[hwd b (B.fit b hb).1,Wj G,Wj (off b hb)]
 simp only[Wi,Wa];rw[hmv,Xa,Vs,Xa,Wj ab,KE (by grind) ab,Xa,Wm hin2,Xb ab,Xb ab];refine .inr ⟨_,Xc h0.c j u,rfl,(hcp _ (Xhw _ ab ab) _).2.2.2.2,⟨λb hb=>?_,λb hb hbq M=>?_,λb hb M=>?_,λx D=>?_,?_,λi hi hki=>?_,λi hi=>?_,λb hb hbp2=>?_,A.bm,A.ol⟩,⟨ab,ab⟩,λ_=>ab,rfl,hft⟩
 .rcases Wr.1 hb with hb|hb
  .rw[U b (B.queue b hb) (λe=>hq (e▸hb))];exact A.q b hb
  grind
 .by_cases G:b=a
  .grind
  rw[U b (B.old b hb).1 G]at M⊢;exact A.old b hb (λe=>hbq (WU _ e)) M
 .by_cases G:b=a
  .grind
  rw[U b (B.old b hb).1 G]at M⊢;exact A.fw b hb M
 .rcases W0 D with D|D
  .rcases Wr.1 D with D|D
   .rcases Wr.1 D with D|D
    .exact A.ws x (WQ D)
    exact A.ws x (WR (WQ D))
   exact A.ws x (WR D)
  grind
 .exact A.ss.trans T.ss
 .exact T.kd i hi (A.k1 i hi hki)
 .have:=OE.prm (w':=⟨_,_,_,_,_,_⟩) T rfl rfl rfl hi;rw[this.2];exact A.pr i this.1
 have hpm:=(OE.prm (w':=⟨_,_,_,_,_,_⟩) T rfl rfl rfl hbp2).1;have G:b≠a:=λe=>by grind
 rw[U b (B.old b hb).1 G];exact A.hw b hb hpm
end
section
variable {N:Nat}
def XqW{t:IB}{m:Int}(h0:0<=t.at_)(k:t.at_<=m)(o:m<=1000000){a:Int}(q:a<=1000000000):Ok (Qaj N t a) λr=>0<=r.1/\(1<=a->r.1<a)/\0<=r.2.at_/\r.2.at_<=m+1:=by
 refine Wn (λ_=>Wd ⟨ac,λh=>ab,h0,by grind⟩) λf=>?_;have f:=WM f;have rest:∀x:Int,Ok (grd (a≠0) <| grd (a≠0) <| some (((wI ((x.tmod a)+a)).tmod a),(IB.mk t.L (wI (t.at_+1))))) λr=>0<=r.1/\(1<=a->r.1<a)/\0<=r.2.at_/\r.2.at_<=m+1:=by
  intro x;have s:=Int.tmod_lt_of_pos x (show 0<a by omega);have b2:-a<x.tmod a:=by have:=Int.tmod_lt_of_pos (-x) (show 0<a by omega);rw[Int.neg_tmod]at this;omega
  have e:=Xe (n:=x.tmod a+a) ab ab;have g:=Xe (n:=t.at_+1) ab ab;have c1:=Int.tmod_lt_of_pos (x.tmod a+a) (show 0<a by omega);have j:=Int.tmod_nonneg a (show 0<=x.tmod a+a by omega);refine Ue ab (Ue ab (Wd ?_));simp only[e,g];exact⟨j,λ_=>c1,ab,ab⟩
 refine Is (Wn (λh=>Ok.get h0 (Ww h) λp _=>rest p) λ_=>rest _)
def TA(m:Int)(t:IB):Prop:=0<=t.at_/\t.at_<=m
def nxp{t:IB}{m a:Int}(h:TA m t)(g:m<=1000000)(e:1<=a)(j:a<=1000000000):Ok (Qaj N t a) λr=>0<=r.1/\r.1<a/\TA (m+1) r.2:=(XqW h.1 h.2 g j).mono λr f=>⟨f.1,f.2.1 e,f.2.2⟩
def TA.le{t:IB}{m n:Int}(h:TA m t)(e:m<=n):TA n t:=⟨h.1,by have:=h.2;omega⟩
def XaK{p:Io}{t:IB}{m:Int}(hw:1<=p.w.length)(B:p.w.length<=1000)(h:TA m t)(E:m+5<=1000000):Ok (Qb0 N p t) λr=>TA (m+3) r.2:=by
 have k2:∀(k:IB) (o:Bool),TA (m+1) k->Ok (bif o then(bnd (Qaj N k (p.w.length:Int)) λv=>bnd (Xd p.w v.1) λq=>some (q,v.2))else bnd (Qaj N k (if 6<(p.w.length:Int)then 6 else(p.w.length:Int))) λg=>bnd (Xd p.w (wI ((wI ((p.w.length:Int)-1))-g.1))) λs=>some (s,g.2)) λr=>TA (m+3) r.2:=by
  intro k o x;refine Wn (λ_=>Uw (nxp x ab ab ab) λy e=>Ok.get e.1 e.2.1 λ_ _=>Wd (e.2.2.le ab)) λ_=>?_;refine Uw (nxp x ab ab ab) λy e=>?_;have G:y.1<(p.w.length:Int):=by have:=e.2.1;split at this<;>omega
  have h0:=e.1;rw[Xe (n:=(p.w.length:Int)-1) ab ab,Xe (n:=(p.w.length:Int)-1-y.1) ab ab];exact Ok.get ab ab λ_ _=>Wd (e.2.2.le ab)
 refine Uw (nxp h ab ab ab) λy e=>Wn (λ_=>Uw (nxp e.2.2 ab ab ab) λz f=>Ok.get f.1 f.2.1 λ_ _=>Wd (f.2.2.le ab)) λ_=>Wn (λ_=>?_) λ_=>?_
 .exact Uw (nxp e.2.2 ab ab ab) λz f=>Ok.get f.1 f.2.1 λ_ _=>Uw (nxp f.2.2 ab ab ab) λu D=>Wd (D.2.2.le ab)
 refine Oo (λo=>k2 _ o e.2.2) λH A=>Ut (A _) (Oo (λI=>A _) λj h=>Ut (h _) (h _))
def XqX{p:Io}{t:IB}{m:Int}(hw:1<=p.w.length)(f:p.w.length<=1000)(h:TA m t)(O:m+30<=1000000):Ok (QcW N p t) λr=>TA (m+20) r.2:=by
 refine Uw (nxp h ab ab ab) λR g=>Ok.get g.1 g.2.1 λA _=>Wn (λ_=>?_) λ_=>?_
 .refine Uw (nxp g.2.2 ab ab ab) λo z=>?_;have e:=Xt z.1 ab;refine Ue ab ?_;have S:1<=Ke .i64 1 (wU o.1)/\Ke .i64 1 (wU o.1)<=1000:=by rw[e];have a:=z.1;have b:=z.2.1;have c:o.1=0\/o.1=1\/o.1=2\/o.1=3:=ab;rcases c with c|c|c|c<;>rw[c]<;>decide
  exact Uw (nxp z.2.2 ab ab ab) λT H=>Wd (H.2.2.le ab)
 refine Oo (λU=>Wn (λ_=>?_) λ_=>Wn (λ_=>?_) λ_=>?_) λj h=>Ut (h _) (h _)
 .exact Uw (nxp g.2.2 ab ab ab) λV I=>Uw (nxp I.2.2 ab ab ab) λW G=>Ut (Uw (nxp G.2.2 ab ab ab) λY J=>Wd (J.2.2.le ab)) (Wd (G.2.2.le ab))
 .exact Uw (nxp g.2.2 ab ab ab) λZ K=>Wd (K.2.2.le ab)
 refine Uw (XaK hw f g.2.2 ab) λq B=>Uw (nxp B ab ab ab) λD E=>Uw (nxp E.2.2 ab ab ab) λL s=>?_;have k:∀(l:List Int) (at_ c:Int),TA (m+12) ⟨l,at_⟩->Ok (bif (A==10)then(bnd (Qb0 N p (IB.mk l at_)) λu=>
  some ((Ow.mk A q.1 u.1 c),u.2))
 else some ((Ow.mk A q.1 (wU D.1) c),(IB.mk l at_))) λr=>TA (m+20) r.2:=λl at_ c ht=>
  Ut (Uw (XaK hw f ht ab) λy v=>Wd (v.le ab)) (Wd (ht.le ab))
 refine Is (Ut (Uw (XaK hw f s.2.2 ab) λy v=>k _ _ _ (v.le ab)) (Uw (nxp s.2.2 ab ab ab) λM x=>Ut (Uw (XaK hw f x.2.2 ab) λy v=>k _ _ _ (v.le ab)) (k _ _ _ (x.2.2.le ab))))
structure PB(k:Nat)(p:Io):Prop where
 env:EB p.N
 wor:WB k p.z
 ty:KL p
 w1:1<=p.w.length
 w2:p.w.length<=k+1
def Xoq(a b:Uj)(op v e:Int):Ok (QeK N a b op v e) λ_=>True:=by
 have k2:∀x y:Bool,Ok (bif (op==19)then(bif (e==0)then some (OB.mk x y v)
  else some (OB.mk x y 0))
  else some (OB.mk x y 0)) λ_=>True:=λx y=>Ut (Ut (Wd trivial) (Wd trivial)) (Wd trivial)
 refine Oo (λx=>Oo (λy=>k2 x y) λj h=>Ut (h _) (h _)) λj h=>Ut (h _) (Ut (h _) (h _))
def Xt5(hN:NB N){k:Nat}{p:Io}(hp:PB k p)(o:k+1<=900){d:Ow}(j:V1 d):Ok (QbT N p d) λr=>PB (k+1) r.1:=by
 have ty:=λr (e:QbT N p d=some r)=>QjN (N:=N) hp.ty j r e;have main:Ok (QbT N p d) λr=>EB r.1.N/\WB (k+1) r.1.z/\1<=r.1.w.length/\r.1.w.length<=k+1+1:=by
  have w1:=hp.w1;have w2:=hp.w2;have up:=hp.wor.up o;rw[QbT];refine Wn (λ_=>?_) λ_=>?_
  .refine Uw (XcB hN hp.env) λA v=>Is (Ut (Uw (V5 hN hp.wor hp.ty.2.1) λB x=>Wd ⟨v,x.up o,w1,IV w2⟩) (Wd ⟨hp.env,up,w1,IV w2⟩))
  refine WJ (XnT hN hp.env _ _ _ _) λf y g=>Uw (Xoq _ _ _ _ _) λq _=>Uw (XhQ hN hp.wor o hp.ty.2.1 d.Op j.1 j.2.1 j.2.2 q) λs u=>?_;have k2:∀w:WO,WB (k+1) w->Ok (α:=Io×Int×Int) (bif (f.2.2==0)then(bif (f.2.1 != 0)then(grd (p.w.length*8<=140737488355328) <| grd ((p.w.length+1)*8<=140737488355328) <| some ((Io.mk f.1 w (p.w++[f.2.1])),f.2.1,f.2.2))else some ((Io.mk f.1 w p.w),f.2.1,f.2.2))else some ((Io.mk p.N w p.w),f.2.1,f.2.2)) λr=>EB r.1.N/\WB (k+1) r.1.z/\1<=r.1.w.length/\r.1.w.length<=k+1+1:=by
   intro w hw;refine Ut (Ut (Ue ab (Ue ab (Wd ⟨g,hw,?_,?_⟩))) (Wd ⟨g,hw,w1,by grind⟩)) (Wd ⟨hp.env,hw,w1,by grind⟩)
   .simp
   simp_all
  exact Is (Ut (k2 s.1 u) (k2 p.z up))
 have⟨r,e,h⟩:=main;exact⟨r,e,h.1,h.2.1,(ty r e).1,h.2.2.1,h.2.2.2⟩
end
section
variable {N:Nat}
def Xl8{t:IB}{m:Int}(h:TA m t)(g:m+5<=1000000):Ok (Qfh N t) λr=>TA (m+2) r.2:=by exact Uw (nxp h ab ab ab) λy e=>Ok.get e.1 e.2.1 λ_ _=>Uw (nxp e.2.2 ab ab ab) λz f=>Ok.get f.1 f.2.1 λ_ _=>Wd (f.2.2.le ab)
def Xor(c:WP):Ok (QeS N c) λr=>EB r.1:=by
 rw[QeS,Qf7,Zg,Xa];refine WJ (Q:=λr:Wh×Int=>HB r.1) ?_ λy _ g=>Wd ⟨g,ZR,XbB,XbB,ac,ac⟩;refine Wn (λ_=>Wd Kj) λf=>?_;have f:XU c=true:=by simpa using f
 have h:=Xh.1 f;have j:=XE f (i:=0) ab ab;have e:=Xe (n:=c.p*c.W) ab ab;refine Ue ab (Ue ab (Wd ⟨?_,?_⟩))
 .rw[W9,e];omega
 grind
def Xh5(c:WP):Ok (Qf8 N c) λr=>WB 0 r.1:=by
 rw[Qf8,Zg,Xa];have z:∀c:WP,WB 0 ⟨c,[],zL,zT,zT,[],[]⟩:=λc=>⟨ab,ac,λx e=>by simp_all,ZR,by simp[zT],by simp[zT],ac,ac⟩
 exact Ut (Wd (z _)) (Wd (z _))
def Xos{t:IB}{m:Int}(h:TA m t)(o:m+5<=1000000):Ok (Qbi N t) λr=>PB 0 r.1/\TA (m+3) r.2:=by
 have main:Ok (Qbi N t) λr=>EB r.1.N/\WB 0 r.1.z/\1<=r.1.w.length/\r.1.w.length<=1/\TA (m+3) r.2:=by rw[Qbi];refine Uw (Xl8 h o) λq j=>Uw (Xor _) λs g=>Uw (Xh5 _) λu f=>Uw (nxp j ab ab ab) λv k=>Wd ⟨⟨g.heap,⟨g.loc.1,ac,g.loc.2.2⟩,g.glo,g.wea,g.pins,g.roots⟩,⟨f.kk,f.things,f.fields,⟨f.loc.1,ac,f.loc.2.2⟩,f.gloK,f.weaK,f.marksK,f.rootsK⟩,ac,ac,k.2.2.le ab⟩
 have⟨r,e,j,g,f,k,p⟩:=main;exact⟨r,e,⟨j,g,Qh6 r e,f,k⟩,p⟩
end
section
variable {N:Nat}{h:Wh}{i:Int}{l:List Int}
def XaL(hN:NB N){h:Wh}(hb:HB h)(ep:Qaa N h=some true){a:Int}(f:IF h a):Qao N h a=some (hdA h.w a,0):=by
 have hp:=Xo hN hb ep;have j:=f.rng;have⟨_,o,s,v,x⟩:=XL hp.conf j;have q:=hp.pages;have hw:=hp.words;have e:=f.kind;have y:=f.used;have g:=Xy h.w a;have z:=Xh.1 hp.conf;have r:XB (Zd (wd h.w a))=szA h.w a:=g.1;rw[Qao,ep,Xa,Wi,Wa,KR,hp.conf,Wj ac,Wm j,Xa];rw[show(a-4096) / h.c.W=pgi h.c a from rfl,show(a-4096) % h.c.W=pgo h.c a from rfl];rw[Xn o ab,Xa,Yg (by have:=hb.1;unfold BIG;omega),Xa,Wm (by unfold inW;omega),ZE,Xa,Xv,XQ,Xa];rw[show h.w.getD (ix a) 0=wd h.w a from rfl,f.ok,r,We (show¬pgo h.c a>=(pg h.p (pgi h.c a)).u by omega),Wi];rcases e with e|e
 .have:=f.small e;rw[show((pg h.p (pgi h.c a)).k != 1)=false by grind,Wa,Xp e,Wc,Xe (n:=pgo h.c a+szA h.w a) ab ab,We ab,Wa,show((pg h.p (pgi h.c a)).k==2)=false by grind,Wa];rfl
 have:=f.large e;rw[show((pg h.p (pgi h.c a)).k != 1)=true by grind,Wc,show((pg h.p (pgi h.c a)).k != 2)=false by grind,Wa,Xj ab,Wa,Xp e,Wc,this.1,this.2];simp;rfl
def Chn(ws:List Int):Int->List Int->Int->Prop
 |p,[],q=>p=q
 |p,a::l,q=>a=p/\okH (wd ws a)=true/\Chn ws (a+szA ws a) l q
def Chn.le{ws:List Int}:∀{l:List Int} {p q:Int},Chn ws p l q->p<=q/\∀a∈l,p<=a/\a+szA ws a<=q/\okH (wd ws a)=true
 |[],p,q,h=>⟨by have:p=q:=h;omega,ac⟩
 |a::l,p,q,⟨e,f,h⟩=>by have⟨g,j⟩:=h.le;have:=(Xy ws a).2.1;grind
def Chn.pw{ws:List Int}:∀{l:List Int} {p q:Int},Chn ws p l q->l.Pairwise λa b=>a+szA ws a<=b
 |[],_,_,_=>.nil
 |a::l,p,q,⟨_,_,h⟩=>U8.2 ⟨λb hb=>(h.le.2 b hb).1,h.pw⟩
def Chn.len{ws:List Int}:∀{l:List Int} {p q:Int},Chn ws p l q->p+l.length<=q
 |[],p,q,h=>by have:p=q:=h;simp_all
 |a::l,p,q,⟨e,_,h⟩=>by have:=h.len;have:=(Xy ws a).2.1;grind
def Chn.app{ws:List Int}:∀{l m:List Int} {p q r:Int},Chn ws p l q->Chn ws q m r->Chn ws p (l++m) r
 |[],m,p,q,r,h,f=>by have:p=q:=h;simp_all
 |a::l,m,p,q,r,⟨e,g,h⟩,f=>⟨e,g,h.app f⟩
def Chn.congr{ws vs:List Int}:∀{l:List Int} {p q:Int},Chn ws p l q->(∀a∈l,wd vs a=wd ws a)->Chn vs p l q
 |[],_,_,h,_=>h
 |a::l,p,q,⟨e,j,h⟩,hw=>by
  have f:=hw a ac;have g:szA vs a=szA ws a:=by unfold szA hdA;rw[f]
  exact⟨e,by simp_all,by rw[g];exact h.congr λb hb=>hw b (WT _ hb)⟩
structure Oy(h:Wh)(i:Int)(l:List Int):Prop where
 none:(pg h.p i).k=0\/(pg h.p i).k=3->l=[]
 small:(pg h.p i).k=1->Chn h.w (Xc h.c i 0) l (Xc h.c i (pg h.p i).u)
 large:(pg h.p i).k=2->l=[Xc h.c i 0]/\okH (wd h.w (Xc h.c i 0))=true/\szA h.w (Xc h.c i 0)=(pg h.p i).u
def Xee(hp:Uv h)(h0:0<=i)(f:i<h.p.length)(g:(pg h.p i).k=1){o:Int}(j:0<=o)(e:okH (wd h.w (Xc h.c i o))=true)(r:o+szA h.w (Xc h.c i o)<=(pg h.p i).u):IF h (Xc h.c i o):=by have s:=(hp.pgs i h0 f).small g;have v:=Xy h.w (Xc h.c i o);have q:=hp.pages;have⟨x,y⟩:=Yd (c:=h.c) hp.conf (p:=i) (o:=o) j ab;have z:=XE hp.conf h0 ab;refine⟨by unfold Xc;omega,by simp_all,e,by grind,λ_=>by simp_all,λh=>by simp_all⟩
def Xef(hp:Uv h)(h0:0<=i)(g:i<h.p.length)(j:(pg h.p i).k=2)(e:okH (wd h.w (Xc h.c i 0))=true)(q:szA h.w (Xc h.c i 0)=(pg h.p i).u):IF h (Xc h.c i 0):=by have r:=Xy h.w (Xc h.c i 0);have f:=hp.pages;have s:=Xh.1 hp.conf;have⟨v,x⟩:=Yd (c:=h.c) hp.conf (p:=i) (o:=0) ab ab;have y:=XE hp.conf h0 ab;refine⟨by unfold Xc;omega,by simp_all,e,by grind,λh=>by simp_all,λ_=>by simp_all⟩
def XkF(hN:NB N)(hb:HB h)(ep:Qaa N h=some true)(h0:0<=i)(g:i<h.p.length)(j:(pg h.p i).k=1):∀(n:Nat) (o:Int) (v t:List Int),0<=o->o<=64->(65-o).toNat<n->(v.length:Int)<=o->Chn h.w (Xc h.c i o) t (Xc h.c i (pg h.p i).u)->Qah N h i (pg h.p i) n o v=some (.nxt (v++t))
 |0,o,v,t,_,_,r,_,_=>by omega
 |n+1,o,v,t,s,G,r,H,f=>by
  have hp:=Xo hN hb ep;have I:=(hp.pgs i h0 g).small j;have x:=hp.pages;have y:=Xh.1 hp.conf;rw[Qah];cases t with
  |nil=>have e:Xc h.c i o=Xc h.c i (pg h.p i).u:=f;unfold Xc at e;simp_all
  |cons a t=>
   obtain⟨rfl,q,f⟩:=f;have z:=f.le.1;have A:=Xy h.w (Xc h.c i o);have B:Xc h.c i o=4096+i*h.c.W+o:=rfl;have J:Xc h.c i (pg h.p i).u=4096+i*h.c.W+(pg h.p i).u:=rfl;have D:o+szA h.w (Xc h.c i o)<=(pg h.p i).u:=ab;have E:=Xee hp h0 g j s q D;rw[Wg (show o<(pg h.p i).u by omega),Wc,Z7,hp.conf,Xa,Wj ac,Wm ab];simp only[XaL hN hb ep E,Xa,show((0:Int) != 0)=false from rfl,Wa];rw[Xb ab,show((pg h.p i).k==2)=false by simp_all,Wa,XQ,Xa,A.1,Xe ab ab];have e:Xc h.c i o+szA h.w (Xc h.c i o)=Xc h.c i (o+szA h.w (Xc h.c i o)):=by rw[B];unfold Xc;omega
   rw[e]at f;rw[XkF hN hb ep h0 g j n _ _ t ab ab ab (by grind) f,W4];rfl
def Qg6(hN:NB N)(hb:HB h)(ep:Qaa N h=some true)(h0:0<=i)(e:i<h.p.length)(p:Oy h i l):Qaf N h i=some (l,0):=by
 have hp:=Xo hN hb ep;have j:=(hp.pgs i h0 e).kind;have f:=hN;unfold NB at f;rw[Qaf,ep,Xa,Wi,Wa,We ab,Wa,We ab,Wa,Xn h0 e,Xa];by_cases k0:(pg h.p i).k=0
 .rw[p.none (.inl k0),k0];rfl
 by_cases g:(pg h.p i).k=3
 .rw[p.none (.inr g),g];rfl
 rw[Xj k0,Xj g,Wa,Wa];by_cases k1:(pg h.p i).k=1
 .rw[XkF hN hb ep h0 e k1 N 0 [] l ab ab ab ac (p.small k1),Xa,Xl];rfl
 have k2:(pg h.p i).k=2:=ab;obtain⟨rfl,o,q⟩:=p.large k2;have r:=Xef hp h0 e k2 o q;have u:=Xy h.w (Xc h.c i 0);have s:=hp.pages;have v:=Xh.1 hp.conf;obtain⟨n,rfl⟩:∃n,N=n+1:=⟨N-1,ab⟩
 rw[Qah,Wg ab,Wc,Z7,hp.conf,Xa,Wj ac,Wm ab];simp only[XaL hN hb ep r,Xa,show((0:Int) != 0)=false from rfl,Wa];rw[Xb ac,k2];simp[Xa,Xl]
def Xeg(hN:NB N)(hb:HB h)(ep:Qaa N h=some true)(h0:0<=i)(q:i<h.p.length)(s:(pg h.p i).k=1):∀(n:Nat) (o:Int) (v r:List Int),0<=o->o<=(pg h.p i).u->Qah N h i (pg h.p i) n o v=some (.nxt r)->∃t,r=v++t/\Chn h.w (Xc h.c i o) t (Xc h.c i (pg h.p i).u)
 |0,o,v,r,_,_,e=>by simp_all[Qah]
 |n+1,o,v,r,A,L,e=>by
  have hp:=Xo hN hb ep;have M:=(hp.pgs i h0 q).small s;have B:=hp.pages;have D:=Xh.1 hp.conf;have E:Xc h.c i o=4096+i*h.c.W+o:=rfl;have O:Xc h.c i (pg h.p i).u=4096+i*h.c.W+(pg h.p i).u:=rfl;rw[Qah]at e;by_cases f:o<(pg h.p i).u
  .rw[Wg f,Wc,Z7,hp.conf,Xa,Wj ac,Wm ab]at e;have⟨y,G,H⟩:=Xcw hN hb (Xc h.c i o);simp only[G,Xa]at e;by_cases x:y.2=0;case neg=>grind
   have⟨_,_,g,hd⟩:=H x;rw[x,show((0:Int) != 0)=false from rfl,Wa]at e;by_cases I:(v.length+1)*8<=140737488355328;case neg=>unfold grd at e;simp_all
   have j:=Xy h.w (Xc h.c i o);have⟨J,K⟩:=Yd (c:=h.c) hp.conf (p:=i) (o:=o) A ab;have z:=g.small (by simp_all);rw[J,K]at z;rw[Xb I,show((pg h.p i).k==2)=false by simp_all,Wa,hd,XQ,Xa,j.1,Xe ab ab]at e;obtain⟨t,rfl,R⟩:=Xeg hN hb ep h0 q s n _ _ r ab z e;have S:Xc h.c i o+szA h.w (Xc h.c i o)=Xc h.c i (o+szA h.w (Xc h.c i o)):=by rw[E];unfold Xc;omega
   exact⟨Xc h.c i o::t,ac,rfl,g.ok,by simp_all⟩
  rw[We f,Wa]at e;obtain rfl:=Ex.nxt.inj (Wz e);exact⟨[],ac,by show _=_;omega⟩
def Xgy(hN:NB N)(hb:HB h)(ep:Qaa N h=some true)(h0:0<=i)(g:i<h.p.length)(e:Qaf N h i=some (l,0)):Oy h i l:=by
 have hp:=Xo hN hb ep;have B:=(hp.pgs i h0 g).small;have⟨r,D,G⟩:=QkU hN hb i;rw[e]at D;obtain rfl:=Wz D;have⟨⟨w,_,_⟩,_,_⟩:=G.2.2 hp;rw[Qaf,ep,Xa,Wi,Wa,We ab,Wa,We ab,Wa,Xn h0 g,Xa]at e;refine⟨λk=>?_,λk1=>?_,λk2=>?_⟩
 .grind
 .rw[k1,show((1:Int)==0)=false from rfl,show((1:Int)==3)=false from rfl,Wa,Wa]at e;cases j:Qah N h i (pg h.p i) N 0 []with
  |none=>simp_all[j,Kq]
  |some x=>
   rw[j,Xa]at e;cases x with
   |ret a=>
    have q:=(QkT hN hb hp h0 g (.inl k1) N 0 [] ab (by unfold NB at hN;omega) ⟨⟨ac,ac,ac⟩,λa s=>by simp at s,ac,ac⟩ (λk=>(B k).1) (λ_=>rfl))
    have⟨z,E,f⟩:=q;rw[j]at E;obtain rfl:=Wz E;have f:a=([],19):=f;simp_all[Xq,f]
   |nxt v=>
    rw[Xl]at e;obtain rfl:v=l:=by simpa using e
    obtain⟨t,rfl,L⟩:=Xeg hN hb ep h0 g k1 N 0 [] _ ab (B k1).1 j;omega
 have M:=Xh.1 hp.conf;have H:=hp.pages;obtain⟨n,rfl⟩:∃n,N=n+1:=⟨N-1,by unfold NB at hN;omega⟩
 rw[Qah]at e;have I:=(hp.pgs i h0 g).large k2;have A:0<(pg h.p i).u:=by
  apply Classical.byContradiction;intro O;have:Xx h.c (pg h.p i).u = -1:=by unfold Xx;rw[Wj ab]
  omega
 rw[Wg A,Wc,Z7,hp.conf,Xa,Wj ac,Wm ab]at e;have⟨y,J,R⟩:=Xcw hN hb (Xc h.c i 0);simp only[J,Xa]at e;by_cases f:y.2=0;case neg=>simp_all[Xk,f,Wc,Xa,Xq]
 rw[f,show((0:Int) != 0)=false from rfl,Wa,Xb ac,k2,show((2:Int)==2)=true from rfl,Wc,Xa,Xl]at e;obtain rfl:[Xc h.c i 0]=l:=by simp_all
 have s:=w _ (Uc.2 rfl);have⟨K,S⟩:=Yd (c:=h.c) hp.conf (p:=i) (o:=0) ab ab;have:=s.large (by simp_all);rw[K]at this;exact⟨rfl,s.ok,this.2⟩
end
def Stt(h:Wh)(a:Int):Prop:=∃i l,0<=i/\i<(h.p.length:Int)/\Oy h i l/\a∈l
def Obb(h:Wh)(a:Int):Prop:=Stt h a/\(hdA h.w a).k≠0
def XcH(h:Wh)(i a:Int):Prop:=((pg h.p i).k=1->szA h.w a<=smC h.c)/\((pg h.p i).k=2->(hdA h.w a).k≠0)
def ZS(p:Wp):Bool:=p.k==1&&decide (p.P>0)
structure GX(N:Nat)(h:Wh):Prop where
 ep:Qaa N h=some true
 ps:∀i,0<=i->i<(h.p.length:Int)->∃l,Oy h i l
 sp:∀i,0<=i->i<(h.p.length:Int)->(pg h.p i).k≠0->(pg h.p i).s=h.s
 cl:∀i l,0<=i->i<(h.p.length:Int)->Oy h i l->∀a∈l,XcH h i a
 dt:∀x,4096<=x->wd h.w x≠0->∃a,Stt h a/\a<=x/\x<a+Kh h a
 pt:∀a,Obb h a->∀j∈XJ (hdA h.w a),wd h.w (a+1+j)=0\/Obb h (wd h.w (a+1+j))
 cr:((h.p.countP ZS:Nat):Int)<=h.c.p / 4
section
variable {N:Nat}{h:Wh}
def Chn.fn{ws:List Int}:∀{l m:List Int} {p q:Int},Chn ws p l q->Chn ws p m q->l=m
 |[],[],_,_,_,_=>rfl
 |[],b::m,p,q,f,g=>by have e:p=q:=f;have:=g.len;grind
 |a::l,[],p,q,f,g=>by have e:p=q:=g;have:=f.len;grind
 |a::l,b::m,p,q,⟨j,_,f⟩,⟨k,_,g⟩=>by subst j;subst k;rw[f.fn g]
def Oy.fn{i:Int}{l m:List Int}(e:0<=(pg h.p i).k/\(pg h.p i).k<=3)(p:Oy h i l)(q:Oy h i m):l=m:=by
 by_cases k1:(pg h.p i).k=1
 .exact(p.small k1).fn (q.small k1)
 by_cases k2:(pg h.p i).k=2
 .rw[(p.large k2).1,(q.large k2).1]
 rw[p.none ab,q.none ab]
def Oy.at_(hp:Uv h){i:Int}{l:List Int}(h0:0<=i)(e:i<h.p.length)(p:Oy h i l){a:Int}(f:a∈l):IF h a/\pgi h.c a=i:=by
 have s:=(hp.pgs i h0 e).kind;have v:=Xh.1 hp.conf;have g:∀o,Xc h.c i o=4096+i*h.c.W+o:=λ_=>rfl;by_cases k1:(pg h.p i).k=1
 .have c:=p.small k1;have x:=(hp.pgs i h0 e).small k1;have⟨c1,j⟩:=c.le;have⟨g1,g2,g3⟩:=j a f;have y:=Xy h.w a;have z:=g 0;have A:=g (pg h.p i).u;obtain⟨o,rfl⟩:∃o,a=Xc h.c i o:=⟨a-Xc h.c i 0,by grind⟩
  have B:=g o;exact⟨Xee hp h0 e k1 ab g3 ab,(Yd hp.conf ab ab).1⟩
 by_cases k2:(pg h.p i).k=2
 .obtain⟨rfl,q,r⟩:=p.large k2;rw[Uc.1 f];exact⟨Xef hp h0 e k2 q r,(Yd hp.conf ab ab).1⟩
 rw[p.none ab]at f;grind
def Stt.at_(hp:Uv h){a:Int}(s:Stt h a):IF h a:=by have⟨i,l,h0,e,p,f⟩:=s;exact(p.at_ hp h0 e f).1
def Stt.pars(hp:Uv h){a:Int}(s:Stt h a):∃l,Oy h (pgi h.c a) l/\a∈l:=by have⟨i,l,h0,e,p,f⟩:=s;have:=(p.at_ hp h0 e f).2;grind
def Xh6(hN:NB N){i:Int}(h0:0<=i)(o:i<h.p.length)(l:List Int)(r:l.length<=4096)(g:∀a∈l,IF h a)(j:∀a∈l,Qao N h a=some (hdA h.w a,0)):∀(n k:Nat),k<=l.length->l.length-k<n ->
 ∃e,QaU N h i l n (k:Int)=some e/\((∀a∈l.drop k,XcH h i a)->e=.nxt ())/\((¬∀a∈l.drop k,XcH h i a)->∃a,e=.ret a/\a≠0)
 |0,k,_,s=>by omega
 |n+1,k,x,s=>by
  rw[QaU];by_cases f:k<l.length;case neg=>rw[We ab,Wa,WZ ab];exact⟨_,rfl,λ_=>rfl,λe=>absurd ac e⟩
  have q:=Wt f;have⟨e,y,z,e3⟩:=Xh6 hN h0 o l r g j n (k+1) ab ab;have u:l[k]≠0:=by have:=(g _ q).rng;omega
  have v:=(Xy h.w l[k]).1;simp only[Wg (show(k:Int)<(l.length:Int) by omega),Wc,Xf,Wb f,Xa,j _ q,XQ,Xhn,Xn h0 o,Xg (show k<=140737488355328 by omega),v];rw[Wl f];have A:XcH h i l[k]↔((pg h.p i).k=1->szA h.w l[k]<=smC h.c)/\((pg h.p i).k=2->(hdA h.w l[k]).k≠0):=Iff.rfl;grind
def HeadP(h:Wh)(i r:Int):Prop:=0<=r/\r<=i/\(pg h.p r).k≠3/\∀m,r<m->m<=i->(pg h.p m).k=3
def HeadP.fn{i r s:Int}(a:HeadP h i r)(b:HeadP h i s):r=s:=by
 apply Classical.byContradiction;intro f;by_cases e:r<s
 .exact b.2.2.1 (a.2.2.2 s e b.2.1)
 exact a.2.2.1 (b.2.2.2 r ab a.2.1)
def Xgz(g:(pg h.p 0).k≠3)(j:h.p.length<=100000):∀(n:Nat) (i:Int),0<=i->i<h.p.length->i.toNat<n->∃r,QcM N h n i=some r/\HeadP h i r
 |0,i,_,_,o=>by omega
 |n+1,i,h0,q,o=>by
  rw[QcM,Xn h0 q,Xa];by_cases f:(pg h.p i).k=3
  .have:i≠0:=by rintro rfl;exact g f
   rw[Xp f,Wc,Xe ab ab];obtain⟨r,e,s,x,u,r3⟩:=Xgz g j n (i-1) ab ab ab;refine⟨r,e,s,ab,u,λm v w=>?_⟩;grind
  rw[Xj f,Wa];exact⟨i,rfl,h0,ab,f,λm v w=>ab⟩
structure Sl(N:Nat)(h:Wh)(i:Int):Prop where
 sp:(pg h.p i).k≠0->(pg h.p i).s=h.s
 ps:∃l,Oy h i l/\∀a∈l,XcH h i a
 dt:∀r,HeadP h i r->∀l c,Qaf N h r=some (l,c)->∀j:Nat,(j:Int)<h.c.W->XlW h i l (j:Int)=false->wdP h i j=0
def XsN(hN:NB N)(hb:HB h)(hp:Uv h){i:Int}(h0:0<=i)(g:i<h.p.length):∃a,Qed N h i=some a/\(a=0↔∀r,HeadP h i r->∀l c,Qaf N h r=some (l,c)->∀j:Nat,(j:Int)<h.c.W->XlW h i l (j:Int)=false->wdP h i j=0):=by
 have k:=hN;unfold NB at k;have L:=Xh.1 hp.conf;have A:=hb.2;have⟨hd,B,o⟩:=Xgz (N:=N) hp.first hb.2 N i h0 g ab;have⟨r,y,D,z⟩:=QfE hN hb hp hd o.1 (by have:=o.2.1;omega);have⟨⟨v,w,_⟩,_,_⟩:=D;have⟨u,E,x,G⟩:=XkA hN hp i h0 g r.1 ab v w;have⟨e,H,I,e3⟩:=Xgp hN hb hp h0 g u x N 0 ab ab;rw[Qed,QeU,B,Xa,Xa,y,Xa,E,Xa,show(0:Int)=((0:Nat):Int)from rfl,H,Xa];by_cases f:∃j,0<=j/\j<u.length/\u.getD j false=false/\wdP h i j≠0
 .obtain⟨a,rfl,J⟩:=I f;refine⟨a,by rw[Xq],λe=>absurd e J,λq=>?_⟩;grind
 have:=e3 f;subst this;refine⟨0,by rw[Xl];rfl,λ_ s K l c el j M O=>?_,λ_=>rfl⟩;rw[←o.fn K,y]at el;grind
def QpU(hN:NB N)(hb:HB h)(ep:Qaa N h=some true){i:Int}(h0:0<=i)(j:i<h.p.length):∃f,Qee N h i=some f/\(f.Fault=0↔Sl N h i):=by
 have hp:=Xo hN hb ep;rw[Qee,Xv,Xn h0 j];simp only[Xa];by_cases g:(pg h.p i).k≠0/\(pg h.p i).s≠h.s
 .rw[Xk g.1,Xk g.2];exact⟨_,rfl,λe=>absurd e ac,λq=>absurd (q.sp g.1) g.2⟩
 have u:(pg h.p i).k≠0->(pg h.p i).s=h.s:=λk=>Classical.byContradiction λs=>g ⟨k,s⟩;have I:∀{α:Type} (x y:α),(bif ((pg h.p i).k != 0)then(bif ((pg h.p i).s != h.s)then x else y)else y)=y:=by
  intro α x y;by_cases k0:(pg h.p i).k=0
  .simp_all
  simp_all
 rw[I];have⟨r,w,J,G⟩:=QfE hN hb hp i h0 j;rw[w,Xa];by_cases H:r.2=0;case neg=>
  rw[Xk H]
  refine⟨_,rfl,λe=>absurd e (by show¬(3:Int)=0;omega),λq=>?_⟩
  obtain⟨l,p,_⟩:=q.ps
  rw[Qg6 hN hb ep h0 j p]at w
  grind
 have z:Qaf N h i=some (r.1,0):=by rw[w,←H]
 have v:=Xgy hN hb ep h0 j z;have A:=(hp.pgs i h0 j).kind;rw[show(r.2 != 0)=false by simp_all,Wa];have⟨⟨B,D,_⟩,_,_⟩:=J;have⟨e,c1,K,L⟩:=Xh6 hN h0 j r.1 ab B D N 0 ab (by unfold NB at hN;omega);have c1:QaU N h i r.1 N 0=some e:=c1;rw[Qel,c1,Xa];by_cases E:∀a∈r.1,XcH h i a;case neg=>
  obtain⟨a,rfl,M⟩:=L E
  rw[Xq,Xa,Xk M]
  refine⟨_,rfl,λe=>absurd e (by show¬(5:Int)=0;omega),λq=>?_⟩
  obtain⟨l,p,q⟩:=q.ps
  rw[p.fn A v]at q
  simp_all
 have:=K E;subst this;rw[Xl,Xa];have⟨d,O,hd⟩:=XsN hN hb hp h0 j;rw[O,Xa];by_cases o:d=0
 .rw[show(d != 0)=false by simp_all,Wa];exact⟨_,rfl,λ_=>⟨u,⟨_,v,E⟩,hd.1 o⟩,λ_=>rfl⟩
 rw[Xk o];exact⟨_,rfl,λe=>absurd e ac,λq=>absurd (hd.2 q.dt) o⟩
def Xh7(hN:NB N)(hb:HB h)(ep:Qaa N h=some true):∀(n:Nat) (i:Int),0<=i->i<=h.p.length->(h.p.length-i).toNat<n->∃e,Qbc N h n i=some e/\((∀j,i<=j->j<h.p.length->Sl N h j)->e=.nxt ())/\((¬∀j,i<=j->j<h.p.length->Sl N h j)->∃f,e=.ret f/\f.Fault≠0)
 |0,i,_,_,o=>by omega
 |n+1,i,h0,z,o=>by
  have s:=hb.2;rw[Qbc];by_cases g:i<h.p.length;case neg=>rw[We g,Wa];exact⟨_,rfl,λ_=>rfl,λq=>absurd (λj a b=>ab) q⟩
  have⟨f,u,v⟩:=QpU hN hb ep h0 g;have⟨e,w,x,e3⟩:=Xh7 hN hb ep n (i+1) ab ab ab;rw[Wg g,Wc,u,Xa];by_cases k:f.Fault=0
  .rw[show(f.Fault != 0)=false by simpa using k,Wa,Xe ab ab,w];refine⟨e,rfl,λq=>x λj a b=>q j ab b,λq=>e3 λr=>q λj a b=>?_⟩;by_cases y:j=i
   .rw[y];exact v.1 k
   exact r j ab b
  grind
def Xeh(f:h.p.length<=100000):∀(n k c:Nat),k<=h.p.length->h.p.length-k<n->c<=k->Qa3 N h n (c:Int) (k:Int)=some (((c+(h.p.drop k).countP ZS:Nat):Int))
 |0,k,c,_,g,_=>by omega
 |n+1,k,c,j,g,o=>by
  rw[Qa3];by_cases e:k<h.p.length;case neg=>rw[We ab,Wa,WZ ab];simp
  have:=Xeh f n (k+1) c ab ab ab;have:=Xeh f n (k+1) (c+1) ab ab ab;rw[Xi e,Wc,Xf,Wb e,Xa,Xg ab,Xg ab,Wl e,U9];simp only[Xa];unfold ZS at *;grind
end
section
variable {N:Nat}{h:Wh}
def XgA(h:Wh)(a:Int):Kh h a<=szA h.w a:=by have:=(Xy h.w a).2.1;unfold Kh;omega
def XbN(hp:Uv h){a x:Int}(f:IF h a)(v:a<=x)(y:x<a+szA h.w a):HeadP h (pgi h.c x) (pgi h.c a)/\4096<=x/\x<4096+h.w.length:=by
 have⟨k,k1,k2,z,g⟩:=XcV hp f;have q:=f.rng;have A:=Ky hp f;have hw:=hp.words;have⟨e,r,B,D,E⟩:=XL hp.conf q;have⟨G,H,I,J,r3⟩:=XL (a:=x) hp.conf ab;have K:=f.kind;have le:pgi h.c a<=pgi h.c x:=by apply Classical.byContradiction;intro s;have:=Vt hp.conf (i:=pgi h.c x) (j:=pgi h.c a) (o:=h.c.W) (p:=0) ab ab ab;have L:Xc h.c (pgi h.c x) h.c.W=4096+pgi h.c x*h.c.W+h.c.W:=rfl;have u:Xc h.c (pgi h.c x) (pgo h.c x)=4096+pgi h.c x*h.c.W+pgo h.c x:=rfl;have e3:Xc h.c (pgi h.c a) 0=4096+pgi h.c a*h.c.W+0:=rfl;have e4:Xc h.c (pgi h.c a) (pgo h.c a)=4096+pgi h.c a*h.c.W+pgo h.c a:=rfl;omega
 have lt:pgi h.c x<pgi h.c a+k:=by apply Classical.byContradiction;intro s;have M:(pgi h.c a+k)*h.c.W<=pgi h.c x*h.c.W:=WW ab ab;have e3:Xc h.c (pgi h.c a+k) 0=4096+(pgi h.c a+k)*h.c.W+0:=rfl;have u:Xc h.c (pgi h.c x) (pgo h.c x)=4096+pgi h.c x*h.c.W+pgo h.c x:=rfl;omega
 refine⟨⟨r,le,ab,λm O R=>?_⟩,ab,ab⟩;have:=g (m-pgi h.c a) ab ab;grind
def Xot{ws:List Int}{x:Int}(h0:4096<=x)(h:wd ws x≠0):x<4096+ws.length:=by apply Classical.byContradiction;intro e;apply h;unfold wd ix;rw[Wk,WN ab];rfl
def Xh8(hN:NB N)(hb:HB h)(ep:Qaa N h=some true)(g:∀i,0<=i->i<(h.p.length:Int)->∃l,Oy h i l):∀(n:Nat) (i:Int) (v:List Int),0<=i->i<=h.p.length->(h.p.length-i).toNat<n->(v.length:Int)<=64*i ->
 ∃t,QaJ N h n i v=some (.nxt (v++t))/\∀a,a∈t↔∃j l,i<=j/\j<(h.p.length:Int)/\Oy h j l/\a∈l
 |0,i,v,_,_,q,_=>by omega
 |n+1,i,v,h0,z,q,A=>by
  have hp:=Xo hN hb ep;have s:=hp.pages;have u:=Xh.1 hp.conf;rw[QaJ];by_cases f:i<h.p.length;case neg=>
   rw[We f,Wa]
   exact⟨[],ac,λa=>⟨λe=>by grind,λ⟨j,l,a,b,_⟩=>ab⟩⟩
  have⟨l,pl⟩:=g i h0 f;have el:=Qg6 hN hb ep h0 f pl;have⟨r,k,_,o⟩:=QfE hN hb hp i h0 f;rw[el]at k;obtain rfl:=Wz k;have⟨t,et,ht⟩:=Xh8 hN hb ep g n (i+1) (v++l) ab ab ab (by grind);rw[Wg f,Wc,el,Xa,show((0:Int) != 0)=false from rfl,Wa,Xb ab,Xe ab ab,et,W4];refine⟨l++t,rfl,λa=>?_⟩;rw[Wr,ht];constructor
  .grind
  rintro⟨j,m,B,D,w,x⟩;by_cases y:j=i
  .subst y;rw[pl.fn (hp.pgs j h0 f).kind w];exact .inl x
  grind
def Xbe(hN:NB N)(hb:HB h)(ep:Qaa N h=some true)(f:∀i,0<=i->i<(h.p.length:Int)->∃l,Oy h i l):∃S L,ID N h S/\(∀a,a∈S↔Stt h a)/\QbB N h=some (S,0)/\Qal N h=some (L,0)/\L=Ye h S/\∀a,a∈L↔Obb h a:=by
 have g:=hN;unfold NB at g;have q:=hb.2;have⟨t,et,ht⟩:=Xh8 hN hb ep f N 0 [] ab ab ab ac;have est:QbB N h=some (t,0):=by rw[QbB,ep,Xa,Wi,Wa,et,Xa,Xl,W8]
 have⟨r,j,e,_,_⟩:=J5 hN hb;rw[est]at j;obtain rfl:=Wz j;have k:t.length<=4096:=e.len;have:=XaJ (N:=N) (h:=h) (t,0) (by grind) e.obj.ev N 0 [] ab (by grind) ac;rw[show((0:Nat):Int)=0 from rfl,WX,W8]at this;have o:∀a,a∈t↔Stt h a:=λa=>by rw[ht];rfl
 refine⟨t,Ye h t,e,o,est,?_,rfl,λa=>?_⟩
 .simp[Qal,est,Xa,this]
 unfold Ye Obb;simp[WY,o,YY,fnd]
def Ve(hN:NB N)(hb:HB h):Qbk N h=some true↔GX N h:=by
 have G:=hN;unfold NB at G;have⟨b,ep⟩:=Jf (N:=N) (h:=h) hN hb;cases b with
 |false=>rw[Qbk,Qe4,ep,Xa,Ub,Wc,Xa];exact⟨(λe=>by grind),λg=>by simp_all[g.ep]⟩
 |true=>
 have hp:=Xo hN hb ep;have hpl:=hp.pages;have hw:=hp.words;have hvc:=Xh.1 hp.conf;have⟨e,V,Y,e3⟩:=Xh7 hN hb ep N 0 ab ab ab;rw[Qbk,Qe4,ep,Xa,Wi,Wa,V,Xa];by_cases v:∀j,(0:Int)<=j->j<h.p.length->Sl N h j;case neg=>
  obtain⟨f,rfl,E⟩:=e3 v
  rw[Xq,Xa,Xj E]
  refine⟨(λe=>by grind),λg=>absurd (λi h0 o=>⟨g.sp i h0 o,?_,λr k l c el j H I=>?_⟩) v⟩
  .obtain⟨l,pl⟩:=g.ps i h0 o
   exact⟨l,pl,g.cl i l h0 o pl⟩
  .apply Classical.byContradiction;intro B
   unfold wdP at B
   have hm:=XE hp.conf (i:=i) h0 ab
   have ea:Xc h.c i 0=4096+i*h.c.W+0:=rfl
   have ej:Xc h.c i 0+(j:Int)=Xc h.c i j:=by unfold Xc;omega
   obtain⟨a,Z,a1,a2⟩:=g.dt _ ab B
   have z:=Z.at_ hp
   have u:=XbN hp (x:=Xc h.c i 0+j) z a1 (by have:=XgA h a;omega)
   rw[ej,(Yd hp.conf ab H).1]at u
   have:=k.fn u.1
   subst this
   obtain⟨m,pm,am⟩:=Z.pars hp
   have:=Qg6 hN hb ep k.1 (by have:=k.2.1;omega) pm
   rw[el]at this
   obtain rfl:l=m:=congrArg Prod.fst (Wz this)
   have:XlW h i l j=true:=Om.2 ⟨a,am,by rw[decide_eq_true_iff];omega⟩
   simp_all
 have:=Y v;subst this;rw[Xl];have A:∀i,0<=i->i<(h.p.length:Int)->∃l,Oy h i l:=λi h0 o=>by obtain⟨l,p,_⟩:=(v i h0 o).ps;grind
 obtain⟨S,L,hS,mS,eS,eL,rfl,mL⟩:=Xbe hN hb ep A;have⟨y,ey,hl,_,z,J,K⟩:=K0 hN hb;rw[eL]at ey;obtain rfl:=Wz ey;have⟨r,M,r2,r3⟩:=Xob hN hb ep (Ye h S,0) ab z J K N 0 ab ab;have M:Qbv N h (Ye h S,0) N 0=some r:=M;rw[Qdw,eL,Xa,M,Xa];by_cases s:∃a∈Ye h S,XaS h (Ye h S) a
 .obtain⟨f,rfl,E⟩:=r2 s;rw[Xq,Xa,Xk E,Wc,Xa,Xj E];refine⟨(λe=>by cases e),λg=>?_⟩;obtain⟨a,u,i,hi,O,hb2⟩:=s;rcases g.pt a ((mL a).1 u) i hi with q|q
  .exact absurd q O
  simp_all
 have:=r3 s;subst this;have D:=Xeh (N:=N) (h:=h) hb.2 N 0 0 ab ab ab;have D:Qa3 N h N 0 0=some (((0+(h.p.drop 0).countP ZS:Nat):Int)):=D;rw[Xl,Xa,show((Un.mk 0 0 0).Fault != 0)=false from rfl,Wa,D,Xa,WX,UE];have ed:wI (h.c.p.tdiv 4)=h.c.p / 4:=by rw[UW ab,Xe ab ab]
 by_cases I:((h.p.countP ZS:Nat):Int)<=h.c.p / 4
 .rw[We ab,Wa,Xa];refine⟨λ_=>⟨ep,A,λi h0 o=>(v i h0 o).sp,λi l h0 o p=>?_,λx h0 D=>?_,λa u j H=>?_,I⟩,λ_=>rfl⟩
  .have⟨m,p',q⟩:=(v i h0 o).ps;rw[p.fn (hp.pgs i h0 o).kind p'];omega
  .have hlt:=Xot h0 D;have⟨e,q0,q1,q2,q3⟩:=XL (a:=x) hp.conf ab;have⟨r,er,k⟩:=Xgz (N:=N) hp.first hb.2 N (pgi h.c x) q0 ab ab;have⟨l,pl⟩:=A r k.1 (by have:=k.2.1;omega);have el:=Qg6 hN hb ep k.1 (by have:=k.2.1;omega) pl;have hd:=(v _ q0 ab).dt r k l 0 el (pgo h.c x).toNat ab;have ex:Xc h.c (pgi h.c x) 0+((pgo h.c x).toNat:Int)=x:=by have V:Xc h.c (pgi h.c x) 0=4096+pgi h.c x*h.c.W+0:=rfl;have Y:Xc h.c (pgi h.c x) (pgo h.c x)=4096+pgi h.c x*h.c.W+pgo h.c x:=rfl;omega
   have hwd:wdP h (pgi h.c x) (pgo h.c x).toNat=wd h.w x:=by unfold wdP;rw[ex]
   cases R:XlW h (pgi h.c x) l ((pgo h.c x).toNat:Int)with
   |false=>grind
   |true=>have⟨a,u,T⟩:=Om.1 R;rw[decide_eq_true_iff]at T;exact⟨a,⟨r,l,k.1,by have:=k.2.1;omega,pl,u⟩,ab,ab⟩
  by_cases hz:wd h.w (a+1+j)=0
  .omega
  cases U:(Ye h S).contains (wd h.w (a+1+j))with
  |true=>simp_all
  |false=>exact absurd ⟨a,(mL a).2 u,j,H,hz,U⟩ s
 rw[Wg ab,Wc,Xa];exact⟨(λe=>by grind),λg=>absurd g.cr I⟩
end
def ZB(c:WP):List UB->Int->Int
 |[],_=>0
 |p::l,i=>(if pgi c p.a=i then p.M else 0)+ZB c l i
structure MX(N:Nat)(h:Wh)(pins:List UB):Prop where
 gx:GX N h
 len:pins.length<=64
 ob:∀p∈pins,Obb h p.a/\1<=p.M/\p.M<=1000
 nd:(pins.map (·.a)).Nodup
 sm:∀i,0<=i->i<(h.p.length:Int)->(pg h.p i).P=ZB h.c pins i
structure VX(N:Nat)(x:Uj):Prop where
 mx:MX N x.h x.P
 loc:Ym x.l=true
 glo:Yh x.g.e=true
 wea:Yh x.v.e=true
 gz:∀r∈Xr x.g.e,r≠0
 rr:∀r∈x.R,r=0\/Obb x.h r
 rl:∀r∈XA x.l.S,r=0\/Obb x.h r
 rg:∀r∈Xr x.g.e,r=0\/Obb x.h r
 rw_:∀r∈Xr x.v.e,r=0\/Obb x.h r
def Xei{α:Type}(f:α->Int)(l:List α):(∀(j:Nat) (g:j<l.length),YS (λp=>f p==f l[j]) l=j)↔(l.map f).Nodup:=by
 have key:∀(j:Nat) (g:j<l.length),YS (λp=>f p==f l[j]) l=j↔∀k(r:k<j),f (l[k]'ab)≠f l[j]:=by
  intro j g;unfold YS;cases e:l.findIdx? (λp=>f p==f l[j])with
  |none=>rw[IP]at e;have:=e l[j] (Wt g);simp at this
  |some m=>
   rw[UJ]at e;have⟨v,s,u⟩:=e;constructor
   .intro h k r w;have:m=j:=Int.ofNat.inj h;subst this;simp_all
   intro h;by_cases o:m<j
   .exact absurd (by simpa using s) (h m o)
   by_cases q:j<m
   .have:=u j q;simp at this
   show(m:Int)=j;omega
 rw[List.Nodup,W7];grind
section
variable {N:Nat}{h:Wh}
def Xh9(h:Wh)(pins:List UB)(L:List Int)(j:Nat):Prop:=∀e:j<pins.length,L.contains pins[j].a=true/\YS (λp=>p.a==pins[j].a) pins=j/\1<=pins[j].M/\pins[j].M<=1000
def Xia(hN:NB N)(hp:Uv h)(pins:List UB)(z:pins.length<=64)(y:List Int×Int)(L:y.1.length<=4096)(s:∀a∈y.1,IF h a):∀(n k:Nat) (v:List Int),k<=pins.length->pins.length-k<n->v.length=h.p.length->(∀i:Int,0<=i->0<=v.getD i.toNat 0/\v.getD i.toNat 0<=1000*k) ->
 ∃e,Qbd N h pins y n (k:Int) v=some e/\((∀j,k<=j->Xh9 h pins y.1 j)->∃g,e=.nxt g/\g.length=h.p.length/\∀i:Int,0<=i->i<(h.p.length:Int)->g.getD i.toNat 0=v.getD i.toNat 0+ZB h.c (pins.drop k) i)/\((¬∀j,k<=j->Xh9 h pins y.1 j)->e=.ret false)
 |0,k,v,O,R,A,_=>by omega
 |n+1,k,v,O,R,A,hb=>by
  have B:1000000<N:=by unfold NB at hN;omega
  rw[Qbd];by_cases f:k<pins.length;case neg=>
   rw[We ab,Wa,WZ ab]
   exact⟨_,rfl,λ_=>⟨v,rfl,A,λi _ _=>by simp[ZB]⟩,λq=>absurd (λj I S=>ab) q⟩
  have T:Xd pins (k:Int)=some pins[k]:=by rw[Xf,Wb f]
  simp only[Wg (show(k:Int)<(pins.length:Int) by omega),Wc,T,Xa,XY pins[k].a (show y.1.length<=1000000000 by omega) (show y.1.length<N by omega),Xgt pins pins[k].a ab B];have bad:¬Xh9 h pins y.1 k->∃e,some (Ex.ret false:Ex Bool (List Int))=some e/\((∀j,k<=j->Xh9 h pins y.1 j)->∃g,e=.nxt g/\g.length=h.p.length/\∀i:Int,0<=i->i<(h.p.length:Int)->g.getD i.toNat 0=v.getD i.toNat 0+ZB h.c (pins.drop k) i)/\((¬∀j,k<=j->Xh9 h pins y.1 j)->e=.ret false):=
   λq=>⟨_,rfl,λr=>absurd (r k (Uh k)) q,λ_=>rfl⟩
  cases D:y.1.contains pins[k].a with
  |false=>exact bad λq=>by rw[(q f).1]at D;grind
  |true=>
  by_cases x:YS (λp=>p.a==pins[k].a) pins=k;case neg=>rw[Xk x];exact bad λq=>x (q f).2.1
  rw[show(YS (λp=>p.a==pins[k].a) pins != (k:Int))=false by simpa using x,Wa];by_cases c1:pins[k].M<1
  .rw[Wg c1];exact bad λq=>by have:=(q f).2.2;omega
  rw[We c1,Wa];by_cases J:pins[k].M>1000
  .rw[Wg J];exact bad λq=>by have:=(q f).2.2;omega
  have U:=s _ (X5 D);have⟨V,u,W⟩:=KZ (N:=N) hp U;have E:Xd v (pgi h.c pins[k].a)=some (v.getD (pgi h.c pins[k].a).toNat 0):=by have w:(pgi h.c pins[k].a).toNat<v.length:=ab;rw[X1 u ab,Wk,Wb w];rfl
  have b1:=hb _ u;rw[We J,Wa,V,Xa,E,Xa,Xa,Xg ab,Xe ab ab];have o:∀i:Int,0<=i->(v.set (pgi h.c pins[k].a).toNat (v.getD (pgi h.c pins[k].a).toNat 0+pins[k].M)).getD i.toNat 0=(if pgi h.c pins[k].a=i then pins[k].M else 0)+v.getD i.toNat 0:=by
   intro i G;rw[Wk,U5];by_cases H:pgi h.c pins[k].a=i
   .rw[Wm ab,Wm ab,Wm H,←H];simp;omega
   rw[Wj ab,Wj H,←Wk];omega
  have⟨e,n1,n2,Y⟩:=Xia hN hp pins z y L s n (k+1) (v.set (pgi h.c pins[k].a).toNat (v.getD (pgi h.c pins[k].a).toNat 0+pins[k].M)) ab ab (by rw[WL];exact A) λi G=>by have:=hb i G;rw[o i G];split<;>omega
  rw[n1];have Z:Xh9 h pins y.1 k:=λ_=>⟨D,x,ab,ab⟩
  refine⟨e,rfl,λq=>?_,λq=>Y λr=>q λj I=>?_⟩
  .have⟨g,e1,e2,e3⟩:=n2 λj I=>q j ab;refine⟨g,e1,e2,λi K i1=>?_⟩;rw[e3 i K i1,o i K,Wl f,ZB];omega
  grind
def Xib(o:h.p.length<=100000)(v:List Int)(s:v.length=h.p.length):∀(n k:Nat),k<=h.p.length->h.p.length-k<n ->
 ∃e,QbC N h v n (k:Int)=some e/\((∀i:Int,k<=i->i<(h.p.length:Int)->(pg h.p i).P=v.getD i.toNat 0)->e=.nxt ())/\((¬∀i:Int,k<=i->i<(h.p.length:Int)->(pg h.p i).P=v.getD i.toNat 0)->e=.ret false)
 |0,k,_,u=>by omega
 |n+1,k,z,u=>by
  rw[QbC];by_cases f:k<h.p.length;case neg=>
   rw[We ab,Wa]
   exact⟨_,rfl,λ_=>rfl,λq=>absurd (λi a b=>ab) q⟩
  have g:Xd v (k:Int)=some (v.getD k 0):=by rw[Xf,Wk,Wb ab];rfl
  rw[Xi f,Wc,Xn ab ab,Xa,g,Xa,Xg ab];by_cases j:(pg h.p (k:Int)).P=v.getD k 0
  .have⟨e,w,x,e3⟩:=Xib o v s n (k+1) ab ab;rw[show((pg h.p (k:Int)).P != v.getD k 0)=false by simpa using j,Wa,w];refine⟨e,rfl,λq=>x λi a b=>q i ab b,λq=>e3 λr=>q λi a b=>?_⟩;by_cases y:i=k
   .subst y;exact j
   exact r i ab b
  grind
def XaM(hN:NB N)(hb:HB h)(pins:List UB):Qch N h pins=some true↔MX N h pins:=by
 have r:=hN;unfold NB at r;have s:h.p.length<=100000:=hb.2;rw[Qch];have⟨b,eb,E⟩:=Kz hN hb;rw[eb,Xa];cases b with
 |false=>exact⟨(λe=>by grind),λm=>by rw[(Ve hN hb).2 m.gx]at eb;grind⟩
 |true=>
 have gx:=(Ve hN hb).1 eb;have hp:=Xo hN hb gx.ep;obtain⟨S,L,U,mS,eS,eL,rfl,mL⟩:=Xbe hN hb gx.ep gx.ps;have⟨y,B,V,_,u,G,H⟩:=K0 hN hb;rw[eL]at B;obtain rfl:=Wz B;by_cases f:pins.length<=64;case neg=>exact⟨(λe=>by grind),λm=>absurd m.len f⟩
 rw[We ab,Wa,eL,Xa,Xb ab];have D:∀i:Int,(List.replicate (h.p.length:Int).toNat (0:Int)).getD i.toNat 0=0:=λi=>by grind
 have⟨e,I,J,e3⟩:=Xia hN hp pins f (Ye h S,0) ab u N 0 (List.replicate (h.p.length:Int).toNat 0) ab ab ac (λi _=>by simp_all);have w:Qbd N h pins (Ye h S,0) N 0 (List.replicate (h.p.length:Int).toNat 0)=some e:=I;rw[w,Xa];have K:∀(m:(∀p∈pins,Obb h p.a/\1<=p.M/\p.M<=1000)),(pins.map (·.a)).Nodup->∀j,0<=j->Xh9 h pins (Ye h S) j:=λm nd j _ g=>by have O:=m _ (Wt g);exact⟨by simp_all,(Xei (λp:UB=>p.a) pins).2 nd j g,O.2⟩
 by_cases k:∀j,0<=j->Xh9 h pins (Ye h S) j;case neg=>
  rw[e3 k,Xq]
  exact⟨(λe=>by grind),λm=>absurd (K m.ob m.nd) k⟩
 obtain⟨v,rfl,R,W⟩:=J k;have⟨e',f1,f2,T⟩:=Xib (N:=N) s v R N 0 ab ab;have x:QbC N h v N 0=some e':=f1;rw[Xl,x,Xa];have o:∀i:Int,0<=i->i<(h.p.length:Int)->v.getD i.toNat 0=ZB h.c pins i:=λi a b=>by simp_all
 have z:∀p∈pins,Obb h p.a/\1<=p.M/\p.M<=1000:=λp hp=>by obtain⟨j,g,rfl⟩:=Wv hp;have:=k j ab g;simp_all
 have A:(pins.map (·.a)).Nodup:=(Xei (λp:UB=>p.a) pins).1 λj g=>(k j ab g).2.1;by_cases q:∀i:Int,((0:Nat):Int)<=i->i<(h.p.length:Int)->(pg h.p i).P=v.getD i.toNat 0
 .rw[f2 q,Xl];exact⟨λ_=>⟨gx,f,z,A,λi a b=>(q i ab b).trans (o i a b)⟩,λ_=>rfl⟩
 rw[T q,Xq];exact⟨(λe=>by grind),λm=>absurd (λi a b=>(m.sm i ab b).trans (o i ab b).symm) q⟩
def Xbf(hN:NB N)(ht:HT h){l:List Int}(e:l.length<=1000000)(gx:GX N h):∃b,QbD N h l=some b/\(b=true↔∀r∈l,r=0\/Obb h r):=by have hb:=ht.hb;obtain⟨S,L,f,mS,eS,eL,rfl,mL⟩:=Xbe hN hb gx.ep gx.ps;refine⟨_,Zz hN ht ab ((Ve hN hb).2 gx) eL,?_⟩;simp_all
def Jg(hN:NB N){x:Uj}(ht:ET x):QbI N x=some true↔VX N x:=by
 have j:1000000<N:=by unfold NB at hN;omega
 have k:=ht.eb;have u:=YM k.loc;have w:=XZ x.g.e;have y:=XZ x.v.e;have z:=k.pins;have B:=k.roots;rw[QbI];have⟨b,eb,_⟩:=Va hN k.heap z;rw[eb,Xa];cases b with
 |false=>exact⟨(λe=>by grind),λm=>by rw[(XaM hN k.heap _).2 m.mx]at eb;grind⟩
 |true=>
 have mx:=(XaM hN k.heap _).1 eb;simp only[Wi,Wa,Ze k.loc j,YP k.glo j,YP k.wea j,XV k.glo j,XV k.wea j,YR k.loc j,Xa];cases el:Ym x.l with
 |false=>exact⟨(λe=>by grind),λm=>by simp_all[m.loc]⟩
 |true=>
 cases et:Yh x.g.e with
 |false=>exact⟨(λe=>by grind),λm=>by simp_all[m.glo]⟩
 |true=>
 cases p:Yh x.v.e with
 |false=>exact⟨(λe=>by grind),λm=>by simp_all[m.wea]⟩
 |true=>
 rw[el,Wc]at u;rw[et,Wc]at w;rw[p,Wc]at y;simp only[Wi,Wa,Wc];rw[XY 0 ab ab,Xa];cases s:(Xr x.g.e).contains 0 with
 |true=>exact⟨(λe=>by grind),λm=>absurd rfl (m.gz 0 (X5 s))⟩
 |false=>
 have o:∀r∈Xr x.g.e,r≠0:=λr f e=>YE s (e▸f);rw[Wa,Xb ab,Xb ab,Xb ab,Xb ab];have⟨b,A,f⟩:=Xbf hN ht.ht (l:=x.R++XA x.l.S++Xr x.g.e++Xr x.v.e) (by grind) mx.gx;rw[A,Xa,Option.some_inj,f];refine⟨λq=>⟨mx,el,et,p,o,λr f=>q r (by grind),λr f=>q r (by grind),λr f=>q r (by grind),λr f=>q r (by grind)⟩,λm r f=>?_⟩;simp only[Wr]at f;rcases f with(((f|f)|f)|f)
 .exact m.rr r f
 .exact m.rl r f
 .exact m.rg r f
 exact m.rw_ r f
end
end Go.Sx

namespace Go.Sx
def K1(a n:Int):List Int:=(List.range n.toNat).map λk:Nat=>a+k
def Y4{a n x:Int}:x∈K1 a n↔a<=x/\x<a+n:=by unfold K1;simp;exact⟨λ⟨k,h,e⟩=>ab,λh=>⟨(x-a).toNat,ab,ab⟩⟩
def Vf(a n:Int):(K1 a n).length=n.toNat:=by simp[K1]
def XaN(a n:Int):(K1 a n).Nodup:=by unfold K1;rw[List.Nodup,Iz];exact List.nodup_range.imp λh e=>h ab
def JB:∀{l m:List Int},l.Nodup->(∀x∈l,x∈m)->l.length<=m.length
 |[],m,_,_=>by simp
 |a::l,m,e,h=>by have e:=Oq.1 e;have f:=h a ac;have:=JB (m:=m.erase a) e.2 λx g=>(List.mem_erase_of_ne (by rintro rfl;exact e.1 g)).2 (h x (WT _ g));have:=List.length_erase_of_mem f;have:=List.length_pos_of_mem f;simp;omega
def Xju{α β:Type}{l:List α}{m:List β}{f g:α->Int}{f' g':β->Int}(hd:l.Pairwise λa b=>∀x,f a<=x->x<f a+g a->f b<=x->x<f b+g b->False)(o:∀a∈l,∀x,f a<=x->x<f a+g a->∃b∈m,f' b<=x/\x<f' b+g' b):(l.map λa=>(g a).toNat).sum<=(m.map λb=>(g' b).toNat).sum:=by
 have p:(l.flatMap λa=>K1 (f a) (g a)).length=(l.map λa=>(g a).toNat).sum:=by simp[List.length_flatMap,Vf]
 have q:(m.flatMap λa=>K1 (f' a) (g' a)).length=(m.map λa=>(g' a).toNat).sum:=by simp[List.length_flatMap,Vf]
 rw[←p,←q];refine JB ?_ λx j=>?_
 .rw[List.Nodup,List.pairwise_flatMap];refine⟨λa _=>XaN _ _,hd.imp λh x j y k e=>?_⟩;subst e;rw[Y4]at j k;exact h x j.1 j.2 k.1 k.2
 have⟨a,r,h⟩:=List.mem_flatMap.1 j;rw[Y4]at h;have⟨b,hb,h⟩:=o a r x h.1 h.2;exact List.mem_flatMap.2 ⟨b,hb,Y4.2 h⟩
def Xou{α:Type}{g:α->Nat}{c:Nat}:∀{l:List α},(∀a∈l,c<=g a)->l.length*c<=(l.map g).sum
 |[],_=>by simp
 |a::l,h=>by have:=Xou λb hb=>h b (WT _ hb);have:=h a ac;rw[Ul,UA,List.sum_cons,Uz];omega
def Xov{α:Type}{g:α->Nat}{c:Nat}:∀{l:List α},(∀a∈l,g a=c)->(l.map g).sum=l.length*c
 |[],_=>by simp
 |a::l,h=>by have:=Xov λb hb=>h b (WT _ hb);have:=h a ac;rw[Ul,UA,List.sum_cons,Uz];omega
def XqY{α:Type}{p q r s:α->Bool}:∀{l:List α},(∀a∈l,p a=true->q a=true\/r a=true\/s a=true)->l.countP p<=l.countP q+l.countP r+l.countP s
 |[],_=>by simp
 |a::l,h=>by have:=XqY λb hb=>h b (WT _ hb);grind
def JM(ps:List Wp)(q:Wp->Bool):ps.countP q=(K1 0 ps.length).countP λi=>q (pg ps i):=by
 have e:ps=(K1 0 ps.length).map (pg ps):=by refine IG (by simp[Vf]) λi f g=>?_;simp[K1,pg,Wk,Wb f]
 conv=>lhs;rw[e,List.countP_map]
 rfl
def ad1(o:List Int)(r:Int):List Int:=if r=0\/r∈o then o else o++[r]
def Vz(o rs:List Int):List Int:=rs.foldl ad1 o
def ZV{o:List Int}{r:Int}(h:r=0\/r∈o):ad1 o r=o:=Wm h
def JC{o:List Int}{r:Int}(h0:r≠0)(h:r∉o):ad1 o r=o++[r]:=Wj λe=>e.elim h0 h
def Xic:∀(rs o:List Int),o.length<=(Vz o rs).length
 |[],o=>Uh _
 |r::rs,o=>by
  have:=Xic rs (ad1 o r);have h:o.length<=(ad1 o r).length:=by unfold ad1;split<;>simp
  exact UL h this
def rfs(h:Wh)(a:Int):List Int:=(XJ (hdA h.w a)).map λj=>wd h.w (a+1+j)
def JN(h:Wh):Nat->Nat->List Int->List Int
 |0,_,o=>o
 |n+1,k,o=>match o[k]? with
  |none=>o
  |some a=>JN h n (k+1) (Vz o (rfs h a))
def pk1(W:Int)(s:Nat×Int)(n:Int):Nat×Int:=if s.1≠0/\s.2+n<=W then(s.1,s.2+n)else(s.1+1,n)
def cpB(h:Wh)(a:Int):Bool:=(pg h.p (pgi h.c a)).k==1&&!decide ((pg h.p (pgi h.c a)).P>0)
def Xaa(h:Wh)(l:List Int):Nat×Int:=((l.filter (cpB h)).map (szA h.w)).foldl (pk1 h.c.W) (0,0)
def Xl9{h:Wh}{l:List Int}{a:Int}(e:cpB h a=false):Xaa h (l++[a])=Xaa h l:=by simp[Xaa,IJ,e]
def Xma{h:Wh}{l:List Int}{a:Int}(e:cpB h a=true):Xaa h (l++[a])=pk1 h.c.W (Xaa h l) (szA h.w a):=by simp[Xaa,IJ,e,List.foldl_append]
def stC(p:Wp):Bool:=p.k != 0&&!(p.k==1&&!decide (p.P>0))
def eS(c:WP)(n:Int):Int:=if Xx c n=0 then n else Xx c n*c.W
structure Cap(h:Wh):Prop where
 a:∀l:List Int,l.Nodup->(∀a∈l,Obb h a)->(l.map λa=>(eS h.c (szA h.w a)).toNat).sum<=(h.c.p / 4*h.c.W).toNat
 b:3*((h.p.countP X2:Nat):Int)<=7*(h.c.p / 4)+2
section
variable {N:Nat}{h:Wh}
def Xow{c:WP}(f:XU c=true){n:Int}(g:1<=n)(e:n<=smC c):eS c n=n:=by unfold smC at e;rw[Wm f]at e;unfold eS Xx;simp[f,g,e]
def GX.szs(g:GX N h)(hp:Uv h){a:Int}(f:Obb h a)(k:(pg h.p (pgi h.c a)).k=1):szA h.w a<=smC h.c/\eS h.c (szA h.w a)=szA h.w a:=by have⟨m,j,o⟩:=f.1.pars hp;have e:=f.1.at_ hp;have q:=XL hp.conf e.rng;have:=hp.pages;have s:=(g.cl _ m q.2.1 ab j a o).1 k;exact⟨s,Xow hp.conf (Xy h.w a).2.1 s⟩
def ON(hp:Uv h){a:Int}(f:Obb h a)(k:(pg h.p (pgi h.c a)).k=2):eS h.c (szA h.w a)=Xx h.c (pg h.p (pgi h.c a)).u*h.c.W/\a=Xc h.c (pgi h.c a) 0:=by have e:=f.1.at_ hp;have q:=XL hp.conf e.rng;have:=hp.pages;have l:=((hp.pgs _ q.2.1 ab).large k).1;have z:=e.large k;refine⟨?_,by rw[z.1]at q;exact q.1⟩;unfold eS;rw[z.2,Wj ab]
def GX.room(g:GX N h)(hp:Uv h){a x:Int}(r:Obb h a)(y:a<=x)(s:x<a+eS h.c (szA h.w a)):HeadP h (pgi h.c x) (pgi h.c a)/\x=Xc h.c (pgi h.c x) (pgo h.c x)/\0<=pgo h.c x/\pgo h.c x<h.c.W/\pgi h.c x<h.p.length:=by
 have e:=r.1.at_ hp;have A:=hp.pages;have hw:=hp.words;rcases e.kind with k|k
 .rw[(g.szs hp r k).2]at s;have⟨B,J,K⟩:=XbN hp e y s;have q:=XL (a:=x) hp.conf ab;exact⟨B,q.1,q.2.2.2.1,q.2.2.2.2,ab⟩
 have z:=ON hp r k;have q:=XL hp.conf e.rng;have v:=(hp.pgs _ q.2.1 ab).large k;generalize L:pgi h.c a=i at *;generalize M:Xx h.c (pg h.p i).u=n at *;have O:Xc h.c i 0=4096+i*h.c.W+0:=rfl;have D:i+n<=h.p.length:=by
  by_cases n1:n=1
  .omega
  have:=(v.2 (n-1) ab ab).1;omega
 have E:=WW (a:=i+n) (b:=h.c.p) (c:=h.c.W) ab ab;rw[U0]at E;have f:=XL (a:=x) hp.conf (by have:=e.rng;omega);generalize R:pgi h.c x=j at *;have G:∀o,Xc h.c j o=4096+j*h.c.W+o:=λ_=>rfl;rw[G]at f;have H:i<=j:=by apply Classical.byContradiction;intro I;have:=WW (a:=j+1) (b:=i) (c:=h.c.W) ab ab;rw[U0]at this;omega
 have S:j<i+n:=by apply Classical.byContradiction;intro I;have:=WW (a:=i+n) (b:=j) (c:=h.c.W) ab ab;rw[U0]at this;omega
 refine⟨⟨q.2.1,H,ab,λm T U=>?_⟩,by exact f.1,f.2.2.2.1,f.2.2.2.2,ab⟩;have:=(v.2 (m-i) ab ab).2;rwa[show i+(m-i)=m by omega]at this
def GX.own(g:GX N h)(hp:Uv h){a b x:Int}(f:Obb h a)(hb:Obb h b)(y:a<=x)(z:x<a+eS h.c (szA h.w a))(A:b<=x)(B:x<b+eS h.c (szA h.w b)):a=b:=by
 have D:=g.room hp f y z;have E:=g.room hp hb A B;have e:=D.1.fn E.1;have aa:=f.1.at_ hp;rcases aa.kind with k|k
 .have H:=(g.szs hp f k).2;have I:=(g.szs hp hb (by rw[←e];exact k)).2;have⟨m,p,G⟩:=f.1.pars hp;have⟨J,o,bm⟩:=hb.1.pars hp;rw[←e]at o;have q:=XL hp.conf aa.rng;have:=hp.pages;have:=p.fn (hp.pgs _ q.2.1 ab).kind o;subst this;have c:=(p.small k).pw;rw[W7]at c;have⟨i,r,s⟩:=Wv G;have⟨j,u,v⟩:=Wv bm;rcases Nat.lt_trichotomy i j with t|t|t
  .have:=c i j r u t;rw[s,v]at this;omega
  .subst t;omega
  have:=c j i u r t;rw[s,v]at this;omega
 have:=(ON hp f k).2;have:=(ON hp hb (by rw[←e];exact k)).2;grind
def GX.use(g:GX N h)(hp:Uv h){l:List Int}(y:l.Nodup)(j:∀a∈l,Obb h a):(l.map λa=>(eS h.c (szA h.w a)).toNat).sum<=h.p.countP X2*h.c.W.toNat:=by
 rw[JM,UR,←Xov (g:=λ_:Int=>h.c.W.toNat) (l:=(K1 0 h.p.length).filter λi=>X2 (pg h.p i)) λ_ _=>rfl];refine Xju (f:=id) (f':=λi=>Xc h.c i 0) (g':=λ_=>h.c.W) ?_ λa u x k q=>?_
 .refine(List.pairwise_iff_forall_sublist.2 λ{a b} s x k q z A=>?_);have B:=Oq.1 (y.sublist s);have:=g.own hp (j a (s.subset ac)) (j b (s.subset ac)) k q z A;exact B.1 (by simp[this])
 have r:=g.room hp (j a u) k q;have v:∀o,Xc h.c (pgi h.c x) o=4096+pgi h.c x*h.c.W+o:=λ_=>rfl;refine⟨pgi h.c x,WY.2 ⟨Y4.2 ⟨by have:=r.1.1;have:=r.1.2.1;omega,ab⟩,?_⟩,by have:=r.2.1;rw[v]at this⊢;omega,by have:=r.2.1;rw[v]at this⊢;omega⟩;unfold X2;rw[bne_iff_ne];by_cases e:pgi h.c x=pgi h.c a
 .have:=((j a u).1.at_ hp).kind;rw[e];omega
 have:=r.1.2.2.2 (pgi h.c x) (by have:=r.1.2.1;omega) (Uu _);omega
def GX.cap(g:GX N h)(hp:Uv h)(j:((h.p.countP X2:Nat):Int)<=h.c.p / 4):Cap h:=by have k:=Xh.1 hp.conf;refine⟨λl e f=>UL (g.use hp e f) ?_,ab⟩;rw[Int.toNat_mul ab ab];exact Ua _ ab
def Cap.cong(c:Cap h){h2:Wh}(f:h2.c=h.c)(ob:∀b,Obb h2 b->Obb h b)(sz:∀b,Obb h b->szA h2.w b=szA h.w b)(us:h2.p.countP X2<=h.p.countP X2):Cap h2:=by refine⟨λl j g=>?_,by have:=c.b;rw[f];omega⟩;have:=c.a l j λa e=>ob a (g a e);rw[f,IY λa e=>by rw[sz a (ob a (g a e))]];exact this
def Xc4{ps qs:List Wp}(g:qs.length=ps.length){j:Int}{k:Nat}(hb:∀i:Int,0<=i->i<ps.length->(pg qs i).k≠0->(pg ps i).k≠0\/j<=i/\i<j+k):qs.countP X2<=ps.countP X2+k:=by
 rw[JM,JM,g];have:=XqY (l:=K1 0 ps.length) (p:=λi=>X2 (pg qs i)) (q:=λi=>X2 (pg ps i)) (r:=λi=>decide (j<=i/\i<j+k)) (s:=λ_=>false) λi f e=>by
  rw[Y4]at f;unfold X2 at e⊢;rw[bne_iff_ne]at e;rcases hb i f.1 ab e with h|h
  .left;rw[bne_iff_ne];exact h
  right;left;exact Wg h
 have c1:(K1 0 ps.length).countP (λi=>decide (j<=i/\i<j+k))<=k:=by rw[UR];have:=JB (m:=K1 j k) ((XaN 0 ps.length).filter λi=>decide (j<=i/\i<j+k)) λx o=>Y4.2 (by simpa using(WY.1 o).2);rw[Vf]at this;omega
 rw[List.countP_false,Function.const_apply]at this;omega
def XkG{β:Type}{c:WP}(E:XU c=true){X:List Int}{u:Int->Int}{m:List β}{f' g':β->Int}{L:Nat}(z:X.Nodup)(k:∀i∈X,0<=u i/\u i<=c.W/\3*c.W<4*u i)(A:∀i∈X,∀x,Xc c i 0<=x->x<Xc c i (u i)->∃b∈m,f' b<=x/\x<f' b+g' b)(G:(m.map λb=>(g' b).toNat).sum<=L*c.W.toNat):3*X.length<=4*L/\(X≠[]->3*X.length<4*L):=by
 have p:∀i o,Xc c i o=4096+i*c.W+o:=λ_ _=>rfl;have w:=Xju (l:=X) (m:=m) (f:=λi=>Xc c i 0) (g:=u) (f':=f') (g':=g') ?_ λi q x a b=>A i q x a (by have:=p i (u i);have:=p i 0;omega)
 .have r:=Xou (l:=X) (g:=λi=>(u i).toNat*4) (c:=3*c.W.toNat+1) λi q=>by have:=k i q;omega
  have s:∀l:List Int,(l.map λi=>(u i).toNat*4).sum=(l.map λi=>(u i).toNat).sum*4:=λl=>by
   induction l with
   |nil=>rfl
   |cons a l B=>simp only[UA,List.sum_cons,B];omega
  rw[s]at r;have y:X.length*(3*c.W.toNat+1)<=(L*c.W.toNat)*4:=ab;have e:X.length*(3*c.W.toNat+1)=(3*X.length)*c.W.toNat+X.length:=by rw[Nat.mul_add,Nat.mul_one,Ot 3 X.length,Nat.mul_assoc]
  have H:L*c.W.toNat*4=(4*L)*c.W.toNat:=by rw[Ot _ 4,Nat.mul_assoc]
  have v:X≠[]->3*X.length<4*L:=λj=>by have:0<X.length:=List.length_pos_iff.2 j;exact Nat.lt_of_mul_lt_mul_right (a:=c.W.toNat) ab
  by_cases j:X=[]
  .simp[j]
  have:=v j;omega
 refine z.imp_of_mem λ{a b} D hb j x w r s y=>?_;have I:=k a D;have J:=k b hb;rw[p]at w r s y;rcases Int.lt_or_gt_of_ne j with t|t
 .have:=WW (a:=a+1) (b:=b) (c:=c.W) ab ab;rw[U0]at this;omega
 have:=WW (a:=b+1) (b:=a) (c:=c.W) ab ab;rw[U0]at this;omega
end
def rel(M:List (Int×Int))(v e:Int):Prop:=(v=0/\e=0)\/(v,e)∈M
def cpy(h:Wh)(a:Int):Prop:=(pg h.p (pgi h.c a)).k=1/\¬(pg h.p (pgi h.c a)).P>0
def CM(h:Wh)(M:List (Int×Int)):Int->List Int->Int->Prop
 |p,[],q=>p=q
 |p,b::l,q=>b=p/\∃a,(a,b)∈M/\cpy h a/\CM h M (p+szA h.w a) l q
def CM.mono{h:Wh}{M M':List (Int×Int)}(f:∀p∈M,p∈M'):∀{l:List Int} {p q:Int},CM h M p l q->CM h M' p l q
 |[],_,_,e=>e
 |b::l,_,_,⟨e,a,g,j,k⟩=>⟨e,a,f _ g,j,k.mono f⟩
def CM.snoc{h:Wh}{M:List (Int×Int)}{a:Int}:∀{l:List Int} {p q:Int},CM h M p l q->(a,q)∈M->cpy h a->CM h M p (l++[q]) (q+szA h.w a)
 |[],p,q,e,f,g=>by subst e;exact⟨rfl,a,f,g,rfl⟩
 |b::l,_,_,⟨e,x,f,g,j⟩,g1,g2=>⟨e,x,f,g,j.snoc g1 g2⟩
def Xab(w:Wu):Int:=match w.t.getLast? with
 |none=>0
 |some i=>(pg w.h.p i).u
def Xej{w w':Wu}(e3:w'.t=w.t)(hp:∀i∈w.t,(pg w'.h.p i).u=(pg w.h.p i).u):Xab w'=Xab w:=by
 unfold Xab;rw[e3];cases e:w.t.getLast? with
 |none=>rfl
 |some i=>exact hp i (Oj e)
def Xc5{h:Wh}{a:Int}:cpB h a=true↔cpy h a:=by simp[cpB,cpy]
structure JX(N:Nat)(h0:Wh)(S:List Int)(P:Int->Prop)(w:Wu)(M:List (Int×Int))(D:Int->Prop):Prop where
 ci:CI h0 S w
 ss:SpanS h0.c h0.p w.h.p
 tu:∀x∈w.h.w,tU x
 ol:w.o=Ye h0 S
 q:w.q=M.map (·.2)
 l:∀p∈M,Obb h0 p.1/\P p.1
 n1:(M.map (·.1)).Nodup
 k:∀p∈M,(p.2=p.1/\¬cpy h0 p.1)\/(cpy h0 p.1/\wd w.h.w p.1=wU (wU (4*p.2)+2)/\∃i∈w.t,Xc h0.c i 0<=p.2/\p.2+szA h0.w p.1<=Xc h0.c i (pg w.h.p i).u)
 hd:∀p∈M,wd w.h.w p.2=wd h0.w p.1
 fl:∀p∈M,∀j,0<=j->j<(hdA h0.w p.1).n->(¬D (p.2+1+j)->wd w.h.w (p.2+1+j)=wd h0.w (p.1+1+j))/\(D (p.2+1+j)->rel M (wd h0.w (p.1+1+j)) (wd w.h.w (p.2+1+j)))
 o:∀x,4096<=x->(∀p∈M,x≠p.1/\¬(p.2<=x/\x<p.2+szA h0.w p.1))->wd w.h.w x=wd h0.w x
 d:∀x,D x->∃p∈M,p.2<x/\x<p.2+szA h0.w p.1
 t:∀i∈w.t,(pg h0.p i).k=0/\(pg w.h.p i).P=0/\(pg w.h.p i).s=1-h0.s/\∃l,CM h0 M (Xc h0.c i 0) l (Xc h0.c i (pg w.h.p i).u)
 pgs:∀i,0<=i->i<(h0.p.length:Int)->i∉w.t->(pg w.h.p i).k=(pg h0.p i).k/\(pg w.h.p i).u=(pg h0.p i).u/\(pg w.h.p i).P=(pg h0.p i).P/\((pg h0.p i).k=1->(pg w.h.p i).s=if(pg h0.p i).P>0 then 1-h0.s else h0.s)/\((pg h0.p i).k=2->(pg w.h.p i).s=if Xc h0.c i 0∈M.map (·.1)then 1-h0.s else h0.s)/\((pg h0.p i).k=0->pg w.h.p i=pg h0.p i)
 pk:Xaa h0 (M.map (·.1))=(w.t.length,Xab w)
 fu:∀i∈w.t.dropLast,3*h0.c.W<4*(pg w.h.p i).u
section
variable {N:Nat}{h0:Wh}{S:List Int}{P:Int->Prop}
structure BX(N:Nat)(h0:Wh)(S:List Int):Prop where
 gx:GX N h0
 st:Start N h0 S
 mS:∀a,a∈S↔Stt h0 a
 hp:Uv h0
 cp:Cap h0
def XrN(hN:NB N){w:Wu}(q:w.t.length<=100000)(i:Int):∃b,QbW N w i=some b/\(b=true↔Prm w i):=by
 unfold NB at hN;rw[QbW];by_cases g:i<0
 .rw[Wg g];exact⟨false,rfl,(λe=>by grind),λp=>by have:=p.1.1;omega⟩
 by_cases o:i>=(w.h.p.length:Int)
 .rw[We g,Wg o];exact⟨false,rfl,(λe=>by grind),λp=>by have:=p.1.2;omega⟩
 rw[We g,We o,Wa,Wa,Xn ab ab,Xa];by_cases f:(pg w.h.p i).k=1;rotate_left
 .rw[Xj f];exact⟨false,rfl,(λe=>by grind),λp=>absurd p.2.1 f⟩
 by_cases j:(pg w.h.p i).s=w.h.s
 .rw[Xp f,show((pg w.h.p i).s != w.h.s)=false by simp_all];exact⟨false,rfl,(λe=>by grind),λp=>absurd j p.2.2.1⟩
 rw[Xp f,Xk j,Wc,Wc,Xfs w i ab ab,Xa];refine⟨_,rfl,?_⟩;rw[Ic];exact⟨λe=>⟨⟨ab,ab⟩,f,j,YE e⟩,λp=>by rw[←I5,UG];exact p.2.2.2⟩
def BX.at_(B:BX N h0 S){a:Int}(h:Obb h0 a):IF h0 a/\a∈S/\0<=pgi h0.c a/\pgi h0.c a<h0.p.length/\4096<=a:=by have e:=h.1.at_ B.hp;have q:=XL B.hp.conf e.rng;have:=B.hp.pages;exact⟨e,(B.mS a).2 h.1,q.2.1,ab,e.rng.1⟩
variable {w:Wu}{M:List (Int×Int)}{D:Int->Prop}
def Jt{ws e:List Int}{a b:Int}(h:wd ws a=wd e b):szA ws a=szA e b:=by unfold szA hdA;rw[h]
def JX.geo(J:JX N h0 S P w M D){O:Int->Prop}{s:Int->Int}(e:OC h0 S w O s){p:Int×Int}(hp:p∈M):O p.2/\szA h0.w p.1<=s p.2:=by have f:=e.queue p.2 (by rw[J.q];exact WI.2 ⟨p,hp,rfl⟩);have g:=(e.fit p.2 f).2.2.2;rw[Jt (J.hd p hp)]at g;simp_all
def JX.tk(J:JX N h0 S P w M D)(B:BX N h0 S){i:Int}(e:i∈w.t):0<=i/\i<h0.p.length/\(pg w.h.p i).k=1/\0<=(pg w.h.p i).u/\(pg w.h.p i).u<=h0.c.W:=by have f:=J.ci.tk i e;have g:=J.ci.plen;omega
def JX.q_old(J:JX N h0 S P w M D)(B:BX N h0 S){a:Int}(j:Obb h0 a){p:Int×Int}(hp:p∈M)(e:p.2=a):p=(a,a):=by
 rcases J.k p hp with⟨k,_⟩|⟨_,_,i,g,k1,k2⟩
 .grind
 have t:=J.tk B g;have r:=(Xy h0.w p.1).2.1;have f:=(B.at_ j).1;have s:Xc h0.c i 0=4096+i*h0.c.W+0:=rfl;have v:Xc h0.c i (pg w.h.p i).u=4096+i*h0.c.W+(pg w.h.p i).u:=rfl;have:=(Yd (c:=h0.c) B.hp.conf (p:=i) (o:=a-Xc h0.c i 0) ab ab).1;rw[show Xc h0.c i (a-Xc h0.c i 0)=a by unfold Xc;omega]at this;have q:=f.kind;rw[this]at q;have:=(J.t i g).1;omega
def JX.fn(J:JX N h0 S P w M D){p q:Int×Int}(hp:p∈M)(f:q∈M)(e:p.1=q.1):p=q:=by have h:=J.n1;rw[List.Nodup,Iz,W7]at h;obtain⟨i,g,rfl⟩:=Wv hp;obtain⟨j,k,rfl⟩:=Wv f;grind
def JX.inj(J:JX N h0 S P w M D){p q:Int×Int}(hp:p∈M)(f:q∈M)(e:p.2=q.2):p=q:=by have h:=J.ci.qnd;rw[J.q,List.Nodup,Iz,W7]at h;obtain⟨i,g,rfl⟩:=Wv hp;obtain⟨j,k,rfl⟩:=Wv f;grind
def JX.same(J:JX N h0 S P w M D)(B:BX N h0 S){a:Int}(j:Obb h0 a)(q:a∉M.map (·.1)){x:Int}(y:a<=x)(h2:x<a+szA h0.w a):wd w.h.w x=wd h0.w x:=by
 have⟨O,s,f⟩:=J.ci.obj;have r:=B.at_ j;have k:=f.old a r.2.1;refine J.o x ab λp hp=>?_;have g:=J.geo f hp;have u:=B.at_ (J.l p hp).1;have ol:=f.old p.1 u.2.1;have n1:p.1≠a:=λe=>q (WI.2 ⟨p,hp,e⟩);have n2:p.2≠a:=λe=>by have:=J.q_old B j hp e;exact n1 (by rw[this])
 have z:=f.apart p.1 a ol.1 k.1 n1;have A:=f.apart p.2 a g.1 k.1 n2;have:=(Xy h0.w p.1).2.1;omega
def JX.prm(J:JX N h0 S P w M D)(B:BX N h0 S){a:Int}(g:Obb h0 a):pgi h0.c a∉w.t/\(Prm w (pgi h0.c a)↔(pg h0.p (pgi h0.c a)).k=1/\(pg h0.p (pgi h0.c a)).P>0):=by
 have f:=B.at_ g;have o:=f.1.kind;have e:pgi h0.c a∉w.t:=λh=>by have:=(J.t _ h).1;omega
 have p:=J.pgs _ f.2.2.1 f.2.2.2.1 e;have j:=J.ci.plen;refine⟨e,λq=>?_,λq=>?_⟩
 .have k1:(pg h0.p (pgi h0.c a)).k=1:=by rw[←p.1];exact q.2.1
  have:=q.2.2.1;rw[p.2.2.2.1 k1,J.ci.spc]at this;omega
 refine⟨⟨f.2.2.1,ab⟩,ab,?_,e⟩;rw[p.2.2.2.1 q.1,J.ci.spc,Wm q.2];omega
def JX.keep(J:JX N h0 S P w M D)(B:BX N h0 S){a:Int}(K:Obb h0 a)(hP:P a)(T:a∉M.map (·.1))(hc:¬cpy h0 a){z:List Wp}(hs:SpanS h0.c h0.p z)(hq:∀i,0<=i->i<(h0.p.length:Int)->(i≠pgi h0.c a\/(pg h0.p i).k≠2)->(pg h0.p i).k≠3->pg z i=pg w.h.p i)(h3:∀i,0<=i->i<(h0.p.length:Int)->i∉w.t->(pg z i).k=(pg h0.p i).k/\(pg z i).u=(pg h0.p i).u/\(pg z i).P=(pg h0.p i).P)(U:(pg h0.p (pgi h0.c a)).k=2->(pg z (pgi h0.c a)).s=1-h0.s){w':Wu}(E:w'.h.p=z)(G:w'.h.w=w.h.w)(e3:w'.t=w.t)(e4:w'.q=w.q++[a])(e5:w'.o=w.o)(ci:CI h0 S w'):JX N h0 S P w' (M++[(a,a)]) D:=by
 have⟨O,s,V⟩:=J.ci.obj;have W:=B.at_ K;have oa:=V.old a W.2.1;have Y:∀p∈M,p∈M++[(a,a)]:=λp hp=>WU _ hp;have pt:∀i∈w.t,pg z i=pg w.h.p i:=λi r=>by have t:=J.tk B r;have:=(J.t i r).1;simp_all
 refine⟨ci,by simp_all,by rw[G];exact J.tu,by rw[e5];exact J.ol,?_,λp hp=>?_,?_,λp hp=>?_,λp hp=>?_,λp hp j j0 Z=>?_,λx h0x L=>?_,λx L=>?_,λi r=>?_,λi H R r=>?_,by rw[UI,UA,Il,Xl9 (by simpa usingλe=>hc (Xc5.1 e)),J.pk,e3,Xej e3 λi r=>by rw[E,pt i r]],λi r=>by rw[e3]at r;rw[E,pt i ((List.dropLast_sublist _).subset r)];exact J.fu i r⟩
 .simp[e4,J.q,UI]
 .rcases Wr.1 hp with hp|hp
  .exact J.l p hp
  simp_all
 .rw[UI,UT];refine⟨J.n1,ac,λx L y hy e=>?_⟩;simp_all
 .rw[E,G,e3];rcases Wr.1 hp with hp|hp
  .rcases J.k p hp with k|⟨k1,k2,i,r,k3⟩
   .exact .inl k
   exact .inr ⟨k1,k2,i,r,by rw[pt i r];exact k3⟩
  simp_all
 .rw[G];rcases Wr.1 hp with hp|hp
  .exact J.hd p hp
  rw[Uc.1 hp];exact J.same B K T (Uu _) (by have:=(Xy h0.w a).2.1;omega)
 .rw[G];rcases Wr.1 hp with hp|hp
  .have f:=J.fl p hp j j0 Z;exact⟨f.1,λh=>(f.2 h).imp id (Y _)⟩
  rw[Uc.1 hp]at Z⊢;refine⟨λ_=>J.same B K T ab (by unfold szA;dsimp only at Z;omega),λh=>?_⟩;have⟨p',A,d1,d2⟩:=J.d _ h;have g:=J.geo V A;have n2:p'.2≠a:=λe=>T (by have:=J.q_old B K A e;exact WI.2 ⟨p',A,by rw[this]⟩);have a2:=V.apart p'.2 a g.1 oa.1 n2;have:szA h0.w a=(hdA h0.w a).n+1:=rfl;grind
 .rw[G];exact J.o x h0x λp hp=>L p (Y p hp)
 .have⟨p,hp,h⟩:=J.d x L;grind
 .rw[e3]at r;have t:=J.t i r;have⟨l,U⟩:=t.2.2.2;rw[E,pt i r];exact⟨t.1,t.2.1,t.2.2.1,l,U.mono Y⟩
 rw[e3]at r;have p:=J.pgs i H R r;have p3:=h3 i H R r;rw[E];refine⟨p3.1,p3.2.1,p3.2.2,λk1=>?_,λk2=>?_,λk0=>?_⟩
 .rw[hq i H R (.inr ab) ab];exact p.2.2.2.1 k1
 .have lg:∀I,0<=I->Xc h0.c I 0=a->I=pgi h0.c a:=λI h e=>by have hv:=Xh.1 B.hp.conf;have:=(Yd (c:=h0.c) B.hp.conf (p:=I) (o:=0) ab ab).1;rw[←this,e]
  by_cases v:i=pgi h0.c a
  .rw[v,U (by rw[←v];exact k2),Wm];have:=(W.1.large (by rw[←v];exact k2)).1;have e:=(XL B.hp.conf W.1.rng).1;rw[this]at e;rw[←e];simp
  rw[hq i H R (.inl v) ab,p.2.2.2.2.1 k2];congr 1;rw[UI,Wr];apply propext;refine⟨.inl,λh=>?_⟩;rcases h with h|h
  .exact h
  simp at h;exact absurd (lg i H h) v
 simp_all
end
section
variable {N:Nat}{h0:Wh}{S:List Int}{P:Int->Prop}{w:Wu}{M:List (Int×Int)}{D:Int->Prop}
def JX.full(J:JX N h0 S P w M D)(B:BX N h0 S){n:Int}(o:Xfe h0 w n)(g:n<=smC h0.c):∀i∈w.t,3*h0.c.W<4*(pg w.h.p i).u:=λi f=>by
 unfold smC at g;rw[Wm B.hp.conf]at g;cases e:w.t.getLast? with
 |none=>rw[List.getLast?_eq_none_iff]at e;rw[e]at f;cases f
 |some l=>
  have q:=o l e;have⟨r,j⟩:=List.getLast?_eq_some_iff.1 e;have k:=J.fu i;rw[j,List.dropLast_concat]at k;rw[j]at f;rcases Wr.1 f with f|f
  .exact k f
  rw[Uc.1 f];omega
def CM.cvr{h:Wh}{M:List (Int×Int)}:∀{l:List Int} {p q x:Int},CM h M p l q->p<=x->x<q->∃y∈M,cpy h y.1/\y.2<=x/\x<y.2+szA h.w y.1
 |[],p,q,x,e,f,g=>by have:p=q:=e;omega
 |b::l,p,q,x,⟨e,a,f,g,j⟩,g1,g2=>by
  by_cases k:x<p+szA h.w a
  .exact⟨(a,b),f,g,ab,by show x<b+szA h.w a;omega⟩
  exact j.cvr ab g2
def JX.room(J:JX N h0 S P w M D)(B:BX N h0 S){n:Int}(g:Xfe h0 w n)(o:n<=smC h0.c)(v:∀j:Int,0<=j->j<w.h.p.length->(pg w.h.p j).k≠0):False:=by
 have U:=Xh.1 B.hp.conf;have z:=B.hp.pages;have E:=J.ci.plen;have A:=B.cp.a (M.map (·.1)) J.n1 λa G=>by obtain⟨p,hp,rfl⟩:=WI.1 G;exact(J.l p hp).1
 rw[IU,Int.toNat_mul ab ab]at A;have F:=XkG (c:=h0.c) B.hp.conf (X:=w.t) (u:=λi=>(pg w.h.p i).u) (m:=M) (f':=λp=>p.2) (g':=λp=>eS h0.c (szA h0.w p.1)) J.ci.tnd (λi e=>by have:=J.tk B e;exact⟨this.2.2.2.1,this.2.2.2.2,J.full B g o i e⟩) (λi e x H I=>by
  have⟨_,K⟩:=(J.t i e).2.2.2
  have⟨y,f,L,O,R⟩:=K.cvr H I
  exact⟨y,f,O,by rw[(B.gx.szs B.hp (J.l y f).1 L.1).2];exact R⟩) A
 have hb:=B.cp.b;have c:=XqY (l:=K1 0 h0.p.length) (p:=λ_=>true) (q:=λi=>X2 (pg h0.p i)) (r:=λi=>decide (i∈w.t)) (s:=λ_=>false) λi e _=>by
  rw[Y4]at e;by_cases h:i∈w.t
  .simp[h]
  have:=(J.pgs i e.1 ab h).1;have:=v i e.1 ab;unfold X2;rw[bne_iff_ne];omega
 have V:(K1 0 h0.p.length).countP (λi=>decide (i∈w.t))<=w.t.length:=by rw[UR];exact JB ((XaN _ _).filter _) λx T=>by simpa using(WY.1 T).2
 rw[←JM]at c;rw[List.countP_true,List.countP_false,Function.const_apply,Vf]at c;by_cases ht:w.t=[]
 .have:w.t.length=0:=by rw[ht];rfl
  omega
 have:=F.2 ht;omega
def JX.copy(J:JX N h0 S P w M D)(B:BX N h0 S){a:Int}(ha:Obb h0 a)(hP:P a)(I:a∉M.map (·.1))(R:cpy h0 a){w1:Wu}{n at_ j u:Int}(en:n=szA h0.w a)(v:OL h0 w n w1 at_ j u)(hs:SpanS h0.c h0.p w1.h.p){w':Wu}(U:w'.h.p=w1.h.p)(e2:w'.h.w=(ovr w.h.w ((w.h.w.drop (ix a)).take n.toNat) (ix at_)).set (ix a) (wU (wU (4*at_)+2)))(e3:w'.t=w1.t)(e4:w'.q=w.q++[at_])(e5:w'.o=w.o)(ci:CI h0 S w'):JX N h0 S P w' (M++[(a,at_)]) D/\4096<=at_:=by
 obtain⟨O,s,G⟩:=J.ci.obj;have hA:=B.at_ ha;have oa:=G.old a hA.2.1;have mm:∀p∈M,p∈M++[(a,at_)]:=λp hp=>WU _ hp;have K:∀x,a<=x->x<a+n->wd w.h.w x=wd h0.w x:=λx h1 h2=>J.same B ha I h1 ab;have hz:=(Xy h0.w a).2;have en':n=szA w.h.w a:=by rw[en];exact(Jt (K a (Uu _) ab)).symm
 obtain⟨i1,i2,away,fresh,aw2,hwd⟩:=Xga B.hp J.ci G hA.2.1 en' ab v (wU (wU (4*at_)+2));have h2:∀x,4096<=x->wd w'.h.w x=if x=a then wU (wU (4*at_)+2)else if at_<=x/\x<at_+n then wd w.h.w (a+(x-at_))else wd w.h.w x:=λx z=>by simp_all
 have ef:=G.fit a oa.1;have hpl:=J.ci.plen;have hpl0:=B.hp.pages;have hwl:=J.ci.wlen;have hw0:=B.hp.words;have r:=v.rng;have hm:=XE B.hp.conf (i:=j) r.1 ab;have hat0:at_=4096+j*h0.c.W+u:=v.addr;have hft:=v.fit;have nea:a≠at_:=λe=>fresh (e▸oa.1);have rgn:∀x,O x->∀y,x<=y->y<x+s x->¬(at_<=y/\y<at_+n):=λx z y h1 h2=>by grind
 have H:∀x,O x->∀y,x<=y->y<x+s x->y≠a->wd w'.h.w y=wd w.h.w y:=λx z y h1 h2' h3=>by have:=G.fit x z;grind
 have nq:∀p∈M,p.2≠a:=λp hp e=>I (by have:=J.q_old B ha hp e;simp_all);have np:∀p∈M,p.1≠a:=λp hp e=>I (WI.2 ⟨p,hp,e⟩);have nra:∀p∈M,∀y,p.2<=y->y<p.2+szA h0.w p.1->y≠a:=λp hp y h1 h2' e=>by have g:=J.geo G hp;have:=G.apart p.2 a g.1 oa.1 (nq p hp);omega
 have hcopy:∀d,1<=d->d<n->wd w'.h.w (at_+d)=wd h0.w (a+d):=λd d1 d2=>by grind
 have hj:∀i∈w1.t,i=j\/i∈w.t/\i≠j:=λi A=>by
  by_cases E:i=j
  .omega
  right;refine⟨?_,E⟩;rcases v.way with⟨_,g2,_⟩|⟨_,g2,_⟩
  .rwa[g2]at A
  simp_all
 have V:j∈w1.t:=by
  rcases v.way with⟨g1,g2,_⟩|⟨_,g2,_⟩
  .simp_all
  simp_all
 have Y:∀i∈w.t,i∈w1.t:=λi A=>by
  rcases v.way with⟨_,g2,_⟩|⟨_,g2,_⟩
  .rw[g2];exact A
  simp_all
 have L:=v.this;have Z:=v.sp;refine⟨⟨ci,by simp_all,?_,by rw[e5];exact J.ol,?_,λp hp=>?_,?_,λp hp=>?_,λp hp=>?_,λp hp k k0 k1=>?_,λx h0x z=>?_,λx z=>?_,λi A=>?_,λi i0 i1 A=>?_,?_,λi A=>?_⟩,ab⟩
 .intro x z;rw[e2]at z;rcases W0 z with z|z
  .unfold ovr at z;simp only[Wr]at z;rcases z with(z|z)|z
   .exact J.tu x (WQ z)
   .exact J.tu x (WR (WQ z))
   exact J.tu x (WR z)
  simp_all
 .simp[e4,J.q,UI]
 .rcases Wr.1 hp with hp|hp
  .exact J.l p hp
  simp_all
 .rw[UI,UT];refine⟨J.n1,ac,λx z y hy e=>?_⟩;grind
 .rw[U,e3];rcases Wr.1 hp with hp|hp
  .rcases J.k p hp with k|⟨k1,k2,i,A,k3,k4⟩
   .simp_all
   refine .inr ⟨k1,?_,i,Y i A,k3,?_⟩
   .have hp1:=B.at_ (J.l p hp).1;have op:=G.old p.1 hp1.2.1;rw[H p.1 op.1 p.1 (Uu _) (by have:=(G.fit p.1 op.1).2.1;omega) (np p hp)];omega
   have t:=J.tk B A;by_cases E:i=j
   .subst E;rw[L.2];rcases v.way with⟨_,_,g⟩|⟨g,_,_⟩
    .have e5':Xc h0.c i (pg w.h.p i).u=4096+i*h0.c.W+(pg w.h.p i).u:=rfl;have e6:Xc h0.c i (u+n)=4096+i*h0.c.W+(u+n):=rfl;omega
    omega
   rw[v.other i t.1 E];omega
  rw[Uc.1 hp];refine .inr ⟨R,by simp_all,j,V,?_,?_⟩
  .have e7:Xc h0.c j 0=4096+j*h0.c.W+0:=rfl;omega
  have e6:Xc h0.c j (u+n)=4096+j*h0.c.W+(u+n):=rfl;grind
 .rcases Wr.1 hp with hp|hp
  .have g:=J.geo G hp;have:=(Xy h0.w p.1).2.1;rw[H p.2 g.1 p.2 (Uu _) ab (nq p hp)];exact J.hd p hp
  grind
 .rcases Wr.1 hp with hp|hp
  .have f:=J.fl p hp k k0 k1;have g:=J.geo G hp;have ez:szA h0.w p.1=(hdA h0.w p.1).n+1:=rfl;rw[H p.2 g.1 (p.2+1+k) ab ab (nra p hp _ ab ab)];exact⟨f.1,λh=>(f.2 h).imp id (mm _)⟩
  rw[Uc.1 hp]at k1⊢;dsimp only at k1⊢;have ez:szA h0.w a=(hdA h0.w a).n+1:=rfl;refine⟨λ_=>?_,λh=>?_⟩
  .grind
  have⟨p',hp',d1,d2⟩:=J.d _ h;have g:=J.geo G hp';have:=aw2 p'.2 g.1;omega
 .have hx':=z (a,at_) ac;dsimp only at hx';rw[h2 x h0x,Wj hx'.1,Wj ab];exact J.o x h0x λp hp=>z p (mm p hp)
 .have⟨p,hp,h⟩:=J.d x z;grind
 .rw[e3]at A;rw[U];rcases hj i A with rfl|⟨hi1,hi2⟩
  .rw[L.2];have ea:Xc h0.c i (u+n)=at_+szA h0.w a:=by rw[v.addr,←en];unfold Xc;omega
   rw[ea];have mem:(a,at_)∈M++[(a,at_)]:=by simp
   rcases v.way with⟨g1,g2,g3⟩|⟨g1,g2,g3⟩
   .have t:=J.t i g1;have⟨l,T⟩:=t.2.2.2;have T:=(T.mono mm)
    rw[←g3,←v.addr]at T;have sp:(pg w1.h.p i).P=0/\(pg w1.h.p i).s=1-h0.s:=by
     rcases Z with⟨_,s1,s2⟩|⟨s1,s2⟩
     .omega
     simp[s1,s2,J.ci.spc]
    exact⟨t.1,sp.1,sp.2,l++[at_],T.snoc mem R⟩
   have hnt:i∉w.t:=λh=>by have:=(J.ci.tk i h).2.2.1;omega
   have k0:=(J.pgs i r.1 ab hnt).1;have sp:(pg w1.h.p i).P=0/\(pg w1.h.p i).s=1-h0.s:=by
    rcases Z with⟨s0,_⟩|⟨s1,s2⟩
    .simp_all
    simp[s1,s2,J.ci.spc]
   refine⟨ab,sp.1,sp.2,[at_],?_,a,mem,R,?_⟩
   .rw[v.addr,g3]
   show Xc h0.c i 0+szA h0.w a=_;rw[v.addr,g3]
  have t:=J.t i hi1;have t':=J.tk B hi1;have⟨l,T⟩:=t.2.2.2;rw[v.other i t'.1 hi2];exact⟨t.1,t.2.1,t.2.2.1,l,T.mono mm⟩
 .rw[e3]at A;have E:i≠j:=λe=>A (e▸V);have p:=J.pgs i i0 i1 λh=>A (Y i h);rw[U,v.other i i0 E];refine⟨p.1,p.2.1,p.2.2.1,p.2.2.2.1,λk2=>?_,p.2.2.2.2.2⟩;rw[p.2.2.2.2.1 k2];congr 1;rw[UI,Wr];apply propext;refine⟨.inl,λh=>?_⟩;rcases h with h|h
  .omega
  simp at h;have:=(Yd (c:=h0.c) B.hp.conf (p:=i) (o:=0) ab ab).1;rw[h]at this;rw[←this]at k2;have:=R.1;omega
 .rw[UI,UA,Il,Xma (Xc5.2 R),J.pk,e3,←en];have hu:Xab w'=(pg w1.h.p j).u:=by
   unfold Xab;rw[e3,U];rcases v.lst with⟨g1,g2⟩|⟨g1,_⟩
   .rw[g1,g2]
   rw[g1,List.getLast?_concat]
  rw[hu,L.2];rcases v.lst with⟨g1,g2⟩|⟨g1,g2⟩
  .have hne:=List.length_pos_of_mem (Oj g2);have eu:Xab w=u:=by
    unfold Xab;rw[g2];rcases v.way with⟨_,_,g⟩|⟨_,g,_⟩
    .exact g.symm
    rw[g1]at g;have:=congrArg List.length g;simp at this
   rw[g1,eu];unfold pk1;rw[Wm ⟨ab,ab⟩]
  have u0:u=0:=by
   rcases v.way with⟨_,g,_⟩|⟨_,_,g⟩
   .rw[g1]at g;have:=congrArg List.length g;simp at this
   exact g
  unfold pk1;rw[Wj,g1,u0]
  .simp
  rintro⟨k1,k2⟩;unfold Xab at k2;cases e:w.t.getLast? with
  |none=>rw[List.getLast?_eq_none_iff]at e;simp[e]at k1
  |some l=>have:=g2 l e;rw[e]at k2;dsimp only at k2;omega
 rw[e3]at A;rw[U];rcases v.lst with⟨g1,g2⟩|⟨g1,g2⟩
 .rw[g1]at A;have⟨ys,ey⟩:=List.getLast?_eq_some_iff.1 g2;have I:=J.ci.tnd;rw[ey,UT]at I;have hy:=A;rw[ey,List.dropLast_concat]at hy;have t:=J.tk B ((List.dropLast_sublist _).subset A);rw[v.other i t.1 (I.2.2 i hy j ac)];exact J.fu i A
 have I:=ci.tnd;rw[e3,g1,UT]at I;rw[g1,List.dropLast_concat]at A;have t:=J.tk B A;rw[v.other i t.1 (I.2.2 i A j ac)];exact J.full B g2 (by rw[en];exact(B.gx.szs B.hp ha R.1).1) i A
end
section
variable {N:Nat}{h0:Wh}{S:List Int}{P:Int->Prop}{w:Wu}{M:List (Int×Int)}{D:Int->Prop}
def JD{M:List (Int×Int)}{a:Int}(h:a∈M.map (·.1)):∃b,(a,b)∈M:=by simp_all
def XqZ{M:List (Int×Int)}{a b:Int}(h:(a,b)∈M):a∈M.map (·.1):=WI.2 ⟨(a,b),h,rfl⟩
def JX.rng(J:JX N h0 S P w M D)(B:BX N h0 S){p:Int×Int}(hp:p∈M):4096<=p.2/\p.2<=100000:=by have⟨O,s,e⟩:=J.ci.obj;have g:=e.fit _ (J.geo e hp).1;have:=J.ci.wlen;have hw:=B.hp.words;have f:=Xh.1 B.hp.conf;have j:=XE B.hp.conf (i:=0) ab ab;omega
def XrO(hN:NB N)(B:BX N h0 S)(J:JX N h0 S P w M D){a:Int}(A:a=0\/Obb h0 a/\P a):Ok (QaF N w a) λr=>r.2.2=0/\∃M',JX N h0 S P r.1 M' D/\(∃t,M'=M++t)/\rel M' a r.2.1/\r.1.d=w.d/\M'.map (·.1)=ad1 (M.map (·.1)) a:=by
 have hN':=hN;unfold NB at hN';have Z:=B.st;have hb:=Z.hb;have hp:=B.hp;have g:=J.ci;have⟨O,s,ho⟩:=J.ci.obj;have⟨r,er,hr⟩:=Xa9 hN Z g ho a;suffices main:Ok (QaF N w a) λr=>r.2.2=0/\(CI h0 S r.1->∃M',JX N h0 S P r.1 M' D/\(∃t,M'=M++t)/\rel M' a r.2.1/\M'.map (·.1)=ad1 (M.map (·.1)) a) by obtain⟨r',er',h⟩:=main;rw[er]at er';obtain rfl:=Wz er';refine⟨r,er,?_⟩;obtain⟨h1,h2⟩:=h;obtain⟨M',m1,m2,m3,m4⟩:=h2 (hr h1).ci;exact⟨h1,M',m1,m2,m3,(hr h1).sc,m4⟩
 have hql:=g.ql hb;have hwl:=g.wl hb;have hww:=g.wlen;have hpl:=g.plen;have hb2:=hb.2;rw[QaF];by_cases I:a=0
 .rw[Xp I,Wc];exact Wd (⟨rfl,λ_=>⟨M,J,⟨[],ac⟩,.inl ⟨I,I⟩,(ZV (.inl I)).symm⟩⟩)
 have⟨A,hP⟩:=A.resolve_left I;have E:=B.at_ A;have K:=E.1;rw[Xj I,Wa,XY a ab ab,Xa];cases hq:w.q.contains a with
 |true=>have hm:=X5 hq;rw[J.q]at hm;have⟨p,hpm,e⟩:=WI.1 hm;have:=J.q_old B A hpm e;exact Wd (⟨rfl,λ_=>⟨M,J,⟨[],ac⟩,.inr (by simp_all),(ZV (.inr (XqZ (b:=a) (by rw[←this];exact hpm)))).symm⟩⟩)
 |false=>
 have hal:a∈w.o:=by rw[J.ol];unfold Ye;rw[WY];exact⟨E.2.1,by simp[YY,fnd,A.2]⟩
 have hol:=g.old.length_le;have hsl:=Z.st.len;have hin:inW w.h.w a:=by have:=K.rng;have:=hp.words;unfold inW;omega
 rw[Wa,XY a ab ab,Xa,show w.o.contains a=true by simp_all,Wi,Wa,Yg hwl,Xa,Wm hin,Kr,Xa];have etw:w.h.w.getD (ix a) 0=wd w.h.w a:=rfl;rw[etw];by_cases L:a∈M.map (·.1)
 ·
  obtain⟨b,V⟩:=JD L;have hr:=J.rng B V;rcases J.k _ V with⟨k,_⟩|⟨_,k,_⟩
  .simp_all[J.q]
  have f:=Xgx (v:=b) ab ab;have k:wd w.h.w a=wU (wU (4*b)+2):=k;rw[k,f.1,f.2.1];exact Wd (⟨rfl,λ_=>⟨M,J,⟨[],ac⟩,.inr V,(ZV (.inr L)).symm⟩⟩)
 have hsm:=J.same B A L (x:=a) (Uu _) (by have:=(Xy h0.w a).2.1;omega);have hf:=Xc3 (XcE J.tu a) (by rw[hsm];exact K.ok);have hof:Qca N w.h.c a=some (pgi h0.c a,pgo h0.c a,0):=by rw[KR,g.conf,hp.conf,Wj ac,Wm K.rng];rfl
 rw[hf,Wj ac,Wa,hof,Xa,show((0:Int) != 0)=false from rfl,Wa,We ab,Wa];have T:=J.prm B A;have hpg:=J.pgs _ E.2.2.1 E.2.2.2.1 T.1;have⟨b,eb,hbp⟩:=XrN hN (g.tl hb) (pgi h0.c a);have hsps:=B.hp.space;have hwsp:wI (1-w.h.s)=1-h0.s:=by rw[g.spc,Xe ab ab]
 rw[eb,Xa];have hk12:=K.kind;cases b with
 |true=>have hpin:=T.2.1 (hbp.1 rfl);rw[Wc,QcO,Xb ab,Xb ab,Xa];refine Wd (⟨rfl,λci=>⟨M++[(a,a)],?_,⟨_,rfl⟩,.inr ac,by rw[JC I L,UI];rfl⟩⟩);exact J.keep B A hP L (λc=>c.2 hpin.2) J.ss (λi _ _ _ _=>rfl) (λi z G U=>⟨(J.pgs i z G U).1,(J.pgs i z G U).2.1,(J.pgs i z G U).2.2.1⟩) (λh2=>ab) rfl rfl rfl rfl rfl ci
 |false=>
 have hnp:¬((pg h0.p (pgi h0.c a)).k=1/\(pg h0.p (pgi h0.c a)).P>0):=λh=>by simp_all
 rw[Wa,Xn E.2.2.1 ab,Xa];by_cases hk2:(pg h0.p (pgi h0.c a)).k=2
 .rw[Xp (hpg.1.trans hk2),Wc,Xb ab,Xa,Xe (n:=pgi h0.c a+1) ab ab];have H:OO h0.c w.h.p:=by have h:=J.ss.proper hN hb B.gx.ep (ws:=h0.w) rfl (b:=-1) (.inl rfl);exact Vy hN (h:=⟨h0.c,h0.w,w.h.p,h0.s,-1⟩) ⟨hb.1,by simp_all⟩ h
  refine WJ (Xf9 w a (ps:=w.h.p) ab N (pgi h0.c a+1) _ ab ab ab ((SameK.refl _).set E.2.2.1 ab _ _)) λqs eqs hqs=>?_;have hrun:=XrM (w:=w) H (by simp_all[g.spc]) E.2.2.1 ab (hpg.1.trans hk2) hqs.1 eqs;have hfr:=λj hj=>Xgw w a N (pgi h0.c a+1) _ qs ab eqs j hj;have e2:=λx hx=>YW (ps:=w.h.p) (j:=x) ⟨(pg w.h.p (pgi h0.c a)).k,wI (1-w.h.s),(pg w.h.p (pgi h0.c a)).u,(pg w.h.p (pgi h0.c a)).P⟩ E.2.2.1 ab hx;have hpq:∀i,0<=i->(pg w.h.p i).k≠3->pg qs i=if i=pgi h0.c a then⟨(pg w.h.p (pgi h0.c a)).k,wI (1-w.h.s),(pg w.h.p (pgi h0.c a)).u,(pg w.h.p (pgi h0.c a)).P⟩else pg w.h.p i:=λi z hk=>by grind
  have hp3:∀i,0<=i->(pg qs i).u=(pg w.h.p i).u/\(pg qs i).k=(pg w.h.p i).k/\(pg qs i).P=(pg w.h.p i).P:=λi z=>by have hk:=hqs.2 i z;grind
  rw[QcO,Xb (by grind),Xb (by grind),Xa];refine Wd (⟨rfl,λci=>⟨M++[(a,a)],?_,⟨_,rfl⟩,.inr ac,by rw[JC I L,UI];rfl⟩⟩);have kk:∀i,0<=i->i<(h0.p.length:Int)->(pg h0.p i).k≠3->(pg w.h.p i).k≠3:=λi z G h=>by
   by_cases U:i∈w.t
   .rw[(J.tk B U).2.2.1];omega
   rw[(J.pgs i z G U).1];omega
  exact J.keep B A hP L (λc=>by have:=c.1;omega) (J.ss.trans hrun.ss) (λi z G h1 h2=>by
   grind)
   (λi z G U=>by have q:=hp3 i z;have p:=J.pgs i z G U;omega)
   (λ_=>by simp_all) rfl rfl rfl rfl rfl ci
 have R:(pg h0.p (pgi h0.c a)).k=1:=ab;rw[Xj ab,Wa];have hcp:cpy h0 a:=⟨R,λh=>hnp ⟨R,h⟩⟩
 have hsz:=(Z.good (I8 E.2.1)).sz Z.st E.2.1 R;have W:=Xy w.h.w a;have esz:szA w.h.w a=szA h0.w a:=Jt hsm;rw[ZE,Xa,XQ,Xa];have e1:XB (Zd (wd w.h.w a))=szA w.h.w a:=W.1;rw[e1];refine WJ (XdG hN hb hp g (n:=szA w.h.w a) W.2.1 ab) λy ey hy=>?_;cases hy2:y.2.2 with
 |false=>have⟨lf,pf⟩:=hy.2 hy2;exact(J.room B lf (by rw[esz];exact(B.gx.szs hp A R).1) pf).elim
 |true=>
 have⟨j,u,Y⟩:=hy.1 hy2;have cw:=Xga hp g ho E.2.1 rfl W.2.1 Y (wU (wU (4*y.2.1)+2));have⟨G,i2,_⟩:=cw;rw[Wi,Wa,Y.words];have en:szA w.h.w a=(((szA w.h.w a).toNat:Nat):Int):=ab;have hmv:=Xf3 (N:=N) hwl y.2.1 a (szA w.h.w a).toNat ab ab;rw[←en,Wm ⟨G,i2⟩]at hmv;have ol:=Xbz G i2;have hr1:y.2.1<4294967296:=by have:=i2.2;have:=hb.1;omega
 rw[hmv,Xa,Vs,Xa,Wj ab];rw[KE (by grind) ab,Xa];have hin2:inW (ovr w.h.w ((w.h.w.drop (ix a)).take (szA w.h.w a).toNat) (ix y.2.1)) a:=by unfold inW;rw[ol];exact hin
 rw[Wm hin2];have hqe:=Y.queue;have H:OO h0.c w.h.p:=by have h:=J.ss.proper hN hb B.gx.ep (ws:=h0.w) rfl (b:=-1) (.inl rfl);exact Vy hN (h:=⟨h0.c,h0.w,w.h.p,h0.s,-1⟩) ⟨hb.1,by grind⟩ h
 have hpc:=XkE H (by grind[g.spc]) (λj hj=>(g.tk j hj).2.2.1) ab Y;refine Ue (by grind) (Ue (by grind) (Wd (⟨rfl,λci=>⟨M++[(a,y.2.1)],?_,⟨_,rfl⟩,.inr ac,by rw[JC I L,UI];rfl⟩⟩)));exact(J.copy B A hP L hcp esz Y (J.ss.trans hpc.ss) (by rfl) (by rfl) (by rfl) (by grind) (by exact Y.old) ci).1
end
def R2{α β:Type}(r:α->β->Prop)(l:List α)(m:List β):Prop:=m.length=l.length/\∀(k:Nat) (a:α) (b:β),l[k]? = some a->m[k]? = some b->r a b
section
variable {α β:Type}{r s:α->β->Prop}{l:List α}{m:List β}{a:α}{b:β}
def R2.nil(r:α->β->Prop):R2 r [] []:=⟨rfl,λk a b h=>ac⟩
def R2.mono(h:R2 r l m)(e:∀a b,r a b->s a b):R2 s l m:=⟨h.1,λk a b x y=>e a b (h.2 k a b x y)⟩
def R2.app{g:List α}{j:List β}(h:R2 r l m)(o:R2 r g j):R2 r (l++g) (m++j):=by
 refine⟨by simp[h.1,o.1],λk x y e f=>?_⟩;by_cases p:k<l.length
 .rw[Uk p]at e;rw[Uk (by rw[h.1];omega)]at f;exact h.2 k x y e f
 rw[Ud ab]at e;rw[Ud (by rw[h.1];omega),h.1]at f;exact o.2 _ x y e f
def R2.one(h:r a b):R2 r [a] [b]:=⟨rfl,λk x y e f=>by
 grind⟩
def R2.snoc(h:R2 r l m)(e:r a b):R2 r (l++[a]) (m++[b]):=h.app (.one e)
def R2.cons(e:r a b)(h:R2 r l m):R2 r (a::l) (b::m):=(R2.one e).app h
def R2.unc(h:R2 r (a::l) m):∃b m',m=b::m'/\r a b/\R2 r l m':=by
 cases m with
 |nil=>have:=h.1;simp_all
 |cons b m'=>refine⟨b,m',rfl,h.2 0 a b rfl rfl,by have:=h.1;simp_all,λk x y e f=>h.2 (k+1) x y ah ah⟩
def R2.take(h:R2 r l m)(n:Nat):R2 r (l.take n) (m.take n):=by
 refine⟨by simp[h.1],λk x y e f=>?_⟩;rw[Ur]at e f;split at e
 .rename_i g;rw[Wm g]at f;exact h.2 k x y e f
 simp_all
def R2.drop(h:R2 r l m)(n:Nat):R2 r (l.drop n) (m.drop n):=by refine⟨by simp[h.1],λk x y e f=>?_⟩;rw[UN]at e f;exact h.2 _ x y e f
def R2.memr(h:R2 r l m)(hb:b∈m):∃a∈l,r a b:=by obtain⟨k,e,rfl⟩:=Wv hb;have f:=h.1;exact⟨l[k],Wt ab,h.2 k _ _ (Wb ab) (Wb e)⟩
def R2.meml(h:R2 r l m)(e:a∈l):∃b∈m,r a b:=by obtain⟨k,f,rfl⟩:=Wv e;have g:=h.1;exact⟨m[k],Wt ab,h.2 k _ _ (Wb f) (Wb ab)⟩
def R2.get(h:R2 r l m){k:Nat}(e:l[k]? = some a):∃b,m[k]? = some b/\r a b:=by have f:=(Ia.1 e).1;have g:=h.1;exact⟨m[k],Wb ab,h.2 k _ _ e (Wb ab)⟩
def R2.set(h:R2 r l m)(k:Nat)(j:r a b):R2 r (l.set k a) (m.set k b):=by
 refine⟨by simp[h.1],λi x y e f=>?_⟩;rw[U5]at e f;by_cases g:k=i
 .simp_all
 rw[Wj g]at e f;exact h.2 i x y e f
end
def rel.mono{M M':List (Int×Int)}{a b:Int}(h:rel M a b)(e:∃t,M'=M++t):rel M' a b:=by obtain⟨t,rfl⟩:=e;exact h.imp id λh=>WU _ h
def Xac{d:Wy}:∀{k:Nat} {i:Int},(X4 d k i).Pairwise (·<·)
 |0,i=>.nil
 |k+1,i=>by
  rw[X4];split
  .exact U8.2 ⟨λx e=>by have:=KW e;omega,Xac⟩
  exact Xac
def Xox(d:Wy):(XJ d).Pairwise (·<·):=by
 unfold XJ;split
 .exact Xac
 simp
section
variable {N:Nat}{h0:Wh}{S:List Int}{P:Int->Prop}{w:Wu}{M:List (Int×Int)}{D:Int->Prop}
def JX.cong(J:JX N h0 S P w M D){w':Wu}(e:w'.h.p=w.h.p)(f:w'.h.w=w.h.w)(e3:w'.t=w.t)(e4:w'.q=w.q)(g:w'.o=w.o)(ci:CI h0 S w'){D':Int->Prop}(j:∀x,D' x↔D x):JX N h0 S P w' M D':=by have:D'=D:=funext λx=>propext (j x);subst this;refine⟨ci,by rw[e];exact J.ss,by rw[f];exact J.tu,by rw[g];exact J.ol,by rw[e4];exact J.q,J.l,J.n1,by rw[e,f,e3];exact J.k,by rw[f];exact J.hd,by rw[f];exact J.fl,by rw[f];exact J.o,J.d,by rw[e,e3];exact J.t,by rw[e,e3];exact J.pgs,by rw[e3,Xej e3 λi _=>by rw[e]];exact J.pk,by rw[e,e3];exact J.fu⟩
def JX.store(J:JX N h0 S P w M D)(B:BX N h0 S){p:Int×Int}(hp:p∈M){j v:Int}(j0:0<=j)(j1:j<(hdA h0.w p.1).n)(W:rel M (wd h0.w (p.1+1+j)) v):inW w.h.w (p.2+1+j)/\∀{w':Wu},w'.h.p=w.h.p->w'.h.w=w.h.w.set (ix (p.2+1+j)) v->w'.t=w.t->w'.q=w.q->w'.o=w.o->CI h0 S w'->JX N h0 S P w' M (λx=>D x\/x=p.2+1+j):=by
 have⟨O,s,A⟩:=J.ci.obj;have g:=J.geo A hp;have ez:szA h0.w p.1=(hdA h0.w p.1).n+1:=rfl;have hf:=A.fit p.2 g.1;have I:inW w.h.w (p.2+1+j):=by unfold inW;omega
 refine⟨I,λH Y e3 e4 e5 ci=>?_⟩;rename_i w';have E:∀x,4096<=x->wd w'.h.w x=if x=p.2+1+j then v else wd w.h.w x:=λx z=>by rw[Y];exact Xb5 I z
 have ne:∀y,O y->y≠p.2->∀x,y<=x->x<y+s y->x≠p.2+1+j:=λy hy h x R h2' e=>by have:=A.apart y p.2 hy g.1 h;omega
 have K:∀q∈M,q.2≠p.2+1+j:=λq u e=>by
  have T:=J.geo A u;have:=(Xy h0.w q.1).2.1;by_cases h:q.2=p.2
  .omega
  exact ne q.2 T.1 h q.2 (Uu _) ab e
 refine⟨ci,by rw[H];exact J.ss,?_,by rw[e5];exact J.ol,by rw[e4];exact J.q,J.l,J.n1,λq u=>?_,λq u=>?_,λq u k k0 k1=>?_,λx Z z=>?_,λx z=>?_,by rw[H,e3];exact J.t,by rw[H,e3];exact J.pgs,by rw[e3,Xej e3 λi _=>by rw[H]];exact J.pk,by rw[H,e3];exact J.fu⟩
 .intro x z;rw[Y]at z;rcases W0 z with z|z
  .exact J.tu x z
  rcases W with⟨_,h⟩|h
  .simp_all
  have:=J.rng B h;exact⟨ab,ab⟩
 .rw[H,e3];rcases J.k q u with k|⟨k1,k2,k3⟩
  .simp_all
  refine .inr ⟨k1,?_,k3⟩;have G:=B.at_ (J.l q u).1;have oq:=A.old q.1 G.2.1;have:q.1≠p.2:=λe=>by
   have R:=J.q_old B (J.l q u).1 hp e.symm;have E:=J.fn u (q:=(q.1,q.1)) (by rw[←R];exact hp) rfl;rcases J.k p hp with k|⟨_,_,i,hi,g1,g2⟩
   .rw[R]at k;exact k.2 k1
   have L:=J.hd q u;rw[E]at L k2;have:=G.1.ok;have U:=Xc3 (XcE J.tu q.1) (by rw[L];exact this);rw[k2]at U;have hr:=J.rng B u;rw[E]at hr;have:=(Xgx (v:=q.1) ab ab).1;rw[this]at U;cases U
  rw[E q.1 G.2.2.2.2,Wj (ne q.1 oq.1 this q.1 (Uu _) (by have:=(A.fit _ oq.1).2.1;omega))];omega
 .rw[E q.2 (by have:=J.rng B u;omega),Wj (K q u)];exact J.hd q u
 .have f:=J.fl q u k k0 k1;have hr:=J.rng B u;rw[E _ ab];by_cases he:q.2+1+k=p.2+1+j
  .rw[Wm he];have T:=J.geo A u;have ezq:szA h0.w q.1=(hdA h0.w q.1).n+1:=rfl;have V:q.2=p.2:=by apply Classical.byContradiction;intro h;exact ne q.2 T.1 h (q.2+1+k) ab ab he
   have:=J.inj u hp V;subst this;have:k=j:=ab;subst this;exact⟨λh=>absurd (.inr rfl) h,λ_=>W⟩
  simp_all
 .rw[E x Z,Wj]
  .exact J.o x Z z
  grind
 rcases z with z|z
 .exact J.d x z
 grind
def XkH(hN:NB N)(B:BX N h0 S)(rs:List Int)(L:rs.length<=1000000)(G:∀r∈rs,r=0\/Obb h0 r/\P r):∀(n k:Nat) (w:Wu) (M:List (Int×Int)) (out:List Int),k<=rs.length->rs.length-k<n->JX N h0 S P w M D->R2 (rel M) (rs.take k) out ->
 Ok (Qa4 N rs n (k:Int) w.h.c.W w.h.c.p w.h.w w.h.p w.h.s w.h.b w.o w.t w.q w.d w.r.j w.r.K w.r.F w.r.E w.r.f w.r.y out) λe=>match e with
  |.ret r=>False
  |.nxt t=>∃(w':Wu) (M':List (Int×Int)) (u:List Int),JX N h0 S P w' M' D/\w'.d=w.d/\(∃t,M'=M++t)/\R2 (rel M') rs u/\M'.map (·.1)=Vz (M.map (·.1)) (rs.drop k)/\t=(w'.h.c.W,w'.h.c.p,w'.h.w,w'.h.p,w'.h.s,w'.h.b,w'.o,w'.t,w'.q,w'.d,w'.r.j,w'.r.K,w'.r.F,w'.r.E,w'.r.f,w'.r.y,u)
 |0,k,w,M,out,_,O,_,_=>by omega
 |n+1,k,w,M,out,hk,O,J,H=>by
  rw[Qa4];by_cases g:k<rs.length;rotate_left
  .rw[We ab,Wa];exact Wd ⟨w,M,out,J,rfl,⟨[],ac⟩,by grind,by rw[WZ ab];rfl,rfl⟩
  rw[Xi g,Wc,Xf,Wb g,Xa,Xg ab];have x:=H.1;rw[Ws]at x;refine WJ (XrO hN B J (G _ (Wt g))) λy _ R=>?_;obtain⟨h0,M',J',⟨t,rfl⟩,v,z,A⟩:=R
  rw[h0];refine Ue ab ((XkH hN B rs L G n (k+1) y.1 (M++t) (out++[y.2.1]) ab ab J' ?_).mono λe I=>?_)
  .rw[Im,Wb g];exact(H.mono λa b h=>h.mono ⟨t,rfl⟩).snoc v
  cases e with
  |ret r=>exact I
  |nxt t'=>obtain⟨w',M',o',c1,T,⟨U,V⟩,Y,Z,c6⟩:=I;exact⟨w',M',o',c1,T.trans z,⟨t++U,by rw[V,W4]⟩,Y,by rw[Z,A,Wl g];rfl,c6⟩
def XkI(hN:NB N)(B:BX N h0 S){p:Int×Int}(hP:∀j∈XJ (hdA h0.w p.1),wd h0.w (p.1+1+j)=0\/P (wd h0.w (p.1+1+j))):∀(n k:Nat) (w:Wu) (M:List (Int×Int)) (D:Int->Prop),k<=(XJ (hdA h0.w p.1)).length->(XJ (hdA h0.w p.1)).length-k<n->p∈M->JX N h0 S P w M D->(∀j∈(XJ (hdA h0.w p.1)).drop k,¬D (p.2+1+j)) ->
 Ok (Qbe N p.2 (XJ (hdA h0.w p.1)) n (k:Int) w.h.c.W w.h.c.p w.h.w w.h.p w.h.s w.h.b w.o w.t w.q w.d w.r.j w.r.K w.r.F w.r.E w.r.f w.r.y) λe=>match e with
  |.ret r=>False
  |.nxt t=>∃(w':Wu) (M':List (Int×Int)),JX N h0 S P w' M' (λx=>D x\/∃j∈(XJ (hdA h0.w p.1)).drop k,x=p.2+1+j)/\w'.d=w.d/\(∃t,M'=M++t)/\M'.map (·.1)=Vz (M.map (·.1)) (((XJ (hdA h0.w p.1)).drop k).map λj=>wd h0.w (p.1+1+j))/\t=(w'.h.c.W,w'.h.c.p,w'.h.w,w'.h.p,w'.h.s,w'.h.b,w'.o,w'.t,w'.q,w'.d,w'.r.j,w'.r.K,w'.r.F,w'.r.E,w'.r.f,w'.r.y)
 |0,k,w,M,D,_,hn,_,_,_=>by omega
 |n+1,k,w,M,D,hk,hn,hp,J,R=>by
  have T:=hN;unfold NB at T;have hkl:=J6 (hdA h0.w p.1);rw[Qbe];by_cases u:k<(XJ (hdA h0.w p.1)).length;rotate_left
  .rw[We ab,Wa];refine Wd ⟨w,M,J.cong rfl rfl rfl rfl rfl J.ci λx=>?_,rfl,⟨[],ac⟩,by rw[WZ ab];rfl,rfl⟩;grind
  rw[Xi u,Wc,Xf,Wb u,Xa,Xg ab];have hdr:=Wl u;have G:=(Xox (hdA h0.w p.1)).drop (i:=k);have U:=Wt u;rw[hdr,U8]at G;rw[hdr]at R;have H:=Zn U;have v:(XJ (hdA h0.w p.1))[k]∈XJ (hdA h0.w p.1):=U;generalize ej:(XJ (hdA h0.w p.1))[k]=j at G R H v U;have V:=(J.l p hp).1;have hpt:=B.gx.pt p.1 V j v;have hr:=J.rng B hp;have z:=(XD (ZX (wd h0.w p.1))).2.2.2;have z:(hdA h0.w p.1).n<=255:=z;have Y:=J.fl p hp j H.1 H.2;rw[Xt (n:=p.2+1) ab ab,Xt (n:=j) ab ab,Xt (n:=p.2+1+j) ab ab];have Z:inW w.h.w (p.2+1+j):=by obtain⟨O,s,I⟩:=J.ci.obj;have g:=J.geo I hp;have hf:=I.fit p.2 g.1;have ez:szA h0.w p.1=(hdA h0.w p.1).n+1:=rfl;unfold inW;omega
  rw[Yg (J.ci.wl B.st.hb),Xa,Wm Z];have ew:w.h.w.getD (ix (p.2+1+j)) 0=wd h0.w (p.1+1+j):=Y.1 (R j (List.mem_cons_self));rw[ew];refine WJ (XrO hN B J (a:=wd h0.w (p.1+1+j)) ?_) λy _ hy=>?_
  .grind
  obtain⟨hz,M',J',⟨t,rfl⟩,L,hsc,hmf⟩:=hy
  rw[hz];have A:p∈M++t:=WU _ hp;have st:=J'.store B A H.1 H.2 L;rw[KE (J'.ci.wl B.st.hb) ab,Xa,Wm st.1];have⟨O,s,I⟩:=J'.ci.obj;have g:=J'.geo I A;have ez:szA h0.w p.1=(hdA h0.w p.1).n+1:=rfl;have sq:=Xgb J'.ci I g.1 (x:=p.2+1+j) ab ab y.2.1;have J2:=st.2 (w':={y.1 with h:={y.1.h with w:=y.1.h.w.set (ix (p.2+1+j)) y.2.1}}) rfl rfl rfl rfl rfl sq.2.1;refine(XkI hN B hP n (k+1) {y.1 with h:={y.1.h with w:=y.1.h.w.set (ix (p.2+1+j)) y.2.1}} (M++t) _ ab ab A J2 λi hi h=>?_).mono λe he=>?_
  .grind
  cases e with
  |ret r=>exact he
  |nxt t'=>have⟨w',M',c1,c2,⟨t2,c3⟩,c4,c5⟩:=he;refine⟨w',M',c1.cong rfl rfl rfl rfl rfl c1.ci λx=>?_,c2.trans hsc,⟨t++t2,by rw[c3,W4]⟩,by rw[c4,hmf,hdr,ej];rfl,c5⟩;grind
end
def Dn(h:Wh)(M:List (Int×Int))(k:Nat)(x:Int):Prop:=∃(i:Nat) (p:Int×Int) (j:Int),i<k/\M[i]? = some p/\j∈XJ (hdA h.w p.1)/\x=p.2+1+j
section
variable {N:Nat}{h0:Wh}{S:List Int}{P:Int->Prop}{w:Wu}{M:List (Int×Int)}
def XsO(hN:NB N)(B:BX N h0 S)(G:∀a,Obb h0 a->P a->∀j∈XJ (hdA h0.w a),wd h0.w (a+1+j)=0\/P (wd h0.w (a+1+j))){k:Nat}(J:JX N h0 S P w M (Dn h0 M k))(U:w.d=k)(hk:k<=M.length):
 Ok (Qef N w) λr=>r.2.2=0/\((k=M.length/\r.1=w/\r.2.1=false)\/(k<M.length/\r.2.1=true/\∃M',JX N h0 S P r.1 M' (Dn h0 M' (k+1))/\r.1.d=((k+1:Nat):Int)/\(∃t,M'=M++t)/\∀p,M[k]? = some p->M'.map (·.1)=Vz (M.map (·.1)) (rfs h0 p.1))):=by
 have H:=hN;unfold NB at H;have Z:=J.ci.ql B.st.hb;have o:w.q.length=M.length:=by rw[J.q,Ug]
 rw[Qef,U,o];by_cases f:k<M.length;rotate_left
 .rw[Wg ab];exact Wd ⟨rfl,.inl ⟨ab,rfl,rfl⟩⟩
 have v:M[k]∈M:=Wt f;have I:Xd w.q (k:Int)=some M[k].2:=by rw[Xf,J.q,US,Wb f];rfl
 have⟨O,s,z⟩:=J.ci.obj;have g:=J.geo z v;have hf:=z.fit _ g.1;have K:inW w.h.w M[k].2:=by unfold inW;omega
 have ehd:Zd (w.h.w.getD (ix M[k].2) 0)=hdA h0.w M[k].1:=by show Zd (wd w.h.w M[k].2)=_;rw[J.hd _ v];rfl
 have V:=J.l _ v;rw[We ab,Wa,I,Xa,Qdl,Yg (J.ci.wl B.st.hb),Xa,Wm K,ZE,Xa,Xa,ehd,XdA ab,Xa];have L:∀j∈(XJ (hdA h0.w M[k].1)).drop 0,¬Dn h0 M k (M[k].2+1+j):=by
  rintro j u ⟨i,q,j',A,E,y,e⟩;have u:=Zn (WR u);have y:=Zn y;have o:q∈M:=W5 E;have gq:=J.geo z o;have e1:szA h0.w M[k].1=(hdA h0.w M[k].1).n+1:=rfl;have e2:szA h0.w q.1=(hdA h0.w q.1).n+1:=rfl;have R:q.2=M[k].2:=by apply Classical.byContradiction;intro h;have:=z.apart _ _ gq.1 g.1 h;omega
  have:=J.inj o v R;have W:=J.n1;rw[List.Nodup,Iz,W7]at W;have:=W i k ab f A;obtain⟨_,E⟩:=Ia.1 E;rw[E]at this;simp_all
 have Y:=XkI hN B (p:=M[k]) (G _ V.1 V.2) N 0 w M (Dn h0 M k) ab (by have:=J6 (hdA h0.w M[k].1);omega) v J L;rw[show((0:Nat):Int)=0 from rfl,U]at Y;refine I4 Y (λa q=>q.elim) λt q=>?_;obtain⟨w',M',c1,c2,⟨t2,c3⟩,c4,rfl⟩:=q;have e:wI (w'.d+1)=((k+1:Nat):Int):=by rw[c2,Xg ab]
 refine Wd ⟨rfl,.inr ⟨f,rfl,M',c1.cong (by rfl) (by rfl) (by rfl) (by rfl) (by rfl) ?_ λx=>?_,e,⟨t2,c3⟩,λp hp=>by rw[Wb f]at hp;cases hp;exact c4⟩⟩
 .have ci:=c1.ci;have⟨O,s,h⟩:=ci.obj;exact⟨ci.conf,ci.wlen,ci.plen,ci.spc,ci.old,ci.tk,ci.tnd,ci.knd,ci.qnd,O,s,⟨h.old,h.queue,h.fit,h.apart,h.taken,h.free⟩⟩
 have T:∀i,i<M.length->M'[i]? = M[i]?:=λi A=>by grind
 constructor
 .rintro⟨i,p,j,A,hp,u,e⟩;rw[T i ab]at hp;by_cases hik:i=k
  .simp_all
  exact .inl ⟨i,p,j,ab,hp,u,e⟩
 rintro(⟨i,p,j,A,hp,u,e⟩|⟨j,u,e⟩)
 .exact⟨i,p,j,ab,by grind,u,e⟩
 exact⟨k,M[k],j,ab,by simp_all,u,e⟩
def XrP(hN:NB N)(B:BX N h0 S)(e:∀a,Obb h0 a->P a->∀j∈XJ (hdA h0.w a),wd h0.w (a+1+j)=0\/P (wd h0.w (a+1+j))):∀(n k:Nat) (w:Wu) (M:List (Int×Int)),JX N h0 S P w M (Dn h0 M k)->w.d=k->k<=M.length->100001-k<n ->
 Ok (QbS N n w.h.c.W w.h.c.p w.h.w w.h.p w.h.s w.h.b w.o w.t w.q w.d w.r.j w.r.K w.r.F w.r.E w.r.f w.r.y) λr=>r.2=0/\∃M',JX N h0 S P r.1 M' (Dn h0 M' M'.length)/\(∃t,M'=M++t)/\M'.map (·.1)=JN h0 n k (M.map (·.1))
 |0,k,w,M,_,_,_,L=>by omega
 |n+1,k,w,M,J,O,R,L=>by
  refine WJ (XsO hN B e J O R) λy _ u=>?_;obtain⟨v,u⟩:=u;rw[v,show((0:Int) != 0)=false from rfl,Wa];rcases u with⟨g,x,T⟩|⟨g,x,M',J',z,⟨t,ht⟩,A⟩
  .rw[T,x];subst g;exact Wd ⟨rfl,M,J,⟨[],ac⟩,by rw[JN,WN ac]⟩
  rw[x];have U:=J'.ci.ql B.st.hb;have V:y.1.q.length=M'.length:=by rw[J'.q,Ug]
  have I:M.length<=M'.length:=by rw[ht,WK];omega
  refine(XrP hN B e n (k+1) y.1 M' J' z ab ab).mono λr ⟨Y,M2,J2,⟨Z,G⟩,H⟩=>?_;refine⟨Y,M2,J2,⟨t++Z,by rw[G,ht,W4]⟩,?_⟩;rw[H,A _ (Wb g),JN,US,Wb g];rfl
end
section
variable {N:Nat}{h0:Wh}{S:List Int}{P:Int->Prop}{w:Wu}{M:List (Int×Int)}{D:Int->Prop}
def Xt6(hN:NB N)(hb:HB h0)(g:GX N h0)(cp:Cap h0):∃S,BX N h0 S/\Qal N h0=some (Ye h0 S,0):=by obtain⟨S,L,j,mS,eS,eL,rfl,mL⟩:=Xbe hN hb g.ep g.ps;have⟨b,eb,e⟩:=Kz hN hb;rw[(Ve hN hb).2 g]at eb;obtain rfl:=Wz eb;have f:=e rfl;exact⟨S,⟨g,⟨hb,λ_=>f,λ_=>f.prop,j⟩,mS,f.prop,cp⟩,eL⟩
def Xek(e:List Int×Int)(o:h0.p.length<=100000):∀(n k:Nat) (v:List Wp),k<=h0.p.length->h0.p.length-k<n->v.length=h0.p.length->(∀j:Nat,k<=j->pg v j=pg h0.p j) ->
 ∃r,QbE N h0 e n (k:Int) v=some r/\r.length=h0.p.length/\∀j:Nat,pg r j=if j<k\/¬((pg h0.p j).k=1/\(pg h0.p j).P>0)then pg v j else⟨1,wI (1-h0.s),(pg h0.p j).u,(pg h0.p j).P⟩
 |0,k,v,_,z,_,_=>by omega
 |n+1,k,v,E,z,f,q=>by
  rw[QbE,Xb ab,f];by_cases h:k<h0.p.length
  .rw[Xi h,Wc,Xn (ps:=v) (i:=(k:Int)) ab ab,Xa,Xg ab];simp only[Xa,q k (Uh k)];by_cases G:(pg h0.p k).k=1/\(pg h0.p k).P>0
   .have H:=λx:Nat=>YW (ps:=v) (i:=(k:Int)) (j:=(x:Int)) ⟨(pg h0.p k).k,wI (1-h0.s),(pg h0.p k).u,(pg h0.p k).P⟩ ab ab ab;obtain⟨r,A,r3,r4⟩:=Xek e o n (k+1) (v.set (k:Int).toNat ⟨(pg h0.p k).k,wI (1-h0.s),(pg h0.p k).u,(pg h0.p k).P⟩) ab ab (by simp_all) λj g=>by grind
    grind
   have⟨r,A,r3,r4⟩:=Xek e o n (k+1) v ab ab f λj g=>q j ab;grind
  obtain rfl:k=h0.p.length:=ab;rw[Xw,Wa];refine⟨v,rfl,f,λj=>?_⟩;by_cases B:j<h0.p.length\/¬((pg h0.p j).k=1/\(pg h0.p j).P>0)
  .grind
  exfalso;apply B;right;intro y;have:pg h0.p j=Y3:=by unfold pg;rw[Wk,WN ab];rfl
  rw[this]at y;exact absurd y.1 ag
def Xq0(hN:NB N)(ht:HT h0)(B:BX N h0 S)(eL:Qal N h0=some (Ye h0 S,0)):∃w,QcZ N h0=some (w,0)/\JX N h0 S P w [] (Dn h0 [] 0)/\w.d=0:=by
 have hb:=B.st.hb;have v:=hb.2;have hp:=B.hp;have y:=hp.space;have hw:wI (1-h0.s)=1-h0.s:=Xe ab ab;have e:=Vy hN hb B.gx.ep;have⟨r,q,r3,r4⟩:=Xek (N:=N) (h0:=h0) (Ye h0 S,0) ab N 0 h0.p ab (by unfold NB at hN;omega) rfl λ_ _=>rfl;rw[show((0:Nat):Int)=0 from rfl]at q;have z:∀j,0<=j->((pg h0.p j).k=1/\(pg h0.p j).P>0/\(pg r j)=⟨1,1-h0.s,(pg h0.p j).u,(pg h0.p j).P⟩)\/(¬((pg h0.p j).k=1/\(pg h0.p j).P>0)/\pg r j=pg h0.p j):=λj A=>by
  obtain⟨m,rfl⟩:∃m:Nat,j=m:=⟨j.toNat,ab⟩
  grind
 have E:SameK h0.p r:=⟨r3,λj A=>by
  grind⟩
 have ci:=XdI hb hp B.st.st (w:=⟨⟨h0.c,h0.w,r,h0.s,h0.b⟩,Ye h0 S,[],[],0,⟨0,0,0,0,0,0⟩⟩) rfl rfl rfl E List.filter_sublist rfl rfl;refine⟨⟨⟨h0.c,h0.w,r,h0.s,h0.b⟩,Ye h0 S,[],[],0,⟨0,0,0,0,0,0⟩⟩,?_,⟨ci,?_,ht.tw,rfl,rfl,ac,ac,ac,ac,ac,λ_ _ _=>rfl,λx G=>?_,λi g=>by simp_all,λi f o _=>?_,rfl,λi g=>by simp at g⟩,rfl⟩
 .rw[QcZ,B.gx.ep,Xa,Wi,Wa,(Ve hN hb).2 B.gx,Xa,Wi,Wa,eL,Xa,Xb ab,q,Xa]
 .refine XbM e r3 (λi f o=>?_) λi m f H I J K=>?_
  .have hb:=e.hd i f o;rcases z i f with⟨a,_,b⟩|⟨_,b⟩
   .have:=(hb ab).k1 a;have:=(hb ab).pn;rw[b];exact .inl ⟨ab,rfl,⟨by show 0<=1-h0.s;omega,by show 1-h0.s<=1;omega⟩,ah,by dsimp only;omega,by dsimp only;omega⟩
   simp_all
  have tl:=((e.hd i f ab ab).k2 H).2.2 m I J;grind
 .have⟨i,p,j,g,_⟩:=G;omega
 have L:=B.gx.sp i f o;grind
def JX.upd(J:JX N h0 S P w M D)(sc:Int)(f:WS):JX N h0 S P ⟨w.h,w.o,w.t,w.q,sc,f⟩ M D:=by
 have ci:=J.ci;have⟨O,s,h⟩:=ci.obj;have e:CI h0 S ⟨w.h,w.o,w.t,w.q,sc,f⟩:=⟨ci.conf,ci.wlen,ci.plen,ci.spc,ci.old,ci.tk,ci.tnd,ci.knd,ci.qnd,O,s,⟨h.old,h.queue,h.fit,h.apart,h.taken,h.free⟩⟩
 exact J.cong (by rfl) (by rfl) (by rfl) (by rfl) (by rfl) e λ_=>Iff.rfl
def wk(M:List (Int×Int))(a b:Int):Prop:=(a=0/\b=0)\/(a,b)∈M\/(a∉M.map (·.1)/\b=0)
def Xq1(hN:NB N)(B:BX N h0 S)(J:JX N h0 S P w M D){a:Int}(j:Obb h0 a):∃b,QcC N w a=some b/\wk M a b:=by
 have o:=hN;unfold NB at o;have H:=J.ci.ql B.st.hb;have E:=B.at_ j;rw[QcC,XY a ab ab,Xa];cases I:w.q.contains a with
 |true=>have G:=X5 I;rw[J.q]at G;have⟨p,u,e⟩:=WI.1 G;have:=J.q_old B j u e;exact⟨a,rfl,.inr (.inl (by simp_all))⟩
 |false=>
 have y:inW w.h.w a:=by have:=E.1.rng;have:=B.hp.words;have:=J.ci.wlen;unfold inW;omega
 rw[Wa,Yg (J.ci.wl B.st.hb),Xa,Wm y,Kr,Xa];rw[show w.h.w.getD (ix a) 0=wd w.h.w a from rfl];by_cases z:a∈M.map (·.1)
 .have⟨b,g⟩:=JD z;have L:=J.rng B g;rcases J.k _ g with⟨k,_⟩|⟨_,k,_⟩
  .simp_all[J.q]
  have f:=Xgx (v:=b) ab ab;exact⟨b,by simp_all,.inr (.inl g)⟩
 have A:=J.same B j z (x:=a) (Uu _) (by have:=(Xy h0.w a).2.1;omega);have K:=Xc3 (XcE J.tu a) (by rw[A];exact E.1.ok);rw[K];exact⟨_,rfl,.inr (.inr ⟨z,rfl⟩)⟩
def Xoy(hN:NB N)(B:BX N h0 S)(ws:List Int)(x:ws.length<=1000000)(hw:∀r∈ws,r=0\/Obb h0 r)(o:Wu×List Int×Int)(e:Wu×Int)(J:JX N h0 S P e.1 M D):∀(n k:Nat) (c:Int) (out:List Int),k<=ws.length->ws.length-k<n->R2 (wk M) (ws.take k) out->Ok (QaL N ws o e n (k:Int) c out) λr=>R2 (wk M) ws r.2
 |0,k,c,out,_,z,_=>by omega
 |n+1,k,c,out,A,z,v=>by
  rw[QaL];by_cases f:k<ws.length;rotate_left
  .rw[We ab,Wa];exact Wd (by grind)
  have p:=v.1;rw[Ws]at p;rw[Xi f,Wc,Xf,Wb f,Xa,Xg ab];have next:∀q b,wk M ws[k] b->Ok (QaL N ws o e n ((k+1:Nat):Int) q (out++[b])) λr=>R2 (wk M) ws r.2:=λq b hb=>by refine Xoy hN B ws x hw o e J n (k+1) q (out++[b]) ab ab ?_;rw[Im,Wb f];exact v.snoc hb
  by_cases g:ws[k]=0
  .rw[g];refine Is (Ue ab (next _ _ (.inl ⟨g,rfl⟩)))
  have u:=(hw _ (Wt f)).resolve_left g;rw[Xk g,Xv,Wc];have Jc:=J.upd e.1.d (WS.mk e.1.r.j e.1.r.K e.1.r.F e.1.r.E c e.1.r.y);have⟨b,eb,hb⟩:=Xq1 hN B Jc u;rw[Xa,eb,Xa];exact Is (Wn (λ_=>Ue ab (next _ _ hb)) λ_=>Ue ab (next _ _ hb))
end
def XcI(h:Wh)(M:List (Int×Int))(a:Int):Prop:=Obb h a/\a∉M.map (·.1)/\(pg h.p (pgi h.c a)).k=1/\(pg h.p (pgi h.c a)).P>0
def Xid(h:Wh)(a:Int):Int:=Zw ⟨0,(hdA h.w a).n,0⟩
def XrQ{d:Int}(h:0<=d/\d<=255):XC ⟨0,d,0⟩=true:=by unfold XC;grind
section
variable {N:Nat}{h0:Wh}{S:List Int}{P:Int->Prop}{w:Wu}{M:List (Int×Int)}{D:Int->Prop}
def XgB(ws:List Int)(a:Int):0<=(hdA ws a).n/\(hdA ws a).n<=255/\szA ws a=(hdA ws a).n+1:=by have:=XD (ZX (wd ws a));exact⟨this.2.2.1,this.2.2.2,rfl⟩
def XgC(hN:NB N)(B:BX N h0 S)(J:JX N h0 S P w M D):∀(n k:Nat) (v:List Int) (c:Int),k<=w.o.length->w.o.length-k<n->v.length=h0.w.length->(∀x∈v,tU x)->(∀a∈w.o.drop k,XcI h0 M a->wd v a=wd h0.w a) ->
 ∃u T,QaD N w n (k:Int) v c=some (u,T)/\u.length=h0.w.length/\(∀x∈u,tU x)/\(∀a∈w.o.drop k,XcI h0 M a->wd u a=Xid h0 a/\∀j,0<=j->j<(hdA h0.w a).n->wd u (a+1+j)=0)/\∀x,4096<=x->(∀a∈w.o.drop k,XcI h0 M a->¬(a<=x/\x<a+szA h0.w a))->wd u x=wd v x
 |0,k,v,c,_,hn,_,_,_=>by omega
 |n+1,k,v,c,hk,hn,hv,tv,hw=>by
  have hN':=hN;unfold NB at hN';have hb1:=B.st.hb.1;have V:=J.ci;have hql:=V.ql B.st.hb;have htl:=V.tl B.st.hb;have hol:=V.old.length_le;have hsl:=B.st.st.len;rw[QaD];by_cases h:k<w.o.length;rotate_left
  .rw[We ab,Wa,WZ ab];simp_all
  have hdr:=Wl h;have z:w.o[k]∈w.o:=Wt h;have H:=(B.st.st.obj.pw.sublist V.old).drop (i:=k);rw[hdr]at hw H⊢;rw[U8]at H;rw[Xi h,Wc,Xf,Wb h,Xa,Xg ab];generalize w.o[k]=a at z hw H⊢;have I:Obb h0 a:=by rw[J.ol]at z;unfold Ye at z;rw[WY]at z;exact⟨(B.mS a).1 z.1,by simp_all[YY,fnd]⟩
  have hA:=B.at_ I;have hfit:=Ky B.hp hA.1;have hof:Qca N w.h.c a=some (pgi h0.c a,pgo h0.c a,0):=by rw[KR,V.conf,B.hp.conf,Wj ac,Wm hA.1.rng];rfl
  have⟨b,eb,A⟩:=XrN (N:=N) (w:=⟨⟨w.h.c,v,w.h.p,w.h.s,w.h.b⟩,w.o,w.t,w.q,w.d,⟨w.r.j,w.r.K,c,w.r.E,w.r.f,w.r.y⟩⟩) hN htl (pgi h0.c a);have A:b=true↔Prm w (pgi h0.c a):=A;rw[(J.prm B I).2]at A;rw[hof,Xa,eb,Xa];have skip:¬XcI h0 M a->∃u T,QaD N w n ((k+1:Nat):Int) v c=some (u,T)/\u.length=h0.w.length/\(∀x∈u,tU x)/\(∀x∈a::w.o.drop (k+1),XcI h0 M x->wd u x=Xid h0 x/\∀j,0<=j->j<(hdA h0.w x).n->wd u (x+1+j)=0)/\∀x,4096<=x->(∀y∈a::w.o.drop (k+1),XcI h0 M y->¬(y<=x/\x<y+szA h0.w y))->wd u x=wd v x:=λhd=>by have⟨u,T,e1,e2,e3,e4,e5⟩:=XgC hN B J n (k+1) v c ab ab hv tv λx g=>hw x (WT _ g);simp_all
  cases hbv:b with
  |false=>exact skip λd=>by have:=A.2 d.2.2;simp_all
  |true=>
   have L:=A.1 hbv;rw[Wi,Wa,Xa,XY a ab ab,Xa];cases W:w.q.contains a with
   |true=>have U:=X5 W;rw[J.q]at U;have⟨p,Y,e⟩:=WI.1 U;have:=J.q_old B I Y e;exact skip λd=>d.2.1 (WI.2 ⟨p,Y,by grind⟩)
   |false=>
    have hq:=YE W;have hd:XcI h0 M a:=by
     refine⟨I,λU=>?_,L⟩;obtain⟨b,Z⟩:=JD U;rcases J.k _ Z with⟨k1,_⟩|⟨k1,_⟩
     .exact hq (by rw[J.q];exact WI.2 ⟨(a,b),Z,k1⟩)
     exact k1.2 L.2
    have ewd:=hw a ac hd;have hl:=XgB h0.w a;have eL:(Zd (wd v a)).n=(hdA h0.w a).n:=by rw[ewd];rfl
    rw[Wa,Xa,Qdl,Yg (by show v.length<=_;unfold BIG;omega),Xa,Wm (by show inW v a;unfold inW;omega),ZE,Xa,Xa];rw[show v.getD (ix a) 0=wd v a from rfl,eL,KU,Wm (XrQ ab),Xa,Xa,Xb ab,Xb ab];have G:([Zw ⟨0,(hdA h0.w a).n,0⟩]++List.replicate (hdA h0.w a).n.toNat (0:Int)).length=(hdA h0.w a).n.toNat+1:=by simp
    rw[ZQ (by unfold BIG;omega) (by rw[G];unfold BIG;omega) (by rw[G];omega),G,Wm (by unfold Yt;omega),Xa];have hi:ix a+([Zw ⟨0,(hdA h0.w a).n,0⟩]++List.replicate (hdA h0.w a).n.toNat (0:Int)).length<=v.length:=by rw[G];unfold ix;omega
    have hlen:=Zv hi;have hwv:∀x,4096<=x->wd (ovr v ([Zw ⟨0,(hdA h0.w a).n,0⟩]++List.replicate (hdA h0.w a).n.toNat (0:Int)) (ix a)) x=if a<=x/\x<a+szA h0.w a then(if x=a then Xid h0 a else 0)else wd v x:=λx g=>by
     unfold wd;rw[V2 hi,G];by_cases hr:a<=x/\x<a+szA h0.w a
     .rw[Wm hr,Wm (by unfold ix;omega)];by_cases O:x=a
      .rw[Wm O,O,U6];rfl
      rw[Wj O];obtain⟨m,U⟩:∃m,ix x-ix a=m+1:=⟨ix x-ix a-1,by unfold ix;omega⟩
      rw[U,Wk,List.singleton_append,Ij,Iw];split<;>rfl
     rw[Wj hr,Wj (by unfold ix;omega)]
    have tv':∀x∈ovr v ([Zw ⟨0,(hdA h0.w a).n,0⟩]++List.replicate (hdA h0.w a).n.toNat (0:Int)) (ix a),tU x:=λx g=>by
     unfold ovr at g;simp only[Wr,Uc]at g;rcases g with(g|g|g)|g
     .exact tv x (WQ g)
     .rw[g];unfold Zw;exact VZ _
     .rw[(II.1 g).2];exact⟨ab,ab⟩
     exact tv x (WR g)
    have apart:∀b∈w.o.drop (k+1),a+szA h0.w a<=b:=λb hb=>H.1 b hb;have⟨u,T,e1,e2,e3,e4,e5⟩:=XgC hN B J n (k+1) _ (wI (c+1)) ab ab (hlen.trans hv) tv' λx g R=>by have h1:=apart x g;rw[hwv x ab,Wj ab];exact hw x (WT _ g) R
    have low:∀x,4096<=x->x<a+szA h0.w a->wd u x=if a<=x then(if x=a then Xid h0 a else 0)else wd v x:=λx x0 x1=>by
     rw[e5 x x0 λy hy _ h=>by have:=apart y hy;omega,hwv x x0];by_cases g:a<=x
     .rw[Wm ⟨g,x1⟩,Wm g]
     rw[Wj ab,Wj g]
    refine⟨u,T,e1,e2,e3,λx g R=>?_,λx x0 g=>?_⟩
    .rcases Ig.1 g with rfl|g
     .refine⟨by rw[low x hA.2.2.2.2 ab,Wm (Uu _),Wm rfl],λj j0 j1=>?_⟩;rw[low _ ab ab,Wm ab,Wj ab]
     exact e4 x g R
    grind
def XrR{w:Wu}(j:List Wp)(q:Wp)(i c:Int)(hp:Uv h0)(u:w.h.c=h0.c)(y:0<=i)(g1:i<h0.c.p):∀(n:Nat) (k:Int) (v:List Int),0<=k->k<=h0.c.W->(65-k).toNat<n->v.length=h0.w.length->(∀x∈v,tU x) ->
 ∃r,Qbf N w j q i c n k v=some r/\r.length=h0.w.length/\(∀x∈r,tU x)/\∀x,4096<=x->wd r x=if Xc h0.c i k<=x/\x<Xc h0.c i h0.c.W then 0 else wd v x
 |0,k,v,_,_,A,_,_=>by omega
 |n+1,k,v,k0,k1,A,B,E=>by
  have G:=Xh.1 hp.conf;have K:=XE hp.conf y g1;have hw:=hp.words;rw[Qbf,u];have f:∀o,Xc h0.c i o=4096+i*h0.c.W+o:=λ_=>rfl;by_cases H:k<h0.c.W
  .rw[Wg H,Wc,Xe (n:=k+1) ab ab,Xe (n:=i*h0.c.W) ab ab,Xe (n:=i*h0.c.W+k) ab ab,X1 ab ab,Xa];have eix:(i*h0.c.W+k).toNat=ix (Xc h0.c i k):=by rw[f];unfold ix;omega
   rw[eix];have g:inW v (Xc h0.c i k):=by rw[f];unfold inW;omega
   obtain⟨r,I,J,r3,r4⟩:=XrR j q i c hp u y g1 n (k+1) (v.set (ix (Xc h0.c i k)) 0) ab ab ab (by rw[WL];exact B) λx e=>by
    rcases W0 e with e|e
    .exact E x e
    exact⟨ab,ab⟩
   refine⟨r,I,J,r3,λx e=>?_⟩;rw[r4 x e,Xb5 g e,f,f,f];by_cases z:x=4096+i*h0.c.W+k
   .rw[Wj ab,Wm z,Wm ab]
   rw[Wj z];congr 1;apply propext;omega
  grind
def Zi(w:Wu)(j:Int):Prop:=(pg w.h.p j).k≠0/\(pg w.h.p j).s=w.h.s
def Xjv(hN:NB N){w:Wu}(hb:HB h0)(hp:Uv h0)(J:w.h.c=h0.c)(B:w.h.p.length=h0.p.length):∀(n:Nat) (i c:Int) (v:List Int) (ps:List Wp),0<=i->i<=h0.p.length->(h0.p.length-i).toNat<n->v.length=h0.w.length->(∀x∈v,tU x)->ps.length=h0.p.length->(∀j,i<=j->pg ps j=pg w.h.p j) ->
 ∃u g f,QaO N w n i c v ps=some (u,g,f)/\g.length=h0.w.length/\(∀x∈g,tU x)/\f.length=h0.p.length/\(∀j,0<=j->(i<=j/\j<h0.p.length/\Zi w j->pg f j=Y3)/\(¬(i<=j/\j<h0.p.length/\Zi w j)->pg f j=pg ps j))/\∀x,4096<=x->((∃j,i<=j/\j<h0.p.length/\Zi w j/\Xc h0.c j 0<=x/\x<Xc h0.c j h0.c.W)->wd g x=0)/\((¬∃j,i<=j/\j<h0.p.length/\Zi w j/\Xc h0.c j 0<=x/\x<Xc h0.c j h0.c.W)->wd g x=wd v x)
 |0,i,c,v,ps,_,_,hn,_,_,_,_=>by omega
 |n+1,i,c,v,ps,K,gi,hn,L,O,o,A=>by
  have R:=hN;unfold NB at R;have hpp:=hp.pages;have hvc:=Xh.1 hp.conf;rw[QaO,Xb ab,o];by_cases T:i<h0.p.length;rotate_left
  .rw[We T,Wa];exact⟨c,v,ps,rfl,L,O,o,λj _=>⟨λh=>ab,λ_=>rfl⟩,λx _=>⟨λ⟨j,a,b,_⟩=>ab,λ_=>rfl⟩⟩
  rw[Wg T,Wc,Xn K ab,Xa,A i (Uu _),Xe (n:=i+1) ab ab];have skip:¬Zi w i->∃u g f,QaO N w n (i+1) c v ps=some (u,g,f)/\g.length=h0.w.length/\(∀x∈g,tU x)/\f.length=h0.p.length/\(∀j,0<=j->(i<=j/\j<h0.p.length/\Zi w j->pg f j=Y3)/\(¬(i<=j/\j<h0.p.length/\Zi w j)->pg f j=pg ps j))/\∀x,4096<=x->((∃j,i<=j/\j<h0.p.length/\Zi w j/\Xc h0.c j 0<=x/\x<Xc h0.c j h0.c.W)->wd g x=0)/\((¬∃j,i<=j/\j<h0.p.length/\Zi w j/\Xc h0.c j 0<=x/\x<Xc h0.c j h0.c.W)->wd g x=wd v x):=λU=>by
   obtain⟨u,g,f,e1,E,e3,e4,e5,e6⟩:=Xjv hN hb hp J B n (i+1) c v ps ab ab ab L O o λj h=>A j ab;have ne:∀j,i<=j->Zi w j->i+1<=j:=λj h A=>by
    by_cases e:j=i
    .rw[e]at A;exact absurd A U
    omega
   refine⟨u,g,f,e1,E,e3,e4,λj q=>⟨λh=>(e5 j q).1 ⟨ne j h.1 h.2.2,h.2⟩,λh=>(e5 j q).2 λV=>h ⟨ab,V.2⟩⟩,λx y=>⟨λ⟨j,a,b,d,e⟩=>(e6 x y).1 ⟨j,ne j a d,b,d,e⟩,λh=>(e6 x y).2 λ⟨j,a,b⟩=>h ⟨j,ab,b⟩⟩⟩
  by_cases k0:(pg w.h.p i).k=0
  .rw[Xp k0,Wc];exact skip λh=>h.1 k0
  rw[Xj k0,Wa];by_cases H:(pg w.h.p i).s=w.h.s;rotate_left
  .rw[Xk H,Wc];exact skip λh=>H h.2
  have U:Zi w i:=⟨k0,H⟩
  have⟨r,r1,r2,r3,r4⟩:=XrR (N:=N) (w:=w) ps (pg w.h.p i) i c hp J K ab N 0 v ab ab ab L O;rw[show((pg w.h.p i).s != w.h.s)=false by simpa using H,Wa,Xa,r1,Xa];have E:=λx I=>YW (ps:=ps) (j:=x) ⟨0,0,0,0⟩ K ab I;have⟨u,g,f,f1,f2,f3,f4,Y,Z⟩:=Xjv hN hb hp J B n (i+1) (wI (c+1)) r (ps.set i.toNat ⟨0,0,0,0⟩) ab ab ab r2 r3 (by rw[WL];exact o) λj h=>by rw[E j ab,Wj ab];exact A j ab
  refine⟨u,g,f,f1,f2,f3,f4,λj q=>⟨λh=>?_,λh=>?_⟩,λx y=>⟨λ⟨j,a,b,d,e⟩=>?_,λh=>?_⟩⟩
  .by_cases z:j=i
   .rw[(Y j q).2 ab,E j q,Wm z];rfl
   exact(Y j q).1 ⟨ab,h.2⟩
  .rw[(Y j q).2 λV=>h ⟨ab,V.2⟩,E j q,Wj];rintro rfl;exact h ⟨Uu _,T,U⟩
  .by_cases z:j=i
   .subst z;by_cases I:∃G,j+1<=G/\G<h0.p.length/\Zi w G/\Xc h0.c G 0<=x/\x<Xc h0.c G h0.c.W
    .exact(Z x y).1 I
    rw[(Z x y).2 I,r4 x y,Wm e]
   exact(Z x y).1 ⟨j,ab,b,d,e⟩
  grind
end
section
variable {N:Nat}{h0:Wh}{S:List Int}{P:Int->Prop}{w:Wu}{M:List (Int×Int)}{D:Int->Prop}
def OO.nxt{c:WP}{ps:List Wp}(s:OO c ps){i n:Int}(e:0<=i)(f:(pg ps i).k≠3)(y:n=if(pg ps i).k=2 then Xx c (pg ps i).u else 1)(z:1<=n)(g:i+n<ps.length):(pg ps (i+n)).k≠3:=by
 intro j;have⟨k,k0,k1,o,k2,A⟩:=s.tl (i+n) ab g j;have p:=(o.k2 k2).2.2;have q:=s.hd i e ab f;by_cases v:k<i
 .have:=(p (i-k) ab ab).1;grind
 by_cases B:k=i
 .simp_all
 by_cases x:(pg ps i).k=2
 .have:=((q.k2 x).2.2 (k-i) ab ab).1;rw[show i+(k-i)=k by omega]at this;omega
 omega
def Xfu{h:Wh}(j:h.p.length<=100000)(hN:1000000<N)(s:OO h.c h.p):∀(n i:Nat),i<=h.p.length->h.p.length-i<n->(i<h.p.length->(pg h.p (i:Int)).k≠3)->Qae N h n (i:Int)=some (.nxt ())
 |0,i,_,q,_=>by omega
 |n+1,i,x,q,o=>by
  rw[Qae];by_cases f:i<h.p.length;rotate_left
  .rw[We ab,Wa]
  have b:=s.hd (i:Int) ab ab (o f);have sp:=XbL (c:=h.c) f;have e:=sp.2 b;have u:=sp.1.2 b;have ep:=ZA f;have v:=XbI (c:=h.c) f (p:=h.p[i]);rw[Xi f,Wc,Kb j hN f,Xa];generalize X7 h.c h.p i h.p[i]=m at *;rw[show((m:Int)==0)=false by simp_all,Wa,Xe ab ab,show(i:Int)+(m:Int)=((i+m:Nat):Int) by omega];refine Xfu j hN s n (i+m) ab ab λy=>?_;have:=s.nxt (i:=(i:Int)) (n:=(m:Int)) ab (o f) (by
   rw[ep]
   by_cases g:h.p[i].k=2
   .rw[Wm g]at e⊢
    have:=(b.k2 (by rw[ep];exact g)).1
    omega
   .rw[Wj g]at e⊢;omega) ab ab
  assumption
def JO(hN:NB N){h:Wh}(hb:HB h)(hp:O2 h)(s:OO h.c h.p):Qaa N h=some true:=by
 have f:1000000<N:=by unfold NB at hN;omega
 have g:0<h.p.length->(pg h.p (0:Int)).k≠3:=λj k=>by have⟨k,k0,k1,_⟩:=s.tl 0 ab ab k;omega
 have e:=Xfu (N:=N) hb.2 f s N 0 ab (by have:=hb.2;omega) g;have e:Qae N h N 0=some (.nxt ()):=e;rw[←Yx hb.2 f,Kw hp,e,Xa,Xl]
def JX.spn(J:JX N h0 S P w M D)(hN:NB N)(B:BX N h0 S):OO h0.c w.h.p:=by have h:=J.ss.proper hN B.st.hb B.gx.ep (ws:=h0.w) rfl (b:=-1) (.inl rfl);exact Vy hN (h:=⟨h0.c,h0.w,w.h.p,h0.s,-1⟩) ⟨B.st.hb.1,by rw[J.ss.1];exact B.st.hb.2⟩ h
structure FX(h0:Wh)(w:Wu)(M:List (Int×Int))(v v':List Int)(ps:List Wp):Prop where
 fd:∀a,XcI h0 M a->wd v a=Xid h0 a/\∀j,0<=j->j<(hdA h0.w a).n->wd v (a+1+j)=0
 fo:∀x:Int,4096<=x->(∀a,XcI h0 M a->¬(a<=x/\x<a+szA h0.w a))->wd v x=wd w.h.w x
 pl:ps.length=h0.p.length
 vl:v'.length=h0.w.length
 pz:∀j,0<=j->j<(h0.p.length:Int)->Zi w j->pg ps j=Y3
 pk:∀j,0<=j->j<(h0.p.length:Int)->¬Zi w j->pg ps j=pg w.h.p j
 wz:∀x:Int,4096<=x->x<4096+h0.w.length->Zi w (pgi h0.c x)->wd v' x=0
 wk:∀x:Int,4096<=x->x<4096+h0.w.length->¬Zi w (pgi h0.c x)->wd v' x=wd v x
def JX.fz(J:JX N h0 S P w M D)(hN:NB N)(B:BX N h0 S){i:Int}(f:0<=i)(g:i<(h0.p.length:Int)):
 (i∈w.t->¬Zi w i)/\(i∉w.t->((pg h0.p i).k=0->¬Zi w i)/\((pg h0.p i).k=1->(Zi w i↔¬(pg h0.p i).P>0))/\((pg h0.p i).k=2->(Zi w i↔Xc h0.c i 0∉M.map (·.1)))):=by
 have j:=J.ci.spc;refine⟨λe h=>?_,λe=>?_⟩
 .have:=(J.t i e).2.2.1;have:=h.2;omega
 have p:=J.pgs i f g e;unfold Zi;grind
def JX.fza(J:JX N h0 S P w M D)(hN:NB N)(B:BX N h0 S){a x:Int}(o:IF h0 a)(z:a<=x)(A:x<a+szA h0.w a):pgi h0.c x∉w.t/\pgi h0.c a∉w.t/\(Zi w (pgi h0.c x)↔Zi w (pgi h0.c a)):=by
 have⟨⟨q,E,G,u⟩,T,U⟩:=XbN B.hp o z A;have V:=o.kind;have H:=B.hp.pages;have I:=XL (a:=x) B.hp.conf (by have:=B.hp.words;omega);have g:pgi h0.c a∉w.t:=λh=>by have:=(J.t _ h).1;omega
 by_cases K:pgi h0.c x=pgi h0.c a
 .rw[K];exact⟨g,g,Iff.rfl⟩
 have nx:∀m,pgi h0.c a<m->m<=pgi h0.c x->m∉w.t:=λm e f h=>by have:=(J.t _ h).1;have:=u m e f;omega
 have nxx:=nx _ ab (Uu _);have kw:∀m,pgi h0.c a<m->m<=pgi h0.c x->(pg w.h.p m).k=3:=λm e f=>by rw[(J.pgs m ab ab (nx m e f)).1];exact u m e f
 have L:(pg w.h.p (pgi h0.c a)).k≠3:=by rw[(J.pgs _ q ab g).1];exact G
 have v:=J.ci.plen;have⟨k,k0,k1,O,k2,W⟩:=(J.spn hN B).tl (pgi h0.c x) I.2.1 ab (kw _ ab (Uu _));have y:=(O.k2 k2).2.2;have R:HeadP w.h (pgi h0.c x) k:=⟨k0,ab,ab,λm e f=>by
  have:=(y (m-k) ab ab).1
  rwa[show k+(m-k)=m by omega]at this⟩
 have j:HeadP w.h (pgi h0.c x) (pgi h0.c a):=⟨q,E,L,kw⟩
 have:=R.fn j;subst this;have Y:=(y (pgi h0.c x-pgi h0.c a) ab ab).2.1;unfold Zi;grind
def JX.fzm(J:JX N h0 S P w M D)(hN:NB N)(B:BX N h0 S){p:Int×Int}(hp:p∈M){x:Int}(q:p.2<=x)(v:x<p.2+szA h0.w p.1):¬Zi w (pgi h0.c x)/\4096<=x/\x<4096+h0.w.length:=by
 have y:=(J.l p hp).1;have g:=B.at_ y;rcases J.k p hp with⟨k1,k2⟩|⟨k1,_,i,A,H,I⟩
 .rw[k1]at q v;have f:=J.fza hN B g.1 q v;have E:=XbN B.hp g.1 q v;refine⟨?_,E.2⟩;rw[f.2.2];have z:=(J.fz hN B g.2.2.1 g.2.2.2.1).2 f.2.1;rcases g.1.kind with j|j
  .rw[z.2.1 j];exactλh=>k2 ⟨j,h⟩
  rw[z.2.2 j];intro h;have e:=(XL B.hp.conf g.1.rng).1;rw[(g.1.large j).1]at e;grind
 have t:=J.tk B A;have K:Xc h0.c i 0=4096+i*h0.c.W+0:=rfl;have L:Xc h0.c i (pg w.h.p i).u=4096+i*h0.c.W+(pg w.h.p i).u:=rfl;have G:=B.hp.pages;have O:=XE B.hp.conf (i:=i) t.1 ab;have hw:=B.hp.words;have:=(Yd (c:=h0.c) B.hp.conf (p:=i) (o:=x-Xc h0.c i 0) ab ab).1;rw[show Xc h0.c i (x-Xc h0.c i 0)=x by unfold Xc;omega]at this;rw[this];exact⟨(J.fz hN B t.1 t.2.1).1 A,ab,ab⟩
def JX.kw(J:JX N h0 S P w M D)(hN:NB N)(B:BX N h0 S){v k:List Int}{ps:List Wp}(F:FX h0 w M v k ps){p:Int×Int}(hp:p∈M){x:Int}(o:p.2<=x)(q:x<p.2+szA h0.w p.1):wd k x=wd w.h.w x:=by have f:=J.fzm hN B hp o q;rw[F.wk x f.2.1 f.2.2 f.1];refine F.fo x f.2.1 λa hd z=>?_;have⟨O,s,j⟩:=J.ci.obj;have g:=J.geo j hp;have u:=B.at_ hd.1;have y:=j.old a u.2.1;have:p.2≠a:=λe=>hd.2.1 (by have:=J.q_old B hd.1 hp e;grind);have:=j.apart p.2 a g.1 y.1 this;omega
end
def Chn.tr{ws f:List Int}:∀{l:List Int} {p q:Int},Chn ws p l q->(∀a∈l,okH (wd f a)=true/\szA f a=szA ws a)->Chn f p l q
 |[],_,_,h,_=>h
 |a::l,p,q,⟨e,j,h⟩,hw=>by have g:=hw a ac;exact⟨e,g.1,by rw[g.2];exact h.tr λb hb=>hw b (WT _ hb)⟩
def CM.chn{h:Wh}{M:List (Int×Int)}{vs:List Int}(hw:∀p∈M,okH (wd vs p.2)=true/\szA vs p.2=szA h.w p.1):∀{l:List Int} {p q:Int},CM h M p l q->Chn vs p l q/\∀b∈l,∃a,(a,b)∈M/\cpy h a
 |[],_,_,e=>⟨e,ac⟩
 |b::l,p,q,⟨e,a,g,k,j⟩=>by subst e;have f:=hw _ g;have r:=j.chn hw;refine⟨⟨rfl,f.1,by rw[f.2];exact r.1⟩,λx o=>?_⟩;grind
def CM.cov{h:Wh}{M:List (Int×Int)}{x:Int}:∀{l:List Int} {p q:Int},CM h M p l q->p<=x->x<q->∃b∈l,∃a,(a,b)∈M/\b<=x/\x<b+szA h.w a
 |[],p,q,e,g,f=>by have e:p=q:=e;omega
 |b::l,p,q,⟨e,a,g1,g2,g3⟩,g,f=>by
  by_cases j:x<b+szA h.w a
  .grind
  have⟨c,k,r⟩:=g3.cov ab f;grind
def XkJ{d:Wy}(g:XC d=true)(ht:tW d.Map):okH (Zw d)=true/\Zd (Zw d)=d/\Zw d≠0:=by
 have hb:=XD g;have j:=ht;unfold tW at j;have e:Zw d=1+4*d.k+16*d.n+d.Map*65536:=by unfold Zw;have s:∀x:Int,Ke .u64 x 16=wU (x*65536):=λ_=>rfl;rw[s];simp only[Xcv];omega
 have tu:tU (Zw d):=by rw[e];exact⟨ab,ab⟩
 have o:Xb2 (Zw d)=d:=by rw[XcZ tu,e];obtain⟨k,l,m⟩:=d;dsimp only at *;congr 1<;>omega
 have f:okH (Zw d)=true:=by unfold okH;rw[o,g];simp
 exact⟨f,by unfold Zd;simp_all,ab⟩
def XsP(h:Wh)(a:Int):okH (Xid h a)=true/\Zd (Xid h a)=⟨0,(hdA h.w a).n,0⟩:=by have e:=XgB h.w a;have:=XkJ (d:=⟨0,(hdA h.w a).n,0⟩) (XrQ ab) ⟨ac,ac⟩;exact⟨this.1,this.2.1⟩
section
variable {N:Nat}{h0:Wh}{S:List Int}{P:Int->Prop}{w:Wu}{M:List (Int×Int)}{D:Int->Prop}{v v':List Int}{ps:List Wp}
def JX.q_st(J:JX N h0 S P w M D)(B:BX N h0 S){a:Int}(j:Stt h0 a){p:Int×Int}(hp:p∈M)(e:p.2=a):p=(a,a):=by
 rcases J.k p hp with⟨k,_⟩|⟨_,_,i,g,k1,k2⟩
 .grind
 have t:=J.tk B g;have x:=(Xy h0.w p.1).2.1;have f:=j.at_ B.hp;have y:Xc h0.c i 0=4096+i*h0.c.W+0:=rfl;have z:Xc h0.c i (pg w.h.p i).u=4096+i*h0.c.W+(pg w.h.p i).u:=rfl;have:=(Yd (c:=h0.c) B.hp.conf (p:=i) (o:=a-Xc h0.c i 0) ab ab).1;rw[show Xc h0.c i (a-Xc h0.c i 0)=a by unfold Xc;omega]at this;have q:=f.kind;rw[this]at q;have:=(J.t i g).1;omega
def JX.nw(J:JX N h0 S P w M D)(B:BX N h0 S){a:Int}(j:Stt h0 a)(H:(hdA h0.w a).k=0)(F:FX h0 w M v v' ps)(z:¬Zi w (pgi h0.c a)):wd v' a=wd h0.w a:=by
 have q:=j.at_ B.hp;have u:=q.rng;have hw:=B.hp.words;have x:=(B.mS a).2 j;have⟨O,s,f⟩:=J.ci.obj;have y:=f.old a x;have A:=(Xy h0.w a).2.1;rw[F.wk a u.1 ab z,F.fo a u.1 λb hb I=>?_]
 .refine J.o a u.1 λp hp=>?_;have E:=(J.l p hp).1;have n1:a≠p.1:=λe=>E.2 (by simp_all);have g:=J.geo f hp;have n2:p.2≠a:=λe=>n1 (by have:=J.q_st B j hp e;grind);have:=f.apart p.2 a g.1 y.1 n2;omega
 have G:=B.at_ hb.1;have ob:=f.old b G.2.1;have n1:a≠b:=λe=>hb.1.2 (by simp_all);have:=f.apart a b y.1 ob.1 n1;omega
def JX.hdr(J:JX N h0 S P w M D)(hN:NB N)(B:BX N h0 S)(F:FX h0 w M v v' ps){a:Int}(j:Stt h0 a)(y:(pg h0.p (pgi h0.c a)).k=1)(hp:(pg h0.p (pgi h0.c a)).P>0):okH (wd v' a)=true/\szA v' a=szA h0.w a/\((∃p∈M,p.2=a)\/(hdA v' a).k=0):=by
 have g:=j.at_ B.hp;have z:=g.rng;have hw:=B.hp.words;have G:=B.hp.pages;have q:=XL B.hp.conf z;have o:pgi h0.c a∉w.t:=λh=>by have:=(J.t _ h).1;omega
 have A:¬Zi w (pgi h0.c a):=λh=>(((J.fz hN B q.2.1 ab).2 o).2.1 y).1 h hp;by_cases u:(hdA h0.w a).k=0
 .have e:=J.nw B j u F A;refine⟨by rw[e];exact g.ok,Jt e,.inr ?_⟩;unfold hdA at u⊢;grind
 by_cases E:a∈M.map (·.1)
 .have⟨b,f⟩:=JD E;rcases J.k _ f with⟨k1,_⟩|⟨k1,_⟩
  .have k1:b=a:=k1;subst k1;have e:=J.kw hN B F f (x:=b) (Uu _) (by have:=(Xy h0.w b).2.1;grind);have e:=e.trans (J.hd _ f);exact⟨by rw[e];exact g.ok,Jt e,.inl ⟨_,f,rfl⟩⟩
  exact absurd hp k1.2
 have hd:XcI h0 M a:=⟨⟨j,u⟩,E,y,hp⟩
 have e:=(F.fd a hd).1;have H:wd v' a=Xid h0 a:=by rw[F.wk a z.1 ab A];exact e
 have fo:=XsP h0 a;have I:hdA v' a=⟨0,(hdA h0.w a).n,0⟩:=by unfold hdA;rw[H];exact fo.2
 exact⟨by grind,by unfold szA;grind,.inr (by grind)⟩
def JX.pars(J:JX N h0 S P w M D)(hN:NB N)(B:BX N h0 S)(F:FX h0 w M v v' ps){G:Wh}(T:G.c=h0.c)(U:G.w=v')(ep:G.p=ps){i:Int}(j:0<=i)(o:i<(h0.p.length:Int)):
 ∃l,Oy G i l/\(∀b∈l,XcH G i b/\((∃p∈M,p.2=b)\/(hdA G.w b).k=0))/\(i∈w.t->∀p∈M,Xc h0.c i 0<=p.2->p.2<Xc h0.c i (pg w.h.p i).u->p.2∈l)/\(i∉w.t->¬Zi w i->∀m,Oy h0 i m->m=l):=by
 have V:=(B.hp.pgs i j o).kind;have g:∀p∈M,wd v' p.2=wd h0.w p.1:=λp hp=>by have:=(Xy h0.w p.1).2.1;rw[J.kw hN B F hp (x:=p.2) (Uu _) ab];exact J.hd p hp
 by_cases A:Zi w i
 .have e:=F.pz i j o A;rw[←ep]at e;refine⟨[],⟨λ_=>rfl,λk=>?_,λk=>?_⟩,ac,λq=>absurd A ((J.fz hN B j o).1 q),λ_ h=>absurd A h⟩
  .rw[e]at k;exact absurd k ag
  rw[e]at k;exact absurd k ag
 have e:=F.pk i j o A;rw[←ep]at e;by_cases q:i∈w.t
 .have t:=J.t i q;have tk:=J.tk B q;have⟨l,Z⟩:=t.2.2.2;have c:=Z.chn (vs:=v') λp hp=>by have R:=B.at_ (J.l p hp).1;exact⟨by rw[g p hp];exact R.1.ok,Jt (g p hp)⟩
  refine⟨l,⟨λk=>?_,λk=>?_,λk=>?_⟩,λb hb=>?_,λ_ p hp h1 h2=>?_,λh=>absurd q h⟩
  .simp_all
  .simp_all
  .simp_all
  .have⟨a,f,hc⟩:=c.2 b hb;refine⟨⟨λ_=>?_,λk=>by rw[e,tk.2.2.1]at k;omega⟩,.inl ⟨_,f,rfl⟩⟩;have E:=(J.l _ f).1;have⟨m,W,am⟩:=E.1.pars B.hp;have R:=B.at_ E;have:=(B.gx.cl _ m R.2.2.1 R.2.2.2.1 W a am).1 hc.1;have es:szA v' b=szA h0.w a:=Jt (g _ f);simp_all
  have⟨b,hb,a,f,b1,b2⟩:=Z.cov h1 h2;have:p.2=b:=by apply Classical.byContradiction;intro hn;obtain⟨O,s,H⟩:=J.ci.obj;have g1:=J.geo H hp;have g2:=J.geo H f;have:=H.apart p.2 b g1.1 g2.1 hn;have:=(Xy h0.w p.1).2.1;dsimp only at g2;omega
  simp_all
 have p:=J.pgs i j o q;have z:=(J.fz hN B j o).2 q;have⟨l,pl⟩:=B.gx.ps i j o;have I:∀a∈l,Stt h0 a/\IF h0 a/\pgi h0.c a=i:=λa E=>⟨⟨i,l,j,o,pl,E⟩,pl.at_ B.hp j o E⟩
 refine⟨l,⟨λk=>?_,λk=>?_,λk=>?_⟩,λb hb=>?_,λh=>absurd h q,λ_ _ m W=>W.fn V pl⟩
 .rw[e,p.1]at k;exact pl.none k
 .rw[e,p.1]at k;have K:(pg h0.p i).P>0:=Classical.byContradiction λh=>A ((z.2.1 k).2 h);rw[U,T,e,p.2.1];refine(pl.small k).tr λa E=>?_;have y:=I a E;have:=J.hdr hN B F y.1 (by rw[y.2.2];exact k) (by rw[y.2.2];exact K);simp_all
 .rw[e,p.1]at k;obtain⟨rfl,H,hs⟩:=pl.large k;have Y:Xc h0.c i 0∈M.map (·.1):=Classical.byContradiction λh=>A ((z.2.2 k).2 h);have⟨b,f⟩:=JD Y;have hb:b=Xc h0.c i 0:=by
   rcases J.k _ f with⟨k1,_⟩|⟨k1,_⟩
   .omega
   have:=k1.1;simp_all
  subst hb;have:=g _ f;rw[T,U,e,p.2.1];exact⟨rfl,by simp_all,by rw[Jt this];omega⟩
 have y:=I b hb;have cl:=B.gx.cl i l j o pl b hb;have L:=y.2.1.kind;rw[y.2.2]at L;unfold XcH;rw[U,T,e,p.1];rcases L with k|k
 .have:=J.hdr hN B F y.1 (by simp_all) (by simp_all);exact⟨⟨λ_=>by rw[this.2.1];exact cl.1 k,λh=>ab⟩,this.2.2⟩
 obtain⟨rfl,H,hs⟩:=pl.large k;rw[Uc.1 hb]at y cl⊢;have Y:Xc h0.c i 0∈M.map (·.1):=Classical.byContradiction λh=>A ((z.2.2 k).2 h);have⟨b,f⟩:=JD Y;have hb:b=Xc h0.c i 0:=by
  rcases J.k _ f with⟨k1,_⟩|⟨k1,_⟩
  .omega
  have:=k1.1;simp_all
 subst hb;have:=g _ f;refine⟨⟨λh=>ab,λ_=>?_⟩,.inl ⟨_,f,rfl⟩⟩;unfold hdA;rw[this];exact cl.2 k
end
structure OG(N:Nat)(h0:Wh)(P:Int->Prop)(M:List (Int×Int))(h:Wh):Prop where
 gx:GX N h
 cf:h.c=h0.c
 sp:h.s=1-h0.s
 wl:h.w.length=h0.w.length
 pl:h.p.length=h0.p.length
 n1:(M.map (·.1)).Nodup
 n2:(M.map (·.2)).Nodup
 l:∀p∈M,Obb h0 p.1/\P p.1
 ob:∀b,Obb h b↔b∈M.map (·.2)
 hd:∀p∈M,hdA h.w p.2=hdA h0.w p.1
 f1:∀p∈M,∀j,0<=j->j<(hdA h0.w p.1).n->j∉XJ (hdA h0.w p.1)->wd h.w (p.2+1+j)=wd h0.w (p.1+1+j)
 f2:∀p∈M,∀j∈XJ (hdA h0.w p.1),rel M (wd h0.w (p.1+1+j)) (wd h.w (p.2+1+j))
 pn:∀i,0<=i->i<(h0.p.length:Int)->((pg h0.p i).k=2->(pg h0.p i).P>0->Xc h0.c i 0∈M.map (·.1))->(pg h.p i).P=(pg h0.p i).P
 kp:∀p∈M,(pg h0.p (pgi h0.c p.1)).P>0->p.2=p.1
 cy:∀p∈M,cpB h p.2=cpB h0 p.1
 us:h.p.countP X2=h.p.countP stC+(Xaa h0 (M.map (·.1))).1
 bp:(Xaa h0 (M.map (·.1))).1=0/\h.b = -1\/(Xaa h0 (M.map (·.1))).1≠0/\0<=h.b/\(pg h.p h.b).u=(Xaa h0 (M.map (·.1))).2
 st:(∀a,Obb h0 a->a∈M.map (·.1))->h.p.countP stC=h0.p.countP stC
 fl:∀i,0<=i->i<(h.p.length:Int)->(pg h.p i).k=1->¬(pg h.p i).P>0->i≠h.b->3*h.c.W<4*(pg h.p i).u/\∀x,Xc h.c i 0<=x->x<Xc h.c i (pg h.p i).u->∃p∈M,p.2<=x/\x<p.2+szA h.w p.2
def Xbg{α:Type}(q:α->Bool):∀(l m:List α),l.length=m.length->(∀(i:Nat) (e:i<l.length) (f:i<m.length),q l[i]=true->q m[i]=true)->l.countP q<=m.countP q
 |[],m,_,_=>by simp
 |a::l,[],h,_=>by grind
 |a::l,b::m,h,g=>by
  have j:=Xbg q l m (by simpa using h) λi e f=>by have:=g (i+1) (by simpa using e) (by simpa using f);exact this
  grind
section
variable {N:Nat}{h0:Wh}{S:List Int}{P:Int->Prop}{w:Wu}{M:List (Int×Int)}{v v':List Int}{ps:List Wp}
def Xel{h f:Wh}{a b:Int}(e:hdA f.w b=hdA h.w a):Kh f b=Kh h a:=by unfold Kh szA;rw[e]
def JX.fin(J:JX N h0 S P w M (Dn h0 M M.length))(hN:NB N)(B:BX N h0 S)(F:FX h0 w M v v' ps){h':Wh}(Y:h'.c=h0.c)(Z:h'.w=v')(ep:h'.p=ps)(es:h'.s=1-h0.s)(hbp:h'.b = -1/\w.t=[]\/w.t.getLast? = some h'.b):OG N h0 P M h':=by
 have G:=B.hp;have hsp0:=G.space;have hpl0:=G.pages;have hw0:=G.words;have hvc:=Xh.1 G.conf;have hb0:=B.st.hb;have spn:=J.spn hN B;have hwsp:=J.ci.spc;have hwpl:=J.ci.plen;have hb':HB h':=⟨by rw[Z,F.vl];exact hb0.1,by rw[ep,F.pl];omega⟩
 have wspc:∀i,0<=i->i<(h0.p.length:Int)->0<=(pg w.h.p i).s/\(pg w.h.p i).s<=1:=λi A g=>by
  by_cases I:(pg w.h.p i).k=3
  .have⟨k,k0,k1,L,k2,k4⟩:=spn.tl i A ab I;have:=((L.k2 k2).2.2 (i-k) ab ab).2.1;rw[show k+(i-k)=i by omega]at this;have:=L.sp;omega
  exact(spn.hd i A ab I).sp
 have pgq:∀i,0<=i->i<(h0.p.length:Int)->(pg h'.p i=Y3/\Zi w i)\/(pg h'.p i=pg w.h.p i/\¬Zi w i):=λi A g=>by
  by_cases E:Zi w i
  .exact .inl ⟨by rw[ep];exact F.pz i A g E,E⟩
  exact .inr ⟨by rw[ep];exact F.pk i A g E,E⟩
 have spn':OO h'.c h'.p:=by
  rw[Y];have lp:h'.p.length=h0.p.length:=by rw[ep,F.pl]
  refine⟨λi A g I=>?_,λi A g I=>?_⟩
  .rw[lp]at g;rcases pgq i A g with⟨e,E⟩|⟨e,E⟩
   .refine⟨?_,?_,λ_=>e,λk=>?_,λk=>?_,?_⟩<;>rw[e]at *<;>simp[Y3]at *
   rw[e]at I;have b:=spn.hd i A ab I;refine⟨by rw[e];exact b.sp,by rw[e];exact b.pn,by rw[e];exact b.k0,by rw[e];exact b.k1,λk=>?_,by rw[e];exact b.kd⟩;rw[e]at k⊢;have k2:=b.k2 k;refine⟨k2.1,ab,λm m0 m1=>?_⟩;have t:=k2.2.2 m m0 m1;rcases pgq (i+m) ab ab with⟨_,hz'⟩|⟨e',_⟩
   .exfalso;exact E ⟨ab,by have:=hz'.2;omega⟩
   simp_all
  rw[lp]at g;rcases pgq i A g with⟨e,E⟩|⟨e,E⟩
  .rw[e]at I;exact absurd I ag
  rw[e]at I;have⟨k,k0,k1,L,k2,k4⟩:=spn.tl i A ab I;have t:=(L.k2 k2).2.2;have ti:=(t (i-k) ab ab).2.1;rw[show k+(i-k)=i by omega]at ti;have R:¬Zi w k:=λh=>E ⟨ab,by have:=h.2;omega⟩;have ek:pg h'.p k=pg w.h.p k:=by
   rcases pgq k k0 ab with⟨_,h⟩|⟨e,_⟩
   .exact absurd h R
   exact e
  refine⟨k,k0,k1,⟨by rw[ek];exact L.sp,by rw[ek];exact L.pn,by rw[ek];exact L.k0,by rw[ek];exact L.k1,λ_=>?_,by rw[ek];exact L.kd⟩,by rw[ek];exact k2,by rw[ek];exact k4⟩;have kk:=L.k2 k2;rw[ek];refine⟨kk.1,ab,λm m0 m1=>?_⟩;have tm:=t m m0 m1;rcases pgq (k+m) ab ab with⟨_,hz'⟩|⟨e',_⟩
  .exfalso;exact R ⟨ab,by have:=hz'.2;omega⟩
  simp_all
 have pre:O2 h':=by
  refine⟨by rw[Y];exact G.conf,by simp_all[Z,Y,F.vl],by simp_all[ep,Y,F.pl],ab,?_⟩;rcases hbp with h|h
  .omega
  have h:=Oj h;have t:=J.tk B h;have:pg h'.p h'.b=pg w.h.p h'.b:=by rw[ep];exact F.pk _ t.1 t.2.1 ((J.fz hN B t.1 t.2.1).1 h)
  simp_all[this,ep,F.pl]
 have epr:=JO hN hb' pre spn';have hp':=Xo hN hb' epr;have pars:=λi A g=>J.pars hN B F Y Z ep (i:=i) A g;have lp:h'.p.length=h0.p.length:=by rw[ep,F.pl]
 have hkw:∀p∈M,wd h'.w p.2=wd h0.w p.1:=λp hp=>by have:=(Xy h0.w p.1).2.1;rw[Z,J.kw hN B F hp (x:=p.2) (Uu _) ab];exact J.hd p hp
 have hhd:∀p∈M,hdA h'.w p.2=hdA h0.w p.1:=λp hp=>by unfold hdA;grind
 have st_of:∀p∈M,Stt h' p.2:=λp hp=>by
  have H:=(J.l p hp).1;have T:=B.at_ H;rcases J.k p hp with⟨k1,k2⟩|⟨k1,_,i,u,I,k4⟩
  .have⟨m,pm,am⟩:=H.1.pars G;have⟨l,pl,_,_,l2⟩:=pars _ T.2.2.1 T.2.2.2.1;have f:=J.fzm hN B hp (x:=p.2) (Uu _) (by have:=(Xy h0.w p.1).2.1;omega);rw[k1]at f⊢;have:=(J.prm B H).1;rw[l2 this f.1 m pm]at am;exact⟨_,l,T.2.2.1,ab,pl,am⟩
  have t:=J.tk B u;have⟨l,pl,_,l1,_⟩:=pars i t.1 t.2.1;exact⟨i,l,t.1,ab,pl,l1 u p hp I (by have:=(Xy h0.w p.1).2.1;omega)⟩
 have ob:∀b,Obb h' b↔b∈M.map (·.2):=λb=>by
  constructor
  .rintro⟨⟨i,l,A,g,pl,hb⟩,hk⟩;rw[lp]at g;have⟨l',pl',q,_,_⟩:=pars i A g;have:=pl.fn (hp'.pgs i A (by rw[lp];exact g)).kind pl';grind
  intro hb;obtain⟨p,hp,rfl⟩:=WI.1 hb;exact⟨st_of p hp,by rw[hhd p hp];exact(J.l p hp).1.2⟩
 have f1:∀p∈M,∀j,0<=j->j<(hdA h0.w p.1).n->j∉XJ (hdA h0.w p.1)->wd h'.w (p.2+1+j)=wd h0.w (p.1+1+j):=λp hp j j0 j1 hj=>by
  have ez:szA h0.w p.1=(hdA h0.w p.1).n+1:=rfl;rw[Z,J.kw hN B F hp (x:=p.2+1+j) ab ab];refine(J.fl p hp j j0 j1).1 ?_;rintro⟨i,q,j',u,hq,hj',e⟩;have hqm:q∈M:=W5 hq;have r':=Zn hj';have ezq:szA h0.w q.1=(hdA h0.w q.1).n+1:=rfl;have⟨O,s,ho⟩:=J.ci.obj;have g1:=J.geo ho hp;have g2:=J.geo ho hqm;have:q.2=p.2:=by apply Classical.byContradiction;intro U;have:=ho.apart _ _ g2.1 g1.1 U;omega
  grind
 have f2:∀p∈M,∀j∈XJ (hdA h0.w p.1),rel M (wd h0.w (p.1+1+j)) (wd h'.w (p.2+1+j)):=λp hp j hj=>by have ez:szA h0.w p.1=(hdA h0.w p.1).n+1:=rfl;have r:=Zn hj;rw[Z,J.kw hN B F hp (x:=p.2+1+j) ab ab];have⟨i,u,e⟩:=Wv hp;exact(J.fl p hp j r.1 r.2).2 ⟨i,p,j,u,by simp_all,hj,rfl⟩
 have zfree:∀i,0<=i->i<(h0.p.length:Int)->(pg h0.p i).k=0->(pg h0.p i).P=0:=λi A g k=>by rw[(G.pgs i A g).free k];rfl
 have hpins:∀i,0<=i->i<(h0.p.length:Int)->¬Zi w i->(pg h'.p i).P=(pg h0.p i).P:=λi A g E=>by
  have e:pg h'.p i=pg w.h.p i:=by
   rcases pgq i A g with⟨_,h⟩|⟨e,_⟩
   .simp_all
   omega
  rw[e];by_cases u:i∈w.t
  .have t:=J.t i u;simp_all
  exact(J.pgs i A g u).2.2.1
 have frs:∀i,0<=i->i<(h0.p.length:Int)->(pg h'.p i).k=1->¬(pg h'.p i).P>0->i∈w.t:=λi A g k1 U=>by
  rcases pgq i A g with⟨e,_⟩|⟨e,E⟩
  .rw[e]at k1;exact absurd k1 ag
  rw[e]at k1 U;exact Classical.byContradiction λu=>by have p:=J.pgs i A g u;rw[p.1]at k1;rw[p.2.2.1]at U;exact E ((((J.fz hN B A g).2 u).2.1 k1).2 U)
 refine⟨⟨epr,λi A g=>?_,λi A g k=>?_,λi l A g pl a ha=>?_,λx x0 hx=>?_,λb hb j hj=>?_,?_⟩,Y,es,by rw[Z,F.vl],lp,J.n1,?_,J.l,ob,hhd,f1,f2,λi A g hl=>?_,λp hp h=>?_,λp hp=>?_,?_,?_,λall=>?_,λi A g k1 U hb=>?_⟩
 .grind
 .rw[lp]at g;rcases pgq i A g with⟨e,_⟩|⟨e,E⟩
  .rw[e]at k;exact absurd rfl k
  rw[e]at k⊢;have:=wspc i A g;have:(pg w.h.p i).s≠w.h.s:=λh=>E ⟨k,h⟩;omega
 .rw[lp]at g;have⟨l',pl',q,_,_⟩:=pars i A g;have:=pl.fn (hp'.pgs i A (by rw[lp];exact g)).kind pl';simp_all
 ·
  have x1:x<4096+h0.w.length:=by have:=Xot x0 hx;rw[Z,F.vl]at this;exact this
  rw[Z]at hx;have E:¬Zi w (pgi h0.c x):=λh=>hx (F.wz x x0 x1 h);rw[F.wk x x0 x1 E]at hx;have seen:∀p∈M,p.2<=x->x<p.2+szA h0.w p.1->∃a,Stt h' a/\a<=x/\x<a+Kh h' a:=λp hp h1 h2=>by refine⟨p.2,st_of p hp,h1,?_⟩;rw[Xel (hhd p hp)];unfold Kh;rw[Wj (J.l p hp).1.2];omega
  have prom:∀a,Stt h0 a->(pg h0.p (pgi h0.c a)).k=1->(pg h0.p (pgi h0.c a)).P>0->Stt h' a:=λa ha hk V=>by
   have K:=ha.at_ G;have q:=XL G.conf K.rng;have hnt:pgi h0.c a∉w.t:=λh=>by have:=(J.t _ h).1;omega
   have⟨m,pm,am⟩:=ha.pars G;have⟨l,pl,_,_,l2⟩:=pars _ q.2.1 ab;have hzz:¬Zi w (pgi h0.c a):=λh=>(((J.fz hN B q.2.1 ab).2 hnt).2.1 hk).1 h V;rw[l2 hnt hzz m pm]at am;exact⟨_,l,q.2.1,ab,pl,am⟩
  by_cases hd:∃a,XcI h0 M a/\a<=x/\x<a+szA h0.w a
  .have⟨a,hd,h1,h2⟩:=hd;have fd:=F.fd a hd;have ez:szA h0.w a=(hdA h0.w a).n+1:=rfl;have hxa:x=a:=by apply Classical.byContradiction;intro U;have:=fd.2 (x-a-1) ab ab;rw[show a+1+(x-a-1)=x by omega]at this;exact hx this
   subst hxa;refine⟨x,prom x hd.1.1 hd.2.2.1 hd.2.2.2,Uu _,?_⟩;have:1<=Kh h' x:=(Xgo h' x).1;omega
  rw[F.fo x x0 λa h1 h2=>hd ⟨a,h1,h2⟩]at hx;by_cases hs:∃p∈M,p.2<=x/\x<p.2+szA h0.w p.1
  .grind
  by_cases h1:∃p∈M,x=p.1
  .obtain⟨p,hp,rfl⟩:=h1;rcases J.k p hp with⟨k1,_⟩|⟨k1,_⟩
   .exact absurd ⟨p,hp,ab,by have:=(Xy h0.w p.1).2.1;omega⟩ hs
   have H:=(J.l p hp).1;have T:=B.at_ H;exact absurd ((((J.fz hN B T.2.2.1 T.2.2.2.1).2 (J.prm B H).1).2.1 k1.1).2 k1.2) E
  rw[J.o x x0 λp hp=>⟨λe=>h1 ⟨p,hp,e⟩,λe=>hs ⟨p,hp,e⟩⟩]at hx;have⟨a,sa,a1,a2⟩:=B.gx.dt x x0 hx;have K:=sa.at_ G;have q:=XL G.conf K.rng;have hext:=XgA h0 a;have fz:=J.fza hN B K a1 ab;rw[fz.2.2]at E;have z:=(J.fz hN B q.2.1 ab).2 fz.2.1;have⟨m,pm,am⟩:=sa.pars G;by_cases hf:(hdA h0.w a).k=0
  .have hk1:(pg h0.p (pgi h0.c a)).k=1:=by
    rcases K.kind with k|k
    .omega
    exact absurd hf ((B.gx.cl _ m q.2.1 ab pm a am).2 k)
   have V:(pg h0.p (pgi h0.c a)).P>0:=Classical.byContradiction λh=>E ((z.2.1 hk1).2 h);have e:=J.nw B sa hf F E;refine⟨a,prom a sa hk1 V,a1,?_⟩;have:Kh h' a=Kh h0 a:=Xel (by rw[Z];unfold hdA;rw[e]);omega
  by_cases hm:a∈M.map (·.1)
  .have⟨b,hab⟩:=JD hm;rcases J.k _ hab with⟨k1,_⟩|⟨k1,_⟩
   .grind
   exact absurd ((z.2.1 k1.1).2 k1.2) E
  rcases K.kind with k|k
  .have V:(pg h0.p (pgi h0.c a)).P>0:=Classical.byContradiction λh=>E ((z.2.1 k).2 h);exact absurd ⟨a,⟨⟨sa,hf⟩,hm,k,V⟩,a1,ab⟩ hd
  have e:=q.1;rw[(K.large k).1]at e;grind
 .rw[ob]at hb;obtain⟨p,hp,rfl⟩:=WI.1 hb;rw[hhd p hp]at hj;rcases f2 p hp j hj with h|h
  .exact .inl h.2
  grind
 .have hcr:=B.gx.cr;rw[Y];refine Int.le_trans (Int.ofNat_le.2 (Xbg ZS h'.p h0.p lp λi h1 h2 hq=>?_)) hcr;rw[←ZA h1]at hq;rw[←ZA h2];unfold ZS at hq⊢;rw[WH,decide_eq_true_iff,beq_iff_eq]at hq⊢;rcases pgq (i:Int) ab ab with⟨e,_⟩|⟨e,E⟩
  .rw[e]at hq;exact absurd hq.1 ag
  rw[hpins _ ab ab E]at hq;have hk:=hq.1;rw[e]at hk;by_cases u:(i:Int)∈w.t
  .have:=(J.t _ u).1;grind
  rw[(J.pgs _ ab ab u).1]at hk;omega
 .have:=J.ci.qnd;simp_all[J.q]
 .by_cases E:Zi w i
  .have e:pg h'.p i=Y3:=by rw[ep];exact F.pz i A g E
   rw[e];have u:i∉w.t:=λu=>(J.fz hN B A g).1 u E;have z:=(J.fz hN B A g).2 u;have pk:=G.pgs i A g;have h4:=pk.kind;have hpp:=pk.pins;show(0:Int)=_;by_cases k0:(pg h0.p i).k=0
   .exact(zfree i A g k0).symm
   by_cases k1:(pg h0.p i).k=1
   .have:=(z.2.1 k1).1 E;omega
   by_cases k2:(pg h0.p i).k=2
   .have h5:=(z.2.2 k2).1 E;apply Classical.byContradiction;intro U;exact h5 (hl k2 ab)
   have I:(pg h0.p i).k=3:=ab;have⟨k,q0,q1,L,q2,q4⟩:=(Vy hN hb0 B.gx.ep).tl i A g I;have:=((L.k2 q2).2.2 (i-k) ab ab).2.2.2;rw[show k+(i-k)=i by omega]at this;omega
  simp_all
 .rcases J.k p hp with⟨k1,_⟩|⟨k1,_⟩
  .omega
  exact absurd h k1.2
 ·
  have H:=(J.l p hp).1;have T:=B.at_ H;rcases J.k p hp with⟨k1,k2⟩|⟨k1,_,i,u,I,k4⟩
  .have f:=(J.fzm hN B hp (x:=p.2) (Uu _) (by have:=(Xy h0.w p.1).2.1;omega)).1;rw[k1]at f⊢;rcases pgq _ T.2.2.1 T.2.2.2.1 with⟨_,h⟩|⟨e,_⟩
   .exact absurd h f
   have q:=J.pgs _ T.2.2.1 T.2.2.2.1 (J.prm B H).1;unfold cpB;rw[Y,e,q.1,q.2.2.1]
  have t:=J.tk B u;have z:=(Xy h0.w p.1).2.1;have ea:∀o,Xc h0.c i o=4096+i*h0.c.W+o:=λ_=>rfl;have:=(Yd (c:=h0.c) G.conf (p:=i) (o:=p.2-Xc h0.c i 0) ab (by rw[ea]at I k4⊢;omega)).1;rw[show Xc h0.c i (p.2-Xc h0.c i 0)=p.2 by unfold Xc;omega]at this;rw[Xc5.2 k1,Xc5];unfold cpy;rw[Y,this];rcases pgq i t.1 t.2.1 with⟨_,h⟩|⟨e,_⟩
  .exact absurd h ((J.fz hN B t.1 t.2.1).1 u)
  rw[e];have:=J.t i u;omega
 ·
  have tl:((K1 0 h'.p.length).filter λi=>(pg h'.p i).k==1&&!decide ((pg h'.p i).P>0)).length=w.t.length:=by
   refine Nat.le_antisymm (JB ((XaN _ _).filter _) λi u=>?_) (JB J.ci.tnd λi u=>?_)
   .obtain⟨hr,u⟩:=WY.1 u;rw[Y4]at hr;simp only[WH,beq_iff_eq,Ic,Ix]at u;exact frs i hr.1 ab u.1 u.2
   have t:=J.tk B u;have:=J.t i u;refine WY.2 ⟨Y4.2 ⟨t.1,ab⟩,?_⟩;rcases pgq i t.1 t.2.1 with⟨_,h⟩|⟨e,_⟩
   .exact absurd h ((J.fz hN B t.1 t.2.1).1 u)
   rw[e,t.2.2.1,this.2.1];rfl
  rw[J.pk,←tl,←UR,JM,JM];generalize K1 0 (h'.p.length:Int)=l;induction l with
  |nil=>rfl
  |cons a l ih=>
   simp only[U9];have:(if X2 (pg h'.p a)=true then 1 else 0)=(if stC (pg h'.p a)=true then 1 else 0)+if((pg h'.p a).k==1&&!decide ((pg h'.p a).P>0))=true then 1 else 0:=by
    unfold X2 stC;by_cases k1:(pg h'.p a).k=1
    .by_cases U:(pg h'.p a).P>0<;>simp[k1,U]
    simp[k1]
   omega
 ·
  rw[J.pk];rcases hbp with⟨h,e⟩|h
  .exact .inl ⟨by rw[e];rfl,h⟩
  have hm:=Oj h;have t:=J.tk B hm;refine .inr ⟨by have:=List.length_pos_of_mem hm;show w.t.length≠0;omega,t.1,?_⟩;show _=Xab w;unfold Xab;rw[h];rcases pgq _ t.1 t.2.1 with⟨_,h⟩|⟨e,_⟩
  .exact absurd h ((J.fz hN B t.1 t.2.1).1 hm)
  rw[e]
 ·
  rw[JM,JM,lp];refine List.countP_congr λi u=>?_;rw[Y4]at u;have g:i<(h0.p.length:Int):=ab;by_cases ht:i∈w.t
  .have t:=J.tk B ht;have t2:=J.t i ht;rcases pgq i u.1 g with⟨_,h⟩|⟨e,_⟩
   .exact absurd h ((J.fz hN B t.1 t.2.1).1 ht)
   rw[e];unfold stC;rw[t.2.2.1,t2.2.1,t2.1];simp
  have q:=J.pgs i u.1 g ht;have z:=(J.fz hN B u.1 g).2 ht;have big:∀k,0<=k->k<(h0.p.length:Int)->(pg h0.p k).k=2->Xc h0.c k 0∈M.map (·.1):=λk k0 k1 k2=>by
   have⟨l,pl⟩:=B.gx.ps k k0 k1;have am:Xc h0.c k 0∈l:=by rw[(pl.large k2).1];simp
   exact all _ ⟨⟨k,l,k0,k1,pl,am⟩,(B.gx.cl k l k0 k1 pl _ am).2 k2⟩
  rcases pgq i u.1 g with⟨e,E⟩|⟨e,_⟩
  .rw[e];have hk:=(G.pgs i u.1 g).kind;have:stC (pg h0.p i)=false:=by
    by_cases k0:(pg h0.p i).k=0
    .unfold stC;rw[k0];rfl
    by_cases k1:(pg h0.p i).k=1
    .have:=(z.2.1 k1).1 E;unfold stC;rw[k1];simpa using this
    by_cases k2:(pg h0.p i).k=2
    .exact absurd (big i u.1 g k2) ((z.2.2 k2).1 E)
    exfalso;have⟨k,k0',k1',L,k2',k4⟩:=spn.tl i u.1 ab (by rw[q.1];omega);have tt:=((L.k2 k2').2.2 (i-k) ab ab).2.1;rw[show k+(i-k)=i by omega]at tt;have R:Zi w k:=⟨ab,by have:=E.2;omega⟩
    have kt:k∉w.t:=λh=>(J.fz hN B k0' ab).1 h R;have k2'':(pg h0.p k).k=2:=by rw[←(J.pgs k k0' ab kt).1];exact k2'
    exact((((J.fz hN B k0' ab).2 kt).2.2 k2'').1 R) (big k k0' ab k2'')
   rw[this];simp[stC,Y3]
  rw[e];unfold stC;rw[q.1,q.2.2.1]
 rw[lp]at g;have u:=frs i A g k1 U;rcases pgq i A g with⟨e,_⟩|⟨e,E⟩
 .rw[e]at k1;exact absurd k1 ag
 rw[e];rw[Y];refine⟨J.fu i ?_,λx x0 x1=>?_⟩
 .rcases hbp with h|h
  .rw[h.2]at u;cases u
  have⟨ys,ey⟩:=List.getLast?_eq_some_iff.1 h;simp_all
 have⟨_,hl⟩:=(J.t i u).2.2.2;have⟨y,hy,_,y0,y1⟩:=hl.cvr x0 x1;exact⟨y,hy,y0,by rw[Jt (hkw y hy)];exact y1⟩
end
section
variable {N:Nat}{h0 h:Wh}{P:Int->Prop}{M:List (Int×Int)}
def GX.big(g:GX N h)(hN:NB N)(hb:HB h){i:Int}(j:0<=i)(y:i<h.p.length)(f:(pg h.p i).k=2\/(pg h.p i).k=3):∃b,Obb h b/\∀x,Xc h.c i 0<=x->x<Xc h.c i h.c.W->b<=x/\x<b+eS h.c (szA h.w b):=by
 have hp:=Xo hN hb g.ep;have s:=Vy hN hb g.ep;have G:=Xh.1 hp.conf;have⟨k,k0,k1,k2,H⟩:∃k,0<=k/\k<=i/\(pg h.p k).k=2/\i<k+Xx h.c (pg h.p k).u:=by
  rcases f with f|f
  .have:=((s.hd i j y ab).k2 f).1;exact⟨i,j,ab,f,ab⟩
  have⟨k,a,b,_,c,d⟩:=s.tl i j y f;exact⟨k,a,ab,c,d⟩
 have⟨l,pl⟩:=g.ps k k0 ab;have e:=(pl.large k2).1;have A:Xc h.c k 0∈l:=by rw[e];simp
 have B:Obb h (Xc h.c k 0):=⟨⟨k,l,k0,ab,pl,A⟩,(g.cl k l k0 ab pl _ A).2 k2⟩
 have q:=(Yd (c:=h.c) hp.conf (p:=k) (o:=0) ab ab).1;have z:=(ON hp B (by rw[q];exact k2)).1;rw[q]at z;refine⟨_,B,λx I J=>?_⟩;have K:=WW (a:=k) (b:=i) (c:=h.c.W) ab ab;have E:=WW (a:=i+1) (b:=k+Xx h.c (pg h.p k).u) (c:=h.c.W) ab ab;rw[U0,U0]at E;unfold Xc at *;omega
def OG.cap(c:OG N h0 P M h)(hN:NB N)(hb:HB h)(cp:Cap h0):Cap h:=by
 have hp:=Xo hN hb c.gx.ep;have hv:=Xh.1 hp.conf;have A:=cp.a (M.map (·.1)) c.n1 λa I=>by obtain⟨p,hp,rfl⟩:=WI.1 I;exact(c.l p hp).1
 rw[IU,←c.cf]at A;have J:∀p∈M,szA h0.w p.1=szA h.w p.2:=λp hp=>by unfold szA;rw[c.hd p hp]
 refine⟨λl K j=>UL ?_ A,?_⟩
 .refine Xju (f:=id) (f':=λp:Int×Int=>p.2) (g':=λp=>eS h.c (szA h0.w p.1)) ?_ λa I x L O=>?_
  .refine(List.pairwise_iff_forall_sublist.2 λ{a b} R x L O U V=>?_);have Y:=Oq.1 (K.sublist R);have:=c.gx.own hp (j a (R.subset ac)) (j b (R.subset ac)) L O U V;exact Y.1 (by simp[this])
  obtain⟨p,hp,rfl⟩:=WI.1 ((c.ob a).1 (j a I));exact⟨p,hp,L,by rw[J p hp];exact O⟩
 rw[Int.toNat_mul ab ab]at A;have cr:=c.gx.cr;have F:=XkG (c:=h.c) hp.conf (X:=(K1 0 h.p.length).filter λi=>X2 (pg h.p i)&&(!ZS (pg h.p i)&&i != h.b)) (u:=λi=>if(pg h.p i).k=1 then(pg h.p i).u else h.c.W) (m:=M) (f':=λp=>p.2) (g':=λp=>eS h.c (szA h0.w p.1)) ((XaN _ _).filter _) ?_ ?_ A
 .have Z:=XqY (l:=K1 0 h.p.length) (p:=λi=>X2 (pg h.p i)) (q:=λi=>X2 (pg h.p i)&&(!ZS (pg h.p i)&&i != h.b)) (r:=λi=>ZS (pg h.p i)) (s:=λi=>i==h.b) λi _ hb=>by cases ZS (pg h.p i)<;>cases e:(i==h.b)<;>simp_all
  have c1:(K1 0 h.p.length).countP (λi=>i==h.b)<=1:=by rw[UR];exact JB (m:=[h.b]) ((XaN _ _).filter _) λx H=>by simpa using(WY.1 H).2
  rw[←JM,←JM]at Z;rw[←UR]at F;generalize en:(K1 0 h.p.length).countP (λi=>X2 (pg h.p i)&&(!ZS (pg h.p i)&&i != h.b))=n2 at *;by_cases hX:n2=0
  .omega
  have:=F.2 λe=>hX (by rw[←en,UR,e];rfl);omega
 .intro i o;have⟨y,o⟩:=WY.1 o;rw[Y4]at y;simp only[WH,Ic,bne_iff_ne,ZS,X2]at o;by_cases k1:(pg h.p i).k=1
  .have:=(hp.pgs i y.1 ab).small k1;have:=(c.fl i y.1 ab k1 (by simp_all) o.2.2).1;omega
  omega
 intro i o x T G;have⟨y,o⟩:=WY.1 o;rw[Y4]at y;simp only[WH,Ic,bne_iff_ne,ZS,X2]at o;by_cases k1:(pg h.p i).k=1
 .rw[Wm k1]at G;have⟨p,g,p0,p1⟩:=(c.fl i y.1 ab k1 (by simp_all) o.2.2).2 x T G;have j:=(c.ob p.2).2 (WI.2 ⟨p,g,rfl⟩);refine⟨p,g,p0,?_⟩;rw[J p g];have B:=(j.1.at_ hp).kind;rcases B with B|B
  .rw[(c.gx.szs hp j B).2];exact p1
  have z:=(ON hp j B).1;have E:=j.1.at_ hp;have s2:=(E.large B).2;have K:=((hp.pgs _ (XL hp.conf E.rng).2.1 (by have:=(XL hp.conf E.rng).2.2.1;have:=hp.pages;omega)).large B).1;rw[z];unfold Xx at K⊢;grind
 rw[Wj k1]at G;have B:=(hp.pgs i y.1 ab).kind;have⟨b,j,H⟩:=c.gx.big hN hb y.1 ab (i:=i) ab;obtain⟨p,g,rfl⟩:=WI.1 ((c.ob b).1 j);exact⟨p,g,(H x T G).1,by rw[J p g];exact(H x T G).2⟩
def Qop(hN:NB N)(ht:HT h0)(gx:GX N h0)(cp:Cap h0){rs ws:List Int}(lr:rs.length<=1000000)(lw:ws.length<=1000000)(R:∀r∈rs,r=0\/Obb h0 r/\P r)(hw:∀r∈ws,r=0\/Obb h0 r)(V:∀a,Obb h0 a->P a->∀j∈XJ (hdA h0.w a),wd h0.w (a+1+j)=0\/P (wd h0.w (a+1+j))):
 Ok (Qcj N h0 rs ws) λr=>r.2.2.2.2=0/\HT r.1/\∃M,OG N h0 P M r.1/\M.map (·.1)=JN h0 N 0 (Vz [] rs)/\R2 (rel M) rs r.2.1/\R2 (wk M) ws r.2.2.1:=by
 have Y:=hN;unfold NB at Y;have hb:=ht.hb;have⟨S,B,eL⟩:=Xt6 hN hb gx cp;have hp:=B.hp;have hsp:=hp.space;have⟨b1,er,Z⟩:=Xbf hN ht lr gx;have⟨b2,ew,hb2⟩:=Xbf hN ht lw gx;rw[Z.2 λr h=>(R r h).imp id And.left]at er;rw[hb2.2 hw]at ew;have⟨w0,ebg,J0,hs0⟩:=Xq0 (P:=P) hN ht B eL;rw[Qcj,gx.ep,Xa,Wi,Wa];refine Is ?_;rw[er,Xa,Wi,Wa,ew,Xa,Wi,Wa,ebg,Xa];have hroots:Ok (Qc0 N w0 rs) λr=>r.2.2=0/\∃M,JX N h0 S P r.1 M (Dn h0 M 0)/\r.1.d=0/\R2 (rel M) rs r.2.1/\M.map (·.1)=Vz [] rs:=by have hx:=XkH (D:=Dn h0 [] 0) hN B rs lr R N 0 w0 [] [] ab ab J0 (R2.nil _);refine I4 hx (λa q=>q.elim) λt q=>?_;obtain⟨w',M',o',c1,c2,_,c4,c5,rfl⟩:=q;refine Wd ⟨rfl,M',c1.cong (by rfl) (by rfl) (by rfl) (by rfl) (by rfl) c1.ci λx=>?_,c2.trans hs0,c4,c5⟩;exact⟨λ⟨i,p,j,hi,_⟩=>ab,λ⟨i,p,j,hi,_⟩=>ab⟩
 refine WJ hroots λT _ hy5=>?_;have⟨k,M1,J1,hs1,hrr,hm1⟩:=hy5;rw[k,show((0:Int) != 0)=false from rfl,Wa];have H:Ok (Qem N T.1) λr=>r.2=0/\∃M',JX N h0 S P r.1 M' (Dn h0 M' M'.length)/\(∃t,M'=M1++t)/\M'.map (·.1)=JN h0 N 0 (M1.map (·.1)):=
  WJ (XrP hN B V N 0 T.1 M1 J1 hs1 ab ab) λr _ R=>Wd R
 refine WJ H λe _ hy6=>?_;have⟨hz6,M,J,hM,I⟩:=hy6;rw[hm1]at I;rw[hz6,show((0:Int) != 0)=false from rfl,Wa];refine WJ (Xoy hN B ws lw hw T e J N 0 _ [] ab ab (R2.nil _)) λf _ L=>?_;have J':=J.upd e.1.d (WS.mk e.1.r.j e.1.r.K e.1.r.F e.1.r.E f.1 e.1.r.y);have A:=J.ci.wlen;have g:=J.ci.plen;have hol:=J.ci.old.length_le;have hsl:=B.st.st.len;have⟨v,c,f1,f2,f3,f4,f5⟩:=XgC hN B J' N 0 e.1.h.w e.1.r.F ab (by grind) A J.tu λa ha hd=>J.same B hd.1 hd.2.1 (Uu _) (by have:=(Xy h0.w a).2.1;omega);have f1:QaD N (Wu.mk e.1.h e.1.o e.1.t e.1.q e.1.d (WS.mk e.1.r.j e.1.r.K e.1.r.F e.1.r.E f.1 e.1.r.y)) N 0 e.1.h.w e.1.r.F=some (v,c):=f1;have hdO:∀a,XcI h0 M a->a∈e.1.o:=λa hd=>by rw[J.ol];unfold Ye;rw[WY];exact⟨(B.at_ hd.1).2.1,by simp[YY,fnd,hd.1.2]⟩
 rw[Qeh];rw[f1,Xa,Xa];have⟨c',v',ps,g1,g2,g3,g4,g5,g6⟩:=Xjv hN (w:=Wu.mk (Wh.mk e.1.h.c v e.1.h.p e.1.h.s e.1.h.b) e.1.o e.1.t e.1.q e.1.d (WS.mk e.1.r.j e.1.r.K c e.1.r.E f.1 e.1.r.y)) hb hp J.ci.conf g N 0 e.1.r.E v e.1.h.p ab ab (by have:=hb.2;omega) f2 f3 g λ_ _=>rfl;have hb1':=hb.1;have hb2':=hb.2;rw[Qeg];dsimp only;rw[Xb ab,Xb ab,g1,Xa,Xa];dsimp only;have hw0:=hp.words;have hpl0:=hp.pages;have F:FX h0 e.1 M v v' ps:=by
  have pgx:∀x:Int,4096<=x->x<4096+h0.w.length->∀j,0<=j->(Xc h0.c j 0<=x/\x<Xc h0.c j h0.c.W↔j=pgi h0.c x):=λx z U j G=>by
   have q:=XL (a:=x) hp.conf ab;have e1:∀i o,Xc h0.c i o=4096+i*h0.c.W+o:=λ_ _=>rfl;constructor
   .rintro⟨h1,h2⟩;rw[e1]at h1 h2;have:=(Yd (c:=h0.c) hp.conf (p:=j) (o:=x-Xc h0.c j 0) (by rw[e1];omega) (by rw[e1];omega)).1;rw[show Xc h0.c j (x-Xc h0.c j 0)=x by unfold Xc;omega]at this;exact this.symm
   grind
  refine⟨λa hd=>f4 a (hdO a hd) hd,λx z hx=>f5 x z λa _ hd=>hx a hd,g4,g2,λj G j1 k=>(g5 j G).1 ⟨G,j1,k⟩,λj G j1 k=>(g5 j G).2 λh=>k h.2.2,λx z U k=>?_,λx z U k=>?_⟩
  .have q:=XL (a:=x) hp.conf ab;have:=(pgx x z U _ q.2.1).2 rfl;exact(g6 x z).1 ⟨pgi h0.c x,q.2.1,ab,k,this.1,this.2⟩
  refine(g6 x z).2 ?_;rintro⟨j,G,j1,O,h1,h2⟩;have:=(pgx x z U j G).1 ⟨h1,h2⟩;rw[this]at O;exact k O
 have esp:wI (1-e.1.h.s)=1-h0.s:=by rw[J.ci.spc,Xe ab ab]
 have fin:∀bp:Int,bp = -1/\e.1.t=[]\/e.1.t.getLast? = some bp->Ok (some ((Wh.mk e.1.h.c v' ps (wI (1-e.1.h.s)) bp),T.2.1,f.2,(WS.mk e.1.r.j e.1.r.K c c' f.1 e.1.r.y),0)) λr:Wh×List Int×List Int×WS×Int=>r.2.2.2.2=0/\HT r.1/\∃M,OG N h0 P M r.1/\M.map (·.1)=JN h0 N 0 (Vz [] rs)/\R2 (rel M) rs r.2.1/\R2 (wk M) ws r.2.2.1:=λbp hbp=>
  Wd ⟨rfl,⟨⟨by simp_all,by simp_all⟩,g3⟩,M,J.fin hN B F J.ci.conf rfl rfl esp hbp,I,hrr.mono λ_ _ h=>h.mono hM,L⟩
 refine Is (Wn (λu=>?_) λu=>fin _ (.inl ⟨rfl,WG (by have:=WM u;omega)⟩));have u:0<(e.1.t.length:Int):=Ww u;have htl:=J.ci.tl hb;rw[Xe ab ab];exact Ok.get ab ab λp hp=>fin _ (.inr (by
  rw[List.getLast?_eq_getElem?]
  have:=(Kx.1 hp).2
  rwa[show((e.1.t.length:Int)-1).toNat=e.1.t.length-1 by omega]at this))
end
def eR(r:Int->Int->Prop)(a b:W6):Prop:=b.G=a.G/\b.V=a.V/\(a.V=true->r a.a b.a)/\(a.V=false->b.a=a.a)
def sR(r:Int->Int->Prop)(a b:UH):Prop:=b.J=a.J/\b.V=a.V/\(a.V=true->r a.a b.a)/\(a.V=false->b.a=a.a)
def Xem{α β σ:Type}{q:σ->Nat->α->Bool}{p:σ->Nat->β->Bool}{f:σ->α->σ}{g:σ->β->σ}:∀{l:List α} {m:List β} {s:σ} {k:Nat},R2 (λa b=>(∀s k,p s k b=q s k a)/\∀s,g s b=f s a) l m->YH p g s k m=YH q f s k l
 |[],m,s,k,h=>by
  have:=h.1;cases m with
  |nil=>rfl
  |cons b m=>simp_all
 |a::l,m,s,k,h=>by obtain⟨b,o,rfl,e,j⟩:=h.unc;rw[YH,YH,e.1,e.2,Xem j]
def R2.filt{α β:Type}{r:α->β->Prop}{p:α->Bool}{q:β->Bool}:∀{l:List α} {m:List β},R2 (λa b=>q b=p a/\(p a=true->r a b)) l m->R2 r (l.filter p) (m.filter q)
 |[],m,h=>by
  have:=h.1;cases m with
  |nil=>exact R2.nil _
  |cons b m=>simp_all
 |a::l,m,h=>by
  obtain⟨b,g,rfl,⟨j,f⟩,e⟩:=h.unc;cases hp:p a with
  |false=>rw[UC (by grind),UC (by simp_all)];exact e.filt
  |true=>rw[Uq hp,Uq (by simp_all)];exact R2.cons (f hp) e.filt
def R2.map{α β γ δ:Type}{r:α->β->Prop}{s:γ->δ->Prop}{f:α->γ}{g:β->δ}{l:List α}{m:List β}(h:R2 r l m)(q:∀a b,r a b->s (f a) (g b)):R2 s (l.map f) (m.map g):=by
 refine⟨by simp[h.1],λk x y e j=>?_⟩;rw[US]at e j;cases o:l[k]? with
 |none=>simp_all
 |some a=>
  cases p:m[k]? with
  |none=>simp_all
  |some b=>rw[o]at e;rw[p]at j;cases e;cases j;exact q a b (h.2 k a b o p)
def OJ{r:Int->Int->Prop}{l m:List W6}(h:R2 (eR r) l m):R2 r (Xr l) (Xr m):=
 R2.map (r:=λa b=>r a.a b.a) (R2.filt (h.mono λa b q=>⟨q.2.1,q.2.2.1⟩)) λ_ _ q=>q
def OR{r:Int->Int->Prop}{l m:List UH}(h:R2 (sR r) l m):R2 r (XA l) (XA m):=
 R2.map (r:=λa b=>r a.a b.a) (R2.filt (h.mono λa b q=>⟨q.2.1,q.2.2.1⟩)) λ_ _ q=>q
def R2.all{α β:Type}{p:α->Bool}{q:β->Bool}:∀{l:List α} {m:List β},R2 (λa b=>q b=p a) l m->m.all q=l.all p
 |[],m,h=>by have:=h.1;simp_all
 |a::l,m,h=>by obtain⟨b,g,rfl,e,f⟩:=h.unc;rw[Oc,Oc,e,R2.all f]
def R2.countP{α β:Type}{p:α->Bool}{q:β->Bool}:∀{l:List α} {m:List β},R2 (λa b=>q b=p a) l m->m.countP q=l.countP p
 |[],m,h=>by have:=h.1;simp_all
 |a::l,m,h=>by obtain⟨b,g,rfl,e,f⟩:=h.unc;rw[U9,U9,e,R2.countP f]
def XgD{r:Int->Int->Prop}{l m:List W6}(h:R2 (eR r) l m):Yh m=Yh l:=by
 unfold Yh;rw[R2.all (p:=Jp) (q:=Jp) (h.mono λa b q=>?_),h.1];unfold Jp;rw[q.1,q.2.1];cases e:a.V with
 |true=>rfl
 |false=>rw[q.2.2.2 e]
def XkK{r:Int->Int->Prop}{a b:Wq}(j:∀x y,r x y->(y=0↔x=0))(e:b.x=a.x)(f:b.i=a.i)(h:R2 (sR r) a.S b.S):Ym b=Ym a:=by
 have o:stB b.i b.S=stB a.i a.S:=by
  unfold stB;rw[f];refine Xem (h.mono λx y q=>⟨λs k=>?_,λs=>q.1⟩);unfold stQ;rw[q.1,q.2.1];have:(y.a != 0)=(x.a != 0):=by
   cases g:x.V with
   |false=>rw[q.2.2.2 g]
   |true=>have:=j _ _ (q.2.2.1 g);grind
  rw[this]
 have z:Xb6 b=Xb6 a:=by
  unfold Xb6;rw[e];congr 1;funext u i p;have et:toL b i=toL a i:=by unfold toL;rw[e,h.1]
  unfold Xhy YQ;rw[et];have:=(h.drop p.O.toNat).take ((toL a i).toNat-p.O.toNat);rw[R2.countP (p:=λx:UH=>x.V) (q:=λx:UH=>x.V) (this.mono λ_ _ q=>q.2.1)]
 unfold Ym;rw[e,f,h.1,←o,z,f]
section
variable {N:Nat}{r:Int->Int->Prop}
def Xen(E:List W6)(y:E.length<=1000000)(rs:List Int)(f:rs.length<=1000000):∀(n k c:Nat) (v:List W6),k<=E.length->E.length-k<n->v.length=E.length->v.drop k=E.drop k->c<=rs.length->R2 r (Xr (E.drop k)) (rs.drop c) ->
 ∃t,Qbh N rs n (c:Int) (k:Int) v=some (v.take k++t)/\R2 (eR r) (E.drop k) t
 |0,k,c,v,_,z,_,_,_,_=>by omega
 |n+1,k,c,v,J,z,A,hd,B,h=>by
  rw[Qbh,Xb ab,A];by_cases g:k<E.length;rotate_left
  .obtain rfl:k=E.length:=ab;rw[Xw,Wa,WZ ab];exact⟨[],by grind,R2.nil _⟩
  have hdr:=Wl g;have o:=Wl (show k<v.length by omega);rw[o,hdr]at hd;have⟨H,p⟩:=IX hd;rw[Xi g,Wc,Xf,Wb ab,Xa,H,Xg (k:=k) ab];rw[hdr]at h⊢;cases I:E[k].V with
  |false=>
   have q:Xr (E[k]::E.drop (k+1))=Xr (E.drop (k+1)):=by unfold Xr;rw[UC (by grind)]
   rw[q]at h;have⟨t,e,ht⟩:=Xen E y rs f n (k+1) c v ab ab A p B h;refine⟨E[k]::t,by grind,R2.cons ⟨rfl,rfl,(λh=>by grind),λ_=>rfl⟩ ht⟩
  |true=>
   have q:Xr (E[k]::E.drop (k+1))=E[k].a::Xr (E.drop (k+1)):=by unfold Xr;rw[Uq I];rfl
   rw[q]at h;have⟨b,K,u,L,O⟩:=h.unc;have j:c<rs.length:=by apply Classical.byContradiction;intro z;rw[WZ ab]at u;cases u
   rw[Wl j]at u;rw[Wc,Xf,Wb j,Xa,Xa,Xg (k:=c) ab];have⟨t,e,ht⟩:=Xen E y rs f n (k+1) (c+1) (v.set k ⟨E[k].G,rs[c],E[k].V⟩) ab ab (by grind) (by rw[UV ab];omega) ab (by grind);have x:(v.set k ⟨E[k].G,rs[c],E[k].V⟩).take (k+1)=v.take k++[⟨E[k].G,rs[c],E[k].V⟩]:=by rw[Im,U5,Wm rfl,Wm ab,IZ ab];rfl
   rw[show(k:Int).toNat=k from rfl,e,x,W4];exact⟨_,rfl,R2.cons ⟨rfl,rfl,λ_=>by grind,λh=>by grind⟩ ht⟩
def XkL(hN:NB N){t:WD}(ht:TB t)(g:Yh t.e=true){rs:List Int}(h:R2 r (Xr t.e) rs):∃m,Qb8 N t rs=some (m,0)/\R2 (eR r) t.e m.e:=by
 have f:1000000<N:=by unfold NB at hN;omega
 have j:=Jq g;have:=J8 t.e;have k:=h.1;have⟨m,e,o⟩:=Xen (N:=N) (r:=r) t.e ab rs ab N 0 0 t.e ab ab rfl rfl ab ah;rw[show((0:Nat):Int)=0 from rfl,Ou,W8]at e;refine⟨⟨m⟩,?_,o⟩;rw[Qb8,YP ht f,g,Xa,Wi,Wa,XV ht f,g,Wc,Xa,Xb ab,k];simp;rw[Xb ab,e,Xa]
def Xeo(a:Wq)(A:a.S.length<=1000000)(rs:List Int)(g:rs.length<=1000000)(o:∀x∈rs,x≠0):∀(n k c:Nat) (v:List UH),k<=a.S.length->a.S.length-k<n->v.length=a.S.length->v.drop k=a.S.drop k->c<=rs.length->R2 r (XA (a.S.drop k)) (rs.drop c) ->
 ∃t,Qbg N a rs n (c:Int) (k:Int) v=some (.nxt (v.take k++t))/\R2 (sR r) (a.S.drop k) t
 |0,k,c,v,_,B,_,_,_,_=>by omega
 |n+1,k,c,v,K,B,E,hd,G,h=>by
  rw[Qbg,Xb ab,E];by_cases j:k<a.S.length;rotate_left
  .obtain rfl:k=a.S.length:=ab;rw[Xw,Wa,WZ ab];exact⟨[],by grind,R2.nil _⟩
  have hdr:=Wl j;have p:=Wl (show k<v.length by omega);rw[p,hdr]at hd;have⟨H,q⟩:=IX hd;rw[Xi j,Wc,Xf,Wb ab,Xa,H,Xg (k:=k) ab];rw[hdr]at h⊢;cases I:a.S[k].V with
  |false=>
   have u:XA (a.S[k]::a.S.drop (k+1))=XA (a.S.drop (k+1)):=by unfold XA;rw[UC (by grind)]
   rw[u]at h;have⟨t,e,ht⟩:=Xeo a A rs g o n (k+1) c v ab ab E q G h;refine⟨a.S[k]::t,by grind,R2.cons ⟨rfl,rfl,(λh=>by grind),λ_=>rfl⟩ ht⟩
  |true=>
   have u:XA (a.S[k]::a.S.drop (k+1))=a.S[k].a::XA (a.S.drop (k+1)):=by unfold XA;rw[Uq I];rfl
   rw[u]at h;have⟨b,L,y,O,R⟩:=h.unc;have f:c<rs.length:=by apply Classical.byContradiction;intro B;rw[WZ ab]at y;cases y
   rw[Wl f]at y;rw[Wi,Wa,Xf,Wb f,Xa,Xj (o _ (Wt f)),Wa,Xa,Xa,Xg (k:=c) ab];have⟨t,e,ht⟩:=Xeo a A rs g o n (k+1) (c+1) (v.set k ⟨a.S[k].J,rs[c],a.S[k].V⟩) ab ab (by grind) (by rw[UV ab];omega) ab (by grind);have z:(v.set k ⟨a.S[k].J,rs[c],a.S[k].V⟩).take (k+1)=v.take k++[⟨a.S[k].J,rs[c],a.S[k].V⟩]:=by rw[Im,U5,Wm rfl,Wm ab,IZ ab];rfl
   rw[show(k:Int).toNat=k from rfl,e,z,W4];exact⟨_,rfl,R2.cons ⟨rfl,rfl,λ_=>by grind,λh=>by grind⟩ ht⟩
def Xq2(hN:NB N){a:Wq}(j:LBp a)(g:Ym a=true){rs:List Int}(h:R2 r (XA a.S) rs)(k:∀x∈rs,x≠0):∃m,Qda N a rs=some (⟨m,a.x,a.i⟩,0)/\R2 (sR r) a.S m:=by
 have f:1000000<N:=by unfold NB at hN;omega
 have o:=(XW.1 g).slots;have:=(XW.1 g).iss;have:=XaA a.S;have p:=h.1;have⟨m,e,q⟩:=Xeo (N:=N) (r:=r) a ab rs ab k N 0 0 a.S ab ab rfl rfl ab ah;rw[show((0:Nat):Int)=0 from rfl,Ou,W8]at e;refine⟨m,?_,q⟩;rw[Qda,Ze j f,g,Xa,Wi,Wa,YR j f,g,Wc,Xa,p];simp;rw[Xb ab,e,Xa,Xl]
end
structure OH(N:Nat)(x y:Uj)(P:Int->Prop)(M:List (Int×Int)):Prop where
 et:ET y
 vx:VX N y
 ch:OG N x.h P M y.h
 rt:R2 (rel M) x.R y.R
 ls:R2 (sR (rel M)) x.l.S y.l.S
 lc:y.l.x=x.l.x/\y.l.i=x.l.i
 gl:R2 (eR (rel M)) x.g.e y.g.e
 we:R2 (eR (wk M)) x.v.e y.v.e
 pi:y.P=x.P
 st:∀r∈Zh x,r=0\/r∈M.map (·.1)
 ps:∀p∈x.P,(p.a,p.a)∈M
 od:M.map (·.1)=JN x.h N 0 (Vz [] (Zh x))
def XgE{c:WP}:∀{l:List UB},(∀p∈l,1<=p.M)->∀i,0<=ZB c l i
 |[],_,_=>by simp[ZB]
 |p::l,h,i=>by have:=XgE (c:=c) (l:=l) (λq e=>h q (WT _ e)) i;grind[ZB]
def Xep{c:WP}:∀{l:List UB},(∀p∈l,1<=p.M)->∀p∈l,0<ZB c l (pgi c p.a)
 |[],_,p,hp=>by simp_all
 |q::l,h,p,hp=>by
  have f:=XgE (c:=c) (l:=l) λq e=>h q (WT _ e);have g:=h q ac;rw[ZB];rcases Ig.1 hp with rfl|hp
  .grind
  have:=Xep (c:=c) (l:=l) (λq e=>h q (WT _ e)) p hp;omega
def XkM{c:WP}:∀{l:List UB} {i:Int},0<ZB c l i->∃p∈l,pgi c p.a=i
 |[],i,h=>by simp_all[ZB]
 |q::l,i,h=>by
  rw[ZB]at h;by_cases e:pgi c q.a=i
  .simp_all
  have⟨p,hp,e⟩:=XkM (c:=c) (l:=l) (i:=i) ab;grind
def MX.col{N:Nat}{h x:Wh}{pins:List UB}{P:Int->Prop}{M:List (Int×Int)}(m:MX N h pins)(c:OG N h P M x)(hp:Uv h)(y:∀p∈pins,p.a∈M.map (·.1)):MX N x pins/\∀p∈pins,(p.a,p.a)∈M:=by
 have z:∀p∈pins,1<=p.M:=λp hp=>(m.ob p hp).2.1;have g:∀p∈pins,(p.a,p.a)∈M:=λp f=>by have⟨b,hb⟩:=JD (y p f);have j:=(m.ob p f).1.1.at_ hp;have q:=XL hp.conf j.rng;have A:=hp.pages;have B:=m.sm _ q.2.1 ab;have:=Xep (c:=h.c) z p f;have:=c.kp _ hb (by dsimp only;omega);grind
 refine⟨⟨c.gx,m.len,λp f=>⟨(c.ob _).2 (WI.2 ⟨_,g p f,rfl⟩),(m.ob p f).2⟩,m.nd,λi u o=>?_⟩,g⟩;rw[c.pl]at o;rw[c.pn i u o λk2 k=>?_,c.cf]
 .exact m.sm i u o
 rw[m.sm i u o]at k;have⟨p,f,e⟩:=XkM k;have j:=(m.ob p f).1.1.at_ hp;have q:=XL hp.conf j.rng;have:=(j.large (by rw[e];exact k2)).1;grind
section
variable {N:Nat}{x:Uj}
def Xoz(s:List Int)(f:Wh×List Int×List Int×WS×Int)(g j:List Int)(o:Wq×Int)(p q:WD×Int)(z:x.P.length<=1000000)(u:∀k(A:k<x.P.length),Xd f.2.1 (wI (wI (wI ((x.R.length:Int)+(g.length:Int))+(j.length:Int))+(k:Int)))=some x.P[k].a):∀(n k:Nat) (v:List UB),k<=x.P.length->x.P.length-k<n->v=x.P.take k->QaY N x f g j o p q n (k:Int) v=some x.P
 |0,k,v,_,B,_=>by omega
 |n+1,k,v,A,B,y=>by
  rw[QaY];by_cases e:k<x.P.length
  .have E:v.length<=1000000:=by rw[y,Ws];omega
   rw[Xi e,Wc,u k e,Xa,Xf,Wb e,Xa,Xb ab,Xg ab];exact Xoz s f g j o p q z u n (k+1) _ ab ab (by rw[Im,Wb e,y];rfl)
  grind
def R2.rel_ob{h:Wh}{M:List (Int×Int)}(e:∀b,Obb h b↔b∈M.map (·.2)){l m:List Int}(r:R2 (rel M) l m):∀b∈m,b=0\/Obb h b:=λb hb=>by
 have⟨a,f,h⟩:=r.memr hb;rcases h with h|h
 .exact .inl h.2
 grind
def XoA(hN:NB N)(ht:ET x)(vx:VX N x)(cp:Cap x.h){P:Int->Prop}(V:∀a,Obb x.h a->P a->∀j∈XJ (hdA x.h.w a),wd x.h.w (a+1+j)=0\/P (wd x.h.w (a+1+j)))(hP:∀r∈Zh x,r=0\/P r):Ok (QbA N x) λr=>r.2.2=0/\∃M,OH N x r.1 P M:=by
 have A:1000000<N:=by unfold NB at hN;omega
 have z:=ht.eb;have h1:=YM z.loc;have h2:=XZ x.g.e;have h5:=XZ x.v.e;have h3:=z.pins;have h4:=z.roots;rw[vx.loc,Wc]at h1;rw[vx.glo,Wc]at h2;rw[vx.wea,Wc]at h5;have hp64:=vx.mx.len;have gx:=vx.mx.gx;have hp:=Xo hN z.heap gx.ep;have H:Zh x=((x.R++XA x.l.S)++Xr x.g.e)++x.P.map (·.a):=by unfold Zh;rw[vx.loc,vx.glo];rfl
 have hll:(Zh x).length=x.R.length+(XA x.l.S).length+(Xr x.g.e).length+x.P.length:=by rw[H];simp only[WK,Ug]
 have hsl:∀r∈Zh x,r=0\/Obb x.h r:=λr o=>by
  rw[H]at o;simp only[Wr]at o;rcases o with((o|o)|o)|o
  .exact vx.rr r o
  .exact vx.rl r o
  .exact vx.rg r o
  obtain⟨p,hp,rfl⟩:=WI.1 o;exact .inr (vx.mx.ob p hp).1
 rw[QbA,(Jg hN ht).2 vx,Xa,Wi,Wa,Js hN z,Xa,XV z.wea A,vx.wea,Wc,Xa];refine WJ (Qop hN ht.ht gx cp (P:=P) (rs:=Zh x) (ws:=Xr x.v.e) ab ab (λr o=>?_) vx.rw_ V) λy _ hy=>?_
 .grind
 obtain⟨hz,B,M,c,W,o,hw⟩:=hy;rw[hz,show((0:Int) != 0)=false from rfl,Wa];have hs1:=o.1;generalize hs:y.2.1=s at *;generalize Y:XA x.l.S=f at *;generalize hm:Xr x.g.e=u at *;have en:(x.R.length:Int).toNat=x.R.length:=rfl;have w1:wI ((x.R.length:Int)+(f.length:Int))=((x.R.length+f.length:Nat):Int):=by rw[Xe ab ab];omega
 have w2:wI (((x.R.length+f.length:Nat):Int)+(u.length:Int))=((x.R.length+f.length+u.length:Nat):Int):=by rw[Xe ab ab];omega
 have t1:((x.R.length+f.length:Nat):Int).toNat=x.R.length+f.length:=rfl;have t2:((x.R.length+f.length+u.length:Nat):Int).toNat=x.R.length+f.length+u.length:=rfl;have r1:R2 (rel M) x.R (s.take x.R.length):=by have:=o.take x.R.length;rwa[H,W4,W4,List.take_left]at this
 have r2:R2 (rel M) f ((s.drop x.R.length).take f.length):=by have:=(o.drop x.R.length).take f.length;rwa[H,W4,W4,List.drop_left,List.take_left]at this
 have r3:R2 (rel M) u ((s.drop (x.R.length+f.length)).take u.length):=by
  have:=(o.drop (x.R.length+f.length)).take u.length;have e:(Zh x).drop (x.R.length+f.length)=u++x.P.map (·.a):=by rw[H,W4,←WK,List.drop_left]
  rwa[e,List.take_left]at this
 have r4:R2 (rel M) (x.P.map (·.a)) (s.drop (x.R.length+f.length+u.length)):=by
  have:=o.drop (x.R.length+f.length+u.length);have e:(Zh x).drop (x.R.length+f.length+u.length)=x.P.map (·.a):=by rw[H,←WK,←WK,List.drop_left]
  rwa[e]at this
 have Z:∀p∈x.P,p.a∈M.map (·.1):=λp I=>by
  obtain⟨b,_,hb⟩:=r4.meml (WI.2 ⟨p,I,rfl⟩);rcases hb with h|h
  .have:=((vx.mx.ob p I).1.1.at_ hp).rng;omega
  grind
 have E:=vx.mx.col c hp Z;have nz:∀a b,rel M a b->(b=0↔a=0):=λa b h=>by
  rcases h with h|h
  .omega
  have h1:=((c.l _ h).1.1.at_ hp).rng;have h2:=(((c.ob b).2 (WI.2 ⟨_,h,rfl⟩)).1.at_ (Xo hN B.hb c.gx.ep)).rng;omega
 have lz:∀v∈f,v≠0:=λv J=>by rw[←Y]at J;unfold XA at J;obtain⟨p,hp,rfl⟩:=WI.1 J;have hp:=WY.1 hp;obtain⟨q,hq,eq⟩:=Wv hp.1;exact(Xaz (XW.1 vx.loc).st (i:=q) (p:=p) (by simp_all)).2.2.2.1 hp.2
 have lz':∀v∈(s.drop x.R.length).take f.length,v≠0:=λv J e=>by obtain⟨a,ha,h⟩:=r2.memr J;grind
 obtain⟨ml,e1,O⟩:=Xq2 hN z.loc vx.loc (by rw[Y];exact r2) lz';obtain⟨mg,e2,K⟩:=XkL hN z.glo vx.glo (by rw[hm];exact r3);have⟨mw,e3,T⟩:=XkL hN z.wea vx.wea hw;rw[YR z.loc A,vx.loc,Wc,Y,Xa,XV z.glo A,vx.glo,Wc,hm,Xa,w1,w2,t1,t2,en];rw[Xb ab,Xb ab,Xb ab,Xb ab,show x.R.length+f.length-x.R.length=f.length by omega,e1,Xa,Xb ab,show x.R.length+f.length+u.length-(x.R.length+f.length)=u.length by omega,e2,Xa,e3,Xa];have L:=Xoz (N:=N) (x:=x) s y f u (⟨ml,x.l.x,x.l.i⟩,0) (mg,0) (mw,0) h3 (λk hkp=>by
  rw[hs,w1,w2,Xe ab ab,show((x.R.length+f.length+u.length:Nat):Int)+(k:Int)=((x.R.length+f.length+u.length+k:Nat):Int) by omega,Xf,←UN]
  have⟨b,eb,hb⟩:=r4.get (k:=k) (a:=x.P[k].a) (by simp_all)
  have hsf:=E.2 _ (Wt hkp)
  rcases hb with h|h
  .simp_all
  .have hn:=c.n1
   have:b=x.P[k].a:=by
    rw[List.Nodup,Iz,W7]at hn
    obtain⟨i,hi,ei⟩:=Wv h
    obtain⟨j,hj,U⟩:=Wv hsf
    rcases Nat.lt_trichotomy i j with g|g|g
    .exact absurd (by rw[ei,U]) (hn i j hi hj g)
    .subst g;rw[ei]at U;exact congrArg Prod.snd U
    .exact absurd (by rw[ei,U]) (hn j i hj hi g)
   grind) N 0 [] ab ab rfl
 rw[show((0:Nat):Int)=0 from rfl]at L;rw[L,Xa];have hgz:∀r∈Xr mg.e,r≠0:=λr G e=>by have⟨a,ha,h⟩:=(OJ K).memr G;exact vx.gz a ha ((nz a r h).1 e)
 refine Wd (⟨rfl,M,⟨⟨⟨B.hb,⟨by rw[O.1];exact z.loc.1,z.loc.2⟩,by show mg.e.length<=_;rw[K.1];exact z.glo,by show mw.e.length<=_;rw[T.1];exact z.wea,h3,by grind⟩,B.tw⟩,⟨E.1,?_,?_,?_,hgz,r1.rel_ob c.ob,(OR O).rel_ob c.ob,(OJ K).rel_ob c.ob,?_⟩,c,r1,O,⟨rfl,rfl⟩,K,T,rfl,λr G=>?_,E.2,W⟩⟩)
 .exact(XkK (a:=x.l) (b:=⟨ml,x.l.x,x.l.i⟩) nz rfl rfl O).trans vx.loc
 .exact(XgD K).trans vx.glo
 .exact(XgD T).trans vx.wea
 .intro b hb;have⟨a,ha,h⟩:=(OJ T).memr hb;rcases h with h|h|h
  .exact .inl h.2
  .exact .inr ((c.ob b).2 (WI.2 ⟨_,h,rfl⟩))
  omega
 have⟨b,_,h⟩:=o.meml G;rcases h with h|h
 .exact .inl h.1
 grind
end
structure Sa(N:Nat)(h h2:Wh)(a:Int)(d:Wy):Prop where
 ep:Qaa N h2=some true
 cf:h2.c=h.c
 sp:h2.s=h.s
 wl:h2.w.length=h.w.length
 pl:h2.p.length=h.p.length
 vd:XC d=true/\tW d.Map/\d.k≠0
 w:∀x:Int,4096<=x->wd h2.w x=if x=a then Zw d else wd h.w x
 z:∀x:Int,a<=x->x<a+(d.n+1)->4096<=x/\wd h.w x=0
 pa:0<=pgi h.c a/\pgi h.c a<(h.p.length:Int)
 st:∀b,Stt h b->b≠a/\¬(b<=a/\a<b+szA h.w b)
 po:∀i,0<=i->i<(h.p.length:Int)->i≠pgi h.c a->pg h2.p i=pg h.p i\/(pg h.p i).k=0/\(pg h2.p i).k=3/\(pg h2.p i).s=h.s/\(pg h2.p i).P=0
 pp:(pg h2.p (pgi h.c a)).P=(pg h.p (pgi h.c a)).P/\(pg h2.p (pgi h.c a)).s=h.s /\
  (((pg h.p (pgi h.c a)).k=1/\(pg h2.p (pgi h.c a)).k=1/\a=Xc h.c (pgi h.c a) (pg h.p (pgi h.c a)).u/\(pg h2.p (pgi h.c a)).u=(pg h.p (pgi h.c a)).u+(d.n+1)/\d.n+1<=smC h.c) \/
   ((pg h.p (pgi h.c a)).k=0/\a=Xc h.c (pgi h.c a) 0/\(pg h2.p (pgi h.c a)).u=d.n+1/\((pg h2.p (pgi h.c a)).k=1/\d.n+1<=smC h.c\/(pg h2.p (pgi h.c a)).k=2)))
 us:((h2.p.countP X2:Nat):Int)<=h.c.p / 4
structure O8(N:Nat)(h h2:Wh)(a:Int)(d:Wy):Prop where
 gx:GX N h2
 cf:h2.c=h.c
 sp:h2.s=h.s
 wl:h2.w.length=h.w.length
 pl:h2.p.length=h.p.length
 ge:4096<=a
 hd:hdA h2.w a=d
 zf:∀j,0<=j->j<d.n->wd h2.w (a+1+j)=0
 ob:∀b,Obb h2 b↔Obb h b\/b=a
 fr:¬Obb h a
 w:∀b,Obb h b->∀x,b<=x->x<b+szA h.w b->wd h2.w x=wd h.w x
 pn:∀i,0<=i->i<(h.p.length:Int)->(pg h2.p i).P=(pg h.p i).P
 us:((h2.p.countP X2:Nat):Int)<=h.c.p / 4
section
variable {N:Nat}{h h2:Wh}{a:Int}{d:Wy}
def Sa.new(q:Sa N h h2 a d)(g:GX N h)(hN:NB N)(hb:HB h):O8 N h h2 a d:=by
 have hp:=Xo hN hb g.ep;have hb2:HB h2:=⟨by rw[q.wl];exact hb.1,by rw[q.pl];exact hb.2⟩
 have V:=Xo hN hb2 q.ep;have⟨v1,v2,v3⟩:=q.vd;have vl:=XD v1;have ge:4096<=a:=(q.z a (Uu _) ab).1;have ed:=XkJ v1 v2;have I:wd h2.w a=Zw d:=by rw[q.w a ge,Wm rfl]
 have K:hdA h2.w a=d:=by unfold hdA;rw[I];exact ed.2.1
 have sza:szA h2.w a=d.n+1:=by unfold szA;rw[K]
 have keep:∀b,Stt h b->wd h2.w b=wd h.w b:=λb A=>by have:=(A.at_ hp).rng;rw[q.w b this.1,Wj (q.st b A).1]
 have kh:∀b,Stt h b->hdA h2.w b=hdA h.w b:=λb A=>by unfold hdA;simp_all
 have ks:∀b,Stt h b->szA h2.w b=szA h.w b:=λb A=>Jt (keep b A);have pars:∀i l,0<=i->i<(h.p.length:Int)->Oy h i l->Oy h2 i (if i=pgi h.c a then l++[a]else l):=λi l y f pl=>by
  have L:∀b∈l,Stt h b:=λb hb=>⟨i,l,y,f,pl,hb⟩
  by_cases B:i=pgi h.c a
  .rw[Wm B];subst B;rcases q.pp.2.2 with⟨E,O,Y,Z,p5⟩|⟨E,O,Y,Z⟩
   .refine⟨λk=>ab,λ_=>?_,λk=>ab⟩;rw[q.cf,Z];have c1:=(pl.small E).congr (vs:=h2.w) λb hb=>keep b (L b hb);rw[←Y]at c1;refine c1.app ⟨rfl,by rw[I];exact ed.1,?_⟩;show a+szA h2.w a=_;have e1:∀o,Xc h.c (pgi h.c a) o=4096+pgi h.c a*h.c.W+o:=λ_=>rfl;grind
   rw[pl.none (.inl E),W8];refine⟨λk=>ab,λ_=>?_,λ_=>?_⟩
   .rw[q.cf,Y,←O];refine⟨rfl,by rw[I];exact ed.1,?_⟩;show a+szA h2.w a=_;have e1:∀o,Xc h.c (pgi h.c a) o=4096+pgi h.c a*h.c.W+o:=λ_=>rfl;grind
   rw[q.cf,Y,←O,I,sza];grind
  rw[Wj B];rcases q.po i y f B with e|⟨E,O,_⟩
  .refine⟨λk=>pl.none (by simp_all),λk=>?_,λk=>?_⟩
   .rw[q.cf,e];rw[e]at k;exact(pl.small k).congr λb hb=>keep b (L b hb)
   rw[e]at k;obtain⟨rfl,h1,h2'⟩:=pl.large k;have:=L (Xc h.c i 0) ac;simp_all[q.cf,e,keep,this,ks]
  rw[pl.none (.inl E)];exact⟨λ_=>rfl,λk=>ab,λk=>ab⟩
 have G:∀b,Stt h2 b↔Stt h b\/b=a:=λb=>by
  constructor
  .rintro⟨i,l,y,f,pl,u⟩;rw[q.pl]at f;have⟨m,H⟩:=g.ps i y f;have:=pl.fn (V.pgs i y (by simp_all[q.pl])).kind (pars i m y f H);subst this;split at u
   .rcases Wr.1 u with u|u
    .exact .inl ⟨i,m,y,f,H,u⟩
    simp_all
   exact .inl ⟨i,m,y,f,H,u⟩
  rintro(⟨i,l,y,f,pl,u⟩|rfl)
  .refine⟨i,_,y,by rw[q.pl];exact f,pars i l y f pl,?_⟩;grind
  have⟨m,H⟩:=g.ps _ q.pa.1 q.pa.2;have:=pars _ m q.pa.1 q.pa.2 H;exact⟨_,_,q.pa.1,by rw[q.pl];exact q.pa.2,this,ac⟩
 have ob2:∀b,Obb h2 b↔Obb h b\/b=a:=λb=>by
  constructor
  .rintro⟨R,hk⟩;rcases(G b).1 R with R|R
   .rw[kh b R]at hk;exact .inl ⟨R,hk⟩
   omega
  rintro(⟨R,hk⟩|rfl)
  .exact⟨(G b).2 (.inl R),by simp_all⟩
  exact⟨(G b).2 (.inr rfl),by simp_all⟩
 have ww:∀b,Stt h b->∀x,b<=x->x<b+szA h.w b->wd h2.w x=wd h.w x:=λb A x x0 x1=>by have:=(A.at_ hp).rng;rw[q.w x ab,Wj];rintro rfl;exact(q.st b A).2 ⟨x0,x1⟩
 have pins:∀i,0<=i->i<(h.p.length:Int)->(pg h2.p i).P=(pg h.p i).P:=λi y f=>by
  by_cases B:i=pgi h.c a
  .rw[B];exact q.pp.1
  rcases q.po i y f B with e|⟨E,_,_,Z⟩
  .rw[e]
  rw[Z,(hp.pgs i y f).free E];rfl
 have zf:∀j,0<=j->j<d.n->wd h2.w (a+1+j)=0:=λj j0 j1=>by rw[q.w _ ab,Wj ab];exact(q.z _ ab ab).2
 refine⟨⟨q.ep,λi y f=>?_,λi y f k=>?_,λi l y f pl b u=>?_,λx x0 hx=>?_,λb T j hj=>?_,?_⟩,q.cf,q.sp,q.wl,q.pl,ge,K,zf,ob2,λho=>(q.st a ho.1).1 rfl,λb T=>ww b T.1,pins,q.us⟩
 .rw[q.pl]at f;have⟨m,H⟩:=g.ps i y f;grind
 .rw[q.pl]at f;rw[q.sp];by_cases B:i=pgi h.c a
  .rw[B];exact q.pp.2.1
  rcases q.po i y f B with e|⟨_,_,Y,_⟩
  .rw[e]at k⊢;exact g.sp i y f k
  omega
 .rw[q.pl]at f;have⟨m,H⟩:=g.ps i y f;have:=pl.fn (V.pgs i y (by rw[q.pl];exact f)).kind (pars i m y f H);subst this;have old:∀b∈m,XcH h2 i b:=λb U=>by
   have A:Stt h b:=⟨i,m,y,f,H,U⟩
   have c:=g.cl i m y f H b U;have hat:=H.at_ hp y f U;have hk:=hat.1.kind;rw[hat.2]at hk;unfold XcH;rw[kh b A,ks b A,q.cf];by_cases B:i=pgi h.c a
   .rcases q.pp.2.2 with⟨E,O,_⟩|⟨E,_⟩
    .rw[←B]at E O;exact⟨λ_=>c.1 E,λk=>ab⟩
    rw[←B]at E;omega
   rcases q.po i y f B with e|⟨E,_⟩
   .rw[e];exact c
   omega
  split at u
  .rename_i B;rcases Wr.1 u with u|u
   .exact old b u
   rw[Uc.1 u];unfold XcH;rw[K,sza,q.cf];refine⟨λk=>?_,λ_=>v3⟩;rcases q.pp.2.2 with⟨E,O,_,_,p5⟩|⟨E,_,_,⟨_,p5⟩|Z⟩
   .exact p5
   .exact p5
   rw[B]at k;omega
  simp_all
 .rw[q.w x x0]at hx;by_cases hxa:x=a
  .refine⟨a,(G a).2 (.inr rfl),ab,?_⟩;have:=(Xgo h2 a).1;omega
  rw[Wj hxa]at hx;have⟨b,sb,b1,b2⟩:=g.dt x x0 hx;exact⟨b,(G b).2 (.inl sb),b1,by rw[Xel (kh b sb)];omega⟩
 .rcases(ob2 b).1 T with ho|rfl
  .rw[kh b ho.1]at hj;have hr:=Zn hj;have ez:szA h.w b=(hdA h.w b).n+1:=rfl;rw[ww b ho.1 (b+1+j) ab ab];rcases g.pt b ho j hj with e|e
   .exact .inl e
   simp_all
  have hr:=Zn hj;simp_all
 rw[q.cf];refine Int.le_trans (Int.ofNat_le.2 (Xbg ZS h2.p h.p q.pl λi h1 h3 J=>?_)) g.cr;rw[←ZA h1]at J;rw[←ZA h3];unfold ZS at J⊢;rw[WH,decide_eq_true_iff,beq_iff_eq]at J⊢;have hpi:=pins (i:Int) ab ab;rw[hpi]at J;refine⟨?_,J.2⟩;have zk:(pg h.p (i:Int)).k=0->False:=λk=>by have:=(hp.pgs (i:Int) ab ab).free k;rw[this]at J;exact absurd J.2 ag
 by_cases B:(i:Int)=pgi h.c a
 .rcases q.pp.2.2 with⟨E,_⟩|⟨E,_⟩
  .rw[B];exact E
  grind
 rcases q.po (i:Int) ab ab B with e|⟨E,_⟩
 .rw[e]at J;exact J.1
 omega
end
section
variable {N:Nat}{h:Wh}{d:Wy}
def GX.nocov(g:GX N h)(hp:Uv h){x:Int}(z:4096<=x)(I:x<4096+h.w.length)(f:(pg h.p (pgi h.c x)).k=0\/(pg h.p (pgi h.c x)).k=1/\(pg h.p (pgi h.c x)).u<=pgo h.c x):(∀b,Stt h b->¬(b<=x/\x<b+szA h.w b))/\wd h.w x=0:=by
 have A:∀b,Stt h b->¬(b<=x/\x<b+szA h.w b):=by
  rintro b q ⟨b0,y⟩;have e:=q.at_ hp;obtain⟨J,K,L,B⟩:=(XbN hp e b0 y).1;have j:pgi h.c b=pgi h.c x:=by apply Classical.byContradiction;intro O;have:=B (pgi h.c x) ab (Uu _);omega
  have E:=e.kind;rw[j]at E;rcases f with f|⟨f,R⟩
  .omega
  have:=e.small (by rw[j];exact f);have eb:=(XL hp.conf e.rng).1;have G:=(XL (a:=x) hp.conf (by have:=hp.words;omega)).1;rw[j]at this eb;have H:∀o,Xc h.c (pgi h.c x) o=4096+pgi h.c x*h.c.W+o:=λ_=>rfl;rw[H]at eb G;omega
 refine⟨A,Classical.byContradiction λhw=>?_⟩;have⟨b,q,b0,y⟩:=g.dt x z hw;have:=XgA h b;grind
def XoB(hN:NB N){e:Wh}(hb:HB e)(ep:Qaa N e=some true)(k:XC d=true){a:Int}(z:4096<=a)(A:a+(d.n+1)<=4096+e.w.length):∃ws,QbN N e a d=some (⟨e.c,ws,e.p,e.s,e.b⟩,0)/\ws.length=e.w.length/\(∀x:Int,4096<=x->wd ws x=if x=a then Zw d else if a<x/\x<a+(d.n+1)then 0 else wd e.w x)/\((∀x∈e.w,tU x)->∀x∈ws,tU x):=by
 have u:=hb.1;have vl:=XD k;have f:([Zw d]++List.replicate d.n.toNat (0:Int)).length=d.n.toNat+1:=by simp
 have o:ix a+([Zw d]++List.replicate d.n.toNat (0:Int)).length<=e.w.length:=by rw[f];unfold ix;omega
 refine⟨ovr e.w ([Zw d]++List.replicate d.n.toNat (0:Int)) (ix a),?_,Zv o,λx g=>?_,λtu x g=>?_⟩
 .rw[QbN,KU,Wm k,ep,Xa,Xa,Wi,Wa];rw[show((0:Int) != 0)=false from rfl,Wa,Xb ab,Xb ab,ZQ (by unfold BIG;omega) (by rw[f];unfold BIG;omega) (by rw[f];unfold NB at hN;omega),f,Wm (by unfold Yt;omega),Xa];rfl
 .unfold wd;rw[V2 o,f];by_cases j:x=a
  .simp_all
  rw[Wj j];by_cases q:a<x/\x<a+(d.n+1)
  .rw[Wm q,Wm (by unfold ix;omega)];obtain⟨m,y⟩:∃m,ix x-ix a=m+1:=⟨ix x-ix a-1,by unfold ix;omega⟩
   rw[y,Wk,List.singleton_append,Ij,Iw];grind
  rw[Wj q,Wj (by unfold ix;omega)]
 unfold ovr at g;simp only[Wr,Uc]at g;rcases g with(g|g|g)|g
 .exact tu x (WQ g)
 .rw[g];exact VZ _
 .rw[(II.1 g).2];exact⟨ab,ab⟩
 grind
def VA(hN:NB N){e:Wh}(hb:HB e)(ep:Qaa N e=some true){ws:List Int}(hw:ws.length=e.w.length):Qaa N ⟨e.c,ws,e.p,e.s,e.b⟩=some true:=
 V8 hN hb ep rfl (λ_ _=>rfl) hw (Xo hN hb ep).bump
def Xq3{ps l:List Wp}{j:Nat}(e:j+l.length<=ps.length)(i:Int)(f:0<=i):pg (Ki ps l j) i=if(j:Int)<=i/\i<(j:Int)+l.length then l.getD (i-j).toNat Y3 else pg ps i:=by
 obtain⟨m,rfl⟩:∃m:Nat,i=m:=⟨i.toNat,ab⟩
 unfold pg;rw[Wk,show(m:Int).toNat=m from rfl,Xh1 e m];grind
def XrS(hN:NB N)(ht:HT h)(g:GX N h)(L:XC d=true)(tm:tW d.Map)(O:d.k≠0)(hnd:Xx h.c (XB d)≠-1):Ok (QeW N h d) λr=>r.2.2=3\/(r.2.2=0/\HT r.1/\Sa N h r.1 r.2.1 d):=by
 have R:1000000<N:=by unfold NB at hN;omega
 have hb:=ht.hb;have hl:=hb.2;have eb:=g.ep;have hp:=Xo hN hb eb;have hcv:=Xh.1 hp.conf;have hvb:=XD L;have hpages:=hp.pages;have hw:=hp.words;have hs:XB d=d.n+1:=by unfold XB;rw[Wm L]
 have hnr:=Xbx h.c (XB d);have⟨u,eu,hu⟩:=XdC (N:=N) (ps:=h.p) ab ab;have hub:u=((h.p.countP X2:Nat):Int):=Wz (eu.symm.trans (XhY R hl));have hlm:Xb3 h.c=h.c.p / 4:=by unfold Xb3;rw[Wm hp.conf]
 have⟨f1,T,_⟩:=KF (N:=N) (ps:=h.p) 1 ab ab;rw[QeW,eb,Xa,Wi,Wa,Xok R,Xa,L,Xk O,Xk hnd];rw[show(!(true&&(true&&true)))=false from rfl,Wa,XQ,Xa,KX ab,Xa,Xl5 hN hb hp (n:=XB d) ⟨ab,ab⟩ eu T,Xa,Xv];by_cases H:Xx h.c (XB d)=0
 ·
  rw[H,We ab,Wa];have Y:XB d<=smC h.c:=by
   unfold Xx at H;rw[Wm ⟨hp.conf,ab⟩]at H;unfold smC;rw[Wm hp.conf];by_cases hle:XB d<=h.c.W / 4
   .omega
   omega
  have hn:1<=XB d/\XB d<=h.c.W:=by refine⟨ab,?_⟩;unfold smC at Y;rw[Wm hp.conf]at Y;omega
  cases q:Xh0 N h (XB d) u f1 with
  |none=>exact Wd (.inl rfl)
  |some ja=>
   have⟨j,o⟩:=ja;have⟨q1,q2,q3,q4⟩:=XsH hN hb eb hn T q;have hm:=XE hp.conf (i:=(j:Int)) ab ab;have z:=Xol hb (XB d) j o;have ea:Xc h.c (j:Int) o=4096+j*h.c.W+o:=rfl;have eqa:=Yd (c:=h.c) hp.conf (p:=(j:Int)) (o:=o) q2 ab;have G:(pg h.p (j:Int)).k=1/\o=(pg h.p (j:Int)).u\/(pg h.p (j:Int)).k=0/\o=0:=by
    unfold Xh0 at q;split at q
    .cases q;rename_i hc;have hbump:0<=h.b/\h.b<h.p.length/\(pg h.p h.b).k=1:=by
      rcases hp.bump with I|I
      .omega
      exact I
     grind
    split at q
    .cases q;rename_i hc;have y:RunOK h.p f1 1:=by
      rcases(KF (N:=N) (ps:=h.p) 1 ab ab).get_eq T with I|I
      .omega
      exact I
     have:=y.2.2.2 0 ab ab;rw[Int.add_zero]at this;rw[show(f1.toNat:Int)=f1 by omega];exact .inr ⟨this,rfl⟩
    simp_all
   have⟨ws,J,U,i3,i4⟩:=XoB hN z q4 L (a:=Xc h.c (j:Int) o) ab (by show _<=4096+(h.w.length:Int);omega);dsimp only;have Z:QbN N (Wh.mk (WP.mk (Kc h (XB d) j o).c.W (Kc h (XB d) j o).c.p) (Kc h (XB d) j o).w (Kc h (XB d) j o).p (Kc h (XB d) j o).s (Kc h (XB d) j o).b) (Xc h.c (j:Int) o) d=_:=J;rw[Z,Xa];have epr:=VA hN z q4 U;have e2:=λi B=>YW (ps:=h.p) (i:=(j:Int)) (j:=i) ⟨1,h.s,o+XB d,(pg h.p (j:Int)).P⟩ ab ab B;have epg:∀i,0<=i->pg (Kc h (XB d) j o).p i=if i=(j:Int)then⟨1,h.s,o+XB d,(pg h.p (j:Int)).P⟩else pg h.p i:=λi B=>e2 i B
   have hus:(((Kc h (XB d) j o).p.countP X2:Nat):Int)<=h.c.p / 4:=by
    have K:(Kc h (XB d) j o).p.length=h.p.length:=by show(h.p.set j _).length=_;simp
    rcases G with⟨k1,_⟩|⟨k0,_⟩
    .have b0:=Xc4 (ps:=h.p) (qs:=(Kc h (XB d) j o).p) (j:=0) (k:=0) K λi B J A=>by
      rw[epg i B]at A;left;split at A
      .rename_i e;rw[e,k1];decide
      exact A
     unfold Xh0 at q;split at q
     .omega
     split at q
     .omega
     cases q
    have b1:=Xc4 (ps:=h.p) (qs:=(Kc h (XB d) j o).p) (j:=j) (k:=1) K λi B J A=>by
     rw[epg i B]at A;split at A
     .omega
     exact .inl A
    unfold Xh0 at q;split at q
    .rename_i hc;cases q;rcases hp.bump with I|I
     .omega
     rw[show(h.b.toNat:Int)=h.b by omega]at k0;omega
    split at q
    .omega
    cases q
   have cov:∀x,Xc h.c (j:Int) o<=x->x<Xc h.c (j:Int) o+(d.n+1)->(∀b,Stt h b->¬(b<=x/\x<b+szA h.w b))/\wd h.w x=0:=λx E x1=>by
    have ex:=Yd (c:=h.c) hp.conf (p:=(j:Int)) (o:=x-Xc h.c (j:Int) 0) (by unfold Xc at *;omega) (by unfold Xc at *;omega);rw[show Xc h.c (j:Int) (x-Xc h.c (j:Int) 0)=x by unfold Xc;omega]at ex;refine g.nocov hp ab ab ?_;rw[ex.1,ex.2];rcases G with⟨k1,ho⟩|⟨k0,ho⟩
    .exact .inr ⟨k1,by unfold Xc at *;omega⟩
    omega
   refine Wd (.inr ⟨rfl,⟨⟨by rw[U];exact hb.1,z.2⟩,i4 ht.tw⟩,⟨epr,rfl,rfl,U,?_,⟨L,tm,O⟩,λx E=>?_,λx E x1=>have E:Xc h.c (j:Int) o<=x:=E;⟨ab,(cov x E x1).2⟩,by grind,λb sb=>?_,λi B J hi=>?_,?_,hus⟩⟩)
   .show(h.p.set j _).length=_;simp
   .rw[i3 x E];split
    .rfl
    split
    .grind
    rfl
   .have c:=(cov (Xc h.c (j:Int) o) (Uu _) ab).1 b sb;exact⟨λe=>have e:b=Xc h.c (j:Int) o:=e;c ⟨ab,by have:=(Xy h.w b).2.1;omega⟩,c⟩
   .simp_all
   rw[eqa.1];rw[epg (j:Int) ab,Wm rfl];grind
 
 have⟨k,A⟩:∃k:Nat,Xx h.c (XB d)=(k:Int):=⟨(Xx h.c (XB d)).toNat,ab⟩
 have V:=Xka hp.conf (w:=XB d) ab;rw[A]at V H hnr⊢;have⟨f,ef,hf⟩:=KF (N:=N) (ps:=h.p) (k:Int) ab ab;rw[Wg (show(k:Int)>0 by omega),Wc,Qe7,ef,Xa];by_cases h1:f<0
 .rw[Wg h1,Wc,Xa];exact Wd (.inl rfl)
 rw[We h1,Wa,eu,Xa,Xf4,Xa,Xe (n:=u+(k:Int)) ab ab];by_cases h2:u+(k:Int)>Xb3 h.c
 .rw[Wg h2,Wc,Xa];exact Wd (.inl rfl)
 have y:RunOK h.p f (k:Int):=by
  rcases hf with I|I
  .omega
  omega
 obtain⟨j,rfl⟩:∃j:Nat,f=(j:Int):=⟨f.toNat,ab⟩
 have hfit:=y.2.2.1;rw[We h2,Wa,Xoo R hl hp ab ab A y,Xa,Xa];have hpr:=Xjt hN hb eb ab y A;have z:=Xop hb (XB d) (j:=j) (k:=k) ab ab;have hm:=XE hp.conf (i:=(j:Int)) ab ab;have hmul:((j:Int)+(k:Int))*h.c.W<=h.c.p*h.c.W:=WW ab ab;rw[U0]at hmul;have ea0:Xc h.c (j:Int) 0=4096+j*h.c.W+0:=rfl;have eqa:=Yd (c:=h.c) hp.conf (p:=(j:Int)) (o:=0) ab ab;have⟨ws,J,U,i3,i4⟩:=XoB hN z hpr L (a:=Xc h.c (j:Int) 0) ab (by show _<=4096+(h.w.length:Int);omega);have ea:wU (wI (4096+wI ((j:Int)*h.c.W)))=Xc h.c (j:Int) 0:=by rw[ea0,Xe (n:=(j:Int)*h.c.W) ab ab,Xe (n:=4096+(j:Int)*h.c.W) ab ab,Xt ab ab];omega
 have i1':QbN N (Wh.mk (WP.mk h.c.W h.c.p) h.w (Xbd h (XB d) j k).p h.s h.b) (Xc h.c (j:Int) 0) d=_:=J;dsimp only;rw[ea,Wi,Wa,i1',Xa];have epr:=VA hN z hpr U;have hll:(Wp.mk 2 h.s (XB d) 0::List.replicate (k-1) (Wp.mk 3 h.s 0 0)).length=k:=by simp;omega
 have epg:∀i,0<=i->pg (Xbd h (XB d) j k).p i=if(j:Int)<=i/\i<(j:Int)+k then(Wp.mk 2 h.s (XB d) 0::List.replicate (k-1) (Wp.mk 3 h.s 0 0)).getD (i-j).toNat Y3 else pg h.p i:=λi B=>by have:=Xq3 (ps:=h.p) (l:=Wp.mk 2 h.s (XB d) 0::List.replicate (k-1) (Wp.mk 3 h.s 0 0)) (j:=j) ab i B;rw[hll]at this;exact this
 have k0:(pg h.p (j:Int)).k=0:=by have:=y.2.2.2 0 ab ab;rwa[Int.add_zero]at this
 have cov:∀x,Xc h.c (j:Int) 0<=x->x<Xc h.c (j:Int) 0+(d.n+1)->(∀b,Stt h b->¬(b<=x/\x<b+szA h.w b))/\wd h.w x=0:=λx E x1=>by
  have rx:=XL (a:=x) hp.conf ab;have e1:∀i o,Xc h.c i o=4096+i*h.c.W+o:=λ_ _=>rfl;have ex:=rx.1;rw[e1]at ex;have lo:(j:Int)<=pgi h.c x:=by apply Classical.byContradiction;intro hn;have:=Vt hp.conf (i:=pgi h.c x) (j:=(j:Int)) (o:=h.c.W) (p:=0) ab ab ab;rw[e1,e1]at this;omega
  have hi:pgi h.c x<(j:Int)+k:=by apply Classical.byContradiction;intro hn;have:((j:Int)+k)*h.c.W<=pgi h.c x*h.c.W:=WW ab ab;rw[U0]at this;omega
  refine g.nocov hp ab ab (.inl ?_);have:=y.2.2.2 (pgi h.c x-j) ab ab;grind
 refine Wd (.inr ⟨rfl,⟨⟨by rw[U];exact hb.1,z.2⟩,i4 ht.tw⟩,⟨epr,rfl,rfl,U,?_,⟨L,tm,O⟩,λx E=>?_,λx E x1=>have E:Xc h.c (j:Int) 0<=x:=E;⟨ab,(cov x E x1).2⟩,by grind,λb sb=>?_,λi B J hi=>?_,?_,?_⟩⟩)
 .exact Vd ab
 .rw[i3 x E];split
  .rfl
  split
  .grind
  rfl
 .have c:=(cov (Xc h.c (j:Int) 0) (Uu _) ab).1 b sb;exact⟨λe=>have e:b=Xc h.c (j:Int) 0:=e;c ⟨ab,by have:=(Xy h.w b).2.1;omega⟩,c⟩
 .rw[eqa.1]at hi;rw[epg i B];by_cases hr:(j:Int)<=i/\i<(j:Int)+k
  .right;have kf:=y.2.2.2 (i-j) ab ab;rw[show(j:Int)+(i-j)=i by omega]at kf;obtain⟨m,hm'⟩:∃m,(i-(j:Int)).toNat=m+1:=⟨(i-(j:Int)).toNat-1,ab⟩
   rw[Wm hr,hm',Wk,Ij,Iw,Wm ab];exact⟨kf,rfl,rfl,rfl⟩
  grind
 .rw[eqa.1];have hz:(pg h.p (j:Int)).P=0:=by rw[(hp.pgs (j:Int) ab ab).free k0];rfl
  grind
 have b:=Xc4 (ps:=h.p) (qs:=(Xbd h (XB d) j k).p) (j:=j) (k:=k) (Vd ab) λi B J A=>by
  rw[epg i B]at A;split at A
  .rename_i e;exact .inr e
  exact .inl A
 have b:(Xbd h (XB d) j k).p.countP X2<=h.p.countP X2+k:=b;show(((Xbd h (XB d) j k).p.countP X2:Nat):Int)<=_;omega
end
section
variable {N:Nat}{h:Wh}{a:Int}
def Xie(hN:NB N)(hb:HB h)(g:GX N h){a b:Int}(k:Stt h a)(e:Stt h b)(o:a≠b):a+szA h.w a<=b\/b+szA h.w b<=a:=by have⟨S,L,p,mS,_⟩:=Xbe hN hb g.ep g.ps;have f:=p.obj.pw;rw[W7]at f;have⟨i,q,u⟩:=Wv ((mS a).2 k);have⟨j,y,z⟩:=Wv ((mS b).2 e);grind
def GX.words(g:GX N h)(hN:NB N)(hb:HB h){h2:Wh}(cf:h2.c=h.c)(sp:h2.s=h.s)(wl:h2.w.length=h.w.length)(pl:h2.p.length=h.p.length)(ep:Qaa N h2=some true)(B:∀i,0<=i->i<(h.p.length:Int)->(pg h2.p i).k=(pg h.p i).k/\(pg h2.p i).u=(pg h.p i).u/\(pg h2.p i).s=(pg h.p i).s)(hw:∀b,Stt h b->wd h2.w b=wd h.w b)(T:∀x:Int,4096<=x->wd h2.w x=wd h.w x\/∃b,Obb h b/\b<=x/\x<b+szA h.w b)(U:∀a,Obb h a->∀j∈XJ (hdA h.w a),wd h2.w (a+1+j)=0\/Obb h (wd h2.w (a+1+j)))(V:((h2.p.countP ZS:Nat):Int)<=h.c.p / 4):GX N h2/\(∀b,Obb h2 b↔Obb h b)/\∀b,Stt h2 b↔Stt h b:=by
 have I:HB h2:=⟨by rw[wl];exact hb.1,by rw[pl];exact hb.2⟩
 have A:=Xo hN I ep;have H:∀b,Stt h b->hdA h2.w b=hdA h.w b:=λb z=>by unfold hdA;simp_all
 have W:∀b,Stt h b->szA h2.w b=szA h.w b:=λb z=>Jt (hw b z);have pars:∀i l,0<=i->i<(h.p.length:Int)->Oy h i l->Oy h2 i l:=λi l o f p=>by
  have J:∀b∈l,Stt h b:=λb hb=>⟨i,l,o,f,p,hb⟩
  have e:=B i o f;refine⟨λk=>p.none ab,λk=>?_,λk=>?_⟩
  .rw[cf,e.2.1];exact(p.small ab).congr λb hb=>hw b (J b hb)
  obtain⟨rfl,h1,Y⟩:=p.large (by rw[←e.1];exact k);simp_all
 have st:∀b,Stt h2 b↔Stt h b:=λb=>by
  constructor
  .rintro⟨i,l,o,f,p,q⟩;rw[pl]at f;have⟨m,E⟩:=g.ps i o f;have:=p.fn (A.pgs i o ab).kind (pars i m o f E);subst this;exact⟨i,l,o,f,E,q⟩
  rintro⟨i,l,o,f,p,q⟩;exact⟨i,l,o,ab,pars i l o f p,q⟩
 have ob:∀b,Obb h2 b↔Obb h b:=λb=>by
  constructor
  .rintro⟨z,Z⟩;have:=(st b).1 z;exact⟨this,by simp_all⟩
  rintro⟨z,Z⟩;exact⟨(st b).2 z,by simp_all⟩
 refine⟨⟨ep,λi o f=>?_,λi o f k=>?_,λi l o f p b q=>?_,λx L O=>?_,λb y j hj=>?_,by simp_all⟩,ob,st⟩
 .rw[pl]at f;have⟨m,E⟩:=g.ps i o f;grind
 .rw[pl]at f;have e:=B i o f;rw[sp,e.2.2];exact g.sp i o f ab
 .rw[pl]at f;have⟨m,E⟩:=g.ps i o f;have:=p.fn (A.pgs i o ab).kind (pars i m o f E);subst this;have z:Stt h b:=⟨i,l,o,f,E,q⟩
  have c:=g.cl i l o f E b q;unfold XcH;rw[H b z,W b z,cf,(B i o f).1];exact c
 .rcases T x L with e|⟨b,y,K,b2⟩
  .rw[e]at O;have⟨b,R,K,b2⟩:=g.dt x L O;exact⟨b,(st b).2 R,K,by rw[Xel (H b R)];omega⟩
  refine⟨b,(st b).2 y.1,K,?_⟩;rw[Xel (H b y.1)];unfold Kh;rw[Wj y.2];omega
 have G:=(ob b).1 y;rw[H b G.1]at hj;simp_all
structure Sg(N:Nat)(h h2:Wh)(a i v:Int):Prop where
 ht:HT h2
 gx:GX N h2
 cf:h2.c=h.c
 sp:h2.s=h.s
 pl:h2.p=h.p
 ob:∀b,Obb h2 b↔Obb h b
 hd:∀b,Obb h b->hdA h2.w b=hdA h.w b
 w:∀x:Int,4096<=x->wd h2.w x=if x=a+1+i then v else wd h.w x
def Xeq(hN:NB N)(ht:HT h)(g:GX N h)(A:Obb h a){i v:Int}(L:0<=i)(O:i<(hdA h.w a).n)(R:i∈XJ (hdA h.w a)->v=0\/Obb h v)(T:tU v):∃h2,Qcl N h a i v=some (h2,0)/\Sg N h h2 a i v:=by
 have hb:=ht.hb;have hp:=Xo hN hb g.ep;have k:=A.1.at_ hp;have U:=k.rng;have V:=Ky hp k;have W:szA h.w a=(hdA h.w a).n+1:=rfl;have I:=hb.1;have u:inW h.w (a+1+i):=by unfold inW;omega
 have o:∀x:Int,4096<=x->wd (h.w.set (ix (a+1+i)) v) x=if x=a+1+i then v else wd h.w x:=λx z=>Xb5 u z
 have nst:∀b,Stt h b->b≠a+1+i:=λb B e=>by
  by_cases y:b=a
  .omega
  have:=Xie hN hb g B A.1 y;have:=(Xy h.w b).2.1;omega
 have E:Qaa N ⟨h.c,h.w.set (ix (a+1+i)) v,h.p,h.s,h.b⟩=some true:=VA hN hb g.ep ac;have q:=g.words (h2:=⟨h.c,h.w.set (ix (a+1+i)) v,h.p,h.s,h.b⟩) hN hb rfl rfl ac rfl E (λ_ _ _=>⟨rfl,rfl,rfl⟩) (λb B=>by
  rw[o b (B.at_ hp).rng.1,Wj (nst b B)]) (λx Y=>by
  grind) (λb f j H=>by
  have J:=Zn H
  have ezb:szA h.w b=(hdA h.w b).n+1:=rfl
  have:=(f.1.at_ hp).rng
  rw[o _ ab]
  by_cases K:b+1+j=a+1+i
  .by_cases y:b=a
   .simp_all
   .have:=Xie hN hb g f.1 A.1 y
    omega
  .rw[Wj K];exact g.pt b f j H) g.cr
 have G:=XaL hN hb g.ep k;refine⟨⟨h.c,h.w.set (ix (a+1+i)) v,h.p,h.s,h.b⟩,?_,⟨⟨by simp_all,hb.2⟩,λx z=>?_⟩,q.1,rfl,rfl,rfl,q.2.1,λb f=>?_,o⟩
 .rw[Qcl,Qc3,Xch hN hb g.ep k G A.2,Xa];dsimp only;rw[show((0:Int) != 0)=false from rfl,Wa,We ab,Wa,We ab,Wa,Xt (n:=a+1) ab ab,Xt (n:=i) ab ab,Xt (n:=a+1+i) ab ab,Yg (by unfold BIG;omega),Xa,Wm u,Xa];rw[show((0:Int) != 0)=false from rfl,Wa,KE (by unfold BIG;omega) (by unfold NB at hN;omega),Xa,Wm u]
 .rcases W0 z with z|z
  .exact ht.tw x z
  simp_all
 unfold hdA;rw[o b (f.1.at_ hp).rng.1,Wj (nst b f.1)]
def OO.pins{c:WP}{ps:List Wp}(s:OO c ps){j:Int}(o:0<=j)(p:j<ps.length)(z:(pg ps j).k=1\/(pg ps j).k=2){q:Int}(A:0<=q)(B:q<=2147483647):OO c (ps.set j.toNat ⟨(pg ps j).k,(pg ps j).s,(pg ps j).u,q⟩):=by
 have y:=λi f=>YW (ps:=ps) (i:=j) (j:=i) ⟨(pg ps j).k,(pg ps j).s,(pg ps j).u,q⟩ o p f;have e3:∀i,0<=i->(pg (ps.set j.toNat ⟨(pg ps j).k,(pg ps j).s,(pg ps j).u,q⟩) i).k=(pg ps i).k/\(pg (ps.set j.toNat ⟨(pg ps j).k,(pg ps j).s,(pg ps j).u,q⟩) i).s=(pg ps i).s/\(pg (ps.set j.toNat ⟨(pg ps j).k,(pg ps j).s,(pg ps j).u,q⟩) i).u=(pg ps i).u/\(i≠j->(pg (ps.set j.toNat ⟨(pg ps j).k,(pg ps j).s,(pg ps j).u,q⟩) i)=pg ps i):=λi f=>by grind
 have spb:∀i,0<=i->i<(ps.length:Int)->O6 c ps i->O6 c (ps.set j.toNat ⟨(pg ps j).k,(pg ps j).s,(pg ps j).u,q⟩) i:=λi f g b=>by
  have e:=e3 i f;refine⟨by rw[e.2.1];exact b.sp,?_,λk=>?_,λk=>?_,λk=>?_,by rw[e.1];exact b.kd⟩
  .rw[y i f];split
   .simp_all
   exact b.pn
  .rw[e.1]at k;have:i≠j:=λh=>by simp_all
   rw[e.2.2.2 this];exact b.k0 k
  .rw[e.1]at k;rw[e.2.2.1];exact b.k1 k
  rw[e.1]at k;have k2:=b.k2 k;grind
 refine⟨λi f g k=>?_,λi f g k=>?_⟩
 .rw[WL]at g;rw[(e3 i f).1]at k;exact spb i f g (s.hd i f g k)
 rw[WL]at g;rw[(e3 i f).1]at k;have⟨m,E,G,H,I,J⟩:=s.tl i f g k;grind
structure OY(N:Nat)(h h2:Wh):Prop where
 ht:HT h2
 gx:GX N h2
 cf:h2.c=h.c
 sp:h2.s=h.s
 wd:h2.w=h.w
 ob:∀b,Obb h2 b↔Obb h b
 us:h2.p.countP X2<=h.p.countP X2
def XkN(hN:NB N)(ht:HT h)(g:GX N h)(O:Obb h a){by_:Int}(R:0<=(pg h.p (pgi h.c a)).P+by_)(T:(pg h.p (pgi h.c a)).P+by_<=2147483647)(U:(pg h.p (pgi h.c a)).k=1->(pg h.p (pgi h.c a)).P+by_>0->(pg h.p (pgi h.c a)).P>0\/((h.p.countP ZS:Nat):Int)<h.c.p / 4):
 ∃h2,QbZ N h a by_=some h2/\OY N h h2/\h2.p.length=h.p.length/\∀i,0<=i->(pg h2.p i).P=if i=pgi h.c a then(pg h.p i).P+by_ else(pg h.p i).P:=by
 have hb:=ht.hb;have V:=hb.2;have hp:=Xo hN hb g.ep;have B:=O.1.at_ hp;have⟨W,I,J⟩:=KZ (N:=N) hp B;have K:=B.kind;generalize ej:pgi h.c a=j at *;have L:=λi A=>YW (ps:=h.p) (i:=j) (j:=i) ⟨(pg h.p j).k,(pg h.p j).s,(pg h.p j).u,(pg h.p j).P+by_⟩ I J A;have spn:=(Vy hN hb g.ep).pins I J K R T;have f:(h.p.set j.toNat ⟨(pg h.p j).k,(pg h.p j).s,(pg h.p j).u,(pg h.p j).P+by_⟩).length=h.p.length:=WL;have pre:O2 ⟨h.c,h.w,h.p.set j.toNat ⟨(pg h.p j).k,(pg h.p j).s,(pg h.p j).u,(pg h.p j).P+by_⟩,h.s,h.b⟩:=by
  refine⟨hp.conf,hp.words,by rw[f];exact hp.pages,hp.space,?_⟩;rcases hp.bump with o|o
  .exact .inl o
  right;rw[f];refine⟨o.1,o.2.1,?_⟩;rw[L _ o.1];split
  .rename_i e;rw[←e];exact o.2.2
  exact o.2.2
 have E:HB ⟨h.c,h.w,h.p.set j.toNat ⟨(pg h.p j).k,(pg h.p j).s,(pg h.p j).u,(pg h.p j).P+by_⟩,h.s,h.b⟩:=⟨hb.1,by rw[f];exact hb.2⟩
 have epr:=JO hN E pre spn;have G:((((h.p.set j.toNat ⟨(pg h.p j).k,(pg h.p j).s,(pg h.p j).u,(pg h.p j).P+by_⟩).countP ZS:Nat)):Int)<=h.c.p / 4:=by
  have Y:=g.cr;have y:j.toNat<h.p.length:=ab;rw[List.set_eq_take_append_cons_drop,Wm y,List.countP_append,U9];have H:h.p.countP ZS=(h.p.take j.toNat).countP ZS+((h.p.drop (j.toNat+1)).countP ZS+if ZS h.p[j.toNat]=true then 1 else 0):=by
   conv=>lhs;rw[←If j.toNat h.p]
   rw[List.countP_append,Wl y,U9]
  have epj:pg h.p j=h.p[j.toNat]:=by have:=ZA y;rwa[show(j.toNat:Int)=j by omega]at this
  rw[←epj]at H;by_cases z:ZS ⟨(pg h.p j).k,(pg h.p j).s,(pg h.p j).u,(pg h.p j).P+by_⟩=true
  .rw[Wm z];unfold ZS at z;rw[WH,decide_eq_true_iff,beq_iff_eq]at z;rcases U z.1 z.2 with o|o
   .have:ZS (pg h.p j)=true:=by unfold ZS;rw[WH,decide_eq_true_iff,beq_iff_eq];exact⟨z.1,o⟩
    rw[Wm this]at H;omega
   split at H<;>omega
  rw[Wj z];split at H<;>omega
 have q:=g.words (h2:=⟨h.c,h.w,h.p.set j.toNat ⟨(pg h.p j).k,(pg h.p j).s,(pg h.p j).u,(pg h.p j).P+by_⟩,h.s,h.b⟩) hN hb rfl rfl rfl f epr (λi A Z=>by
  rw[L i A]
  split
  .rename_i e;rw[e];exact⟨rfl,rfl,rfl⟩
  .exact⟨rfl,rfl,rfl⟩) (λ_ _=>rfl) (λ_ _=>.inl rfl) g.pt G
 refine⟨⟨h.c,h.w,h.p.set j.toNat ⟨(pg h.p j).k,(pg h.p j).s,(pg h.p j).u,(pg h.p j).P+by_⟩,h.s,h.b⟩,?_,⟨⟨E,ht.tw⟩,q.1,rfl,rfl,rfl,q.2.1,Xc4 (j:=0) (k:=0) f λi A Z K=>.inl (by rw[L i A]at K;grind)⟩,f,λi A=>?_⟩
 .rw[QbZ,Xb ab,W,Xa,Xn I J,Xa,Xa,Xe ab ab]
 grind
end
end Go.Sx
