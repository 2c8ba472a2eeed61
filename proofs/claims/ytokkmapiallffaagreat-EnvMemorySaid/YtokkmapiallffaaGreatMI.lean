import Derived.Test.YtokkmapiallffaaGreatME
set_option linter.all false
namespace Go.Sx
section
variable {N:Nat}{h0:Wi}{l:List Int}
structure OH(h0:Wi)(l:List Int)(w:Wv):Prop where
 q:∀a∈w.q,okH (wd w.h.w a)=true
 old:∀a∈l,a∉w.q->XbA (wd w.h.w a)=false->okH (wd w.h.w a)=true
 fw:∀a∈l,XbA (wd w.h.w a)=true->Yz .u64 (wd w.h.w a) 2≠0
 ws:∀x∈w.h.w,tU x
 ss:SpanS h0.c h0.p w.h.p
 k1:∀i,0<=i->(pg h0.p i).k=1->(pg w.h.p i).k=1
 pr:∀i,Prm w i->(pg h0.p i).k=1/\(pg w.h.p i).u=(pg h0.p i).u
 hw:∀b∈l,Prm w (pgi h0.c b)->wd w.h.w b=wd h0.w b
 bm:w.h.b=h0.b
 ol:w.o=Yc h0 l
def KeepW(w w':Wv):Prop:=w'=⟨⟨w.h.c,w'.h.w,w'.h.p,w.h.s,w.h.b⟩,w.o,w'.t,w'.q,w.d,⟨w'.r.j,w'.r.K,w.r.F,w.r.E,w.r.f,w.r.y⟩⟩
def XgT(w:Wv)(a:Int):∀(n:Nat) (i:Int) (f r:List Wo),0<=i->QaL N w a n i f=some r->∀j,0<=j->(((i<=j/\j<f.length/\∀x,i<=x->x<=j->(pg f x).k=3)/\pg r j=⟨3,wI (1-w.h.s),(pg f j).u,(pg f j).P⟩)\/(¬(i<=j/\j<f.length/\∀x,i<=x->x<=j->(pg f x).k=3)/\pg r j=pg f j))
 |0,i,f,r,_,e,_,_=>by simp_all[QaL]
 |n+1,i,f,r,h0,e,j,v=>by
  rw[QaL]at e;by_cases q:f.length<=140737488355328;rotate_left
  .unfold grd at e;rw[Wj q]at e;cases e
  rw[Xb q]at e;by_cases g:i<(f.length:Int);rotate_left
  .rw[Wg g,Wa]at e;cases e;exact .inr ⟨λh=>ab,rfl⟩
  rw[We g,Wc,Xo h0 g,Xa,Xa]at e;by_cases p:(pg f i).k=3;rotate_left
  .rw[Xk p,Wa]at e;cases e;exact .inr ⟨λh=>p (h.2.2 i ab h.1),rfl⟩
  rw[Xr p,Wc,Xe (n:=i+1) ab ab,p]at e;have z:=λx y=>YW (ps:=f) (j:=x) ⟨3,wI (1-w.h.s),(pg f i).u,(pg f i).P⟩ h0 g y;have A:=XgT w a n (i+1) _ r ab e j v;grind
def Xt9{v:Int}(h:0<=v):Yz .u64 v 2=v / 4:=Y3 v 2 ab h
def XgU{v:Int}(f:4096<=v)(g:v<4294967296):XbA (wU (wU (4*v)+2))=true/\Yz .u64 (wU (wU (4*v)+2)) 2=v/\tU (wU (wU (4*v)+2)):=by
 rw[Xw (n:=4*v) ab ab,Xw ab ab];have e:Yz .u64 (4*v+2) 2=v:=by rw[Xt9 ab];omega
 refine⟨?_,e,⟨ab,ab⟩⟩;unfold XbA;grind
def XcL{ws:List Int}(h:∀x∈ws,tU x)(a:Int):tU (wd ws a):=by
 unfold wd;rw[Wk];cases e:ws[ix a]? with
 |none=>simp
 |some x=>grind
def Xda{v:Int}(e:tU v)(h:okH v=true):XbA v=false:=by rw[Xom e]at h;unfold XbA;grind
def OH.push{w:Wv}(f:OH h0 l w){a:Int}(h:okH (wd w.h.w a)=true)(g:WT):OH h0 l {w with q:=w.q++[a],r:=g}:=by
 refine⟨λb hb=>?_,λb hb j k=>f.old b hb (λe=>j (WW _ e)) k,f.fw,f.ws,f.ss,f.k1,f.pr,f.hw,f.bm,f.ol⟩;rcases Wr.1 hb with hb|hb
 .exact f.q b hb
 simp_all
structure O9(h0:Wi)(w:Wv)(qs:List Wo)(tk:List Int):Prop where
 ss:SpanS h0.c w.h.p qs
 kd:∀i,0<=i->(pg w.h.p i).k=1->(pg qs i).k=1
 pr:∀i:Int,0<=i->i<qs.length->(pg qs i).k=1->i∉tk->pg qs i=pg w.h.p i/\i∉w.t
def OH.prm{w:Wv}{e:List Wo}{tk:List Int}(g:O9 h0 w e tk){w':Wv}(j:w'.h.p=e)(k:w'.t=tk)(e3:w'.h.s=w.h.s){i:Int}(h:Prm w' i):Prm w i/\pg w'.h.p i=pg w.h.p i:=by have⟨⟨a,b⟩,c,d,f⟩:=h;rw[j]at b c d⊢;rw[k]at f;have⟨g1,g2⟩:=g.pr i a b c f;refine⟨⟨⟨a,by rw[←g.ss.1];omega⟩,by simp_all,by simp_all,g2⟩,g1⟩
def OH.spn(hN:NB N)(hb:HB h0)(ep:Qaa N h0=some true){w:Wv}(e:OH h0 l w):OS h0.c w.h.p:=by have h:=e.ss.proper hN hb ep (ws:=h0.w) rfl (b:=-1) (.inl rfl);exact VC hN (h:=⟨h0.c,h0.w,w.h.p,h0.s,-1⟩) ⟨hb.1,by rw[e.ss.1];exact hb.2⟩ h
def OS.sp{c:WN}{ps:List Wo}(h:OS c ps):∀i,0<=i->(pg ps i).k=1->0<=(pg ps i).s/\(pg ps i).s<=1:=λi f e=>by
 by_cases g:i<ps.length
 .exact(h.hd i f g ab).sp
 unfold pg at e;rw[Wk,WO ab]at e;cases e
def XrT{w:Wv}(M:OS h0.c w.h.p)(R:0<=w.h.s/\w.h.s<=1){a i:Int}{n:Nat}{y:List Wo}(S:0<=i)(T:i<w.h.p.length)(J:(pg w.h.p i).k=2)(U:y.length=w.h.p.length)(e:QaL N w a n (i+1) (w.h.p.set i.toNat ⟨(pg w.h.p i).k,wI (1-w.h.s),(pg w.h.p i).u,(pg w.h.p i).P⟩)=some y):O9 h0 w y w.t:=by
 have hw:wI (1-w.h.s)=1-w.h.s:=Xe ab ab;have O:=λx z=>YW (ps:=w.h.p) (j:=x) ⟨(pg w.h.p i).k,wI (1-w.h.s),(pg w.h.p i).u,(pg w.h.p i).P⟩ S T z;have V:=λj E=>XgT w a n (i+1) _ y ab e j E;have run:∀j,0<=j->(i<j/\j<w.h.p.length/\(∀x,i<x->x<=j->(pg w.h.p x).k=3)/\pg y j=⟨3,1-w.h.s,(pg w.h.p j).u,(pg w.h.p j).P⟩)\/(¬(i<j/\j<w.h.p.length/\∀x,i<x->x<=j->(pg w.h.p x).k=3)/\pg y j=if j=i then⟨2,1-w.h.s,(pg w.h.p i).u,(pg w.h.p i).P⟩else pg w.h.p j):=λj E=>by
  have h:=V j E;rw[WL,O j E,hw,J]at h;have eq:∀x,i<x->pg (w.h.p.set i.toNat ⟨2,1-w.h.s,(pg w.h.p i).u,(pg w.h.p i).P⟩) x=pg w.h.p x:=λx z=>by have:=O x ab;rw[J,hw]at this;rw[this,Wj ab]
  rcases h with⟨⟨G,K,A⟩,b⟩|⟨a,b⟩
  .rw[Wj (show¬j=i by omega)]at b;exact .inl ⟨ab,K,λx z q=>by rw[←eq x z];exact A x ab q,b⟩
  exact .inr ⟨λh=>a ⟨ab,h.2.1,λx z q=>by rw[eq x ab];exact h.2.2 x ab q⟩,b⟩
 refine⟨XbR M U (λj H I=>.inr ?_) λk m k0 kk W Y Z=>?_,λj H I=>?_,λj H I jk jt=>?_⟩
 .rcases run j H with⟨G,K,A,b⟩|⟨a,b⟩
  .have:=A j G ab;rw[b,this];exact⟨rfl,rfl,rfl,.inr ⟨ab,by show 0<=1-w.h.s;omega,by show 1-w.h.s<=1;omega⟩⟩
  rw[b];by_cases r:j=i
  .rw[Wm r,r];exact⟨J.symm,rfl,rfl,.inr ⟨ab,by show 0<=1-w.h.s;omega,by show 1-w.h.s<=1;omega⟩⟩
  rw[Wj r];exact⟨rfl,rfl,rfl,.inl rfl⟩
 .have L:=M.hd k k0 ab ab;have v:=(L.k2 kk).2.2;by_cases B:k=i
  .subst B;have f:=run k k0;have g:=run (k+m) ab;have h3:∀x,k<x->x<=k+m->(pg w.h.p x).k=3:=λx z hxm=>by have:=(v (x-k) ab ab).1;rwa[show k+(x-k)=x by omega]at this
   rcases f with f|⟨_,f⟩
   .omega
   rcases g with g|⟨g,_⟩
   .rw[f,g.2.2.2,Wm rfl]
   exact absurd ⟨ab,Z,h3⟩ g
  have f:=run k k0;have g:=run (k+m) ab;have t:=v m W Y;rcases f with f|⟨_,f⟩
  .have:=f.2.2.1 k f.1 ab;omega
  rw[Wj B]at f;rcases g with g|⟨_,g⟩
  .by_cases hlt:k<i
   .have:=(v (i-k) ab ab).1;rw[show k+(i-k)=i by omega]at this;omega
   have:=g.2.2.1 k ab ab;omega
  by_cases D:k+m=i
  .rw[D]at t;omega
  rw[Wj D]at g;rw[f,g];exact t.2.1
 .rcases run j H with⟨G,K,A,b⟩|⟨a,b⟩
  .have:=A j G ab;omega
  rw[b,Wj (λe=>by rw[e]at I;omega)];exact I
 grind
def XkY{w w':Wv}(A:OS h0.c w.h.p)(D:0<=w.h.s/\w.h.s<=1)(B:∀j∈w.t,(pg w.h.p j).k=1){n at_ j u:Int}(O:0<=n)(q:OO h0 w n w' at_ j u):O9 h0 w w'.h.p w'.t:=by
 have r:=q.rng;have t:=q.this;have f:=q.fit;have E:(pg w.h.p j).k=0\/(pg w.h.p j).k=1:=by rcases q.way with g|g;exact .inr (B j g.1);exact .inl g.1
 have hb:=A.hd j r.1 r.2 ab;have G:=hb.sp;have H:=hb.pn;refine⟨XbR A q.plen (λi x I=>?_) λi m x z J K R=>?_,λi x z=>?_,λi x I z y=>?_⟩
 .by_cases v:i=j
  .subst v;rcases q.sp with g|g
   .omega
   omega
  rw[q.other i x v];omega
 .have tl:=((A.hd i x ab ab).k2 z).2.2 m J K;have L:i≠j:=λe=>by rw[e]at z;omega
  have M:i+m≠j:=λe=>by rw[e]at tl;omega
  rw[q.other i x L,q.other (i+m) ab M];omega
 .by_cases v:i=j
  .simp_all
  rw[q.other i x v];omega
 have v:i≠j:=by
  rintro rfl;rcases q.way with g|g
  .rw[g.2.1]at y;exact y g.1
  rw[g.2.1]at y;simp at y
 refine⟨q.other i x v,λh=>y ?_⟩;rcases q.way with g|g<;>rw[g.2.1]
 .exact h
 simp_all
def OH.pages{w:Wv}(e:OH h0 l w){f:List Wo}(h:O9 h0 w f w.t):OH h0 l {w with h:={w.h with p:=f}}:=
 ⟨e.q,e.old,e.fw,e.ws,e.ss.trans h.ss,λi g j=>h.kd i g (e.k1 i g j),λi hp=>by
  have:=OH.prm (w':={w with h:={w.h with p:=f}}) h rfl rfl rfl hp
  rw[this.2];exact e.pr i this.1,λb hb hp=>e.hw b hb (OH.prm (w':={w with h:={w.h with p:=f}}) h rfl rfl rfl hp).1,e.bm,e.ol⟩
def XsS(hN:NB N)(R:Start N h0 l){w:Wv}{O:Int->Prop}{s:Int->Int}(z:CI h0 l w)(B:OF h0 l w O s)(A:OH h0 l w){a:Int}(ta:tU a):
 (∃r w2,QaH N w a=some r/\r.2.2≠0/\Qa2 N w a=some (0,r.2.2,w2)) \/
 ∃w' to,QaH N w a=some (w',to,0)/\OX h0 l w w' O s/\OH h0 l w'/\tU to/\(a≠0->to≠0)/\KeepW w w'/\Qa2 N w a=some (to,0,w'):=by
 have hN':=hN;unfold NB at hN';have hb:=R.hb;have hql:=z.ql hb;have htl:=z.tl hb;have hwl:=z.wl hb;have hww:=z.wlen;have hpl:=z.plen;have hsl:=R.st.len;have hspc:=z.spc;have I:=z.conf;have hol:=z.old.length_le;have same:OX h0 l w w O s:=⟨z,⟨O,s,B,λ_ h=>⟨h,rfl⟩⟩,rfl,Uh _⟩
 have kp:KeepW w w:=rfl;have hlp:∀i ps,QbO N w a N i ps=QaL N w a N i ps:=λi ps=>Xt8 w a (λn i ps=>QbO N w a n i ps) (λi ps=>by rfl) (λn i ps=>by rfl) N i ps;rw[Qa2,Xt,QaH];by_cases h1:a=0
 .rw[Xr h1,Wc,Wc];grind
 rw[Xk h1,Wa,Wa,Xad _ _ ab ab,X0 a ab ab,Xa,Xa];cases h2:w.q.contains a with
 |true=>grind
 |false=>
 have hq:=YC h2;rw[Wa,Wa,Xad _ _ ab ab,X0 a ab ab,Xa,Xa];cases h3:w.o.contains a with
 |false=>simp
 |true=>
 have g:a∈l:=z.old.subset (X3 h3);have hne:l≠[]:=Oc g;have hp:=R.prop hne;have hg:=R.good hne;have hat:=R.st.obj.at_ a g;have ep:Qaa N h0=some true:=by obtain⟨r,Y,hr⟩:=XcE hN hb a;rw[R.st.obj.ev a g]at Y;obtain rfl:=Wz Y;exact(hr rfl).2.1
 have J:=A.spn hN hb ep;have hwd0:=hp.words;have hpg0:=hp.pages;have hvc:=Xh.1 hp.conf;have L:=hat.rng;have hspr:=hp.space;have⟨_,q0,q1,_⟩:=XN hp.conf L;obtain⟨o1,o2⟩:Qco N w.h.c a=some (pgi h0.c a,pgo h0.c a,0)/\wI (wI (pgi h0.c a*w.h.c.W)+pgo h0.c a)=a-4096:=by rw[I];exact XkX (N:=N) hp.conf L
 have hin:inW w.h.w a:=by unfold inW;omega
 have hm4:h0.c.p*h0.c.W<=4096:=(XE hp.conf (i:=0) ab ab).2.2;have tw:=XcL A.ws a;have gp:∀n:Nat,1<=n->KM w.h.w (a-4096).toNat n 0=some (wd w.h.w a):=by intro n hn;rw[Xc9 ab ab ab];unfold wd ix;rw[Wk,Wb ab];simp
 have hof:Qb9 N w.h.c a=some (pgi h0.c a,pgo h0.c a,0):=by rw[KV,z.conf,hp.conf,Wj ac,Wm L];rfl
 rw[Wh,Wa,Wa,o1,Xa];rw[show((0:Int) != 0)=false from rfl,Wa,Xb ab,o2,Xe (n:=(w.h.w.length:Int)-(a-4096)) ab ab,Wg ab,Wa,Xe (n:=a-4096+1) ab ab,Xb ab,
  gp _ ab,Xa,Xel ab tw,Ye hwl,Xa,Wm hin,Kv,Xa]
 rw[show w.h.w.getD (ix a) 0=wd w.h.w a from rfl,Kv,Xa];cases h4:XbA (wd w.h.w a)with
 |true=>refine .inr ⟨w,_,rfl,same,A,?_,λ_=>A.fw a g h4,kp,rfl⟩;simp[Xt9,tw]
 |false=>
 have Z:=A.old a g hq h4;rw[Wj ac,Wa,Wa,hof,Xa,Xa,Xb ab];rw[show((0:Int) != 0)=false from rfl,Wa,Wg (p:=pgi h0.c a>=_) ab,Wa,Wa];have⟨b,hbp,eb,hb'⟩:=XgS (N:=N) (w:=w) (i:=pgi h0.c a) hN htl ab ab J.sp;simp only[Xb (p:=w.h.p.length<=140737488355328) ab];rw[hb',eb,Xa,Xa];cases b with
 |true=>simp only[Wc,QcQ,Xb (p:=w.q.length*8<=140737488355328) ab,Xb (p:=(w.q.length+1)*8<=140737488355328) ab,Xa];exact .inr ⟨_,a,rfl,z.push B (B.old a g).1 hq _,A.push Z _,ta,λh=>h,rfl,rfl⟩
 |false=>
 simp only[Wa,Xo (ps:=w.h.p) q0 ab,Xa];by_cases S:(pg w.h.p (pgi h0.c a)).k=2
 .simp only[Xr S,Wc,hlp,Xe (n:=pgi h0.c a+1) ab ab,Xb (p:=w.h.p.length*32<=140737488355328) ab];obtain⟨qs,eqs,hqs⟩:=Xgr (N:=N) w a (ps:=w.h.p) ab N (pgi h0.c a+1) _ ab ab ab ((SameK.refl _).set q0 ab (wI (1-w.h.s)) (pg w.h.p (pgi h0.c a)).P);have hrc:=XrT J ab q0 ab S hqs.1 eqs;simp only[eqs,Xa,QcQ,Xb (p:=w.q.length*8<=140737488355328) ab,Xb (p:=(w.q.length+1)*8<=140737488355328) ab];have q:=λrp=>(z.pages hqs).push (B.pages z hqs) (B.old a g).1 hq rp;refine .inr ⟨{w with h:={w.h with p:=qs},q:=w.q++[a],r:=⟨w.r.j,wI (w.r.K+1),w.r.F,w.r.E,w.r.f,w.r.y⟩},a,rfl,⟨(q _).ci,(q _).ob,(q w.r).sc,(q w.r).ql⟩,((A.pages hrc).push Z _),ta,λh=>h,rfl,rfl⟩
 have V:∀x∈l,(pg h0.p (pgi h0.c x)).k=1\/(pg h0.p (pgi h0.c x)).k=2:=λx D=>(R.st.obj.at_ x D).kind;have hpr:∀x∈l,0<=pgi h0.c x:=λx D=>(XN hp.conf (R.st.obj.at_ x D).rng).2.1;have hk1:(pg h0.p (pgi h0.c a)).k=1:=by
  rcases V a g with h|h
  .omega
  exact absurd (by rw[z.knd a g];omega) S
 have hsz:=hg.sz R.st g hk1;have hso:=(B.old a g).2;have hfit:=B.fit a (B.old a g).1;have H:=XA w.h.w a;have e1:Xj (Zf (wd w.h.w a))=szA w.h.w a:=H.1;simp only[Xk S,Wa,Xd8 (N:=N) ab tw,ZI,Xa,Z,YL (N:=N) ab,XI,e1];rw[show((0:Int) != 0)=false from rfl,Wa,Xb ab,o2,Xe (n:=(w.h.w.length:Int)-(a-4096)) ab ab,Wg ab,Wa,Xe (n:=a-4096+szA w.h.w a) ab ab,Xb ab,Wh,Wa,Xb ab];have eL:(((a-4096+szA w.h.w a).toNat-(a-4096).toNat:Nat):Int)=szA w.h.w a:=ab;have⟨y,ey,hy,_⟩:=XdL hN hb hp z (n:=szA w.h.w a) H.2.1 ab;rcases XsP hN hb hp z (n:=szA w.h.w a) H.2.1 ab with⟨r,Y,er2,eg⟩|⟨j,u,ps,tk,rq,Y,eg⟩
 .simp[Y,Xa,er2,Ug,Wc,eL,eg]
 have hft:=Xvx (N:=N) (c:=h0.c) (c':=w.h.c) I.symm hp.conf ab (cp:=w.r.j) (X:=a-4096) (n:=szA w.h.w a) (i:=j) (u:=u) (ws:=w.h.w) (q:=w.q) (ps:=ps) (λx34 x35 x36 x37 x38 x39=>some (x34,x35,(Wv.mk (Wi.mk w.h.c x37 x38 w.h.s w.h.b) w.o tk x39 w.d (WT.mk x36 w.r.K w.r.F w.r.E w.r.f w.r.y)))) ab ab H.2.1 ab rq.rng.1 (by have:=rq.rng.2;have:=rq.len;omega) rq.fit.1 rq.fit.2 (by have:=rq.len;omega) hql;rw[FT,eL]at hft;rw[Y,Xa,eL,eg,Xa];rw[show((0:Int) != 0)=false from rfl,Wa,Xt];rw[Y]at ey;obtain rfl:=Wz ey;have⟨j',u',pq⟩:=hy rfl;have T:=XkY J ab (λj hj=>(z.tk j hj).2.2.1) ab pq;have hcp:=λv hv rp=>Xn0 (n:=szA w.h.w a) hp V hpr z B g rfl H.2.1 pq v hv rp;have⟨i1,i2,aw,fr,aw2,hwd⟩:=Xgs (n:=szA w.h.w a) hp z B g rfl H.2.1 pq (wU (wU (4*Xc h0.c j u)+2));have en:szA w.h.w a=(((szA w.h.w a).toNat:Nat):Int):=ab;have hmv:=Xgl (N:=N) hwl (Xc h0.c j u) a (szA w.h.w a).toNat ab ab;rw[←en,Wm ⟨i1,i2⟩]at hmv;have ol:=XbC i1 i2;have hin2:inW (ovr w.h.w ((w.h.w.drop (ix a)).take (szA w.h.w a).toNat) (ix (Xc h0.c j u))) a:=by unfold inW;rw[ol];exact hin
 dsimp only at i1 i2 aw fr aw2 hwd;have hr1:4096<=Xc h0.c j u/\Xc h0.c j u<10000:=by unfold Ym at i2;omega
 have⟨f1,f2,f3⟩:=XgU (v:=Xc h0.c j u) ab ab;have hOa:=(B.old a g).1;have off:∀b,O b->¬(Xc h0.c j u<=b/\b<Xc h0.c j u+szA w.h.w a):=λb hb=>by have:=aw2 b hb;have:=(B.fit b hb).2.1;omega
 have U:∀b,O b->b≠a->wd ((ovr w.h.w ((w.h.w.drop (ix a)).take (szA w.h.w a).toNat) (ix (Xc h0.c j u))).set (ix a) (wU (wU (4*Xc h0.c j u)+2))) b=wd w.h.w b:=λb hb G=>by rw[hwd b (B.fit b hb).1,Wj G,Wj (off b hb)]
 simp only[Wh,Wa];rw[hmv,Xa,Vv,Xa,Wj ab,KJ (by grind) ab,Xa,Wm hin2,Xb ab,Xb ab];refine .inr ⟨_,Xc h0.c j u,rfl,(hcp _ (XhT _ ab ab) _).2.2.2.2,⟨λb hb=>?_,λb hb hbq M=>?_,λb hb M=>?_,λx D=>?_,?_,λi hi hki=>?_,λi hi=>?_,λb hb hbp2=>?_,A.bm,A.ol⟩,⟨ab,ab⟩,λ_=>ab,rfl,hft⟩
 .rcases Wr.1 hb with hb|hb
  .rw[U b (B.queue b hb) (λe=>hq (e▸hb))];exact A.q b hb
  grind
 .by_cases G:b=a
  .grind
  rw[U b (B.old b hb).1 G]at M⊢;exact A.old b hb (λe=>hbq (WW _ e)) M
 .by_cases G:b=a
  .grind
  rw[U b (B.old b hb).1 G]at M⊢;exact A.fw b hb M
 .rcases WZ D with D|D
  .rcases Wr.1 D with D|D
   .rcases Wr.1 D with D|D
    .exact A.ws x (WR D)
    exact A.ws x (WS (WR D))
   exact A.ws x (WS D)
  grind
 .exact A.ss.trans T.ss
 .exact T.kd i hi (A.k1 i hi hki)
 .have:=OH.prm (w':=⟨_,_,_,_,_,_⟩) T rfl rfl rfl hi;rw[this.2];exact A.pr i this.1
 have hpm:=(OH.prm (w':=⟨_,_,_,_,_,_⟩) T rfl rfl rfl hbp2).1;have G:b≠a:=λe=>by grind
 rw[U b (B.old b hb).1 G];exact A.hw b hb hpm
end
section
variable {N:Nat}
def Xq5{t:Im}{m:Int}(h0:0<=t.at_)(k:t.at_<=m)(q:m<=1000000){a:Int}(s:a<=1000000000):Ok (Qaf N t a) λr=>0<=r.1/\(1<=a->r.1<a)/\0<=r.2.at_/\r.2.at_<=m+1:=by
 refine Wn (λ_=>Wd ⟨ac,λh=>ab,h0,by grind⟩) λf=>?_;have f:=WM f;have rest:∀x:Int,Ok (grd (a≠0) <| grd (a≠0) <| some (((wI ((x.tmod a)+a)).tmod a),(Im.mk t.L (wI (t.at_+1))))) λr=>0<=r.1/\(1<=a->r.1<a)/\0<=r.2.at_/\r.2.at_<=m+1:=by
  intro x;have u:=Int.tmod_lt_of_pos x (show 0<a by omega);have b2:-a<x.tmod a:=by have:=Int.tmod_lt_of_pos (-x) (show 0<a by omega);rw[Int.neg_tmod]at this;omega
  have e:=Xe (n:=x.tmod a+a) ab ab;have g:=Xe (n:=t.at_+1) ab ab;have c1:=Int.tmod_lt_of_pos (x.tmod a+a) (show 0<a by omega);have j:=Int.tmod_nonneg a (show 0<=x.tmod a+a by omega);refine Uc ab (Uc ab (Wd ?_));simp only[e,g];exact⟨j,λ_=>c1,ab,ab⟩
 refine Ir (Wn (λh=>Ok.get h0 (Wx h) λp _=>rest p) λ_=>rest _)
def TA(m:Int)(t:Im):Prop:=0<=t.at_/\t.at_<=m
def nxp{t:Im}{m a:Int}(h:TA m t)(g:m<=1000000)(e:1<=a)(j:a<=1000000000):Ok (Qaf N t a) λr=>0<=r.1/\r.1<a/\TA (m+1) r.2:=(Xq5 h.1 h.2 g j).mono λr f=>⟨f.1,f.2.1 e,f.2.2⟩
def TA.le{t:Im}{m n:Int}(h:TA m t)(e:m<=n):TA n t:=⟨h.1,by have:=h.2;omega⟩
def XaO{p:Iw}{t:Im}{m:Int}(hw:1<=p.w.length)(D:p.w.length<=1000)(h:TA m t)(G:m+5<=1000000):Ok (Qb0 N p t) λr=>TA (m+3) r.2:=by
 have k2:∀(k:Im) (q:Bool),TA (m+1) k->Ok (bif q then(bnd (Qaf N k (p.w.length:Int)) λx=>bnd (Xd p.w x.1) λs=>some (s,x.2))else bnd (Qaf N k (if 6<(p.w.length:Int)then 6 else(p.w.length:Int))) λg=>bnd (Xd p.w (wI ((wI ((p.w.length:Int)-1))-g.1))) λv=>some (v,g.2)) λr=>TA (m+3) r.2:=by
  intro k q A;refine Wn (λ_=>Ur (nxp A ab ab ab) λy e=>Ok.get e.1 e.2.1 λ_ _=>Wd (e.2.2.le ab)) λ_=>?_;refine Ur (nxp A ab ab ab) λy e=>?_;have H:y.1<(p.w.length:Int):=by have:=e.2.1;split at this<;>omega
  have h0:=e.1;rw[Xe (n:=(p.w.length:Int)-1) ab ab,Xe (n:=(p.w.length:Int)-1-y.1) ab ab];exact Ok.get ab ab λ_ _=>Wd (e.2.2.le ab)
 refine Ur (nxp h ab ab ab) λy e=>Wn (λ_=>Ur (nxp e.2.2 ab ab ab) λz f=>Ok.get f.1 f.2.1 λ_ _=>Wd (f.2.2.le ab)) λ_=>Wn (λ_=>?_) λ_=>?_
 .exact Ur (nxp e.2.2 ab ab ab) λz f=>Ok.get f.1 f.2.1 λ_ _=>Ur (nxp f.2.2 ab ab ab) λu E=>Wd (E.2.2.le ab)
 refine Ov (λq=>k2 _ q e.2.2) λI B=>Uw (B _) (Ov (λJ=>B _) λj h=>Uw (h _) (h _))
def Xq6{p:Iw}{t:Im}{m:Int}(hw:1<=p.w.length)(f:p.w.length<=1000)(h:TA m t)(R:m+30<=1000000):Ok (Qc0 N p t) λr=>TA (m+20) r.2:=by
 refine Ur (nxp h ab ab ab) λS g=>Ok.get g.1 g.2.1 λB _=>Wn (λ_=>?_) λ_=>?_
 .refine Ur (nxp g.2.2 ab ab ab) λq A=>?_;have e:=Xw A.1 ab;refine Uc ab ?_;have T:1<=ZY .i64 1 (wU q.1)/\ZY .i64 1 (wU q.1)<=1000:=by rw[e];have a:=A.1;have b:=A.2.1;have c:q.1=0\/q.1=1\/q.1=2\/q.1=3:=ab;rcases c with c|c|c|c<;>rw[c]<;>decide
  exact Ur (nxp A.2.2 ab ab ab) λU I=>Wd (I.2.2.le ab)
 refine Ov (λV=>Wn (λ_=>?_) λ_=>Wn (λ_=>?_) λ_=>?_) λj h=>Uw (h _) (h _)
 .exact Ur (nxp g.2.2 ab ab ab) λW J=>Ur (nxp J.2.2 ab ab ab) λY H=>Uw (Ur (nxp H.2.2 ab ab ab) λZ K=>Wd (K.2.2.le ab)) (Wd (H.2.2.le ab))
 .exact Ur (nxp g.2.2 ab ab ab) λy9 L=>Wd (L.2.2.le ab)
 refine Ur (XaO hw f g.2.2 ab) λs D=>Ur (nxp D ab ab ab) λE G=>Ur (nxp G.2.2 ab ab ab) λM u=>?_;have k:∀(l:List Int) (at_ c:Int),TA (m+12) ⟨l,at_⟩->Ok (bif (B==10)then(bnd (Qb0 N p (Im.mk l at_)) λv=>
  some ((OA.mk B s.1 v.1 c),v.2))
 else some ((OA.mk B s.1 (wU E.1) c),(Im.mk l at_))) λr=>TA (m+20) r.2:=λl at_ c ht=>
  Uw (Ur (XaO hw f ht ab) λy x=>Wd (x.le ab)) (Wd (ht.le ab))
 refine Ir (Uw (Ur (XaO hw f u.2.2 ab) λy x=>k _ _ _ (x.le ab)) (Ur (nxp u.2.2 ab ab ab) λO z=>Uw (Ur (XaO hw f z.2.2 ab) λy x=>k _ _ _ (x.le ab)) (k _ _ _ (z.2.2.le ab))))
structure PB(k:Nat)(p:Iw):Prop where
 env:EB p.N
 wor:WB k p.z
 ty:KQ p
 w1:1<=p.w.length
 w2:p.w.length<=k+1
def XoC(a b:Uj)(op v e:Int):Ok (QeN N a b op v e) λ_=>True:=by
 have k2:∀x y:Bool,Ok (bif (op==19)then(bif (e==0)then some (OE.mk x y v)
  else some (OE.mk x y 0))
  else some (OE.mk x y 0)) λ_=>True:=λx y=>Uw (Uw (Wd trivial) (Wd trivial)) (Wd trivial)
 refine Ov (λx=>Ov (λy=>k2 x y) λj h=>Uw (h _) (h _)) λj h=>Uw (h _) (Uw (h _) (h _))
def Xua(hN:NB N){k:Nat}{p:Iw}(hp:PB k p)(q:k+1<=900){d:OA}(j:V2 d):Ok (QbU N p d) λr=>PB (k+1) r.1:=by
 have ty:=λr (e:QbU N p d=some r)=>QjG (N:=N) hp.ty j r e;have main:Ok (QbU N p d) λr=>EB r.1.N/\WB (k+1) r.1.z/\1<=r.1.w.length/\r.1.w.length<=k+1+1:=by
  have w1:=hp.w1;have w2:=hp.w2;have up:=hp.wor.up q;rw[QbU];refine Wn (λ_=>?_) λ_=>?_
  .refine Ur (V5 hN hp.env) λB x=>Ir (Uw (Ur (V7 hN hp.wor hp.ty.2.1) λD y=>Wd ⟨x,y.up q,w1,IY w2⟩) (Wd ⟨hp.env,up,w1,IY w2⟩))
  refine WJ (Xob hN hp.env _ _ _ _) λf A g=>Ur (XoC _ _ _ _ _) λs _=>Ur (Xid hN hp.wor q hp.ty.2.1 d.Op j.1 j.2.1 j.2.2 s) λu v=>?_;have k2:∀w:WP,WB (k+1) w->Ok (α:=Iw×Int×Int) (bif (f.2.2==0)then(bif (f.2.1 != 0)then(grd (p.w.length*8<=140737488355328) <| grd ((p.w.length+1)*8<=140737488355328) <| some ((Iw.mk f.1 w (p.w++[f.2.1])),f.2.1,f.2.2))else some ((Iw.mk f.1 w p.w),f.2.1,f.2.2))else some ((Iw.mk p.N w p.w),f.2.1,f.2.2)) λr=>EB r.1.N/\WB (k+1) r.1.z/\1<=r.1.w.length/\r.1.w.length<=k+1+1:=by
   intro w hw;refine Uw (Uw (Uc ab (Uc ab (Wd ⟨g,hw,?_,?_⟩))) (Wd ⟨g,hw,w1,by grind⟩)) (Wd ⟨hp.env,hw,w1,by grind⟩)
   .simp
   simp_all
  exact Ir (Uw (k2 u.1 v) (k2 p.z up))
 have⟨r,e,h⟩:=main;exact⟨r,e,h.1,h.2.1,(ty r e).1,h.2.2.1,h.2.2.2⟩
end
section
variable {N:Nat}
def Xmq{t:Im}{m:Int}(h:TA m t)(g:m+5<=1000000):Ok (Qfn N t) λr=>TA (m+2) r.2:=by exact Ur (nxp h ab ab ab) λy e=>Ok.get e.1 e.2.1 λ_ _=>Ur (nxp e.2.2 ab ab ab) λz f=>Ok.get f.1 f.2.1 λ_ _=>Wd (f.2.2.le ab)
def XoD(c:WN):Ok (QeW N c) λr=>EB r.1:=by
 rw[QeW,Qgb,Zi,Xa];refine WJ (Q:=λr:Wi×Int=>HB r.1) ?_ λy _ g=>Wd ⟨g,ZT,XbE,XbE,ac,ac⟩;refine Wn (λ_=>Wd Kq) λf=>?_;have f:XR c=true:=by simpa using f
 have h:=Xh.1 f;have j:=XE f (i:=0) ab ab;have e:=Xe (n:=c.p*c.W) ab ab;refine Uc ab (Uc ab (Wd ⟨?_,?_⟩))
 .rw[Ua,e];omega
 grind
def Xiu(c:WN):Ok (Qgc N c) λr=>WB 0 r.1:=by
 rw[Qgc,Zi,Xa];have z:∀c:WN,WB 0 ⟨c,[],zL,zT,zT,[],[]⟩:=λc=>⟨ab,ac,λx e=>by simp_all,ZT,by simp[zT],by simp[zT],ac,ac⟩
 exact Uw (Wd (z _)) (Wd (z _))
def XoE{t:Im}{m:Int}(h:TA m t)(p:m+5<=1000000):Ok (Qbj N t) λr=>PB 0 r.1/\TA (m+3) r.2:=by
 have main:Ok (Qbj N t) λr=>EB r.1.N/\WB 0 r.1.z/\1<=r.1.w.length/\r.1.w.length<=1/\TA (m+3) r.2:=by rw[Qbj];refine Ur (Xmq h p) λs j=>Ur (XoD _) λu g=>Ur (Xiu _) λv f=>Ur (nxp j ab ab ab) λx k=>Wd ⟨⟨g.heap,⟨g.loc.1,ac,g.loc.2.2⟩,g.glo,g.wea,g.pins,g.roots⟩,⟨f.kk,f.things,f.fields,⟨f.loc.1,ac,f.loc.2.2⟩,f.gloK,f.weaK,f.marksK,f.rootsK⟩,ac,ac,k.2.2.le ab⟩
 have⟨r,e,j,g,f,k,q⟩:=main;exact⟨r,e,⟨j,g,QhY r e,f,k⟩,q⟩
end
section
variable {N:Nat}{h:Wi}{i:Int}{l:List Int}
def XaP(hN:NB N){h:Wi}(hb:HB h)(ep:Qaa N h=some true){a:Int}(f:II h a):Qao N h a=some (hdA h.w a,0):=by
 have hp:=Xp hN hb ep;have j:=f.rng;have⟨_,q,v,x,y⟩:=XN hp.conf j;have r:=hp.pages;have hw:=hp.words;have e:=f.kind;have z:=f.used;have g:=XA h.w a;have A:=Xh.1 hp.conf;have s:Xj (Zf (wd h.w a))=szA h.w a:=g.1;rw[Qao,ep,Xa,Wh,Wa,KV,hp.conf,Wj ac,Wm j,Xa];rw[show(a-4096) / h.c.W=pgi h.c a from rfl,show(a-4096) % h.c.W=pgo h.c a from rfl];rw[Xo q ab,Xa,Ye (by have:=hb.1;unfold BIG;omega),Xa,Wm (by unfold inW;omega),ZI,Xa,Xt,XI,Xa];rw[show h.w.getD (ix a) 0=wd h.w a from rfl,f.ok,s,Wg (show¬pgo h.c a>=(pg h.p (pgi h.c a)).u by omega),Wh];rcases e with e|e
 .have:=f.small e;rw[show((pg h.p (pgi h.c a)).k != 1)=false by grind,Wa,Xr e,Wc,Xe (n:=pgo h.c a+szA h.w a) ab ab,Wg ab,Wa,show((pg h.p (pgi h.c a)).k==2)=false by grind,Wa];rfl
 have:=f.large e;rw[show((pg h.p (pgi h.c a)).k != 1)=true by grind,Wc,show((pg h.p (pgi h.c a)).k != 2)=false by grind,Wa,Xk ab,Wa,Xr e,Wc,this.1,this.2];simp;rfl
def Chn(ws:List Int):Int->List Int->Int->Prop
 |p,[],q=>p=q
 |p,a::l,q=>a=p/\okH (wd ws a)=true/\Chn ws (a+szA ws a) l q
def Chn.le{ws:List Int}:∀{l:List Int} {p q:Int},Chn ws p l q->p<=q/\∀a∈l,p<=a/\a+szA ws a<=q/\okH (wd ws a)=true
 |[],p,q,h=>⟨by have:p=q:=h;omega,ac⟩
 |a::l,p,q,⟨e,f,h⟩=>by have⟨g,j⟩:=h.le;have:=(XA ws a).2.1;grind
def Chn.pw{ws:List Int}:∀{l:List Int} {p q:Int},Chn ws p l q->l.Pairwise λa b=>a+szA ws a<=b
 |[],_,_,_=>.nil
 |a::l,p,q,⟨_,_,h⟩=>U7.2 ⟨λb hb=>(h.le.2 b hb).1,h.pw⟩
def Chn.len{ws:List Int}:∀{l:List Int} {p q:Int},Chn ws p l q->p+l.length<=q
 |[],p,q,h=>by have:p=q:=h;simp_all
 |a::l,p,q,⟨e,_,h⟩=>by have:=h.len;have:=(XA ws a).2.1;grind
def Chn.app{ws:List Int}:∀{l m:List Int} {p q r:Int},Chn ws p l q->Chn ws q m r->Chn ws p (l++m) r
 |[],m,p,q,r,h,f=>by have:p=q:=h;simp_all
 |a::l,m,p,q,r,⟨e,g,h⟩,f=>⟨e,g,h.app f⟩
def Chn.congr{ws vs:List Int}:∀{l:List Int} {p q:Int},Chn ws p l q->(∀a∈l,wd vs a=wd ws a)->Chn vs p l q
 |[],_,_,h,_=>h
 |a::l,p,q,⟨e,j,h⟩,hw=>by
  have f:=hw a ac;have g:szA vs a=szA ws a:=by unfold szA hdA;rw[f]
  exact⟨e,by simp_all,by rw[g];exact h.congr λb hb=>hw b (WQ _ hb)⟩
structure OC(h:Wi)(i:Int)(l:List Int):Prop where
 none:(pg h.p i).k=0\/(pg h.p i).k=3->l=[]
 small:(pg h.p i).k=1->Chn h.w (Xc h.c i 0) l (Xc h.c i (pg h.p i).u)
 large:(pg h.p i).k=2->l=[Xc h.c i 0]/\okH (wd h.w (Xc h.c i 0))=true/\szA h.w (Xc h.c i 0)=(pg h.p i).u
def Xem(hp:Uu h)(h0:0<=i)(f:i<h.p.length)(g:(pg h.p i).k=1){o:Int}(j:0<=o)(e:okH (wd h.w (Xc h.c i o))=true)(r:o+szA h.w (Xc h.c i o)<=(pg h.p i).u):II h (Xc h.c i o):=by have s:=(hp.pgs i h0 f).small g;have v:=XA h.w (Xc h.c i o);have q:=hp.pages;have⟨x,y⟩:=Yb (c:=h.c) hp.conf (p:=i) (o:=o) j ab;have z:=XE hp.conf h0 ab;refine⟨by unfold Xc;omega,by simp_all,e,by grind,λ_=>by simp_all,λh=>by simp_all⟩
def Xen(hp:Uu h)(h0:0<=i)(g:i<h.p.length)(j:(pg h.p i).k=2)(e:okH (wd h.w (Xc h.c i 0))=true)(q:szA h.w (Xc h.c i 0)=(pg h.p i).u):II h (Xc h.c i 0):=by have r:=XA h.w (Xc h.c i 0);have f:=hp.pages;have s:=Xh.1 hp.conf;have⟨v,x⟩:=Yb (c:=h.c) hp.conf (p:=i) (o:=0) ab ab;have y:=XE hp.conf h0 ab;refine⟨by unfold Xc;omega,by simp_all,e,by grind,λh=>by simp_all,λ_=>by simp_all⟩
def XkZ(hN:NB N)(hb:HB h)(ep:Qaa N h=some true)(h0:0<=i)(g:i<h.p.length)(j:(pg h.p i).k=1):∀(n:Nat) (o:Int) (v t:List Int),0<=o->o<=64->(65-o).toNat<n->(v.length:Int)<=o->Chn h.w (Xc h.c i o) t (Xc h.c i (pg h.p i).u)->Qai N h i (pg h.p i) n o v=some (.nxt (v++t))
 |0,o,v,t,_,_,r,_,_=>by omega
 |n+1,o,v,t,s,G,r,H,f=>by
  have hp:=Xp hN hb ep;have I:=(hp.pgs i h0 g).small j;have x:=hp.pages;have y:=Xh.1 hp.conf;rw[Qai];cases t with
  |nil=>have e:Xc h.c i o=Xc h.c i (pg h.p i).u:=f;unfold Xc at e;simp_all
  |cons a t=>
   obtain⟨rfl,q,f⟩:=f;have z:=f.le.1;have A:=XA h.w (Xc h.c i o);have B:Xc h.c i o=4096+i*h.c.W+o:=rfl;have J:Xc h.c i (pg h.p i).u=4096+i*h.c.W+(pg h.p i).u:=rfl;have D:o+szA h.w (Xc h.c i o)<=(pg h.p i).u:=ab;have E:=Xem hp h0 g j s q D;rw[We (show o<(pg h.p i).u by omega),Wc,ZJ,hp.conf,Xa,Wj ac,Wm ab];simp only[XaP hN hb ep E,Xa,show((0:Int) != 0)=false from rfl,Wa];rw[Xb ab,show((pg h.p i).k==2)=false by simp_all,Wa,XI,Xa,A.1,Xe ab ab];have e:Xc h.c i o+szA h.w (Xc h.c i o)=Xc h.c i (o+szA h.w (Xc h.c i o)):=by rw[B];unfold Xc;omega
   rw[e]at f;rw[XkZ hN hb ep h0 g j n _ _ t ab ab ab (by grind) f,W5];rfl
def Qg8(hN:NB N)(hb:HB h)(ep:Qaa N h=some true)(h0:0<=i)(e:i<h.p.length)(p:OC h i l):Qag N h i=some (l,0):=by
 have hp:=Xp hN hb ep;have j:=(hp.pgs i h0 e).kind;have f:=hN;unfold NB at f;rw[Qag,ep,Xa,Wh,Wa,Wg ab,Wa,Wg ab,Wa,Xo h0 e,Xa];by_cases k0:(pg h.p i).k=0
 .rw[p.none (.inl k0),k0];rfl
 by_cases g:(pg h.p i).k=3
 .rw[p.none (.inr g),g];rfl
 rw[Xk k0,Xk g,Wa,Wa];by_cases k1:(pg h.p i).k=1
 .rw[XkZ hN hb ep h0 e k1 N 0 [] l ab ab ab ac (p.small k1),Xa,Xm];rfl
 have k2:(pg h.p i).k=2:=ab;obtain⟨rfl,q,r⟩:=p.large k2;have s:=Xen hp h0 e k2 q r;have v:=XA h.w (Xc h.c i 0);have u:=hp.pages;have x:=Xh.1 hp.conf;obtain⟨n,rfl⟩:∃n,N=n+1:=⟨N-1,ab⟩
 rw[Qai,We ab,Wc,ZJ,hp.conf,Xa,Wj ac,Wm ab];simp only[XaP hN hb ep s,Xa,show((0:Int) != 0)=false from rfl,Wa];rw[Xb ac,k2];simp[Xa,Xm]
def Xeo(hN:NB N)(hb:HB h)(ep:Qaa N h=some true)(h0:0<=i)(q:i<h.p.length)(s:(pg h.p i).k=1):∀(n:Nat) (o:Int) (v r:List Int),0<=o->o<=(pg h.p i).u->Qai N h i (pg h.p i) n o v=some (.nxt r)->∃t,r=v++t/\Chn h.w (Xc h.c i o) t (Xc h.c i (pg h.p i).u)
 |0,o,v,r,_,_,e=>by simp_all[Qai]
 |n+1,o,v,r,A,L,e=>by
  have hp:=Xp hN hb ep;have M:=(hp.pgs i h0 q).small s;have B:=hp.pages;have D:=Xh.1 hp.conf;have E:Xc h.c i o=4096+i*h.c.W+o:=rfl;have O:Xc h.c i (pg h.p i).u=4096+i*h.c.W+(pg h.p i).u:=rfl;rw[Qai]at e;by_cases f:o<(pg h.p i).u
  .rw[We f,Wc,ZJ,hp.conf,Xa,Wj ac,Wm ab]at e;have⟨y,G,H⟩:=XcE hN hb (Xc h.c i o);simp only[G,Xa]at e;by_cases x:y.2=0;case neg=>grind
   have⟨_,_,g,hd⟩:=H x;rw[x,show((0:Int) != 0)=false from rfl,Wa]at e;by_cases I:(v.length+1)*8<=140737488355328;case neg=>unfold grd at e;simp_all
   have j:=XA h.w (Xc h.c i o);have⟨J,K⟩:=Yb (c:=h.c) hp.conf (p:=i) (o:=o) A ab;have z:=g.small (by simp_all);rw[J,K]at z;rw[Xb I,show((pg h.p i).k==2)=false by simp_all,Wa,hd,XI,Xa,j.1,Xe ab ab]at e;obtain⟨t,rfl,R⟩:=Xeo hN hb ep h0 q s n _ _ r ab z e;have S:Xc h.c i o+szA h.w (Xc h.c i o)=Xc h.c i (o+szA h.w (Xc h.c i o)):=by rw[E];unfold Xc;omega
   exact⟨Xc h.c i o::t,ac,rfl,g.ok,by simp_all⟩
  rw[Wg f,Wa]at e;obtain rfl:=Ex.nxt.inj (Wz e);exact⟨[],ac,by show _=_;omega⟩
def XgV(hN:NB N)(hb:HB h)(ep:Qaa N h=some true)(h0:0<=i)(g:i<h.p.length)(e:Qag N h i=some (l,0)):OC h i l:=by
 have hp:=Xp hN hb ep;have B:=(hp.pgs i h0 g).small;have⟨r,D,G⟩:=QkM hN hb i;rw[e]at D;obtain rfl:=Wz D;have⟨⟨w,_,_⟩,_,_⟩:=G.2.2 hp;rw[Qag,ep,Xa,Wh,Wa,Wg ab,Wa,Wg ab,Wa,Xo h0 g,Xa]at e;refine⟨λk=>?_,λk1=>?_,λk2=>?_⟩
 .grind
 .rw[k1,show((1:Int)==0)=false from rfl,show((1:Int)==3)=false from rfl,Wa,Wa]at e;cases j:Qai N h i (pg h.p i) N 0 []with
  |none=>simp_all[j,Kc]
  |some x=>
   rw[j,Xa]at e;cases x with
   |ret a=>
    have q:=(QkL hN hb hp h0 g (.inl k1) N 0 [] ab (by unfold NB at hN;omega) ⟨⟨ac,ac,ac⟩,λa s=>by simp at s,ac,ac⟩ (λk=>(B k).1) (λ_=>rfl))
    have⟨z,E,f⟩:=q;rw[j]at E;obtain rfl:=Wz E;have f:a=([],19):=f;simp_all[Xs,f]
   |nxt v=>
    rw[Xm]at e;obtain rfl:v=l:=by simpa using e
    obtain⟨t,rfl,L⟩:=Xeo hN hb ep h0 g k1 N 0 [] _ ab (B k1).1 j;omega
 have M:=Xh.1 hp.conf;have H:=hp.pages;obtain⟨n,rfl⟩:∃n,N=n+1:=⟨N-1,by unfold NB at hN;omega⟩
 rw[Qai]at e;have I:=(hp.pgs i h0 g).large k2;have A:0<(pg h.p i).u:=by
  apply Classical.byContradiction;intro O;have:Xn h.c (pg h.p i).u = -1:=by unfold Xn;rw[Wj ab]
  omega
 rw[We A,Wc,ZJ,hp.conf,Xa,Wj ac,Wm ab]at e;have⟨y,J,R⟩:=XcE hN hb (Xc h.c i 0);simp only[J,Xa]at e;by_cases f:y.2=0;case neg=>simp_all[Xl,f,Wc,Xa,Xs]
 rw[f,show((0:Int) != 0)=false from rfl,Wa,Xb ac,k2,show((2:Int)==2)=true from rfl,Wc,Xa,Xm]at e;obtain rfl:[Xc h.c i 0]=l:=by simp_all
 have s:=w _ (W9.2 rfl);have⟨K,S⟩:=Yb (c:=h.c) hp.conf (p:=i) (o:=0) ab ab;have:=s.large (by simp_all);rw[K]at this;exact⟨rfl,s.ok,this.2⟩
end
def Stt(h:Wi)(a:Int):Prop:=∃i l,0<=i/\i<(h.p.length:Int)/\OC h i l/\a∈l
def Obb(h:Wi)(a:Int):Prop:=Stt h a/\(hdA h.w a).k≠0
def XcO(h:Wi)(i a:Int):Prop:=((pg h.p i).k=1->szA h.w a<=smC h.c)/\((pg h.p i).k=2->(hdA h.w a).k≠0)
def ZU(p:Wo):Bool:=p.k==1&&decide (p.P>0)
structure GX(N:Nat)(h:Wi):Prop where
 ep:Qaa N h=some true
 ps:∀i,0<=i->i<(h.p.length:Int)->∃l,OC h i l
 sp:∀i,0<=i->i<(h.p.length:Int)->(pg h.p i).k≠0->(pg h.p i).s=h.s
 cl:∀i l,0<=i->i<(h.p.length:Int)->OC h i l->∀a∈l,XcO h i a
 dt:∀x,4096<=x->wd h.w x≠0->∃a,Stt h a/\a<=x/\x<a+Kl h a
 pt:∀a,Obb h a->∀j∈XL (hdA h.w a),wd h.w (a+1+j)=0\/Obb h (wd h.w (a+1+j))
 cr:((h.p.countP ZU:Nat):Int)<=h.c.p / 4
section
variable {N:Nat}{h:Wi}
def Chn.fn{ws:List Int}:∀{l m:List Int} {p q:Int},Chn ws p l q->Chn ws p m q->l=m
 |[],[],_,_,_,_=>rfl
 |[],b::m,p,q,f,g=>by have e:p=q:=f;have:=g.len;grind
 |a::l,[],p,q,f,g=>by have e:p=q:=g;have:=f.len;grind
 |a::l,b::m,p,q,⟨j,_,f⟩,⟨k,_,g⟩=>by subst j;subst k;rw[f.fn g]
def OC.fn{i:Int}{l m:List Int}(e:0<=(pg h.p i).k/\(pg h.p i).k<=3)(p:OC h i l)(q:OC h i m):l=m:=by
 by_cases k1:(pg h.p i).k=1
 .exact(p.small k1).fn (q.small k1)
 by_cases k2:(pg h.p i).k=2
 .rw[(p.large k2).1,(q.large k2).1]
 rw[p.none ab,q.none ab]
def OC.at_(hp:Uu h){i:Int}{l:List Int}(h0:0<=i)(e:i<h.p.length)(p:OC h i l){a:Int}(f:a∈l):II h a/\pgi h.c a=i:=by
 have s:=(hp.pgs i h0 e).kind;have v:=Xh.1 hp.conf;have g:∀o,Xc h.c i o=4096+i*h.c.W+o:=λ_=>rfl;by_cases k1:(pg h.p i).k=1
 .have c:=p.small k1;have x:=(hp.pgs i h0 e).small k1;have⟨c1,j⟩:=c.le;have⟨g1,g2,g3⟩:=j a f;have y:=XA h.w a;have z:=g 0;have A:=g (pg h.p i).u;obtain⟨o,rfl⟩:∃o,a=Xc h.c i o:=⟨a-Xc h.c i 0,by grind⟩
  have B:=g o;exact⟨Xem hp h0 e k1 ab g3 ab,(Yb hp.conf ab ab).1⟩
 by_cases k2:(pg h.p i).k=2
 .obtain⟨rfl,q,r⟩:=p.large k2;rw[W9.1 f];exact⟨Xen hp h0 e k2 q r,(Yb hp.conf ab ab).1⟩
 rw[p.none ab]at f;grind
def Stt.at_(hp:Uu h){a:Int}(s:Stt h a):II h a:=by have⟨i,l,h0,e,p,f⟩:=s;exact(p.at_ hp h0 e f).1
def Stt.pars(hp:Uu h){a:Int}(s:Stt h a):∃l,OC h (pgi h.c a) l/\a∈l:=by have⟨i,l,h0,e,p,f⟩:=s;have:=(p.at_ hp h0 e f).2;grind
def Xiv(hN:NB N){i:Int}(h0:0<=i)(q:i<h.p.length)(l:List Int)(s:l.length<=4096)(g:∀a∈l,II h a)(j:∀a∈l,Qao N h a=some (hdA h.w a,0)):∀(n k:Nat),k<=l.length->l.length-k<n ->
 ∃e,QaS N h i l n (k:Int)=some e/\((∀a∈l.drop k,XcO h i a)->e=.nxt ())/\((¬∀a∈l.drop k,XcO h i a)->∃a,e=.ret a/\a≠0)
 |0,k,_,u=>by omega
 |n+1,k,y,u=>by
  rw[QaS];by_cases f:k<l.length;case neg=>rw[Wg ab,Wa,WY ab];exact⟨_,rfl,λ_=>rfl,λe=>absurd ac e⟩
  have r:=Ww f;have⟨e,z,A,e3⟩:=Xiv hN h0 q l s g j n (k+1) ab ab;have v:l[k]≠0:=by have:=(g _ r).rng;omega
  have x:=(XA h.w l[k]).1;simp only[We (show(k:Int)<(l.length:Int) by omega),Wc,Xf,Wb f,Xa,j _ r,XI,Xfl,Xo h0 q,Xg (show k<=140737488355328 by omega),x];rw[Wl f];have B:XcO h i l[k]↔((pg h.p i).k=1->szA h.w l[k]<=smC h.c)/\((pg h.p i).k=2->(hdA h.w l[k]).k≠0):=Iff.rfl;grind
def HeadP(h:Wi)(i r:Int):Prop:=0<=r/\r<=i/\(pg h.p r).k≠3/\∀m,r<m->m<=i->(pg h.p m).k=3
def HeadP.fn{i r s:Int}(a:HeadP h i r)(b:HeadP h i s):r=s:=by
 apply Classical.byContradiction;intro f;by_cases e:r<s
 .exact b.2.2.1 (a.2.2.2 s e b.2.1)
 exact a.2.2.1 (b.2.2.2 r ab a.2.1)
def XgW(g:(pg h.p 0).k≠3)(j:h.p.length<=100000):∀(n:Nat) (i:Int),0<=i->i<h.p.length->i.toNat<n->∃r,QcO N h n i=some r/\HeadP h i r
 |0,i,_,_,q=>by omega
 |n+1,i,h0,s,q=>by
  rw[QcO,Xo h0 s,Xa];by_cases f:(pg h.p i).k=3
  .have:i≠0:=by rintro rfl;exact g f
   rw[Xr f,Wc,Xe ab ab];obtain⟨r,e,u,y,v,r3⟩:=XgW g j n (i-1) ab ab ab;refine⟨r,e,u,ab,v,λm w x=>?_⟩;grind
  rw[Xk f,Wa];exact⟨i,rfl,h0,ab,f,λm w x=>ab⟩
structure Sn(N:Nat)(h:Wi)(i:Int):Prop where
 sp:(pg h.p i).k≠0->(pg h.p i).s=h.s
 ps:∃l,OC h i l/\∀a∈l,XcO h i a
 dt:∀r,HeadP h i r->∀l c,Qag N h r=some (l,c)->∀j:Nat,(j:Int)<h.c.W->Xmi h i l (j:Int)=false->wdP h i j=0
def XsT(hN:NB N)(hb:HB h)(hp:Uu h){i:Int}(h0:0<=i)(g:i<h.p.length):∃a,Qeg N h i=some a/\(a=0↔∀r,HeadP h i r->∀l c,Qag N h r=some (l,c)->∀j:Nat,(j:Int)<h.c.W->Xmi h i l (j:Int)=false->wdP h i j=0):=by
 have k:=hN;unfold NB at k;have M:=Xh.1 hp.conf;have B:=hb.2;have⟨hd,D,v⟩:=XgW (N:=N) hp.first hb.2 N i h0 g ab;have⟨r,z,E,A⟩:=QfL hN hb hp hd v.1 (by have:=v.2.1;omega);have⟨⟨w,x,_⟩,_,_⟩:=E;have⟨u,G,y,H⟩:=XkT hN hp i h0 g r.1 ab w x;have⟨e,I,J,e3⟩:=XgK hN hb hp h0 g u y N 0 ab ab;rw[Qeg,QeX,D,Xa,Xa,z,Xa,G,Xa,show(0:Int)=((0:Nat):Int)from rfl,I,Xa];by_cases f:∃j,0<=j/\j<u.length/\u.getD j false=false/\wdP h i j≠0
 .obtain⟨a,rfl,K⟩:=J f;refine⟨a,by rw[Xs],λe=>absurd e K,λq=>?_⟩;grind
 have:=e3 f;subst this;refine⟨0,by rw[Xm];rfl,λ_ s L l c el j O R=>?_,λ_=>rfl⟩;rw[←v.fn L,z]at el;grind
def QpJ(hN:NB N)(hb:HB h)(ep:Qaa N h=some true){i:Int}(h0:0<=i)(j:i<h.p.length):∃f,Qeh N h i=some f/\(f.Fault=0↔Sn N h i):=by
 have hp:=Xp hN hb ep;rw[Qeh,Xt,Xo h0 j];simp only[Xa];by_cases g:(pg h.p i).k≠0/\(pg h.p i).s≠h.s
 .rw[Xl g.1,Xl g.2];exact⟨_,rfl,λe=>absurd e ac,λq=>absurd (q.sp g.1) g.2⟩
 have v:(pg h.p i).k≠0->(pg h.p i).s=h.s:=λk=>Classical.byContradiction λs=>g ⟨k,s⟩;have J:∀{α:Type} (x y:α),(bif ((pg h.p i).k != 0)then(bif ((pg h.p i).s != h.s)then x else y)else y)=y:=by
  intro α x y;by_cases k0:(pg h.p i).k=0
  .simp_all
  simp_all
 rw[J];have⟨r,z,K,H⟩:=QfL hN hb hp i h0 j;rw[z,Xa];by_cases I:r.2=0;case neg=>
  rw[Xl I]
  refine⟨_,rfl,λe=>absurd e (by show¬(3:Int)=0;omega),λq=>?_⟩
  obtain⟨l,p,_⟩:=q.ps
  rw[Qg8 hN hb ep h0 j p]at z
  grind
 have A:Qag N h i=some (r.1,0):=by rw[z,←I]
 have w:=XgV hN hb ep h0 j A;have B:=(hp.pgs i h0 j).kind;rw[show(r.2 != 0)=false by simp_all,Wa];have⟨⟨D,E,_⟩,_,_⟩:=K;have⟨e,c1,L,M⟩:=Xiv hN h0 j r.1 ab D E N 0 ab (by unfold NB at hN;omega);have c1:QaS N h i r.1 N 0=some e:=c1;rw[Qen,c1,Xa];by_cases G:∀a∈r.1,XcO h i a;case neg=>
  obtain⟨a,rfl,O⟩:=M G
  rw[Xs,Xa,Xl O]
  refine⟨_,rfl,λe=>absurd e (by show¬(5:Int)=0;omega),λq=>?_⟩
  obtain⟨l,p,q⟩:=q.ps
  rw[p.fn B w]at q
  simp_all
 have:=L G;subst this;rw[Xm,Xa];have⟨d,R,hd⟩:=XsT hN hb hp h0 j;rw[R,Xa];by_cases u:d=0
 .rw[show(d != 0)=false by simp_all,Wa];exact⟨_,rfl,λ_=>⟨v,⟨_,w,G⟩,hd.1 u⟩,λ_=>rfl⟩
 rw[Xl u];exact⟨_,rfl,λe=>absurd e ac,λq=>absurd (hd.2 q.dt) u⟩
def Xiw(hN:NB N)(hb:HB h)(ep:Qaa N h=some true):∀(n:Nat) (i:Int),0<=i->i<=h.p.length->(h.p.length-i).toNat<n->∃e,Qbd N h n i=some e/\((∀j,i<=j->j<h.p.length->Sn N h j)->e=.nxt ())/\((¬∀j,i<=j->j<h.p.length->Sn N h j)->∃f,e=.ret f/\f.Fault≠0)
 |0,i,_,_,s=>by omega
 |n+1,i,h0,A,s=>by
  have u:=hb.2;rw[Qbd];by_cases g:i<h.p.length;case neg=>rw[Wg g,Wa];exact⟨_,rfl,λ_=>rfl,λq=>absurd (λj a b=>ab) q⟩
  have⟨f,v,w⟩:=QpJ hN hb ep h0 g;have⟨e,x,y,e3⟩:=Xiw hN hb ep n (i+1) ab ab ab;rw[We g,Wc,v,Xa];by_cases k:f.Fault=0
  .rw[show(f.Fault != 0)=false by simpa using k,Wa,Xe ab ab,x];refine⟨e,rfl,λq=>y λj a b=>q j ab b,λq=>e3 λr=>q λj a b=>?_⟩;by_cases z:j=i
   .rw[z];exact w.1 k
   exact r j ab b
  grind
def Xep(f:h.p.length<=100000):∀(n k c:Nat),k<=h.p.length->h.p.length-k<n->c<=k->Qa4 N h n (c:Int) (k:Int)=some (((c+(h.p.drop k).countP ZU:Nat):Int))
 |0,k,c,_,g,_=>by omega
 |n+1,k,c,j,g,q=>by
  rw[Qa4];by_cases e:k<h.p.length;case neg=>rw[Wg ab,Wa,WY ab];simp
  have:=Xep f n (k+1) c ab ab ab;have:=Xep f n (k+1) (c+1) ab ab ab;rw[Xi e,Wc,Xf,Wb e,Xa,Xg ab,Xg ab,Wl e,U9];simp only[Xa];unfold ZU at *;grind
end
section
variable {N:Nat}{h:Wi}
def XgX(h:Wi)(a:Int):Kl h a<=szA h.w a:=by have:=(XA h.w a).2.1;unfold Kl;omega
def XbS(hp:Uu h){a x:Int}(f:II h a)(v:a<=x)(y:x<a+szA h.w a):HeadP h (pgi h.c x) (pgi h.c a)/\4096<=x/\x<4096+h.w.length:=by
 have⟨k,k1,k2,z,g⟩:=Xc2 hp f;have q:=f.rng;have A:=KD hp f;have hw:=hp.words;have⟨e,r,B,D,E⟩:=XN hp.conf q;have⟨G,H,I,J,r3⟩:=XN (a:=x) hp.conf ab;have K:=f.kind;have le:pgi h.c a<=pgi h.c x:=by apply Classical.byContradiction;intro s;have:=Vw hp.conf (i:=pgi h.c x) (j:=pgi h.c a) (o:=h.c.W) (p:=0) ab ab ab;have L:Xc h.c (pgi h.c x) h.c.W=4096+pgi h.c x*h.c.W+h.c.W:=rfl;have u:Xc h.c (pgi h.c x) (pgo h.c x)=4096+pgi h.c x*h.c.W+pgo h.c x:=rfl;have e3:Xc h.c (pgi h.c a) 0=4096+pgi h.c a*h.c.W+0:=rfl;have e4:Xc h.c (pgi h.c a) (pgo h.c a)=4096+pgi h.c a*h.c.W+pgo h.c a:=rfl;omega
 have lt:pgi h.c x<pgi h.c a+k:=by apply Classical.byContradiction;intro s;have M:(pgi h.c a+k)*h.c.W<=pgi h.c x*h.c.W:=WU ab ab;have e3:Xc h.c (pgi h.c a+k) 0=4096+(pgi h.c a+k)*h.c.W+0:=rfl;have u:Xc h.c (pgi h.c x) (pgo h.c x)=4096+pgi h.c x*h.c.W+pgo h.c x:=rfl;omega
 refine⟨⟨r,le,ab,λm O R=>?_⟩,ab,ab⟩;have:=g (m-pgi h.c a) ab ab;grind
def XoF{ws:List Int}{x:Int}(h0:4096<=x)(h:wd ws x≠0):x<4096+ws.length:=by apply Classical.byContradiction;intro e;apply h;unfold wd ix;rw[Wk,WO ab];rfl
def Xix(hN:NB N)(hb:HB h)(ep:Qaa N h=some true)(g:∀i,0<=i->i<(h.p.length:Int)->∃l,OC h i l):∀(n:Nat) (i:Int) (v:List Int),0<=i->i<=h.p.length->(h.p.length-i).toNat<n->(v.length:Int)<=64*i ->
 ∃t,QaK N h n i v=some (.nxt (v++t))/\∀a,a∈t↔∃j l,i<=j/\j<(h.p.length:Int)/\OC h j l/\a∈l
 |0,i,v,_,_,s,_=>by omega
 |n+1,i,v,h0,A,s,B=>by
  have hp:=Xp hN hb ep;have u:=hp.pages;have w:=Xh.1 hp.conf;rw[QaK];by_cases f:i<h.p.length;case neg=>
   rw[Wg f,Wa]
   exact⟨[],ac,λa=>⟨λe=>by grind,λ⟨j,l,a,b,_⟩=>ab⟩⟩
  have⟨l,pl⟩:=g i h0 f;have el:=Qg8 hN hb ep h0 f pl;have⟨r,k,_,q⟩:=QfL hN hb hp i h0 f;rw[el]at k;obtain rfl:=Wz k;have⟨t,et,ht⟩:=Xix hN hb ep g n (i+1) (v++l) ab ab ab (by grind);rw[We f,Wc,el,Xa,show((0:Int) != 0)=false from rfl,Wa,Xb ab,Xe ab ab,et,W5];refine⟨l++t,rfl,λa=>?_⟩;rw[Wr,ht];constructor
  .grind
  rintro⟨j,m,D,E,x,y⟩;by_cases z:j=i
  .subst z;rw[pl.fn (hp.pgs j h0 f).kind x];exact .inl y
  grind
def Xbg(hN:NB N)(hb:HB h)(ep:Qaa N h=some true)(f:∀i,0<=i->i<(h.p.length:Int)->∃l,OC h i l):∃S L,IG N h S/\(∀a,a∈S↔Stt h a)/\QbA N h=some (S,0)/\Qal N h=some (L,0)/\L=Yc h S/\∀a,a∈L↔Obb h a:=by
 have g:=hN;unfold NB at g;have s:=hb.2;have⟨t,et,ht⟩:=Xix hN hb ep f N 0 [] ab ab ab ac;have est:QbA N h=some (t,0):=by rw[QbA,ep,Xa,Wh,Wa,et,Xa,Xm,W8]
 have⟨r,j,e,_,_⟩:=J9 hN hb;rw[est]at j;obtain rfl:=Wz j;have k:t.length<=4096:=e.len;have:=XaM (N:=N) (h:=h) (t,0) (by grind) e.obj.ev N 0 [] ab (by grind) ac;rw[show((0:Nat):Int)=0 from rfl,WX,W8]at this;have q:∀a,a∈t↔Stt h a:=λa=>by rw[ht];rfl
 refine⟨t,Yc h t,e,q,est,?_,rfl,λa=>?_⟩
 .simp[Qal,est,Xa,this]
 unfold Yc Obb;simp[WV,q,YY,fnd]
def Vi(hN:NB N)(hb:HB h):Qbl N h=some true↔GX N h:=by
 have H:=hN;unfold NB at H;have⟨b,ep⟩:=ZK (N:=N) (h:=h) hN hb;cases b with
 |false=>rw[Qbl,Qe8,ep,Xa,Ug,Wc,Xa];exact⟨(λe=>by grind),λg=>by simp_all[g.ep]⟩
 |true=>
 have hp:=Xp hN hb ep;have hpl:=hp.pages;have hw:=hp.words;have hvc:=Xh.1 hp.conf;have⟨e,Y,Z,e3⟩:=Xiw hN hb ep N 0 ab ab ab;rw[Qbl,Qe8,ep,Xa,Wh,Wa,Y,Xa];by_cases z:∀j,(0:Int)<=j->j<h.p.length->Sn N h j;case neg=>
  obtain⟨f,rfl,G⟩:=e3 z
  rw[Xs,Xa,Xk G]
  refine⟨(λe=>by grind),λg=>absurd (λi h0 s=>⟨g.sp i h0 s,?_,λr k l c el j I J=>?_⟩) z⟩
  .obtain⟨l,pl⟩:=g.ps i h0 s
   exact⟨l,pl,g.cl i l h0 s pl⟩
  .apply Classical.byContradiction;intro D
   unfold wdP at D
   have hm:=XE hp.conf (i:=i) h0 ab
   have ea:Xc h.c i 0=4096+i*h.c.W+0:=rfl
   have ej:Xc h.c i 0+(j:Int)=Xc h.c i j:=by unfold Xc;omega
   obtain⟨a,sa,a1,a2⟩:=g.dt _ ab D
   have A:=sa.at_ hp
   have v:=XbS hp (x:=Xc h.c i 0+j) A a1 (by have:=XgX h a;omega)
   rw[ej,(Yb hp.conf ab I).1]at v
   have:=k.fn v.1
   subst this
   obtain⟨m,pm,am⟩:=sa.pars hp
   have:=Qg8 hN hb ep k.1 (by have:=k.2.1;omega) pm
   rw[el]at this
   obtain rfl:l=m:=congrArg Prod.fst (Wz this)
   have:Xmi h i l j=true:=Oq.2 ⟨a,am,by rw[decide_eq_true_iff];omega⟩
   simp_all
 have:=Z z;subst this;rw[Xm];have B:∀i,0<=i->i<(h.p.length:Int)->∃l,OC h i l:=λi h0 s=>by obtain⟨l,p,_⟩:=(z i h0 s).ps;grind
 obtain⟨S,L,hS,mS,eS,eL,rfl,mL⟩:=Xbg hN hb ep B;have⟨y,ey,hl,_,A,K,M⟩:=K1 hN hb;rw[eL]at ey;obtain rfl:=Wz ey;have⟨r,O,r2,r3⟩:=Xos hN hb ep (Yc h S,0) ab A K M N 0 ab ab;have O:Qbv N h (Yc h S,0) N 0=some r:=O;rw[Qdy,eL,Xa,O,Xa];by_cases u:∃a∈Yc h S,XaW h (Yc h S) a
 .obtain⟨f,rfl,G⟩:=r2 u;rw[Xs,Xa,Xl G,Wc,Xa,Xk G];refine⟨(λe=>by cases e),λg=>?_⟩;obtain⟨a,v,i,hi,R,hb2⟩:=u;rcases g.pt a ((mL a).1 v) i hi with q|q
  .exact absurd q R
  simp_all
 have:=r3 u;subst this;have E:=Xep (N:=N) (h:=h) hb.2 N 0 0 ab ab ab;have E:Qa4 N h N 0 0=some (((0+(h.p.drop 0).countP ZU:Nat):Int)):=E;rw[Xm,Xa,show((Un.mk 0 0 0).Fault != 0)=false from rfl,Wa,E,Xa,WX,UE];have ed:wI (h.c.p.tdiv 4)=h.c.p / 4:=by rw[UV ab,Xe ab ab]
 by_cases J:((h.p.countP ZU:Nat):Int)<=h.c.p / 4
 .rw[Wg ab,Wa,Xa];refine⟨λ_=>⟨ep,B,λi h0 s=>(z i h0 s).sp,λi l h0 s p=>?_,λx h0 E=>?_,λa v j I=>?_,J⟩,λ_=>rfl⟩
  .have⟨m,p',q⟩:=(z i h0 s).ps;rw[p.fn (hp.pgs i h0 s).kind p'];omega
  .have hlt:=XoF h0 E;have⟨e,q0,q1,q2,q3⟩:=XN (a:=x) hp.conf ab;have⟨r,er,k⟩:=XgW (N:=N) hp.first hb.2 N (pgi h.c x) q0 ab ab;have⟨l,pl⟩:=B r k.1 (by have:=k.2.1;omega);have el:=Qg8 hN hb ep k.1 (by have:=k.2.1;omega) pl;have hd:=(z _ q0 ab).dt r k l 0 el (pgo h.c x).toNat ab;have ex:Xc h.c (pgi h.c x) 0+((pgo h.c x).toNat:Int)=x:=by have Y:Xc h.c (pgi h.c x) 0=4096+pgi h.c x*h.c.W+0:=rfl;have Z:Xc h.c (pgi h.c x) (pgo h.c x)=4096+pgi h.c x*h.c.W+pgo h.c x:=rfl;omega
   have hwd:wdP h (pgi h.c x) (pgo h.c x).toNat=wd h.w x:=by unfold wdP;rw[ex]
   cases T:Xmi h (pgi h.c x) l ((pgo h.c x).toNat:Int)with
   |false=>grind
   |true=>have⟨a,v,U⟩:=Oq.1 T;rw[decide_eq_true_iff]at U;exact⟨a,⟨r,l,k.1,by have:=k.2.1;omega,pl,v⟩,ab,ab⟩
  by_cases hz:wd h.w (a+1+j)=0
  .omega
  cases V:(Yc h S).contains (wd h.w (a+1+j))with
  |true=>simp_all
  |false=>exact absurd ⟨a,(mL a).2 v,j,I,hz,V⟩ u
 rw[We ab,Wc,Xa];exact⟨(λe=>by grind),λg=>absurd g.cr J⟩
end
def ZF(c:WN):List UB->Int->Int
 |[],_=>0
 |p::l,i=>(if pgi c p.a=i then p.M else 0)+ZF c l i
structure MX(N:Nat)(h:Wi)(pins:List UB):Prop where
 gx:GX N h
 len:pins.length<=64
 ob:∀p∈pins,Obb h p.a/\1<=p.M/\p.M<=1000
 nd:(pins.map (·.a)).Nodup
 sm:∀i,0<=i->i<(h.p.length:Int)->(pg h.p i).P=ZF h.c pins i
structure VX(N:Nat)(x:Uj):Prop where
 mx:MX N x.h x.P
 loc:Yl x.l=true
 glo:Yk x.g.e=true
 wea:Yk x.v.e=true
 gz:∀r∈Xu x.g.e,r≠0
 rr:∀r∈x.R,r=0\/Obb x.h r
 rl:∀r∈XD x.l.S,r=0\/Obb x.h r
 rg:∀r∈Xu x.g.e,r=0\/Obb x.h r
 rw_:∀r∈Xu x.v.e,r=0\/Obb x.h r
def Xeq{α:Type}(f:α->Int)(l:List α):(∀(j:Nat) (g:j<l.length),YS (λp=>f p==f l[j]) l=j)↔(l.map f).Nodup:=by
 have key:∀(j:Nat) (g:j<l.length),YS (λp=>f p==f l[j]) l=j↔∀k(s:k<j),f (l[k]'ab)≠f l[j]:=by
  intro j g;unfold YS;cases e:l.findIdx? (λp=>f p==f l[j])with
  |none=>rw[IS]at e;have:=e l[j] (Ww g);simp at this
  |some m=>
   rw[UI]at e;have⟨w,u,v⟩:=e;constructor
   .intro h k s x;have:m=j:=Int.ofNat.inj h;subst this;simp_all
   intro h;by_cases q:m<j
   .exact absurd (by simpa using u) (h m q)
   by_cases r:j<m
   .have:=v j r;simp at this
   show(m:Int)=j;omega
 rw[List.Nodup,W7];grind
section
variable {N:Nat}{h:Wi}
def Xiy(h:Wi)(pins:List UB)(L:List Int)(j:Nat):Prop:=∀e:j<pins.length,L.contains pins[j].a=true/\YS (λp=>p.a==pins[j].a) pins=j/\1<=pins[j].M/\pins[j].M<=1000
def Xiz(hN:NB N)(hp:Uu h)(pins:List UB)(A:pins.length<=64)(y:List Int×Int)(O:y.1.length<=4096)(u:∀a∈y.1,II h a):∀(n k:Nat) (v:List Int),k<=pins.length->pins.length-k<n->v.length=h.p.length->(∀i:Int,0<=i->0<=v.getD i.toNat 0/\v.getD i.toNat 0<=1000*k) ->
 ∃e,Qbe N h pins y n (k:Int) v=some e/\((∀j,k<=j->Xiy h pins y.1 j)->∃g,e=.nxt g/\g.length=h.p.length/\∀i:Int,0<=i->i<(h.p.length:Int)->g.getD i.toNat 0=v.getD i.toNat 0+ZF h.c (pins.drop k) i)/\((¬∀j,k<=j->Xiy h pins y.1 j)->e=.ret false)
 |0,k,v,R,S,B,_=>by omega
 |n+1,k,v,R,S,B,hb=>by
  have D:1000000<N:=by unfold NB at hN;omega
  rw[Qbe];by_cases f:k<pins.length;case neg=>
   rw[Wg ab,Wa,WY ab]
   exact⟨_,rfl,λ_=>⟨v,rfl,B,λi _ _=>by simp[ZF]⟩,λq=>absurd (λj J T=>ab) q⟩
  have U:Xd pins (k:Int)=some pins[k]:=by rw[Xf,Wb f]
  simp only[We (show(k:Int)<(pins.length:Int) by omega),Wc,U,Xa,X0 pins[k].a (show y.1.length<=1000000000 by omega) (show y.1.length<N by omega),XgO pins pins[k].a ab D];have bad:¬Xiy h pins y.1 k->∃e,some (Ex.ret false:Ex Bool (List Int))=some e/\((∀j,k<=j->Xiy h pins y.1 j)->∃g,e=.nxt g/\g.length=h.p.length/\∀i:Int,0<=i->i<(h.p.length:Int)->g.getD i.toNat 0=v.getD i.toNat 0+ZF h.c (pins.drop k) i)/\((¬∀j,k<=j->Xiy h pins y.1 j)->e=.ret false):=
   λq=>⟨_,rfl,λr=>absurd (r k (Uh k)) q,λ_=>rfl⟩
  cases E:y.1.contains pins[k].a with
  |false=>exact bad λq=>by rw[(q f).1]at E;grind
  |true=>
  by_cases z:YS (λp=>p.a==pins[k].a) pins=k;case neg=>rw[Xl z];exact bad λq=>z (q f).2.1
  rw[show(YS (λp=>p.a==pins[k].a) pins != (k:Int))=false by simpa using z,Wa];by_cases c1:pins[k].M<1
  .rw[We c1];exact bad λq=>by have:=(q f).2.2;omega
  rw[Wg c1,Wa];by_cases K:pins[k].M>1000
  .rw[We K];exact bad λq=>by have:=(q f).2.2;omega
  have V:=u _ (X3 E);have⟨W,w,Y⟩:=K0 (N:=N) hp V;have G:Xd v (pgi h.c pins[k].a)=some (v.getD (pgi h.c pins[k].a).toNat 0):=by have x:(pgi h.c pins[k].a).toNat<v.length:=ab;rw[X6 w ab,Wk,Wb x];rfl
  have b1:=hb _ w;rw[Wg K,Wa,W,Xa,G,Xa,Xa,Xg ab,Xe ab ab];have s:∀i:Int,0<=i->(v.set (pgi h.c pins[k].a).toNat (v.getD (pgi h.c pins[k].a).toNat 0+pins[k].M)).getD i.toNat 0=(if pgi h.c pins[k].a=i then pins[k].M else 0)+v.getD i.toNat 0:=by
   intro i H;rw[Wk,U4];by_cases I:pgi h.c pins[k].a=i
   .rw[Wm ab,Wm ab,Wm I,←I];simp;omega
   rw[Wj ab,Wj I,←Wk];omega
  have⟨e,n1,n2,Z⟩:=Xiz hN hp pins A y O u n (k+1) (v.set (pgi h.c pins[k].a).toNat (v.getD (pgi h.c pins[k].a).toNat 0+pins[k].M)) ab ab (by rw[WL];exact B) λi H=>by have:=hb i H;rw[s i H];split<;>omega
  rw[n1];have hk':Xiy h pins y.1 k:=λ_=>⟨E,z,ab,ab⟩
  refine⟨e,rfl,λq=>?_,λq=>Z λr=>q λj J=>?_⟩
  .have⟨g,e1,e2,e3⟩:=n2 λj J=>q j ab;refine⟨g,e1,e2,λi L i1=>?_⟩;rw[e3 i L i1,s i L,Wl f,ZF];omega
  grind
def XiA(s:h.p.length<=100000)(v:List Int)(u:v.length=h.p.length):∀(n k:Nat),k<=h.p.length->h.p.length-k<n ->
 ∃e,QbB N h v n (k:Int)=some e/\((∀i:Int,k<=i->i<(h.p.length:Int)->(pg h.p i).P=v.getD i.toNat 0)->e=.nxt ())/\((¬∀i:Int,k<=i->i<(h.p.length:Int)->(pg h.p i).P=v.getD i.toNat 0)->e=.ret false)
 |0,k,_,w=>by omega
 |n+1,k,A,w=>by
  rw[QbB];by_cases f:k<h.p.length;case neg=>
   rw[Wg ab,Wa]
   exact⟨_,rfl,λ_=>rfl,λq=>absurd (λi a b=>ab) q⟩
  have g:Xd v (k:Int)=some (v.getD k 0):=by rw[Xf,Wk,Wb ab];rfl
  rw[Xi f,Wc,Xo ab ab,Xa,g,Xa,Xg ab];by_cases j:(pg h.p (k:Int)).P=v.getD k 0
  .have⟨e,x,y,e3⟩:=XiA s v u n (k+1) ab ab;rw[show((pg h.p (k:Int)).P != v.getD k 0)=false by simpa using j,Wa,x];refine⟨e,rfl,λq=>y λi a b=>q i ab b,λq=>e3 λr=>q λi a b=>?_⟩;by_cases z:i=k
   .subst z;exact j
   exact r i ab b
  grind
def XaQ(hN:NB N)(hb:HB h)(pins:List UB):Qcg N h pins=some true↔MX N h pins:=by
 have s:=hN;unfold NB at s;have u:h.p.length<=100000:=hb.2;rw[Qcg];have⟨b,eb,G⟩:=KE hN hb;rw[eb,Xa];cases b with
 |false=>exact⟨(λe=>by grind),λm=>by rw[(Vi hN hb).2 m.gx]at eb;grind⟩
 |true=>
 have gx:=(Vi hN hb).1 eb;have hp:=Xp hN hb gx.ep;obtain⟨S,L,V,mS,eS,eL,rfl,mL⟩:=Xbg hN hb gx.ep gx.ps;have⟨y,D,W,_,w,H,I⟩:=K1 hN hb;rw[eL]at D;obtain rfl:=Wz D;by_cases f:pins.length<=64;case neg=>exact⟨(λe=>by grind),λm=>absurd m.len f⟩
 rw[Wg ab,Wa,eL,Xa,Xb ab];have E:∀i:Int,(List.replicate (h.p.length:Int).toNat (0:Int)).getD i.toNat 0=0:=λi=>by grind
 have⟨e,J,K,e3⟩:=Xiz hN hp pins f (Yc h S,0) ab w N 0 (List.replicate (h.p.length:Int).toNat 0) ab ab ac (λi _=>by simp_all);have x:Qbe N h pins (Yc h S,0) N 0 (List.replicate (h.p.length:Int).toNat 0)=some e:=J;rw[x,Xa];have O:∀(m:(∀p∈pins,Obb h p.a/\1<=p.M/\p.M<=1000)),(pins.map (·.a)).Nodup->∀j,0<=j->Xiy h pins (Yc h S) j:=λm nd j _ g=>by have R:=m _ (Ww g);exact⟨by simp_all,(Xeq (λp:UB=>p.a) pins).2 nd j g,R.2⟩
 by_cases k:∀j,0<=j->Xiy h pins (Yc h S) j;case neg=>
  rw[e3 k,Xs]
  exact⟨(λe=>by grind),λm=>absurd (O m.ob m.nd) k⟩
 obtain⟨v,rfl,T,Y⟩:=K k;have⟨e',f1,f2,U⟩:=XiA (N:=N) u v T N 0 ab ab;have z:QbB N h v N 0=some e':=f1;rw[Xm,z,Xa];have q:∀i:Int,0<=i->i<(h.p.length:Int)->v.getD i.toNat 0=ZF h.c pins i:=λi a b=>by simp_all
 have A:∀p∈pins,Obb h p.a/\1<=p.M/\p.M<=1000:=λp hp=>by obtain⟨j,g,rfl⟩:=Wt hp;have:=k j ab g;simp_all
 have B:(pins.map (·.a)).Nodup:=(Xeq (λp:UB=>p.a) pins).1 λj g=>(k j ab g).2.1;by_cases r:∀i:Int,((0:Nat):Int)<=i->i<(h.p.length:Int)->(pg h.p i).P=v.getD i.toNat 0
 .rw[f2 r,Xm];exact⟨λ_=>⟨gx,f,A,B,λi a b=>(r i ab b).trans (q i a b)⟩,λ_=>rfl⟩
 rw[U r,Xs];exact⟨(λe=>by grind),λm=>absurd (λi a b=>(m.sm i ab b).trans (q i ab b).symm) r⟩
def Xbh(hN:NB N)(ht:HT h){l:List Int}(e:l.length<=1000000)(gx:GX N h):∃b,QbC N h l=some b/\(b=true↔∀r∈l,r=0\/Obb h r):=by have hb:=ht.hb;obtain⟨S,L,f,mS,eS,eL,rfl,mL⟩:=Xbg hN hb gx.ep gx.ps;refine⟨_,ZE hN ht ab ((Vi hN hb).2 gx) eL,?_⟩;simp_all
def Jg(hN:NB N){x:Uj}(ht:ET x):QbI N x=some true↔VX N x:=by
 have j:1000000<N:=by unfold NB at hN;omega
 have k:=ht.eb;have w:=YK k.loc;have y:=XZ x.g.e;have z:=XZ x.v.e;have A:=k.pins;have D:=k.roots;rw[QbI];have⟨b,eb,_⟩:=Ve hN k.heap A;rw[eb,Xa];cases b with
 |false=>exact⟨(λe=>by grind),λm=>by rw[(XaQ hN k.heap _).2 m.mx]at eb;grind⟩
 |true=>
 have mx:=(XaQ hN k.heap _).1 eb;simp only[Wh,Wa,Zu k.loc j,YP k.glo j,YP k.wea j,XW k.glo j,XW k.wea j,YR k.loc j,Xa];cases el:Yl x.l with
 |false=>exact⟨(λe=>by grind),λm=>by simp_all[m.loc]⟩
 |true=>
 cases et:Yk x.g.e with
 |false=>exact⟨(λe=>by grind),λm=>by simp_all[m.glo]⟩
 |true=>
 cases s:Yk x.v.e with
 |false=>exact⟨(λe=>by grind),λm=>by simp_all[m.wea]⟩
 |true=>
 rw[el,Wc]at w;rw[et,Wc]at y;rw[s,Wc]at z;simp only[Wh,Wa,Wc];rw[X0 0 ab ab,Xa];cases u:(Xu x.g.e).contains 0 with
 |true=>exact⟨(λe=>by grind),λm=>absurd rfl (m.gz 0 (X3 u))⟩
 |false=>
 have p:∀r∈Xu x.g.e,r≠0:=λr f e=>YC u (e▸f);rw[Wa,Xb ab,Xb ab,Xb ab,Xb ab];have⟨b,B,f⟩:=Xbh hN ht.ht (l:=x.R++XD x.l.S++Xu x.g.e++Xu x.v.e) (by grind) mx.gx;rw[B,Xa,Option.some_inj,f];refine⟨λq=>⟨mx,el,et,s,p,λr f=>q r (by grind),λr f=>q r (by grind),λr f=>q r (by grind),λr f=>q r (by grind)⟩,λm r f=>?_⟩;simp only[Wr]at f;rcases f with(((f|f)|f)|f)
 .exact m.rr r f
 .exact m.rl r f
 .exact m.rg r f
 exact m.rw_ r f
end
end Go.Sx

namespace Go.Sx
def K2(a n:Int):List Int:=(List.range n.toNat).map λk:Nat=>a+k
def Y7{a n x:Int}:x∈K2 a n↔a<=x/\x<a+n:=by unfold K2;simp;exact⟨λ⟨k,h,e⟩=>ab,λh=>⟨(x-a).toNat,ab,ab⟩⟩
def Vj(a n:Int):(K2 a n).length=n.toNat:=by simp[K2]
def XaR(a n:Int):(K2 a n).Nodup:=by unfold K2;rw[List.Nodup,ID];exact List.nodup_range.imp λh e=>h ab
def JE:∀{l m:List Int},l.Nodup->(∀x∈l,x∈m)->l.length<=m.length
 |[],m,_,_=>by simp
 |a::l,m,e,h=>by have e:=Ow.1 e;have f:=h a ac;have:=JE (m:=m.erase a) e.2 λx g=>(List.mem_erase_of_ne (by rintro rfl;exact e.1 g)).2 (h x (WQ _ g));have:=List.length_erase_of_mem f;have:=List.length_pos_of_mem f;simp;omega
def XjR{α β:Type}{l:List α}{m:List β}{f g:α->Int}{f' g':β->Int}(hd:l.Pairwise λa b=>∀x,f a<=x->x<f a+g a->f b<=x->x<f b+g b->False)(p:∀a∈l,∀x,f a<=x->x<f a+g a->∃b∈m,f' b<=x/\x<f' b+g' b):(l.map λa=>(g a).toNat).sum<=(m.map λb=>(g' b).toNat).sum:=by
 have q:(l.flatMap λa=>K2 (f a) (g a)).length=(l.map λa=>(g a).toNat).sum:=by simp[List.length_flatMap,Vj]
 have r:(m.flatMap λa=>K2 (f' a) (g' a)).length=(m.map λa=>(g' a).toNat).sum:=by simp[List.length_flatMap,Vj]
 rw[←q,←r];refine JE ?_ λx j=>?_
 .rw[List.Nodup,List.pairwise_flatMap];refine⟨λa _=>XaR _ _,hd.imp λh x j y k e=>?_⟩;subst e;rw[Y7]at j k;exact h x j.1 j.2 k.1 k.2
 have⟨a,s,h⟩:=List.mem_flatMap.1 j;rw[Y7]at h;have⟨b,hb,h⟩:=p a s x h.1 h.2;exact List.mem_flatMap.2 ⟨b,hb,Y7.2 h⟩
def XoG{α:Type}{g:α->Nat}{c:Nat}:∀{l:List α},(∀a∈l,c<=g a)->l.length*c<=(l.map g).sum
 |[],_=>by simp
 |a::l,h=>by have:=XoG λb hb=>h b (WQ _ hb);have:=h a ac;rw[Ul,UA,List.sum_cons,Uz];omega
def XoH{α:Type}{g:α->Nat}{c:Nat}:∀{l:List α},(∀a∈l,g a=c)->(l.map g).sum=l.length*c
 |[],_=>by simp
 |a::l,h=>by have:=XoH λb hb=>h b (WQ _ hb);have:=h a ac;rw[Ul,UA,List.sum_cons,Uz];omega
def Xq7{α:Type}{p q r s:α->Bool}:∀{l:List α},(∀a∈l,p a=true->q a=true\/r a=true\/s a=true)->l.countP p<=l.countP q+l.countP r+l.countP s
 |[],_=>by simp
 |a::l,h=>by have:=Xq7 λb hb=>h b (WQ _ hb);grind
def JR(ps:List Wo)(q:Wo->Bool):ps.countP q=(K2 0 ps.length).countP λi=>q (pg ps i):=by
 have e:ps=(K2 0 ps.length).map (pg ps):=by refine IJ (by simp[Vj]) λi f g=>?_;simp[K2,pg,Wk,Wb f]
 conv=>lhs;rw[e,List.countP_map]
 rfl
def ad1(o:List Int)(r:Int):List Int:=if r=0\/r∈o then o else o++[r]
def Jt(o rs:List Int):List Int:=rs.foldl ad1 o
def ZX{o:List Int}{r:Int}(h:r=0\/r∈o):ad1 o r=o:=Wm h
def JF{o:List Int}{r:Int}(h0:r≠0)(h:r∉o):ad1 o r=o++[r]:=Wj λe=>e.elim h0 h
def XiB:∀(rs o:List Int),o.length<=(Jt o rs).length
 |[],o=>Uh _
 |r::rs,o=>by
  have:=XiB rs (ad1 o r);have h:o.length<=(ad1 o r).length:=by unfold ad1;split<;>simp
  exact UK h this
def rfs(h:Wi)(a:Int):List Int:=(XL (hdA h.w a)).map λj=>wd h.w (a+1+j)
def Km(h:Wi):Nat->Nat->List Int->List Int
 |0,_,o=>o
 |n+1,k,o=>match o[k]? with
  |none=>o
  |some a=>Km h n (k+1) (Jt o (rfs h a))
def pk1(W:Int)(s:Nat×Int)(n:Int):Nat×Int:=if s.1≠0/\s.2+n<=W then(s.1,s.2+n)else(s.1+1,n)
def cpB(h:Wi)(a:Int):Bool:=(pg h.p (pgi h.c a)).k==1&&!decide ((pg h.p (pgi h.c a)).P>0)
def JG(h:Wi)(l:List Int):Nat×Int:=((l.filter (cpB h)).map (szA h.w)).foldl (pk1 h.c.W) (0,0)
def Xmr{h:Wi}{l:List Int}{a:Int}(e:cpB h a=false):JG h (l++[a])=JG h l:=by simp[JG,IM,e]
def Xms{h:Wi}{l:List Int}{a:Int}(e:cpB h a=true):JG h (l++[a])=pk1 h.c.W (JG h l) (szA h.w a):=by simp[JG,IM,e,List.foldl_append]
def stC(p:Wo):Bool:=p.k != 0&&!(p.k==1&&!decide (p.P>0))
def eS(c:WN)(n:Int):Int:=if Xn c n=0 then n else Xn c n*c.W
structure Cap(h:Wi):Prop where
 a:∀l:List Int,l.Nodup->(∀a∈l,Obb h a)->(l.map λa=>(eS h.c (szA h.w a)).toNat).sum<=(h.c.p / 4*h.c.W).toNat
 b:3*((h.p.countP XO:Nat):Int)<=7*(h.c.p / 4)+2
section
variable {N:Nat}{h:Wi}
def XoI{c:WN}(f:XR c=true){n:Int}(g:1<=n)(e:n<=smC c):eS c n=n:=by unfold smC at e;rw[Wm f]at e;unfold eS Xn;simp[f,g,e]
def GX.szs(g:GX N h)(hp:Uu h){a:Int}(f:Obb h a)(k:(pg h.p (pgi h.c a)).k=1):szA h.w a<=smC h.c/\eS h.c (szA h.w a)=szA h.w a:=by have⟨m,j,r⟩:=f.1.pars hp;have e:=f.1.at_ hp;have q:=XN hp.conf e.rng;have:=hp.pages;have s:=(g.cl _ m q.2.1 ab j a r).1 k;exact⟨s,XoI hp.conf (XA h.w a).2.1 s⟩
def OR(hp:Uu h){a:Int}(f:Obb h a)(k:(pg h.p (pgi h.c a)).k=2):eS h.c (szA h.w a)=Xn h.c (pg h.p (pgi h.c a)).u*h.c.W/\a=Xc h.c (pgi h.c a) 0:=by have e:=f.1.at_ hp;have q:=XN hp.conf e.rng;have:=hp.pages;have l:=((hp.pgs _ q.2.1 ab).large k).1;have z:=e.large k;refine⟨?_,by rw[z.1]at q;exact q.1⟩;unfold eS;rw[z.2,Wj ab]
def GX.room(g:GX N h)(hp:Uu h){a x:Int}(r:Obb h a)(y:a<=x)(s:x<a+eS h.c (szA h.w a)):HeadP h (pgi h.c x) (pgi h.c a)/\x=Xc h.c (pgi h.c x) (pgo h.c x)/\0<=pgo h.c x/\pgo h.c x<h.c.W/\pgi h.c x<h.p.length:=by
 have e:=r.1.at_ hp;have A:=hp.pages;have hw:=hp.words;rcases e.kind with k|k
 .rw[(g.szs hp r k).2]at s;have⟨B,J,K⟩:=XbS hp e y s;have q:=XN (a:=x) hp.conf ab;exact⟨B,q.1,q.2.2.2.1,q.2.2.2.2,ab⟩
 have z:=OR hp r k;have q:=XN hp.conf e.rng;have v:=(hp.pgs _ q.2.1 ab).large k;generalize L:pgi h.c a=i at *;generalize M:Xn h.c (pg h.p i).u=n at *;have O:Xc h.c i 0=4096+i*h.c.W+0:=rfl;have D:i+n<=h.p.length:=by
  by_cases n1:n=1
  .omega
  have:=(v.2 (n-1) ab ab).1;omega
 have E:=WU (a:=i+n) (b:=h.c.p) (c:=h.c.W) ab ab;rw[UY]at E;have f:=XN (a:=x) hp.conf (by have:=e.rng;omega);generalize R:pgi h.c x=j at *;have G:∀o,Xc h.c j o=4096+j*h.c.W+o:=λ_=>rfl;rw[G]at f;have H:i<=j:=by apply Classical.byContradiction;intro I;have:=WU (a:=j+1) (b:=i) (c:=h.c.W) ab ab;rw[UY]at this;omega
 have S:j<i+n:=by apply Classical.byContradiction;intro I;have:=WU (a:=i+n) (b:=j) (c:=h.c.W) ab ab;rw[UY]at this;omega
 refine⟨⟨q.2.1,H,ab,λm T U=>?_⟩,by exact f.1,f.2.2.2.1,f.2.2.2.2,ab⟩;have:=(v.2 (m-i) ab ab).2;rwa[show i+(m-i)=m by omega]at this
def GX.own(g:GX N h)(hp:Uu h){a b x:Int}(f:Obb h a)(hb:Obb h b)(z:a<=x)(A:x<a+eS h.c (szA h.w a))(B:b<=x)(D:x<b+eS h.c (szA h.w b)):a=b:=by
 have E:=g.room hp f z A;have G:=g.room hp hb B D;have e:=E.1.fn G.1;have aa:=f.1.at_ hp;rcases aa.kind with k|k
 .have I:=(g.szs hp f k).2;have J:=(g.szs hp hb (by rw[←e];exact k)).2;have⟨m,r,H⟩:=f.1.pars hp;have⟨K,p,bm⟩:=hb.1.pars hp;rw[←e]at p;have q:=XN hp.conf aa.rng;have:=hp.pages;have:=r.fn (hp.pgs _ q.2.1 ab).kind p;subst this;have c:=(r.small k).pw;rw[W7]at c;have⟨i,s,u⟩:=Wt H;have⟨j,v,y⟩:=Wt bm;rcases Nat.lt_trichotomy i j with t|t|t
  .have:=c i j s v t;rw[u,y]at this;omega
  .subst t;omega
  have:=c j i v s t;rw[u,y]at this;omega
 have:=(OR hp f k).2;have:=(OR hp hb (by rw[←e];exact k)).2;grind
def GX.use(g:GX N h)(hp:Uu h){l:List Int}(y:l.Nodup)(j:∀a∈l,Obb h a):(l.map λa=>(eS h.c (szA h.w a)).toNat).sum<=h.p.countP XO*h.c.W.toNat:=by
 rw[JR,UR,←XoH (g:=λ_:Int=>h.c.W.toNat) (l:=(K2 0 h.p.length).filter λi=>XO (pg h.p i)) λ_ _=>rfl];refine XjR (f:=id) (f':=λi=>Xc h.c i 0) (g':=λ_=>h.c.W) ?_ λa u x k q=>?_
 .refine(List.pairwise_iff_forall_sublist.2 λ{a b} s x k q z A=>?_);have B:=Ow.1 (y.sublist s);have:=g.own hp (j a (s.subset ac)) (j b (s.subset ac)) k q z A;exact B.1 (by simp[this])
 have r:=g.room hp (j a u) k q;have v:∀o,Xc h.c (pgi h.c x) o=4096+pgi h.c x*h.c.W+o:=λ_=>rfl;refine⟨pgi h.c x,WV.2 ⟨Y7.2 ⟨by have:=r.1.1;have:=r.1.2.1;omega,ab⟩,?_⟩,by have:=r.2.1;rw[v]at this⊢;omega,by have:=r.2.1;rw[v]at this⊢;omega⟩;unfold XO;rw[bne_iff_ne];by_cases e:pgi h.c x=pgi h.c a
 .have:=((j a u).1.at_ hp).kind;rw[e];omega
 have:=r.1.2.2.2 (pgi h.c x) (by have:=r.1.2.1;omega) (Ut _);omega
def GX.cap(g:GX N h)(hp:Uu h)(j:((h.p.countP XO:Nat):Int)<=h.c.p / 4):Cap h:=by have k:=Xh.1 hp.conf;refine⟨λl e f=>UK (g.use hp e f) ?_,ab⟩;rw[Int.toNat_mul ab ab];exact Ub _ ab
def Cap.cong(c:Cap h){h2:Wi}(f:h2.c=h.c)(ob:∀b,Obb h2 b->Obb h b)(sz:∀b,Obb h b->szA h2.w b=szA h.w b)(us:h2.p.countP XO<=h.p.countP XO):Cap h2:=by refine⟨λl j g=>?_,by have:=c.b;rw[f];omega⟩;have:=c.a l j λa e=>ob a (g a e);rw[f,U1 λa e=>by rw[sz a (ob a (g a e))]];exact this
def Xdb{ps qs:List Wo}(g:qs.length=ps.length){j:Int}{k:Nat}(hb:∀i:Int,0<=i->i<ps.length->(pg qs i).k≠0->(pg ps i).k≠0\/j<=i/\i<j+k):qs.countP XO<=ps.countP XO+k:=by
 rw[JR,JR,g];have:=Xq7 (l:=K2 0 ps.length) (p:=λi=>XO (pg qs i)) (q:=λi=>XO (pg ps i)) (r:=λi=>decide (j<=i/\i<j+k)) (s:=λ_=>false) λi f e=>by
  rw[Y7]at f;unfold XO at e⊢;rw[bne_iff_ne]at e;rcases hb i f.1 ab e with h|h
  .left;rw[bne_iff_ne];exact h
  right;left;exact We h
 have c1:(K2 0 ps.length).countP (λi=>decide (j<=i/\i<j+k))<=k:=by rw[UR];have:=JE (m:=K2 j k) ((XaR 0 ps.length).filter λi=>decide (j<=i/\i<j+k)) λx u=>Y7.2 (by simpa using(WV.1 u).2);rw[Vj]at this;omega
 rw[List.countP_false,Function.const_apply]at this;omega
def Xk0{β:Type}{c:WN}(E:XR c=true){X:List Int}{u:Int->Int}{m:List β}{f' g':β->Int}{L:Nat}(z:X.Nodup)(k:∀i∈X,0<=u i/\u i<=c.W/\3*c.W<4*u i)(A:∀i∈X,∀x,Xc c i 0<=x->x<Xc c i (u i)->∃b∈m,f' b<=x/\x<f' b+g' b)(G:(m.map λb=>(g' b).toNat).sum<=L*c.W.toNat):3*X.length<=4*L/\(X≠[]->3*X.length<4*L):=by
 have p:∀i o,Xc c i o=4096+i*c.W+o:=λ_ _=>rfl;have w:=XjR (l:=X) (m:=m) (f:=λi=>Xc c i 0) (g:=u) (f':=f') (g':=g') ?_ λi q x a b=>A i q x a (by have:=p i (u i);have:=p i 0;omega)
 .have r:=XoG (l:=X) (g:=λi=>(u i).toNat*4) (c:=3*c.W.toNat+1) λi q=>by have:=k i q;omega
  have s:∀l:List Int,(l.map λi=>(u i).toNat*4).sum=(l.map λi=>(u i).toNat).sum*4:=λl=>by
   induction l with
   |nil=>rfl
   |cons a l B=>simp only[UA,List.sum_cons,B];omega
  rw[s]at r;have y:X.length*(3*c.W.toNat+1)<=(L*c.W.toNat)*4:=ab;have e:X.length*(3*c.W.toNat+1)=(3*X.length)*c.W.toNat+X.length:=by rw[Nat.mul_add,Nat.mul_one,Ox 3 X.length,Nat.mul_assoc]
  have H:L*c.W.toNat*4=(4*L)*c.W.toNat:=by rw[Ox _ 4,Nat.mul_assoc]
  have v:X≠[]->3*X.length<4*L:=λj=>by have:0<X.length:=List.length_pos_iff.2 j;exact Nat.lt_of_mul_lt_mul_right (a:=c.W.toNat) ab
  by_cases j:X=[]
  .simp[j]
  have:=v j;omega
 refine z.imp_of_mem λ{a b} D hb j x w r s y=>?_;have I:=k a D;have J:=k b hb;rw[p]at w r s y;rcases Int.lt_or_gt_of_ne j with t|t
 .have:=WU (a:=a+1) (b:=b) (c:=c.W) ab ab;rw[UY]at this;omega
 have:=WU (a:=b+1) (b:=a) (c:=c.W) ab ab;rw[UY]at this;omega
end
def rel(M:List (Int×Int))(v e:Int):Prop:=(v=0/\e=0)\/(v,e)∈M
def cpy(h:Wi)(a:Int):Prop:=(pg h.p (pgi h.c a)).k=1/\¬(pg h.p (pgi h.c a)).P>0
def CM(h:Wi)(M:List (Int×Int)):Int->List Int->Int->Prop
 |p,[],q=>p=q
 |p,b::l,q=>b=p/\∃a,(a,b)∈M/\cpy h a/\CM h M (p+szA h.w a) l q
def CM.mono{h:Wi}{M M':List (Int×Int)}(f:∀p∈M,p∈M'):∀{l:List Int} {p q:Int},CM h M p l q->CM h M' p l q
 |[],_,_,e=>e
 |b::l,_,_,⟨e,a,g,j,k⟩=>⟨e,a,f _ g,j,k.mono f⟩
def CM.snoc{h:Wi}{M:List (Int×Int)}{a:Int}:∀{l:List Int} {p q:Int},CM h M p l q->(a,q)∈M->cpy h a->CM h M p (l++[q]) (q+szA h.w a)
 |[],p,q,e,f,g=>by subst e;exact⟨rfl,a,f,g,rfl⟩
 |b::l,_,_,⟨e,x,f,g,j⟩,g1,g2=>⟨e,x,f,g,j.snoc g1 g2⟩
def Xae(w:Wv):Int:=match w.t.getLast? with
 |none=>0
 |some i=>(pg w.h.p i).u
def Xer{w w':Wv}(e3:w'.t=w.t)(hp:∀i∈w.t,(pg w'.h.p i).u=(pg w.h.p i).u):Xae w'=Xae w:=by
 unfold Xae;rw[e3];cases e:w.t.getLast? with
 |none=>rfl
 |some i=>exact hp i (On e)
def Xdc{h:Wi}{a:Int}:cpB h a=true↔cpy h a:=by simp[cpB,cpy]
structure JX(N:Nat)(h0:Wi)(S:List Int)(P:Int->Prop)(w:Wv)(M:List (Int×Int))(D:Int->Prop):Prop where
 ci:CI h0 S w
 ss:SpanS h0.c h0.p w.h.p
 tu:∀x∈w.h.w,tU x
 ol:w.o=Yc h0 S
 q:w.q=M.map (·.2)
 l:∀p∈M,Obb h0 p.1/\P p.1
 n1:(M.map (·.1)).Nodup
 k:∀p∈M,(p.2=p.1/\¬cpy h0 p.1)\/(cpy h0 p.1/\wd w.h.w p.1=wU (wU (4*p.2)+2)/\∃i∈w.t,Xc h0.c i 0<=p.2/\p.2+szA h0.w p.1<=Xc h0.c i (pg w.h.p i).u)
 hd:∀p∈M,wd w.h.w p.2=wd h0.w p.1
 fl:∀p∈M,∀j,0<=j->j<(hdA h0.w p.1).n->(¬D (p.2+1+j)->wd w.h.w (p.2+1+j)=wd h0.w (p.1+1+j))/\(D (p.2+1+j)->rel M (wd h0.w (p.1+1+j)) (wd w.h.w (p.2+1+j)))
 o:∀x,4096<=x->(∀p∈M,x≠p.1/\¬(p.2<=x/\x<p.2+szA h0.w p.1))->wd w.h.w x=wd h0.w x
 d:∀x,D x->∃p∈M,p.2<x/\x<p.2+szA h0.w p.1
 t:∀i∈w.t,(pg h0.p i).k=0/\(pg w.h.p i).P=0/\(pg w.h.p i).s=1-h0.s/\∃l,CM h0 M (Xc h0.c i 0) l (Xc h0.c i (pg w.h.p i).u)
 pgs:∀i,0<=i->i<(h0.p.length:Int)->i∉w.t->(pg w.h.p i).k=(pg h0.p i).k/\(pg w.h.p i).u=(pg h0.p i).u/\(pg w.h.p i).P=(pg h0.p i).P/\((pg h0.p i).k=1->(pg w.h.p i).s=if(pg h0.p i).P>0 then 1-h0.s else h0.s)/\((pg h0.p i).k=2->(pg w.h.p i).s=if Xc h0.c i 0∈M.map (·.1)then 1-h0.s else h0.s)/\((pg h0.p i).k=0->pg w.h.p i=pg h0.p i)
 pk:JG h0 (M.map (·.1))=(w.t.length,Xae w)
 fu:∀i∈w.t.dropLast,3*h0.c.W<4*(pg w.h.p i).u
section
variable {N:Nat}{h0:Wi}{S:List Int}{P:Int->Prop}
structure BX(N:Nat)(h0:Wi)(S:List Int):Prop where
 gx:GX N h0
 st:Start N h0 S
 mS:∀a,a∈S↔Stt h0 a
 hp:Uu h0
 cp:Cap h0
def XrU(hN:NB N){w:Wv}(r:w.t.length<=100000)(i:Int):∃b,QbX N w i=some b/\(b=true↔Prm w i):=by
 unfold NB at hN;rw[QbX];by_cases g:i<0
 .rw[We g];exact⟨false,rfl,(λe=>by grind),λp=>by have:=p.1.1;omega⟩
 by_cases q:i>=(w.h.p.length:Int)
 .rw[Wg g,We q];exact⟨false,rfl,(λe=>by grind),λp=>by have:=p.1.2;omega⟩
 rw[Wg g,Wg q,Wa,Wa,Xo ab ab,Xa];by_cases f:(pg w.h.p i).k=1;rotate_left
 .rw[Xk f];exact⟨false,rfl,(λe=>by grind),λp=>absurd p.2.1 f⟩
 by_cases j:(pg w.h.p i).s=w.h.s
 .rw[Xr f,show((pg w.h.p i).s != w.h.s)=false by simp_all];exact⟨false,rfl,(λe=>by grind),λp=>absurd j p.2.2.1⟩
 rw[Xr f,Xl j,Wc,Wc,XfK w i ab ab,Xa];refine⟨_,rfl,?_⟩;rw[Ic];exact⟨λe=>⟨⟨ab,ab⟩,f,j,YC e⟩,λp=>by rw[←I7,UN];exact p.2.2.2⟩
def BX.at_(B:BX N h0 S){a:Int}(h:Obb h0 a):II h0 a/\a∈S/\0<=pgi h0.c a/\pgi h0.c a<h0.p.length/\4096<=a:=by have e:=h.1.at_ B.hp;have q:=XN B.hp.conf e.rng;have:=B.hp.pages;exact⟨e,(B.mS a).2 h.1,q.2.1,ab,e.rng.1⟩
variable {w:Wv}{M:List (Int×Int)}{D:Int->Prop}
def Ju{ws e:List Int}{a b:Int}(h:wd ws a=wd e b):szA ws a=szA e b:=by unfold szA hdA;rw[h]
def JX.geo(J:JX N h0 S P w M D){O:Int->Prop}{s:Int->Int}(e:OF h0 S w O s){p:Int×Int}(hp:p∈M):O p.2/\szA h0.w p.1<=s p.2:=by have f:=e.queue p.2 (by rw[J.q];exact WI.2 ⟨p,hp,rfl⟩);have g:=(e.fit p.2 f).2.2.2;rw[Ju (J.hd p hp)]at g;simp_all
def JX.tk(J:JX N h0 S P w M D)(B:BX N h0 S){i:Int}(e:i∈w.t):0<=i/\i<h0.p.length/\(pg w.h.p i).k=1/\0<=(pg w.h.p i).u/\(pg w.h.p i).u<=h0.c.W:=by have f:=J.ci.tk i e;have g:=J.ci.plen;omega
def JX.q_old(J:JX N h0 S P w M D)(B:BX N h0 S){a:Int}(j:Obb h0 a){p:Int×Int}(hp:p∈M)(e:p.2=a):p=(a,a):=by
 rcases J.k p hp with⟨k,_⟩|⟨_,_,i,g,k1,k2⟩
 .grind
 have t:=J.tk B g;have r:=(XA h0.w p.1).2.1;have f:=(B.at_ j).1;have s:Xc h0.c i 0=4096+i*h0.c.W+0:=rfl;have v:Xc h0.c i (pg w.h.p i).u=4096+i*h0.c.W+(pg w.h.p i).u:=rfl;have:=(Yb (c:=h0.c) B.hp.conf (p:=i) (o:=a-Xc h0.c i 0) ab ab).1;rw[show Xc h0.c i (a-Xc h0.c i 0)=a by unfold Xc;omega]at this;have q:=f.kind;rw[this]at q;have:=(J.t i g).1;omega
def JX.fn(J:JX N h0 S P w M D){p q:Int×Int}(hp:p∈M)(f:q∈M)(e:p.1=q.1):p=q:=by have h:=J.n1;rw[List.Nodup,ID,W7]at h;obtain⟨i,g,rfl⟩:=Wt hp;obtain⟨j,k,rfl⟩:=Wt f;grind
def JX.inj(J:JX N h0 S P w M D){p q:Int×Int}(hp:p∈M)(f:q∈M)(e:p.2=q.2):p=q:=by have h:=J.ci.qnd;rw[J.q,List.Nodup,ID,W7]at h;obtain⟨i,g,rfl⟩:=Wt hp;obtain⟨j,k,rfl⟩:=Wt f;grind
def JX.same(J:JX N h0 S P w M D)(B:BX N h0 S){a:Int}(j:Obb h0 a)(q:a∉M.map (·.1)){x:Int}(y:a<=x)(h2:x<a+szA h0.w a):wd w.h.w x=wd h0.w x:=by
 have⟨O,s,f⟩:=J.ci.obj;have r:=B.at_ j;have k:=f.old a r.2.1;refine J.o x ab λp hp=>?_;have g:=J.geo f hp;have u:=B.at_ (J.l p hp).1;have ol:=f.old p.1 u.2.1;have n1:p.1≠a:=λe=>q (WI.2 ⟨p,hp,e⟩);have n2:p.2≠a:=λe=>by have:=J.q_old B j hp e;exact n1 (by rw[this])
 have z:=f.apart p.1 a ol.1 k.1 n1;have A:=f.apart p.2 a g.1 k.1 n2;have:=(XA h0.w p.1).2.1;omega
def JX.prm(J:JX N h0 S P w M D)(B:BX N h0 S){a:Int}(g:Obb h0 a):pgi h0.c a∉w.t/\(Prm w (pgi h0.c a)↔(pg h0.p (pgi h0.c a)).k=1/\(pg h0.p (pgi h0.c a)).P>0):=by
 have f:=B.at_ g;have r:=f.1.kind;have e:pgi h0.c a∉w.t:=λh=>by have:=(J.t _ h).1;omega
 have p:=J.pgs _ f.2.2.1 f.2.2.2.1 e;have j:=J.ci.plen;refine⟨e,λq=>?_,λq=>?_⟩
 .have k1:(pg h0.p (pgi h0.c a)).k=1:=by rw[←p.1];exact q.2.1
  have:=q.2.2.1;rw[p.2.2.2.1 k1,J.ci.spc]at this;omega
 refine⟨⟨f.2.2.1,ab⟩,ab,?_,e⟩;rw[p.2.2.2.1 q.1,J.ci.spc,Wm q.2];omega
def JX.keep(J:JX N h0 S P w M D)(B:BX N h0 S){a:Int}(K:Obb h0 a)(hP:P a)(T:a∉M.map (·.1))(hc:¬cpy h0 a){z:List Wo}(hs:SpanS h0.c h0.p z)(hq:∀i,0<=i->i<(h0.p.length:Int)->(i≠pgi h0.c a\/(pg h0.p i).k≠2)->(pg h0.p i).k≠3->pg z i=pg w.h.p i)(h3:∀i,0<=i->i<(h0.p.length:Int)->i∉w.t->(pg z i).k=(pg h0.p i).k/\(pg z i).u=(pg h0.p i).u/\(pg z i).P=(pg h0.p i).P)(U:(pg h0.p (pgi h0.c a)).k=2->(pg z (pgi h0.c a)).s=1-h0.s){w':Wv}(E:w'.h.p=z)(G:w'.h.w=w.h.w)(e3:w'.t=w.t)(e4:w'.q=w.q++[a])(e5:w'.o=w.o)(ci:CI h0 S w'):JX N h0 S P w' (M++[(a,a)]) D:=by
 have⟨O,s,V⟩:=J.ci.obj;have W:=B.at_ K;have oa:=V.old a W.2.1;have Y:∀p∈M,p∈M++[(a,a)]:=λp hp=>WW _ hp;have pt:∀i∈w.t,pg z i=pg w.h.p i:=λi r=>by have t:=J.tk B r;have:=(J.t i r).1;simp_all
 refine⟨ci,by simp_all,by rw[G];exact J.tu,by rw[e5];exact J.ol,?_,λp hp=>?_,?_,λp hp=>?_,λp hp=>?_,λp hp j j0 Z=>?_,λx h0x L=>?_,λx L=>?_,λi r=>?_,λi H R r=>?_,by rw[UG,UA,In,Xmr (by simpa usingλe=>hc (Xdc.1 e)),J.pk,e3,Xer e3 λi r=>by rw[E,pt i r]],λi r=>by rw[e3]at r;rw[E,pt i ((List.dropLast_sublist _).subset r)];exact J.fu i r⟩
 .simp[e4,J.q,UG]
 .rcases Wr.1 hp with hp|hp
  .exact J.l p hp
  simp_all
 .rw[UG,US];refine⟨J.n1,ac,λx L y hy e=>?_⟩;simp_all
 .rw[E,G,e3];rcases Wr.1 hp with hp|hp
  .rcases J.k p hp with k|⟨k1,k2,i,r,k3⟩
   .exact .inl k
   exact .inr ⟨k1,k2,i,r,by rw[pt i r];exact k3⟩
  simp_all
 .rw[G];rcases Wr.1 hp with hp|hp
  .exact J.hd p hp
  rw[W9.1 hp];exact J.same B K T (Ut _) (by have:=(XA h0.w a).2.1;omega)
 .rw[G];rcases Wr.1 hp with hp|hp
  .have f:=J.fl p hp j j0 Z;exact⟨f.1,λh=>(f.2 h).imp id (Y _)⟩
  rw[W9.1 hp]at Z⊢;refine⟨λ_=>J.same B K T ab (by unfold szA;dsimp only at Z;omega),λh=>?_⟩;have⟨p',A,d1,d2⟩:=J.d _ h;have g:=J.geo V A;have n2:p'.2≠a:=λe=>T (by have:=J.q_old B K A e;exact WI.2 ⟨p',A,by rw[this]⟩);have a2:=V.apart p'.2 a g.1 oa.1 n2;have:szA h0.w a=(hdA h0.w a).n+1:=rfl;grind
 .rw[G];exact J.o x h0x λp hp=>L p (Y p hp)
 .have⟨p,hp,h⟩:=J.d x L;grind
 .rw[e3]at r;have t:=J.t i r;have⟨l,U⟩:=t.2.2.2;rw[E,pt i r];exact⟨t.1,t.2.1,t.2.2.1,l,U.mono Y⟩
 rw[e3]at r;have p:=J.pgs i H R r;have p3:=h3 i H R r;rw[E];refine⟨p3.1,p3.2.1,p3.2.2,λk1=>?_,λk2=>?_,λk0=>?_⟩
 .rw[hq i H R (.inr ab) ab];exact p.2.2.2.1 k1
 .have lg:∀I,0<=I->Xc h0.c I 0=a->I=pgi h0.c a:=λI h e=>by have hv:=Xh.1 B.hp.conf;have:=(Yb (c:=h0.c) B.hp.conf (p:=I) (o:=0) ab ab).1;rw[←this,e]
  by_cases v:i=pgi h0.c a
  .rw[v,U (by rw[←v];exact k2),Wm];have:=(W.1.large (by rw[←v];exact k2)).1;have e:=(XN B.hp.conf W.1.rng).1;rw[this]at e;rw[←e];simp
  rw[hq i H R (.inl v) ab,p.2.2.2.2.1 k2];congr 1;rw[UG,Wr];apply propext;refine⟨.inl,λh=>?_⟩;rcases h with h|h
  .exact h
  simp at h;exact absurd (lg i H h) v
 simp_all
end
section
variable {N:Nat}{h0:Wi}{S:List Int}{P:Int->Prop}{w:Wv}{M:List (Int×Int)}{D:Int->Prop}
def JX.full(J:JX N h0 S P w M D)(B:BX N h0 S){n:Int}(q:Xfr h0 w n)(g:n<=smC h0.c):∀i∈w.t,3*h0.c.W<4*(pg w.h.p i).u:=λi f=>by
 unfold smC at g;rw[Wm B.hp.conf]at g;cases e:w.t.getLast? with
 |none=>rw[List.getLast?_eq_none_iff]at e;rw[e]at f;cases f
 |some l=>
  have r:=q l e;have⟨s,j⟩:=List.getLast?_eq_some_iff.1 e;have k:=J.fu i;rw[j,List.dropLast_concat]at k;rw[j]at f;rcases Wr.1 f with f|f
  .exact k f
  rw[W9.1 f];omega
def CM.cvr{h:Wi}{M:List (Int×Int)}:∀{l:List Int} {p q x:Int},CM h M p l q->p<=x->x<q->∃y∈M,cpy h y.1/\y.2<=x/\x<y.2+szA h.w y.1
 |[],p,q,x,e,f,g=>by have:p=q:=e;omega
 |b::l,p,q,x,⟨e,a,f,g,j⟩,g1,g2=>by
  by_cases k:x<p+szA h.w a
  .exact⟨(a,b),f,g,ab,by show x<b+szA h.w a;omega⟩
  exact j.cvr ab g2
def JX.room(J:JX N h0 S P w M D)(B:BX N h0 S){n:Int}(g:Xfr h0 w n)(v:n<=smC h0.c)(z:∀j:Int,0<=j->j<w.h.p.length->(pg w.h.p j).k≠0):False:=by
 have V:=Xh.1 B.hp.conf;have E:=B.hp.pages;have G:=J.ci.plen;have A:=B.cp.a (M.map (·.1)) J.n1 λa H=>by obtain⟨p,hp,rfl⟩:=WI.1 H;exact(J.l p hp).1
 rw[Iy,Int.toNat_mul ab ab]at A;have F:=Xk0 (c:=h0.c) B.hp.conf (X:=w.t) (u:=λi=>(pg w.h.p i).u) (m:=M) (f':=λp=>p.2) (g':=λp=>eS h0.c (szA h0.w p.1)) J.ci.tnd (λi e=>by have:=J.tk B e;exact⟨this.2.2.2.1,this.2.2.2.2,J.full B g v i e⟩) (λi e x I K=>by
  have⟨_,L⟩:=(J.t i e).2.2.2
  have⟨y,f,O,R,T⟩:=L.cvr I K
  exact⟨y,f,R,by rw[(B.gx.szs B.hp (J.l y f).1 O.1).2];exact T⟩) A
 have hb:=B.cp.b;have c:=Xq7 (l:=K2 0 h0.p.length) (p:=λ_=>true) (q:=λi=>XO (pg h0.p i)) (r:=λi=>decide (i∈w.t)) (s:=λ_=>false) λi e _=>by
  rw[Y7]at e;by_cases h:i∈w.t
  .simp[h]
  have:=(J.pgs i e.1 ab h).1;have:=z i e.1 ab;unfold XO;rw[bne_iff_ne];omega
 have W:(K2 0 h0.p.length).countP (λi=>decide (i∈w.t))<=w.t.length:=by rw[UR];exact JE ((XaR _ _).filter _) λx U=>by simpa using(WV.1 U).2
 rw[←JR]at c;rw[List.countP_true,List.countP_false,Function.const_apply,Vj]at c;by_cases ht:w.t=[]
 .have:w.t.length=0:=by rw[ht];rfl
  omega
 have:=F.2 ht;omega
def JX.copy(J:JX N h0 S P w M D)(B:BX N h0 S){a:Int}(ha:Obb h0 a)(hP:P a)(I:a∉M.map (·.1))(R:cpy h0 a){w1:Wv}{n at_ j u:Int}(en:n=szA h0.w a)(v:OO h0 w n w1 at_ j u)(hs:SpanS h0.c h0.p w1.h.p){w':Wv}(U:w'.h.p=w1.h.p)(e2:w'.h.w=(ovr w.h.w ((w.h.w.drop (ix a)).take n.toNat) (ix at_)).set (ix a) (wU (wU (4*at_)+2)))(e3:w'.t=w1.t)(e4:w'.q=w.q++[at_])(e5:w'.o=w.o)(ci:CI h0 S w'):JX N h0 S P w' (M++[(a,at_)]) D/\4096<=at_:=by
 obtain⟨O,s,G⟩:=J.ci.obj;have hA:=B.at_ ha;have oa:=G.old a hA.2.1;have mm:∀p∈M,p∈M++[(a,at_)]:=λp hp=>WW _ hp;have K:∀x,a<=x->x<a+n->wd w.h.w x=wd h0.w x:=λx h1 h2=>J.same B ha I h1 ab;have hz:=(XA h0.w a).2;have en':n=szA w.h.w a:=by rw[en];exact(Ju (K a (Ut _) ab)).symm
 obtain⟨i1,i2,away,fresh,aw2,hwd⟩:=Xgs B.hp J.ci G hA.2.1 en' ab v (wU (wU (4*at_)+2));have h2:∀x,4096<=x->wd w'.h.w x=if x=a then wU (wU (4*at_)+2)else if at_<=x/\x<at_+n then wd w.h.w (a+(x-at_))else wd w.h.w x:=λx z=>by simp_all
 have ef:=G.fit a oa.1;have hpl:=J.ci.plen;have hpl0:=B.hp.pages;have hwl:=J.ci.wlen;have hw0:=B.hp.words;have r:=v.rng;have hm:=XE B.hp.conf (i:=j) r.1 ab;have hat0:at_=4096+j*h0.c.W+u:=v.addr;have hft:=v.fit;have nea:a≠at_:=λe=>fresh (e▸oa.1);have rgn:∀x,O x->∀y,x<=y->y<x+s x->¬(at_<=y/\y<at_+n):=λx z y h1 h2=>by grind
 have H:∀x,O x->∀y,x<=y->y<x+s x->y≠a->wd w'.h.w y=wd w.h.w y:=λx z y h1 h2' h3=>by have:=G.fit x z;grind
 have nq:∀p∈M,p.2≠a:=λp hp e=>I (by have:=J.q_old B ha hp e;simp_all);have np:∀p∈M,p.1≠a:=λp hp e=>I (WI.2 ⟨p,hp,e⟩);have nra:∀p∈M,∀y,p.2<=y->y<p.2+szA h0.w p.1->y≠a:=λp hp y h1 h2' e=>by have g:=J.geo G hp;have:=G.apart p.2 a g.1 oa.1 (nq p hp);omega
 have hcopy:∀d,1<=d->d<n->wd w'.h.w (at_+d)=wd h0.w (a+d):=λd d1 d2=>by grind
 have hj:∀i∈w1.t,i=j\/i∈w.t/\i≠j:=λi A=>by
  by_cases E:i=j
  .omega
  right;refine⟨?_,E⟩;rcases v.way with⟨_,g2,_⟩|⟨_,g2,_⟩
  .rwa[g2]at A
  simp_all
 have V:j∈w1.t:=by
  rcases v.way with⟨g1,g2,_⟩|⟨_,g2,_⟩
  .simp_all
  simp_all
 have Y:∀i∈w.t,i∈w1.t:=λi A=>by
  rcases v.way with⟨_,g2,_⟩|⟨_,g2,_⟩
  .rw[g2];exact A
  simp_all
 have L:=v.this;have Z:=v.sp;refine⟨⟨ci,by simp_all,?_,by rw[e5];exact J.ol,?_,λp hp=>?_,?_,λp hp=>?_,λp hp=>?_,λp hp k k0 k1=>?_,λx h0x z=>?_,λx z=>?_,λi A=>?_,λi i0 i1 A=>?_,?_,λi A=>?_⟩,ab⟩
 .intro x z;rw[e2]at z;rcases WZ z with z|z
  .unfold ovr at z;simp only[Wr]at z;rcases z with(z|z)|z
   .exact J.tu x (WR z)
   .exact J.tu x (WS (WR z))
   exact J.tu x (WS z)
  simp_all
 .simp[e4,J.q,UG]
 .rcases Wr.1 hp with hp|hp
  .exact J.l p hp
  simp_all
 .rw[UG,US];refine⟨J.n1,ac,λx z y hy e=>?_⟩;grind
 .rw[U,e3];rcases Wr.1 hp with hp|hp
  .rcases J.k p hp with k|⟨k1,k2,i,A,k3,k4⟩
   .simp_all
   refine .inr ⟨k1,?_,i,Y i A,k3,?_⟩
   .have hp1:=B.at_ (J.l p hp).1;have op:=G.old p.1 hp1.2.1;rw[H p.1 op.1 p.1 (Ut _) (by have:=(G.fit p.1 op.1).2.1;omega) (np p hp)];omega
   have t:=J.tk B A;by_cases E:i=j
   .subst E;rw[L.2];rcases v.way with⟨_,_,g⟩|⟨g,_,_⟩
    .have e5':Xc h0.c i (pg w.h.p i).u=4096+i*h0.c.W+(pg w.h.p i).u:=rfl;have e6:Xc h0.c i (u+n)=4096+i*h0.c.W+(u+n):=rfl;omega
    omega
   rw[v.other i t.1 E];omega
  rw[W9.1 hp];refine .inr ⟨R,by simp_all,j,V,?_,?_⟩
  .have e7:Xc h0.c j 0=4096+j*h0.c.W+0:=rfl;omega
  have e6:Xc h0.c j (u+n)=4096+j*h0.c.W+(u+n):=rfl;grind
 .rcases Wr.1 hp with hp|hp
  .have g:=J.geo G hp;have:=(XA h0.w p.1).2.1;rw[H p.2 g.1 p.2 (Ut _) ab (nq p hp)];exact J.hd p hp
  grind
 .rcases Wr.1 hp with hp|hp
  .have f:=J.fl p hp k k0 k1;have g:=J.geo G hp;have ez:szA h0.w p.1=(hdA h0.w p.1).n+1:=rfl;rw[H p.2 g.1 (p.2+1+k) ab ab (nra p hp _ ab ab)];exact⟨f.1,λh=>(f.2 h).imp id (mm _)⟩
  rw[W9.1 hp]at k1⊢;dsimp only at k1⊢;have ez:szA h0.w a=(hdA h0.w a).n+1:=rfl;refine⟨λ_=>?_,λh=>?_⟩
  .grind
  have⟨p',hp',d1,d2⟩:=J.d _ h;have g:=J.geo G hp';have:=aw2 p'.2 g.1;omega
 .have hx':=z (a,at_) ac;dsimp only at hx';rw[h2 x h0x,Wj hx'.1,Wj ab];exact J.o x h0x λp hp=>z p (mm p hp)
 .have⟨p,hp,h⟩:=J.d x z;grind
 .rw[e3]at A;rw[U];rcases hj i A with rfl|⟨hi1,hi2⟩
  .rw[L.2];have ea:Xc h0.c i (u+n)=at_+szA h0.w a:=by rw[v.addr,←en];unfold Xc;omega
   rw[ea];have mem:(a,at_)∈M++[(a,at_)]:=by simp
   rcases v.way with⟨g1,g2,g3⟩|⟨g1,g2,g3⟩
   .have t:=J.t i g1;have⟨l,T⟩:=t.2.2.2;have T:=(T.mono mm)
    rw[←g3,←v.addr]at T;have sp:(pg w1.h.p i).P=0/\(pg w1.h.p i).s=1-h0.s:=by
     rcases Z with⟨_,s1,s2⟩|⟨s1,s2⟩
     .omega
     simp[s1,s2,J.ci.spc]
    exact⟨t.1,sp.1,sp.2,l++[at_],T.snoc mem R⟩
   have hnt:i∉w.t:=λh=>by have:=(J.ci.tk i h).2.2.1;omega
   have k0:=(J.pgs i r.1 ab hnt).1;have sp:(pg w1.h.p i).P=0/\(pg w1.h.p i).s=1-h0.s:=by
    rcases Z with⟨s0,_⟩|⟨s1,s2⟩
    .simp_all
    simp[s1,s2,J.ci.spc]
   refine⟨ab,sp.1,sp.2,[at_],?_,a,mem,R,?_⟩
   .rw[v.addr,g3]
   show Xc h0.c i 0+szA h0.w a=_;rw[v.addr,g3]
  have t:=J.t i hi1;have t':=J.tk B hi1;have⟨l,T⟩:=t.2.2.2;rw[v.other i t'.1 hi2];exact⟨t.1,t.2.1,t.2.2.1,l,T.mono mm⟩
 .rw[e3]at A;have E:i≠j:=λe=>A (e▸V);have p:=J.pgs i i0 i1 λh=>A (Y i h);rw[U,v.other i i0 E];refine⟨p.1,p.2.1,p.2.2.1,p.2.2.2.1,λk2=>?_,p.2.2.2.2.2⟩;rw[p.2.2.2.2.1 k2];congr 1;rw[UG,Wr];apply propext;refine⟨.inl,λh=>?_⟩;rcases h with h|h
  .omega
  simp at h;have:=(Yb (c:=h0.c) B.hp.conf (p:=i) (o:=0) ab ab).1;rw[h]at this;rw[←this]at k2;have:=R.1;omega
 .rw[UG,UA,In,Xms (Xdc.2 R),J.pk,e3,←en];have hu:Xae w'=(pg w1.h.p j).u:=by
   unfold Xae;rw[e3,U];rcases v.lst with⟨g1,g2⟩|⟨g1,_⟩
   .rw[g1,g2]
   rw[g1,List.getLast?_concat]
  rw[hu,L.2];rcases v.lst with⟨g1,g2⟩|⟨g1,g2⟩
  .have hne:=List.length_pos_of_mem (On g2);have eu:Xae w=u:=by
    unfold Xae;rw[g2];rcases v.way with⟨_,_,g⟩|⟨_,g,_⟩
    .exact g.symm
    rw[g1]at g;have:=congrArg List.length g;simp at this
   rw[g1,eu];unfold pk1;rw[Wm ⟨ab,ab⟩]
  have u0:u=0:=by
   rcases v.way with⟨_,g,_⟩|⟨_,_,g⟩
   .rw[g1]at g;have:=congrArg List.length g;simp at this
   exact g
  unfold pk1;rw[Wj,g1,u0]
  .simp
  rintro⟨k1,k2⟩;unfold Xae at k2;cases e:w.t.getLast? with
  |none=>rw[List.getLast?_eq_none_iff]at e;simp[e]at k1
  |some l=>have:=g2 l e;rw[e]at k2;dsimp only at k2;omega
 rw[e3]at A;rw[U];rcases v.lst with⟨g1,g2⟩|⟨g1,g2⟩
 .rw[g1]at A;have⟨ys,ey⟩:=List.getLast?_eq_some_iff.1 g2;have I:=J.ci.tnd;rw[ey,US]at I;have hy:=A;rw[ey,List.dropLast_concat]at hy;have t:=J.tk B ((List.dropLast_sublist _).subset A);rw[v.other i t.1 (I.2.2 i hy j ac)];exact J.fu i A
 have I:=ci.tnd;rw[e3,g1,US]at I;rw[g1,List.dropLast_concat]at A;have t:=J.tk B A;rw[v.other i t.1 (I.2.2 i A j ac)];exact J.full B g2 (by rw[en];exact(B.gx.szs B.hp ha R.1).1) i A
end
section
variable {N:Nat}{h0:Wi}{S:List Int}{P:Int->Prop}{w:Wv}{M:List (Int×Int)}{D:Int->Prop}
def JH{M:List (Int×Int)}{a:Int}(h:a∈M.map (·.1)):∃b,(a,b)∈M:=by simp_all
def Xq8{M:List (Int×Int)}{a b:Int}(h:(a,b)∈M):a∈M.map (·.1):=WI.2 ⟨(a,b),h,rfl⟩
def JX.rng(J:JX N h0 S P w M D)(B:BX N h0 S){p:Int×Int}(hp:p∈M):4096<=p.2/\p.2<=100000:=by have⟨O,s,e⟩:=J.ci.obj;have g:=e.fit _ (J.geo e hp).1;have:=J.ci.wlen;have hw:=B.hp.words;have f:=Xh.1 B.hp.conf;have j:=XE B.hp.conf (i:=0) ab ab;omega
def XrV(hN:NB N)(B:BX N h0 S)(J:JX N h0 S P w M D){a:Int}(A:a=0\/Obb h0 a/\P a):Ok (QaH N w a) λr=>r.2.2=0/\∃M',JX N h0 S P r.1 M' D/\(∃t,M'=M++t)/\rel M' a r.2.1/\r.1.d=w.d/\M'.map (·.1)=ad1 (M.map (·.1)) a:=by
 have hN':=hN;unfold NB at hN';have Z:=B.st;have hb:=Z.hb;have hp:=B.hp;have g:=J.ci;have⟨O,s,ho⟩:=J.ci.obj;have⟨r,er,hr⟩:=Xbc hN Z g ho a;suffices main:Ok (QaH N w a) λr=>r.2.2=0/\(CI h0 S r.1->∃M',JX N h0 S P r.1 M' D/\(∃t,M'=M++t)/\rel M' a r.2.1/\M'.map (·.1)=ad1 (M.map (·.1)) a) by obtain⟨r',er',h⟩:=main;rw[er]at er';obtain rfl:=Wz er';refine⟨r,er,?_⟩;obtain⟨h1,h2⟩:=h;obtain⟨M',m1,m2,m3,m4⟩:=h2 (hr h1).ci;exact⟨h1,M',m1,m2,m3,(hr h1).sc,m4⟩
 have hql:=g.ql hb;have hwl:=g.wl hb;have hww:=g.wlen;have hpl:=g.plen;have hb2:=hb.2;rw[QaH];by_cases I:a=0
 .rw[Xr I,Wc];exact Wd (⟨rfl,λ_=>⟨M,J,⟨[],ac⟩,.inl ⟨I,I⟩,(ZX (.inl I)).symm⟩⟩)
 have⟨A,hP⟩:=A.resolve_left I;have E:=B.at_ A;have K:=E.1;rw[Xk I,Wa,X0 a ab ab,Xa];cases hq:w.q.contains a with
 |true=>have hm:=X3 hq;rw[J.q]at hm;have⟨p,hpm,e⟩:=WI.1 hm;have:=J.q_old B A hpm e;exact Wd (⟨rfl,λ_=>⟨M,J,⟨[],ac⟩,.inr (by simp_all),(ZX (.inr (Xq8 (b:=a) (by rw[←this];exact hpm)))).symm⟩⟩)
 |false=>
 have hal:a∈w.o:=by rw[J.ol];unfold Yc;rw[WV];exact⟨E.2.1,by simp[YY,fnd,A.2]⟩
 have hol:=g.old.length_le;have hsl:=Z.st.len;have hin:inW w.h.w a:=by have:=K.rng;have:=hp.words;unfold inW;omega
 rw[Wa,X0 a ab ab,Xa,show w.o.contains a=true by simp_all,Wh,Wa,Ye hwl,Xa,Wm hin,Kv,Xa];have etw:w.h.w.getD (ix a) 0=wd w.h.w a:=rfl;rw[etw];by_cases L:a∈M.map (·.1)
 ·
  obtain⟨b,V⟩:=JH L;have hr:=J.rng B V;rcases J.k _ V with⟨k,_⟩|⟨_,k,_⟩
  .simp_all[J.q]
  have f:=XgU (v:=b) ab ab;have k:wd w.h.w a=wU (wU (4*b)+2):=k;rw[k,f.1,f.2.1];exact Wd (⟨rfl,λ_=>⟨M,J,⟨[],ac⟩,.inr V,(ZX (.inr L)).symm⟩⟩)
 have hsm:=J.same B A L (x:=a) (Ut _) (by have:=(XA h0.w a).2.1;omega);have hf:=Xda (XcL J.tu a) (by rw[hsm];exact K.ok);have hof:Qb9 N w.h.c a=some (pgi h0.c a,pgo h0.c a,0):=by rw[KV,g.conf,hp.conf,Wj ac,Wm K.rng];rfl
 rw[hf,Wj ac,Wa,hof,Xa,show((0:Int) != 0)=false from rfl,Wa,Wg ab,Wa];have T:=J.prm B A;have hpg:=J.pgs _ E.2.2.1 E.2.2.2.1 T.1;have⟨b,eb,hbp⟩:=XrU hN (g.tl hb) (pgi h0.c a);have hsps:=B.hp.space;have hwsp:wI (1-w.h.s)=1-h0.s:=by rw[g.spc,Xe ab ab]
 rw[eb,Xa];have hk12:=K.kind;cases b with
 |true=>have hpin:=T.2.1 (hbp.1 rfl);rw[Wc,QcQ,Xb ab,Xb ab,Xa];refine Wd (⟨rfl,λci=>⟨M++[(a,a)],?_,⟨_,rfl⟩,.inr ac,by rw[JF I L,UG];rfl⟩⟩);exact J.keep B A hP L (λc=>c.2 hpin.2) J.ss (λi _ _ _ _=>rfl) (λi z G U=>⟨(J.pgs i z G U).1,(J.pgs i z G U).2.1,(J.pgs i z G U).2.2.1⟩) (λh2=>ab) rfl rfl rfl rfl rfl ci
 |false=>
 have hnp:¬((pg h0.p (pgi h0.c a)).k=1/\(pg h0.p (pgi h0.c a)).P>0):=λh=>by simp_all
 rw[Wa,Xo E.2.2.1 ab,Xa];by_cases hk2:(pg h0.p (pgi h0.c a)).k=2
 .rw[Xr (hpg.1.trans hk2),Wc,Xb ab,Xa,Xe (n:=pgi h0.c a+1) ab ab];have H:OS h0.c w.h.p:=by have h:=J.ss.proper hN hb B.gx.ep (ws:=h0.w) rfl (b:=-1) (.inl rfl);exact VC hN (h:=⟨h0.c,h0.w,w.h.p,h0.s,-1⟩) ⟨hb.1,by simp_all⟩ h
  refine WJ (Xgr w a (ps:=w.h.p) ab N (pgi h0.c a+1) _ ab ab ab ((SameK.refl _).set E.2.2.1 ab _ _)) λqs eqs hqs=>?_;have hrun:=XrT (w:=w) H (by simp_all[g.spc]) E.2.2.1 ab (hpg.1.trans hk2) hqs.1 eqs;have hfr:=λj hj=>XgT w a N (pgi h0.c a+1) _ qs ab eqs j hj;have e2:=λx hx=>YW (ps:=w.h.p) (j:=x) ⟨(pg w.h.p (pgi h0.c a)).k,wI (1-w.h.s),(pg w.h.p (pgi h0.c a)).u,(pg w.h.p (pgi h0.c a)).P⟩ E.2.2.1 ab hx;have hpq:∀i,0<=i->(pg w.h.p i).k≠3->pg qs i=if i=pgi h0.c a then⟨(pg w.h.p (pgi h0.c a)).k,wI (1-w.h.s),(pg w.h.p (pgi h0.c a)).u,(pg w.h.p (pgi h0.c a)).P⟩else pg w.h.p i:=λi z hk=>by grind
  have hp3:∀i,0<=i->(pg qs i).u=(pg w.h.p i).u/\(pg qs i).k=(pg w.h.p i).k/\(pg qs i).P=(pg w.h.p i).P:=λi z=>by have hk:=hqs.2 i z;grind
  rw[QcQ,Xb (by grind),Xb (by grind),Xa];refine Wd (⟨rfl,λci=>⟨M++[(a,a)],?_,⟨_,rfl⟩,.inr ac,by rw[JF I L,UG];rfl⟩⟩);have kk:∀i,0<=i->i<(h0.p.length:Int)->(pg h0.p i).k≠3->(pg w.h.p i).k≠3:=λi z G h=>by
   by_cases U:i∈w.t
   .rw[(J.tk B U).2.2.1];omega
   rw[(J.pgs i z G U).1];omega
  exact J.keep B A hP L (λc=>by have:=c.1;omega) (J.ss.trans hrun.ss) (λi z G h1 h2=>by
   grind)
   (λi z G U=>by have q:=hp3 i z;have p:=J.pgs i z G U;omega)
   (λ_=>by simp_all) rfl rfl rfl rfl rfl ci
 have R:(pg h0.p (pgi h0.c a)).k=1:=ab;rw[Xk ab,Wa];have hcp:cpy h0 a:=⟨R,λh=>hnp ⟨R,h⟩⟩
 have hsz:=(Z.good (Oc E.2.1)).sz Z.st E.2.1 R;have W:=XA w.h.w a;have esz:szA w.h.w a=szA h0.w a:=Ju hsm;rw[ZI,Xa,XI,Xa];have e1:Xj (Zf (wd w.h.w a))=szA w.h.w a:=W.1;rw[e1];refine WJ (XdL hN hb hp g (n:=szA w.h.w a) W.2.1 ab) λy ey hy=>?_;cases hy2:y.2.2 with
 |false=>have⟨lf,pf⟩:=hy.2 hy2;exact(J.room B lf (by rw[esz];exact(B.gx.szs hp A R).1) pf).elim
 |true=>
 have⟨j,u,Y⟩:=hy.1 hy2;have cw:=Xgs hp g ho E.2.1 rfl W.2.1 Y (wU (wU (4*y.2.1)+2));have⟨G,i2,_⟩:=cw;rw[Wh,Wa,Y.words];have en:szA w.h.w a=(((szA w.h.w a).toNat:Nat):Int):=ab;have hmv:=Xgl (N:=N) hwl y.2.1 a (szA w.h.w a).toNat ab ab;rw[←en,Wm ⟨G,i2⟩]at hmv;have ol:=XbC G i2;have hr1:y.2.1<4294967296:=by have:=i2.2;have:=hb.1;omega
 rw[hmv,Xa,Vv,Xa,Wj ab];rw[KJ (by grind) ab,Xa];have hin2:inW (ovr w.h.w ((w.h.w.drop (ix a)).take (szA w.h.w a).toNat) (ix y.2.1)) a:=by unfold inW;rw[ol];exact hin
 rw[Wm hin2];have hqe:=Y.queue;have H:OS h0.c w.h.p:=by have h:=J.ss.proper hN hb B.gx.ep (ws:=h0.w) rfl (b:=-1) (.inl rfl);exact VC hN (h:=⟨h0.c,h0.w,w.h.p,h0.s,-1⟩) ⟨hb.1,by grind⟩ h
 have hpc:=XkY H (by grind[g.spc]) (λj hj=>(g.tk j hj).2.2.1) ab Y;refine Uc (by grind) (Uc (by grind) (Wd (⟨rfl,λci=>⟨M++[(a,y.2.1)],?_,⟨_,rfl⟩,.inr ac,by rw[JF I L,UG];rfl⟩⟩)));exact(J.copy B A hP L hcp esz Y (J.ss.trans hpc.ss) (by rfl) (by rfl) (by rfl) (by grind) (by exact Y.old) ci).1
end
def R2{α β:Type}(r:α->β->Prop)(l:List α)(m:List β):Prop:=m.length=l.length/\∀(k:Nat) (a:α) (b:β),l[k]? = some a->m[k]? = some b->r a b
section
variable {α β:Type}{r s:α->β->Prop}{l:List α}{m:List β}{a:α}{b:β}
def R2.nil(r:α->β->Prop):R2 r [] []:=⟨rfl,λk a b h=>ac⟩
def R2.mono(h:R2 r l m)(e:∀a b,r a b->s a b):R2 s l m:=⟨h.1,λk a b x y=>e a b (h.2 k a b x y)⟩
def R2.app{g:List α}{j:List β}(h:R2 r l m)(p:R2 r g j):R2 r (l++g) (m++j):=by
 refine⟨by simp[h.1,p.1],λk x y e f=>?_⟩;by_cases q:k<l.length
 .rw[Uk q]at e;rw[Uk (by rw[h.1];omega)]at f;exact h.2 k x y e f
 rw[Ud ab]at e;rw[Ud (by rw[h.1];omega),h.1]at f;exact p.2 _ x y e f
def R2.one(h:r a b):R2 r [a] [b]:=⟨rfl,λk x y e f=>by
 grind⟩
def R2.snoc(h:R2 r l m)(e:r a b):R2 r (l++[a]) (m++[b]):=h.app (.one e)
def R2.cons(e:r a b)(h:R2 r l m):R2 r (a::l) (b::m):=(R2.one e).app h
def R2.unc(h:R2 r (a::l) m):∃b m',m=b::m'/\r a b/\R2 r l m':=by
 cases m with
 |nil=>have:=h.1;simp_all
 |cons b m'=>refine⟨b,m',rfl,h.2 0 a b rfl rfl,by have:=h.1;simp_all,λk x y e f=>h.2 (k+1) x y ah ah⟩
def R2.take(h:R2 r l m)(n:Nat):R2 r (l.take n) (m.take n):=by
 refine⟨by simp[h.1],λk x y e f=>?_⟩;rw[Us]at e f;split at e
 .rename_i g;rw[Wm g]at f;exact h.2 k x y e f
 simp_all
def R2.drop(h:R2 r l m)(n:Nat):R2 r (l.drop n) (m.drop n):=by refine⟨by simp[h.1],λk x y e f=>?_⟩;rw[UO]at e f;exact h.2 _ x y e f
def R2.memr(h:R2 r l m)(hb:b∈m):∃a∈l,r a b:=by obtain⟨k,e,rfl⟩:=Wt hb;have f:=h.1;exact⟨l[k],Ww ab,h.2 k _ _ (Wb ab) (Wb e)⟩
def R2.meml(h:R2 r l m)(e:a∈l):∃b∈m,r a b:=by obtain⟨k,f,rfl⟩:=Wt e;have g:=h.1;exact⟨m[k],Ww ab,h.2 k _ _ (Wb f) (Wb ab)⟩
def R2.get(h:R2 r l m){k:Nat}(e:l[k]? = some a):∃b,m[k]? = some b/\r a b:=by have f:=(Ia.1 e).1;have g:=h.1;exact⟨m[k],Wb ab,h.2 k _ _ e (Wb ab)⟩
def R2.set(h:R2 r l m)(k:Nat)(j:r a b):R2 r (l.set k a) (m.set k b):=by
 refine⟨by simp[h.1],λi x y e f=>?_⟩;rw[U4]at e f;by_cases g:k=i
 .simp_all
 rw[Wj g]at e f;exact h.2 i x y e f
end
def rel.mono{M M':List (Int×Int)}{a b:Int}(h:rel M a b)(e:∃t,M'=M++t):rel M' a b:=by obtain⟨t,rfl⟩:=e;exact h.imp id λh=>WW _ h
def Xaf{d:Ws}:∀{k:Nat} {i:Int},(X2 d k i).Pairwise (·<·)
 |0,i=>.nil
 |k+1,i=>by
  rw[X2];split
  .exact U7.2 ⟨λx e=>by have:=KZ e;omega,Xaf⟩
  exact Xaf
def XoJ(d:Ws):(XL d).Pairwise (·<·):=by
 unfold XL;split
 .exact Xaf
 simp
section
variable {N:Nat}{h0:Wi}{S:List Int}{P:Int->Prop}{w:Wv}{M:List (Int×Int)}{D:Int->Prop}
def JX.cong(J:JX N h0 S P w M D){w':Wv}(e:w'.h.p=w.h.p)(f:w'.h.w=w.h.w)(e3:w'.t=w.t)(e4:w'.q=w.q)(g:w'.o=w.o)(ci:CI h0 S w'){D':Int->Prop}(j:∀x,D' x↔D x):JX N h0 S P w' M D':=by have:D'=D:=funext λx=>propext (j x);subst this;refine⟨ci,by rw[e];exact J.ss,by rw[f];exact J.tu,by rw[g];exact J.ol,by rw[e4];exact J.q,J.l,J.n1,by rw[e,f,e3];exact J.k,by rw[f];exact J.hd,by rw[f];exact J.fl,by rw[f];exact J.o,J.d,by rw[e,e3];exact J.t,by rw[e,e3];exact J.pgs,by rw[e3,Xer e3 λi _=>by rw[e]];exact J.pk,by rw[e,e3];exact J.fu⟩
def JX.store(J:JX N h0 S P w M D)(B:BX N h0 S){p:Int×Int}(hp:p∈M){j v:Int}(j0:0<=j)(j1:j<(hdA h0.w p.1).n)(W:rel M (wd h0.w (p.1+1+j)) v):inW w.h.w (p.2+1+j)/\∀{w':Wv},w'.h.p=w.h.p->w'.h.w=w.h.w.set (ix (p.2+1+j)) v->w'.t=w.t->w'.q=w.q->w'.o=w.o->CI h0 S w'->JX N h0 S P w' M (λx=>D x\/x=p.2+1+j):=by
 have⟨O,s,A⟩:=J.ci.obj;have g:=J.geo A hp;have ez:szA h0.w p.1=(hdA h0.w p.1).n+1:=rfl;have hf:=A.fit p.2 g.1;have I:inW w.h.w (p.2+1+j):=by unfold inW;omega
 refine⟨I,λH Y e3 e4 e5 ci=>?_⟩;rename_i w';have E:∀x,4096<=x->wd w'.h.w x=if x=p.2+1+j then v else wd w.h.w x:=λx z=>by rw[Y];exact Xcb I z
 have ne:∀y,O y->y≠p.2->∀x,y<=x->x<y+s y->x≠p.2+1+j:=λy hy h x R h2' e=>by have:=A.apart y p.2 hy g.1 h;omega
 have K:∀q∈M,q.2≠p.2+1+j:=λq u e=>by
  have T:=J.geo A u;have:=(XA h0.w q.1).2.1;by_cases h:q.2=p.2
  .omega
  exact ne q.2 T.1 h q.2 (Ut _) ab e
 refine⟨ci,by rw[H];exact J.ss,?_,by rw[e5];exact J.ol,by rw[e4];exact J.q,J.l,J.n1,λq u=>?_,λq u=>?_,λq u k k0 k1=>?_,λx Z z=>?_,λx z=>?_,by rw[H,e3];exact J.t,by rw[H,e3];exact J.pgs,by rw[e3,Xer e3 λi _=>by rw[H]];exact J.pk,by rw[H,e3];exact J.fu⟩
 .intro x z;rw[Y]at z;rcases WZ z with z|z
  .exact J.tu x z
  rcases W with⟨_,h⟩|h
  .simp_all
  have:=J.rng B h;exact⟨ab,ab⟩
 .rw[H,e3];rcases J.k q u with k|⟨k1,k2,k3⟩
  .simp_all
  refine .inr ⟨k1,?_,k3⟩;have G:=B.at_ (J.l q u).1;have oq:=A.old q.1 G.2.1;have:q.1≠p.2:=λe=>by
   have R:=J.q_old B (J.l q u).1 hp e.symm;have E:=J.fn u (q:=(q.1,q.1)) (by rw[←R];exact hp) rfl;rcases J.k p hp with k|⟨_,_,i,hi,g1,g2⟩
   .rw[R]at k;exact k.2 k1
   have L:=J.hd q u;rw[E]at L k2;have:=G.1.ok;have U:=Xda (XcL J.tu q.1) (by rw[L];exact this);rw[k2]at U;have hr:=J.rng B u;rw[E]at hr;have:=(XgU (v:=q.1) ab ab).1;rw[this]at U;cases U
  rw[E q.1 G.2.2.2.2,Wj (ne q.1 oq.1 this q.1 (Ut _) (by have:=(A.fit _ oq.1).2.1;omega))];omega
 .rw[E q.2 (by have:=J.rng B u;omega),Wj (K q u)];exact J.hd q u
 .have f:=J.fl q u k k0 k1;have hr:=J.rng B u;rw[E _ ab];by_cases he:q.2+1+k=p.2+1+j
  .rw[Wm he];have T:=J.geo A u;have ezq:szA h0.w q.1=(hdA h0.w q.1).n+1:=rfl;have V:q.2=p.2:=by apply Classical.byContradiction;intro h;exact ne q.2 T.1 h (q.2+1+k) ab ab he
   have:=J.inj u hp V;subst this;have:k=j:=ab;subst this;exact⟨λh=>absurd (.inr rfl) h,λ_=>W⟩
  simp_all
 .rw[E x Z,Wj]
  .exact J.o x Z z
  grind
 rcases z with z|z
 .exact J.d x z
 grind
def Xk1(hN:NB N)(B:BX N h0 S)(rs:List Int)(L:rs.length<=1000000)(G:∀r∈rs,r=0\/Obb h0 r/\P r):∀(n k:Nat) (w:Wv) (M:List (Int×Int)) (out:List Int),k<=rs.length->rs.length-k<n->JX N h0 S P w M D->R2 (rel M) (rs.take k) out ->
 Ok (Qa5 N rs n (k:Int) w.h.c.W w.h.c.p w.h.w w.h.p w.h.s w.h.b w.o w.t w.q w.d w.r.j w.r.K w.r.F w.r.E w.r.f w.r.y out) λe=>match e with
  |.ret r=>False
  |.nxt t=>∃(w':Wv) (M':List (Int×Int)) (u:List Int),JX N h0 S P w' M' D/\w'.d=w.d/\(∃t,M'=M++t)/\R2 (rel M') rs u/\M'.map (·.1)=Jt (M.map (·.1)) (rs.drop k)/\t=(w'.h.c.W,w'.h.c.p,w'.h.w,w'.h.p,w'.h.s,w'.h.b,w'.o,w'.t,w'.q,w'.d,w'.r.j,w'.r.K,w'.r.F,w'.r.E,w'.r.f,w'.r.y,u)
 |0,k,w,M,out,_,O,_,_=>by omega
 |n+1,k,w,M,out,hk,O,J,H=>by
  rw[Qa5];by_cases g:k<rs.length;rotate_left
  .rw[Wg ab,Wa];exact Wd ⟨w,M,out,J,rfl,⟨[],ac⟩,by grind,by rw[WY ab];rfl,rfl⟩
  rw[Xi g,Wc,Xf,Wb g,Xa,Xg ab];have x:=H.1;rw[Wu]at x;refine WJ (XrV hN B J (G _ (Ww g))) λy _ R=>?_;obtain⟨h0,M',J',⟨t,rfl⟩,v,z,A⟩:=R
  rw[h0];refine Uc ab ((Xk1 hN B rs L G n (k+1) y.1 (M++t) (out++[y.2.1]) ab ab J' ?_).mono λe I=>?_)
  .rw[Io,Wb g];exact(H.mono λa b h=>h.mono ⟨t,rfl⟩).snoc v
  cases e with
  |ret r=>exact I
  |nxt t'=>obtain⟨w',M',o',c1,T,⟨U,V⟩,Y,Z,c6⟩:=I;exact⟨w',M',o',c1,T.trans z,⟨t++U,by rw[V,W5]⟩,Y,by rw[Z,A,Wl g];rfl,c6⟩
def Xk2(hN:NB N)(B:BX N h0 S){p:Int×Int}(hP:∀j∈XL (hdA h0.w p.1),wd h0.w (p.1+1+j)=0\/P (wd h0.w (p.1+1+j))):∀(n k:Nat) (w:Wv) (M:List (Int×Int)) (D:Int->Prop),k<=(XL (hdA h0.w p.1)).length->(XL (hdA h0.w p.1)).length-k<n->p∈M->JX N h0 S P w M D->(∀j∈(XL (hdA h0.w p.1)).drop k,¬D (p.2+1+j)) ->
 Ok (Qbf N p.2 (XL (hdA h0.w p.1)) n (k:Int) w.h.c.W w.h.c.p w.h.w w.h.p w.h.s w.h.b w.o w.t w.q w.d w.r.j w.r.K w.r.F w.r.E w.r.f w.r.y) λe=>match e with
  |.ret r=>False
  |.nxt t=>∃(w':Wv) (M':List (Int×Int)),JX N h0 S P w' M' (λx=>D x\/∃j∈(XL (hdA h0.w p.1)).drop k,x=p.2+1+j)/\w'.d=w.d/\(∃t,M'=M++t)/\M'.map (·.1)=Jt (M.map (·.1)) (((XL (hdA h0.w p.1)).drop k).map λj=>wd h0.w (p.1+1+j))/\t=(w'.h.c.W,w'.h.c.p,w'.h.w,w'.h.p,w'.h.s,w'.h.b,w'.o,w'.t,w'.q,w'.d,w'.r.j,w'.r.K,w'.r.F,w'.r.E,w'.r.f,w'.r.y)
 |0,k,w,M,D,_,hn,_,_,_=>by omega
 |n+1,k,w,M,D,hk,hn,hp,J,R=>by
  have T:=hN;unfold NB at T;have hkl:=Va (hdA h0.w p.1);rw[Qbf];by_cases u:k<(XL (hdA h0.w p.1)).length;rotate_left
  .rw[Wg ab,Wa];refine Wd ⟨w,M,J.cong rfl rfl rfl rfl rfl J.ci λx=>?_,rfl,⟨[],ac⟩,by rw[WY ab];rfl,rfl⟩;grind
  rw[Xi u,Wc,Xf,Wb u,Xa,Xg ab];have hdr:=Wl u;have G:=(XoJ (hdA h0.w p.1)).drop (i:=k);have U:=Ww u;rw[hdr,U7]at G;rw[hdr]at R;have H:=Y6 U;have v:(XL (hdA h0.w p.1))[k]∈XL (hdA h0.w p.1):=U;generalize ej:(XL (hdA h0.w p.1))[k]=j at G R H v U;have V:=(J.l p hp).1;have hpt:=B.gx.pt p.1 V j v;have hr:=J.rng B hp;have z:=(XB (Z0 (wd h0.w p.1))).2.2.2;have z:(hdA h0.w p.1).n<=255:=z;have Y:=J.fl p hp j H.1 H.2;rw[Xw (n:=p.2+1) ab ab,Xw (n:=j) ab ab,Xw (n:=p.2+1+j) ab ab];have Z:inW w.h.w (p.2+1+j):=by obtain⟨O,s,I⟩:=J.ci.obj;have g:=J.geo I hp;have hf:=I.fit p.2 g.1;have ez:szA h0.w p.1=(hdA h0.w p.1).n+1:=rfl;unfold inW;omega
  rw[Ye (J.ci.wl B.st.hb),Xa,Wm Z];have ew:w.h.w.getD (ix (p.2+1+j)) 0=wd h0.w (p.1+1+j):=Y.1 (R j (List.mem_cons_self));rw[ew];refine WJ (XrV hN B J (a:=wd h0.w (p.1+1+j)) ?_) λy _ hy=>?_
  .grind
  obtain⟨hz,M',J',⟨t,rfl⟩,L,hsc,hmf⟩:=hy
  rw[hz];have A:p∈M++t:=WW _ hp;have st:=J'.store B A H.1 H.2 L;rw[KJ (J'.ci.wl B.st.hb) ab,Xa,Wm st.1];have⟨O,s,I⟩:=J'.ci.obj;have g:=J'.geo I A;have ez:szA h0.w p.1=(hdA h0.w p.1).n+1:=rfl;have sq:=Xgt J'.ci I g.1 (x:=p.2+1+j) ab ab y.2.1;have J2:=st.2 (w':={y.1 with h:={y.1.h with w:=y.1.h.w.set (ix (p.2+1+j)) y.2.1}}) rfl rfl rfl rfl rfl sq.2.1;refine(Xk2 hN B hP n (k+1) {y.1 with h:={y.1.h with w:=y.1.h.w.set (ix (p.2+1+j)) y.2.1}} (M++t) _ ab ab A J2 λi hi h=>?_).mono λe he=>?_
  .grind
  cases e with
  |ret r=>exact he
  |nxt t'=>have⟨w',M',c1,c2,⟨t2,c3⟩,c4,c5⟩:=he;refine⟨w',M',c1.cong rfl rfl rfl rfl rfl c1.ci λx=>?_,c2.trans hsc,⟨t++t2,by rw[c3,W5]⟩,by rw[c4,hmf,hdr,ej];rfl,c5⟩;grind
end
def Dn(h:Wi)(M:List (Int×Int))(k:Nat)(x:Int):Prop:=∃(i:Nat) (p:Int×Int) (j:Int),i<k/\M[i]? = some p/\j∈XL (hdA h.w p.1)/\x=p.2+1+j
section
variable {N:Nat}{h0:Wi}{S:List Int}{P:Int->Prop}{w:Wv}{M:List (Int×Int)}
def XsU(hN:NB N)(B:BX N h0 S)(H:∀a,Obb h0 a->P a->∀j∈XL (hdA h0.w a),wd h0.w (a+1+j)=0\/P (wd h0.w (a+1+j))){k:Nat}(J:JX N h0 S P w M (Dn h0 M k))(V:w.d=k)(hk:k<=M.length):
 Ok (Qei N w) λr=>r.2.2=0/\((k=M.length/\r.1=w/\r.2.1=false)\/(k<M.length/\r.2.1=true/\∃M',JX N h0 S P r.1 M' (Dn h0 M' (k+1))/\r.1.d=((k+1:Nat):Int)/\(∃t,M'=M++t)/\∀p,M[k]? = some p->M'.map (·.1)=Jt (M.map (·.1)) (rfs h0 p.1))):=by
 have I:=hN;unfold NB at I;have hql:=J.ci.ql B.st.hb;have u:w.q.length=M.length:=by rw[J.q,Uf]
 rw[Qei,V,u];by_cases f:k<M.length;rotate_left
 .rw[We ab];exact Wd ⟨rfl,.inl ⟨ab,rfl,rfl⟩⟩
 have y:M[k]∈M:=Ww f;have K:Xd w.q (k:Int)=some M[k].2:=by rw[Xf,J.q,UW,Wb f];rfl
 have⟨O,s,A⟩:=J.ci.obj;have g:=J.geo A y;have hf:=A.fit _ g.1;have L:inW w.h.w M[k].2:=by unfold inW;omega
 have ehd:Zf (w.h.w.getD (ix M[k].2) 0)=hdA h0.w M[k].1:=by show Zf (wd w.h.w M[k].2)=_;rw[J.hd _ y];rfl
 have W:=J.l _ y;rw[Wg ab,Wa,K,Xa,Qdp,Ye (J.ci.wl B.st.hb),Xa,Wm L,ZI,Xa,Xa,ehd,XdG ab,Xa];have R:∀j∈(XL (hdA h0.w M[k].1)).drop 0,¬Dn h0 M k (M[k].2+1+j):=by
  rintro j v ⟨i,q,j',E,G,z,e⟩;have v:=Y6 (WS v);have z:=Y6 z;have u:q∈M:=W3 G;have gq:=J.geo A u;have e1:szA h0.w M[k].1=(hdA h0.w M[k].1).n+1:=rfl;have e2:szA h0.w q.1=(hdA h0.w q.1).n+1:=rfl;have T:q.2=M[k].2:=by apply Classical.byContradiction;intro h;have:=A.apart _ _ gq.1 g.1 h;omega
  have:=J.inj u y T;have Y:=J.n1;rw[List.Nodup,ID,W7]at Y;have:=Y i k ab f E;obtain⟨_,G⟩:=Ia.1 G;rw[G]at this;simp_all
 have Z:=Xk2 hN B (p:=M[k]) (H _ W.1 W.2) N 0 w M (Dn h0 M k) ab (by have:=Va (hdA h0.w M[k].1);omega) y J R;rw[show((0:Nat):Int)=0 from rfl,V]at Z;refine I6 Z (λa q=>q.elim) λt q=>?_;obtain⟨w',M',c1,c2,⟨t2,c3⟩,c4,rfl⟩:=q;have e:wI (w'.d+1)=((k+1:Nat):Int):=by rw[c2,Xg ab]
 refine Wd ⟨rfl,.inr ⟨f,rfl,M',c1.cong (by rfl) (by rfl) (by rfl) (by rfl) (by rfl) ?_ λx=>?_,e,⟨t2,c3⟩,λp hp=>by rw[Wb f]at hp;cases hp;exact c4⟩⟩
 .have ci:=c1.ci;have⟨O,s,h⟩:=ci.obj;exact⟨ci.conf,ci.wlen,ci.plen,ci.spc,ci.old,ci.tk,ci.tnd,ci.knd,ci.qnd,O,s,⟨h.old,h.queue,h.fit,h.apart,h.taken,h.free⟩⟩
 have U:∀i,i<M.length->M'[i]? = M[i]?:=λi E=>by grind
 constructor
 .rintro⟨i,p,j,E,hp,v,e⟩;rw[U i ab]at hp;by_cases hik:i=k
  .simp_all
  exact .inl ⟨i,p,j,ab,hp,v,e⟩
 rintro(⟨i,p,j,E,hp,v,e⟩|⟨j,v,e⟩)
 .exact⟨i,p,j,ab,by grind,v,e⟩
 exact⟨k,M[k],j,ab,by simp_all,v,e⟩
def XrW(hN:NB N)(B:BX N h0 S)(e:∀a,Obb h0 a->P a->∀j∈XL (hdA h0.w a),wd h0.w (a+1+j)=0\/P (wd h0.w (a+1+j))):∀(n k:Nat) (w:Wv) (M:List (Int×Int)),JX N h0 S P w M (Dn h0 M k)->w.d=k->k<=M.length->100001-k<n ->
 Ok (QbT N n w.h.c.W w.h.c.p w.h.w w.h.p w.h.s w.h.b w.o w.t w.q w.d w.r.j w.r.K w.r.F w.r.E w.r.f w.r.y) λr=>r.2=0/\∃M',JX N h0 S P r.1 M' (Dn h0 M' M'.length)/\(∃t,M'=M++t)/\M'.map (·.1)=Km h0 n k (M.map (·.1))
 |0,k,w,M,_,_,_,L=>by omega
 |n+1,k,w,M,J,O,R,L=>by
  refine WJ (XsU hN B e J O R) λy _ u=>?_;obtain⟨v,u⟩:=u;rw[v,show((0:Int) != 0)=false from rfl,Wa];rcases u with⟨g,x,T⟩|⟨g,x,M',J',z,⟨t,ht⟩,A⟩
  .rw[T,x];subst g;exact Wd ⟨rfl,M,J,⟨[],ac⟩,by rw[Km,WO ac]⟩
  rw[x];have U:=J'.ci.ql B.st.hb;have V:y.1.q.length=M'.length:=by rw[J'.q,Uf]
  have I:M.length<=M'.length:=by rw[ht,WK];omega
  refine(XrW hN B e n (k+1) y.1 M' J' z ab ab).mono λr ⟨Y,M2,J2,⟨Z,G⟩,H⟩=>?_;refine⟨Y,M2,J2,⟨t++Z,by rw[G,ht,W5]⟩,?_⟩;rw[H,A _ (Wb g),Km,UW,Wb g];rfl
end
section
variable {N:Nat}{h0:Wi}{S:List Int}{P:Int->Prop}{w:Wv}{M:List (Int×Int)}{D:Int->Prop}
def Xub(hN:NB N)(hb:HB h0)(g:GX N h0)(cp:Cap h0):∃S,BX N h0 S/\Qal N h0=some (Yc h0 S,0):=by obtain⟨S,L,j,mS,eS,eL,rfl,mL⟩:=Xbg hN hb g.ep g.ps;have⟨b,eb,e⟩:=KE hN hb;rw[(Vi hN hb).2 g]at eb;obtain rfl:=Wz eb;have f:=e rfl;exact⟨S,⟨g,⟨hb,λ_=>f,λ_=>f.prop,j⟩,mS,f.prop,cp⟩,eL⟩
def Xes(e:List Int×Int)(q:h0.p.length<=100000):∀(n k:Nat) (v:List Wo),k<=h0.p.length->h0.p.length-k<n->v.length=h0.p.length->(∀j:Nat,k<=j->pg v j=pg h0.p j) ->
 ∃r,QbD N h0 e n (k:Int) v=some r/\r.length=h0.p.length/\∀j:Nat,pg r j=if j<k\/¬((pg h0.p j).k=1/\(pg h0.p j).P>0)then pg v j else⟨1,wI (1-h0.s),(pg h0.p j).u,(pg h0.p j).P⟩
 |0,k,v,_,A,_,_=>by omega
 |n+1,k,v,G,A,f,y=>by
  rw[QbD,Xb ab,f];by_cases h:k<h0.p.length
  .rw[Xi h,Wc,Xo (ps:=v) (i:=(k:Int)) ab ab,Xa,Xg ab];simp only[Xa,y k (Uh k)];by_cases H:(pg h0.p k).k=1/\(pg h0.p k).P>0
   .have I:=λx:Nat=>YW (ps:=v) (i:=(k:Int)) (j:=(x:Int)) ⟨(pg h0.p k).k,wI (1-h0.s),(pg h0.p k).u,(pg h0.p k).P⟩ ab ab ab;obtain⟨r,B,r3,r4⟩:=Xes e q n (k+1) (v.set (k:Int).toNat ⟨(pg h0.p k).k,wI (1-h0.s),(pg h0.p k).u,(pg h0.p k).P⟩) ab ab (by simp_all) λj g=>by grind
    grind
   have⟨r,B,r3,r4⟩:=Xes e q n (k+1) v ab ab f λj g=>y j ab;grind
  obtain rfl:k=h0.p.length:=ab;rw[Xz,Wa];refine⟨v,rfl,f,λj=>?_⟩;by_cases E:j<h0.p.length\/¬((pg h0.p j).k=1/\(pg h0.p j).P>0)
  .grind
  exfalso;apply E;right;intro z;have:pg h0.p j=Y5:=by unfold pg;rw[Wk,WO ab];rfl
  rw[this]at z;exact absurd z.1 ag
def Xq9(hN:NB N)(ht:HT h0)(B:BX N h0 S)(eL:Qal N h0=some (Yc h0 S,0)):∃w,Qc4 N h0=some (w,0)/\JX N h0 S P w [] (Dn h0 [] 0)/\w.d=0:=by
 have hb:=B.st.hb;have y:=hb.2;have hp:=B.hp;have z:=hp.space;have hw:wI (1-h0.s)=1-h0.s:=Xe ab ab;have e:=VC hN hb B.gx.ep;have⟨r,v,r3,r4⟩:=Xes (N:=N) (h0:=h0) (Yc h0 S,0) ab N 0 h0.p ab (by unfold NB at hN;omega) rfl λ_ _=>rfl;rw[show((0:Nat):Int)=0 from rfl]at v;have A:∀j,0<=j->((pg h0.p j).k=1/\(pg h0.p j).P>0/\(pg r j)=⟨1,1-h0.s,(pg h0.p j).u,(pg h0.p j).P⟩)\/(¬((pg h0.p j).k=1/\(pg h0.p j).P>0)/\pg r j=pg h0.p j):=λj E=>by
  obtain⟨m,rfl⟩:∃m:Nat,j=m:=⟨j.toNat,ab⟩
  grind
 have G:SameK h0.p r:=⟨r3,λj E=>by
  grind⟩
 have ci:=XdN hb hp B.st.st (w:=⟨⟨h0.c,h0.w,r,h0.s,h0.b⟩,Yc h0 S,[],[],0,⟨0,0,0,0,0,0⟩⟩) rfl rfl rfl G List.filter_sublist rfl rfl;refine⟨⟨⟨h0.c,h0.w,r,h0.s,h0.b⟩,Yc h0 S,[],[],0,⟨0,0,0,0,0,0⟩⟩,?_,⟨ci,?_,ht.tw,rfl,rfl,ac,ac,ac,ac,ac,λ_ _ _=>rfl,λx H=>?_,λi g=>by simp_all,λi f q _=>?_,rfl,λi g=>by simp at g⟩,rfl⟩
 .rw[Qc4,B.gx.ep,Xa,Wh,Wa,(Vi hN hb).2 B.gx,Xa,Wh,Wa,eL,Xa,Xb ab,v,Xa]
 .refine XbR e r3 (λi f q=>?_) λi m f I J K L=>?_
  .have hb:=e.hd i f q;rcases A i f with⟨a,_,b⟩|⟨_,b⟩
   .have:=(hb ab).k1 a;have:=(hb ab).pn;rw[b];exact .inl ⟨ab,rfl,⟨by show 0<=1-h0.s;omega,by show 1-h0.s<=1;omega⟩,ah,by dsimp only;omega,by dsimp only;omega⟩
   simp_all
  have tl:=((e.hd i f ab ab).k2 I).2.2 m J K;grind
 .have⟨i,p,j,g,_⟩:=H;omega
 have O:=B.gx.sp i f q;grind
def JX.upd(J:JX N h0 S P w M D)(sc:Int)(f:WT):JX N h0 S P ⟨w.h,w.o,w.t,w.q,sc,f⟩ M D:=by
 have ci:=J.ci;have⟨O,s,h⟩:=ci.obj;have e:CI h0 S ⟨w.h,w.o,w.t,w.q,sc,f⟩:=⟨ci.conf,ci.wlen,ci.plen,ci.spc,ci.old,ci.tk,ci.tnd,ci.knd,ci.qnd,O,s,⟨h.old,h.queue,h.fit,h.apart,h.taken,h.free⟩⟩
 exact J.cong (by rfl) (by rfl) (by rfl) (by rfl) (by rfl) e λ_=>Iff.rfl
def wk(M:List (Int×Int))(a b:Int):Prop:=(a=0/\b=0)\/(a,b)∈M\/(a∉M.map (·.1)/\b=0)
def Xra(hN:NB N)(B:BX N h0 S)(J:JX N h0 S P w M D){a:Int}(j:Obb h0 a):∃b,QcD N w a=some b/\wk M a b:=by
 have u:=hN;unfold NB at u;have I:=J.ci.ql B.st.hb;have G:=B.at_ j;rw[QcD,X0 a ab ab,Xa];cases K:w.q.contains a with
 |true=>have H:=X3 K;rw[J.q]at H;have⟨p,y,e⟩:=WI.1 H;have:=J.q_old B j y e;exact⟨a,rfl,.inr (.inl (by simp_all))⟩
 |false=>
 have z:inW w.h.w a:=by have:=G.1.rng;have:=B.hp.words;have:=J.ci.wlen;unfold inW;omega
 rw[Wa,Ye (J.ci.wl B.st.hb),Xa,Wm z,Kv,Xa];rw[show w.h.w.getD (ix a) 0=wd w.h.w a from rfl];by_cases A:a∈M.map (·.1)
 .have⟨b,g⟩:=JH A;have O:=J.rng B g;rcases J.k _ g with⟨k,_⟩|⟨_,k,_⟩
  .simp_all[J.q]
  have f:=XgU (v:=b) ab ab;exact⟨b,by simp_all,.inr (.inl g)⟩
 have E:=J.same B j A (x:=a) (Ut _) (by have:=(XA h0.w a).2.1;omega);have L:=Xda (XcL J.tu a) (by rw[E];exact G.1.ok);rw[L];exact⟨_,rfl,.inr (.inr ⟨A,rfl⟩)⟩
def XoK(hN:NB N)(B:BX N h0 S)(ws:List Int)(z:ws.length<=1000000)(hw:∀r∈ws,r=0\/Obb h0 r)(p:Wv×List Int×Int)(e:Wv×Int)(J:JX N h0 S P e.1 M D):∀(n k:Nat) (c:Int) (out:List Int),k<=ws.length->ws.length-k<n->R2 (wk M) (ws.take k) out->Ok (QaM N ws p e n (k:Int) c out) λr=>R2 (wk M) ws r.2
 |0,k,c,out,_,A,_=>by omega
 |n+1,k,c,out,G,A,x=>by
  rw[QaM];by_cases f:k<ws.length;rotate_left
  .rw[Wg ab,Wa];exact Wd (by grind)
  have q:=x.1;rw[Wu]at q;rw[Xi f,Wc,Xf,Wb f,Xa,Xg ab];have next:∀u b,wk M ws[k] b->Ok (QaM N ws p e n ((k+1:Nat):Int) u (out++[b])) λr=>R2 (wk M) ws r.2:=λu b hb=>by refine XoK hN B ws z hw p e J n (k+1) u (out++[b]) ab ab ?_;rw[Io,Wb f];exact x.snoc hb
  by_cases g:ws[k]=0
  .rw[g];refine Ir (Uc ab (next _ _ (.inl ⟨g,rfl⟩)))
  have v:=(hw _ (Ww f)).resolve_left g;rw[Xl g,Xt,Wc];have Jc:=J.upd e.1.d (WT.mk e.1.r.j e.1.r.K e.1.r.F e.1.r.E c e.1.r.y);have⟨b,eb,hb⟩:=Xra hN B Jc v;rw[Xa,eb,Xa];exact Ir (Wn (λ_=>Uc ab (next _ _ hb)) λ_=>Uc ab (next _ _ hb))
end
def XcP(h:Wi)(M:List (Int×Int))(a:Int):Prop:=Obb h a/\a∉M.map (·.1)/\(pg h.p (pgi h.c a)).k=1/\(pg h.p (pgi h.c a)).P>0
def XiC(h:Wi)(a:Int):Int:=ZB ⟨0,(hdA h.w a).n,0⟩
def XrX{d:Int}(h:0<=d/\d<=255):Xx ⟨0,d,0⟩=true:=by unfold Xx;grind
section
variable {N:Nat}{h0:Wi}{S:List Int}{P:Int->Prop}{w:Wv}{M:List (Int×Int)}{D:Int->Prop}
def XgY(ws:List Int)(a:Int):0<=(hdA ws a).n/\(hdA ws a).n<=255/\szA ws a=(hdA ws a).n+1:=by have:=XB (Z0 (wd ws a));exact⟨this.2.2.1,this.2.2.2,rfl⟩
def XgZ(hN:NB N)(B:BX N h0 S)(J:JX N h0 S P w M D):∀(n k:Nat) (v:List Int) (c:Int),k<=w.o.length->w.o.length-k<n->v.length=h0.w.length->(∀x∈v,tU x)->(∀a∈w.o.drop k,XcP h0 M a->wd v a=wd h0.w a) ->
 ∃u T,QaD N w n (k:Int) v c=some (u,T)/\u.length=h0.w.length/\(∀x∈u,tU x)/\(∀a∈w.o.drop k,XcP h0 M a->wd u a=XiC h0 a/\∀j,0<=j->j<(hdA h0.w a).n->wd u (a+1+j)=0)/\∀x,4096<=x->(∀a∈w.o.drop k,XcP h0 M a->¬(a<=x/\x<a+szA h0.w a))->wd u x=wd v x
 |0,k,v,c,_,hn,_,_,_=>by omega
 |n+1,k,v,c,hk,hn,hv,tv,hw=>by
  have hN':=hN;unfold NB at hN';have hb1:=B.st.hb.1;have V:=J.ci;have hql:=V.ql B.st.hb;have htl:=V.tl B.st.hb;have hol:=V.old.length_le;have hsl:=B.st.st.len;rw[QaD];by_cases h:k<w.o.length;rotate_left
  .rw[Wg ab,Wa,WY ab];simp_all
  have hdr:=Wl h;have z:w.o[k]∈w.o:=Ww h;have H:=(B.st.st.obj.pw.sublist V.old).drop (i:=k);rw[hdr]at hw H⊢;rw[U7]at H;rw[Xi h,Wc,Xf,Wb h,Xa,Xg ab];generalize w.o[k]=a at z hw H⊢;have I:Obb h0 a:=by rw[J.ol]at z;unfold Yc at z;rw[WV]at z;exact⟨(B.mS a).1 z.1,by simp_all[YY,fnd]⟩
  have hA:=B.at_ I;have hfit:=KD B.hp hA.1;have hof:Qb9 N w.h.c a=some (pgi h0.c a,pgo h0.c a,0):=by rw[KV,V.conf,B.hp.conf,Wj ac,Wm hA.1.rng];rfl
  have⟨b,eb,A⟩:=XrU (N:=N) (w:=⟨⟨w.h.c,v,w.h.p,w.h.s,w.h.b⟩,w.o,w.t,w.q,w.d,⟨w.r.j,w.r.K,c,w.r.E,w.r.f,w.r.y⟩⟩) hN htl (pgi h0.c a);have A:b=true↔Prm w (pgi h0.c a):=A;rw[(J.prm B I).2]at A;rw[hof,Xa,eb,Xa];have skip:¬XcP h0 M a->∃u T,QaD N w n ((k+1:Nat):Int) v c=some (u,T)/\u.length=h0.w.length/\(∀x∈u,tU x)/\(∀x∈a::w.o.drop (k+1),XcP h0 M x->wd u x=XiC h0 x/\∀j,0<=j->j<(hdA h0.w x).n->wd u (x+1+j)=0)/\∀x,4096<=x->(∀y∈a::w.o.drop (k+1),XcP h0 M y->¬(y<=x/\x<y+szA h0.w y))->wd u x=wd v x:=λhd=>by have⟨u,T,e1,e2,e3,e4,e5⟩:=XgZ hN B J n (k+1) v c ab ab hv tv λx g=>hw x (WQ _ g);simp_all
  cases hbv:b with
  |false=>exact skip λd=>by have:=A.2 d.2.2;simp_all
  |true=>
   have L:=A.1 hbv;rw[Wh,Wa,Xa,X0 a ab ab,Xa];cases W:w.q.contains a with
   |true=>have U:=X3 W;rw[J.q]at U;have⟨p,Y,e⟩:=WI.1 U;have:=J.q_old B I Y e;exact skip λd=>d.2.1 (WI.2 ⟨p,Y,by grind⟩)
   |false=>
    have hq:=YC W;have hd:XcP h0 M a:=by
     refine⟨I,λU=>?_,L⟩;obtain⟨b,Z⟩:=JH U;rcases J.k _ Z with⟨k1,_⟩|⟨k1,_⟩
     .exact hq (by rw[J.q];exact WI.2 ⟨(a,b),Z,k1⟩)
     exact k1.2 L.2
    have ewd:=hw a ac hd;have hl:=XgY h0.w a;have eL:(Zf (wd v a)).n=(hdA h0.w a).n:=by rw[ewd];rfl
    rw[Wa,Xa,Qdp,Ye (by show v.length<=_;unfold BIG;omega),Xa,Wm (by show inW v a;unfold inW;omega),ZI,Xa,Xa];rw[show v.getD (ix a) 0=wd v a from rfl,eL,KB,Wm (XrX ab),Xa,Xa,Xb ab,Xb ab];have G:([ZB ⟨0,(hdA h0.w a).n,0⟩]++List.replicate (hdA h0.w a).n.toNat (0:Int)).length=(hdA h0.w a).n.toNat+1:=by simp
    rw[ZA (by unfold BIG;omega) (by rw[G];unfold BIG;omega) (by rw[G];omega),G,Wm (by unfold Ym;omega),Xa];have hi:ix a+([ZB ⟨0,(hdA h0.w a).n,0⟩]++List.replicate (hdA h0.w a).n.toNat (0:Int)).length<=v.length:=by rw[G];unfold ix;omega
    have hlen:=Zz hi;have hwv:∀x,4096<=x->wd (ovr v ([ZB ⟨0,(hdA h0.w a).n,0⟩]++List.replicate (hdA h0.w a).n.toNat (0:Int)) (ix a)) x=if a<=x/\x<a+szA h0.w a then(if x=a then XiC h0 a else 0)else wd v x:=λx g=>by
     unfold wd;rw[V3 hi,G];by_cases hr:a<=x/\x<a+szA h0.w a
     .rw[Wm hr,Wm (by unfold ix;omega)];by_cases O:x=a
      .rw[Wm O,O,U5];rfl
      rw[Wj O];obtain⟨m,U⟩:∃m,ix x-ix a=m+1:=⟨ix x-ix a-1,by unfold ix;omega⟩
      rw[U,Wk,List.singleton_append,Ij,IA];split<;>rfl
     rw[Wj hr,Wj (by unfold ix;omega)]
    have tv':∀x∈ovr v ([ZB ⟨0,(hdA h0.w a).n,0⟩]++List.replicate (hdA h0.w a).n.toNat (0:Int)) (ix a),tU x:=λx g=>by
     unfold ovr at g;simp only[Wr,W9]at g;rcases g with(g|g|g)|g
     .exact tv x (WR g)
     .rw[g];unfold ZB;exact V0 _
     .rw[(IL.1 g).2];exact⟨ab,ab⟩
     exact tv x (WS g)
    have apart:∀b∈w.o.drop (k+1),a+szA h0.w a<=b:=λb hb=>H.1 b hb;have⟨u,T,e1,e2,e3,e4,e5⟩:=XgZ hN B J n (k+1) _ (wI (c+1)) ab ab (hlen.trans hv) tv' λx g R=>by have h1:=apart x g;rw[hwv x ab,Wj ab];exact hw x (WQ _ g) R
    have low:∀x,4096<=x->x<a+szA h0.w a->wd u x=if a<=x then(if x=a then XiC h0 a else 0)else wd v x:=λx x0 x1=>by
     rw[e5 x x0 λy hy _ h=>by have:=apart y hy;omega,hwv x x0];by_cases g:a<=x
     .rw[Wm ⟨g,x1⟩,Wm g]
     rw[Wj ab,Wj g]
    refine⟨u,T,e1,e2,e3,λx g R=>?_,λx x0 g=>?_⟩
    .rcases Ig.1 g with rfl|g
     .refine⟨by rw[low x hA.2.2.2.2 ab,Wm (Ut _),Wm rfl],λj j0 j1=>?_⟩;rw[low _ ab ab,Wm ab,Wj ab]
     exact e4 x g R
    grind
def XrY{w:Wv}(j:List Wo)(q:Wo)(i c:Int)(hp:Uu h0)(u:w.h.c=h0.c)(y:0<=i)(g1:i<h0.c.p):∀(n:Nat) (k:Int) (v:List Int),0<=k->k<=h0.c.W->(65-k).toNat<n->v.length=h0.w.length->(∀x∈v,tU x) ->
 ∃r,Qbg N w j q i c n k v=some r/\r.length=h0.w.length/\(∀x∈r,tU x)/\∀x,4096<=x->wd r x=if Xc h0.c i k<=x/\x<Xc h0.c i h0.c.W then 0 else wd v x
 |0,k,v,_,_,A,_,_=>by omega
 |n+1,k,v,k0,k1,A,B,E=>by
  have G:=Xh.1 hp.conf;have K:=XE hp.conf y g1;have hw:=hp.words;rw[Qbg,u];have f:∀o,Xc h0.c i o=4096+i*h0.c.W+o:=λ_=>rfl;by_cases H:k<h0.c.W
  .rw[We H,Wc,Xe (n:=k+1) ab ab,Xe (n:=i*h0.c.W) ab ab,Xe (n:=i*h0.c.W+k) ab ab,X6 ab ab,Xa];have eix:(i*h0.c.W+k).toNat=ix (Xc h0.c i k):=by rw[f];unfold ix;omega
   rw[eix];have g:inW v (Xc h0.c i k):=by rw[f];unfold inW;omega
   obtain⟨r,I,J,r3,r4⟩:=XrY j q i c hp u y g1 n (k+1) (v.set (ix (Xc h0.c i k)) 0) ab ab ab (by rw[WL];exact B) λx e=>by
    rcases WZ e with e|e
    .exact E x e
    exact⟨ab,ab⟩
   refine⟨r,I,J,r3,λx e=>?_⟩;rw[r4 x e,Xcb g e,f,f,f];by_cases z:x=4096+i*h0.c.W+k
   .rw[Wj ab,Wm z,Wm ab]
   rw[Wj z];congr 1;apply propext;omega
  grind
def Zk(w:Wv)(j:Int):Prop:=(pg w.h.p j).k≠0/\(pg w.h.p j).s=w.h.s
def XjS(hN:NB N){w:Wv}(hb:HB h0)(hp:Uu h0)(K:w.h.c=h0.c)(E:w.h.p.length=h0.p.length):∀(n:Nat) (i c:Int) (v:List Int) (ps:List Wo),0<=i->i<=h0.p.length->(h0.p.length-i).toNat<n->v.length=h0.w.length->(∀x∈v,tU x)->ps.length=h0.p.length->(∀j,i<=j->pg ps j=pg w.h.p j) ->
 ∃y g f,QaN N w n i c v ps=some (y,g,f)/\g.length=h0.w.length/\(∀x∈g,tU x)/\f.length=h0.p.length/\(∀j,0<=j->(i<=j/\j<h0.p.length/\Zk w j->pg f j=Y5)/\(¬(i<=j/\j<h0.p.length/\Zk w j)->pg f j=pg ps j))/\∀x,4096<=x->((∃j,i<=j/\j<h0.p.length/\Zk w j/\Xc h0.c j 0<=x/\x<Xc h0.c j h0.c.W)->wd g x=0)/\((¬∃j,i<=j/\j<h0.p.length/\Zk w j/\Xc h0.c j 0<=x/\x<Xc h0.c j h0.c.W)->wd g x=wd v x)
 |0,i,c,v,ps,_,_,hn,_,_,_,_=>by omega
 |n+1,i,c,v,ps,L,gi,hn,O,R,q,B=>by
  have T:=hN;unfold NB at T;have hpp:=hp.pages;have hvc:=Xh.1 hp.conf;rw[QaN,Xb ab,q];by_cases U:i<h0.p.length;rotate_left
  .rw[Wg U,Wa];exact⟨c,v,ps,rfl,O,R,q,λj _=>⟨λh=>ab,λ_=>rfl⟩,λx _=>⟨λ⟨j,a,b,_⟩=>ab,λ_=>rfl⟩⟩
  rw[We U,Wc,Xo L ab,Xa,B i (Ut _),Xe (n:=i+1) ab ab];have skip:¬Zk w i->∃y g f,QaN N w n (i+1) c v ps=some (y,g,f)/\g.length=h0.w.length/\(∀x∈g,tU x)/\f.length=h0.p.length/\(∀j,0<=j->(i<=j/\j<h0.p.length/\Zk w j->pg f j=Y5)/\(¬(i<=j/\j<h0.p.length/\Zk w j)->pg f j=pg ps j))/\∀x,4096<=x->((∃j,i<=j/\j<h0.p.length/\Zk w j/\Xc h0.c j 0<=x/\x<Xc h0.c j h0.c.W)->wd g x=0)/\((¬∃j,i<=j/\j<h0.p.length/\Zk w j/\Xc h0.c j 0<=x/\x<Xc h0.c j h0.c.W)->wd g x=wd v x):=λV=>by
   obtain⟨y,g,f,e1,G,e3,e4,e5,e6⟩:=XjS hN hb hp K E n (i+1) c v ps ab ab ab O R q λj h=>B j ab;have ne:∀j,i<=j->Zk w j->i+1<=j:=λj h B=>by
    by_cases e:j=i
    .rw[e]at B;exact absurd B V
    omega
   refine⟨y,g,f,e1,G,e3,e4,λj u=>⟨λh=>(e5 j u).1 ⟨ne j h.1 h.2.2,h.2⟩,λh=>(e5 j u).2 λY=>h ⟨ab,Y.2⟩⟩,λx z=>⟨λ⟨j,a,b,d,e⟩=>(e6 x z).1 ⟨j,ne j a d,b,d,e⟩,λh=>(e6 x z).2 λ⟨j,a,b⟩=>h ⟨j,ab,b⟩⟩⟩
  by_cases k0:(pg w.h.p i).k=0
  .rw[Xr k0,Wc];exact skip λh=>h.1 k0
  rw[Xk k0,Wa];by_cases I:(pg w.h.p i).s=w.h.s;rotate_left
  .rw[Xl I,Wc];exact skip λh=>I h.2
  have V:Zk w i:=⟨k0,I⟩
  have⟨r,r1,r2,r3,r4⟩:=XrY (N:=N) (w:=w) ps (pg w.h.p i) i c hp K L ab N 0 v ab ab ab O R;rw[show((pg w.h.p i).s != w.h.s)=false by simpa using I,Wa,Xa,r1,Xa];have G:=λx J=>YW (ps:=ps) (j:=x) ⟨0,0,0,0⟩ L ab J;have⟨y,g,f,f1,f2,f3,f4,Z,f6⟩:=XjS hN hb hp K E n (i+1) (wI (c+1)) r (ps.set i.toNat ⟨0,0,0,0⟩) ab ab ab r2 r3 (by rw[WL];exact q) λj h=>by rw[G j ab,Wj ab];exact B j ab
  refine⟨y,g,f,f1,f2,f3,f4,λj u=>⟨λh=>?_,λh=>?_⟩,λx z=>⟨λ⟨j,a,b,d,e⟩=>?_,λh=>?_⟩⟩
  .by_cases A:j=i
   .rw[(Z j u).2 ab,G j u,Wm A];rfl
   exact(Z j u).1 ⟨ab,h.2⟩
  .rw[(Z j u).2 λY=>h ⟨ab,Y.2⟩,G j u,Wj];rintro rfl;exact h ⟨Ut _,U,V⟩
  .by_cases A:j=i
   .subst A;by_cases J:∃H,j+1<=H/\H<h0.p.length/\Zk w H/\Xc h0.c H 0<=x/\x<Xc h0.c H h0.c.W
    .exact(f6 x z).1 J
    rw[(f6 x z).2 J,r4 x z,Wm e]
   exact(f6 x z).1 ⟨j,ab,b,d,e⟩
  grind
end
section
variable {N:Nat}{h0:Wi}{S:List Int}{P:Int->Prop}{w:Wv}{M:List (Int×Int)}{D:Int->Prop}
def OS.nxt{c:WN}{ps:List Wo}(s:OS c ps){i n:Int}(e:0<=i)(f:(pg ps i).k≠3)(z:n=if(pg ps i).k=2 then Xn c (pg ps i).u else 1)(A:1<=n)(g:i+n<ps.length):(pg ps (i+n)).k≠3:=by
 intro j;have⟨k,k0,k1,p,k2,B⟩:=s.tl (i+n) ab g j;have q:=(p.k2 k2).2.2;have v:=s.hd i e ab f;by_cases x:k<i
 .have:=(q (i-k) ab ab).1;grind
 by_cases E:k=i
 .simp_all
 by_cases y:(pg ps i).k=2
 .have:=((v.k2 y).2.2 (k-i) ab ab).1;rw[show i+(k-i)=k by omega]at this;omega
 omega
def XfM{h:Wi}(j:h.p.length<=100000)(hN:1000000<N)(s:OS h.c h.p):∀(n i:Nat),i<=h.p.length->h.p.length-i<n->(i<h.p.length->(pg h.p (i:Int)).k≠3)->Qae N h n (i:Int)=some (.nxt ())
 |0,i,_,u,_=>by omega
 |n+1,i,y,u,q=>by
  rw[Qae];by_cases f:i<h.p.length;rotate_left
  .rw[Wg ab,Wa]
  have b:=s.hd (i:Int) ab ab (q f);have sp:=XbQ (c:=h.c) f;have e:=sp.2 b;have v:=sp.1.2 b;have ep:=Zt f;have x:=XbL (c:=h.c) f (p:=h.p[i]);rw[Xi f,Wc,Ki j hN f,Xa];generalize X4 h.c h.p i h.p[i]=m at *;rw[show((m:Int)==0)=false by simp_all,Wa,Xe ab ab,show(i:Int)+(m:Int)=((i+m:Nat):Int) by omega];refine XfM j hN s n (i+m) ab ab λz=>?_;have:=s.nxt (i:=(i:Int)) (n:=(m:Int)) ab (q f) (by
   rw[ep]
   by_cases g:h.p[i].k=2
   .rw[Wm g]at e⊢
    have:=(b.k2 (by rw[ep];exact g)).1
    omega
   .rw[Wj g]at e⊢;omega) ab ab
  assumption
def JS(hN:NB N){h:Wi}(hb:HB h)(hp:O6 h)(s:OS h.c h.p):Qaa N h=some true:=by
 have f:1000000<N:=by unfold NB at hN;omega
 have g:0<h.p.length->(pg h.p (0:Int)).k≠3:=λj k=>by have⟨k,k0,k1,_⟩:=s.tl 0 ab ab k;omega
 have e:=XfM (N:=N) hb.2 f s N 0 ab (by have:=hb.2;omega) g;have e:Qae N h N 0=some (.nxt ()):=e;rw[←X8 hb.2 f,Kz hp,e,Xa,Xm]
def JX.spn(J:JX N h0 S P w M D)(hN:NB N)(B:BX N h0 S):OS h0.c w.h.p:=by have h:=J.ss.proper hN B.st.hb B.gx.ep (ws:=h0.w) rfl (b:=-1) (.inl rfl);exact VC hN (h:=⟨h0.c,h0.w,w.h.p,h0.s,-1⟩) ⟨B.st.hb.1,by rw[J.ss.1];exact B.st.hb.2⟩ h
structure FX(h0:Wi)(w:Wv)(M:List (Int×Int))(v v':List Int)(ps:List Wo):Prop where
 fd:∀a,XcP h0 M a->wd v a=XiC h0 a/\∀j,0<=j->j<(hdA h0.w a).n->wd v (a+1+j)=0
 fo:∀x:Int,4096<=x->(∀a,XcP h0 M a->¬(a<=x/\x<a+szA h0.w a))->wd v x=wd w.h.w x
 pl:ps.length=h0.p.length
 vl:v'.length=h0.w.length
 pz:∀j,0<=j->j<(h0.p.length:Int)->Zk w j->pg ps j=Y5
 pk:∀j,0<=j->j<(h0.p.length:Int)->¬Zk w j->pg ps j=pg w.h.p j
 wz:∀x:Int,4096<=x->x<4096+h0.w.length->Zk w (pgi h0.c x)->wd v' x=0
 wk:∀x:Int,4096<=x->x<4096+h0.w.length->¬Zk w (pgi h0.c x)->wd v' x=wd v x
def JX.fz(J:JX N h0 S P w M D)(hN:NB N)(B:BX N h0 S){i:Int}(f:0<=i)(g:i<(h0.p.length:Int)):
 (i∈w.t->¬Zk w i)/\(i∉w.t->((pg h0.p i).k=0->¬Zk w i)/\((pg h0.p i).k=1->(Zk w i↔¬(pg h0.p i).P>0))/\((pg h0.p i).k=2->(Zk w i↔Xc h0.c i 0∉M.map (·.1)))):=by
 have j:=J.ci.spc;refine⟨λe h=>?_,λe=>?_⟩
 .have:=(J.t i e).2.2.1;have:=h.2;omega
 have p:=J.pgs i f g e;unfold Zk;grind
def JX.fza(J:JX N h0 S P w M D)(hN:NB N)(B:BX N h0 S){a x:Int}(q:II h0 a)(A:a<=x)(E:x<a+szA h0.w a):pgi h0.c x∉w.t/\pgi h0.c a∉w.t/\(Zk w (pgi h0.c x)↔Zk w (pgi h0.c a)):=by
 have⟨⟨u,G,H,v⟩,U,V⟩:=XbS B.hp q A E;have W:=q.kind;have I:=B.hp.pages;have K:=XN (a:=x) B.hp.conf (by have:=B.hp.words;omega);have g:pgi h0.c a∉w.t:=λh=>by have:=(J.t _ h).1;omega
 by_cases L:pgi h0.c x=pgi h0.c a
 .rw[L];exact⟨g,g,Iff.rfl⟩
 have nx:∀m,pgi h0.c a<m->m<=pgi h0.c x->m∉w.t:=λm e f h=>by have:=(J.t _ h).1;have:=v m e f;omega
 have nxx:=nx _ ab (Ut _);have kw:∀m,pgi h0.c a<m->m<=pgi h0.c x->(pg w.h.p m).k=3:=λm e f=>by rw[(J.pgs m ab ab (nx m e f)).1];exact v m e f
 have O:(pg w.h.p (pgi h0.c a)).k≠3:=by rw[(J.pgs _ u ab g).1];exact H
 have y:=J.ci.plen;have⟨k,k0,k1,R,k2,Y⟩:=(J.spn hN B).tl (pgi h0.c x) K.2.1 ab (kw _ ab (Ut _));have z:=(R.k2 k2).2.2;have T:HeadP w.h (pgi h0.c x) k:=⟨k0,ab,ab,λm e f=>by
  have:=(z (m-k) ab ab).1
  rwa[show k+(m-k)=m by omega]at this⟩
 have j:HeadP w.h (pgi h0.c x) (pgi h0.c a):=⟨u,G,O,kw⟩
 have:=T.fn j;subst this;have Z:=(z (pgi h0.c x-pgi h0.c a) ab ab).2.1;unfold Zk;grind
def JX.fzm(J:JX N h0 S P w M D)(hN:NB N)(B:BX N h0 S){p:Int×Int}(hp:p∈M){x:Int}(q:p.2<=x)(v:x<p.2+szA h0.w p.1):¬Zk w (pgi h0.c x)/\4096<=x/\x<4096+h0.w.length:=by
 have y:=(J.l p hp).1;have g:=B.at_ y;rcases J.k p hp with⟨k1,k2⟩|⟨k1,_,i,A,H,I⟩
 .rw[k1]at q v;have f:=J.fza hN B g.1 q v;have E:=XbS B.hp g.1 q v;refine⟨?_,E.2⟩;rw[f.2.2];have z:=(J.fz hN B g.2.2.1 g.2.2.2.1).2 f.2.1;rcases g.1.kind with j|j
  .rw[z.2.1 j];exactλh=>k2 ⟨j,h⟩
  rw[z.2.2 j];intro h;have e:=(XN B.hp.conf g.1.rng).1;rw[(g.1.large j).1]at e;grind
 have t:=J.tk B A;have K:Xc h0.c i 0=4096+i*h0.c.W+0:=rfl;have L:Xc h0.c i (pg w.h.p i).u=4096+i*h0.c.W+(pg w.h.p i).u:=rfl;have G:=B.hp.pages;have O:=XE B.hp.conf (i:=i) t.1 ab;have hw:=B.hp.words;have:=(Yb (c:=h0.c) B.hp.conf (p:=i) (o:=x-Xc h0.c i 0) ab ab).1;rw[show Xc h0.c i (x-Xc h0.c i 0)=x by unfold Xc;omega]at this;rw[this];exact⟨(J.fz hN B t.1 t.2.1).1 A,ab,ab⟩
def JX.kw(J:JX N h0 S P w M D)(hN:NB N)(B:BX N h0 S){v k:List Int}{ps:List Wo}(F:FX h0 w M v k ps){p:Int×Int}(hp:p∈M){x:Int}(q:p.2<=x)(u:x<p.2+szA h0.w p.1):wd k x=wd w.h.w x:=by have f:=J.fzm hN B hp q u;rw[F.wk x f.2.1 f.2.2 f.1];refine F.fo x f.2.1 λa hd A=>?_;have⟨O,s,j⟩:=J.ci.obj;have g:=J.geo j hp;have y:=B.at_ hd.1;have z:=j.old a y.2.1;have:p.2≠a:=λe=>hd.2.1 (by have:=J.q_old B hd.1 hp e;grind);have:=j.apart p.2 a g.1 z.1 this;omega
end
def Chn.tr{ws f:List Int}:∀{l:List Int} {p q:Int},Chn ws p l q->(∀a∈l,okH (wd f a)=true/\szA f a=szA ws a)->Chn f p l q
 |[],_,_,h,_=>h
 |a::l,p,q,⟨e,j,h⟩,hw=>by have g:=hw a ac;exact⟨e,g.1,by rw[g.2];exact h.tr λb hb=>hw b (WQ _ hb)⟩
def CM.chn{h:Wi}{M:List (Int×Int)}{vs:List Int}(hw:∀p∈M,okH (wd vs p.2)=true/\szA vs p.2=szA h.w p.1):∀{l:List Int} {p q:Int},CM h M p l q->Chn vs p l q/\∀b∈l,∃a,(a,b)∈M/\cpy h a
 |[],_,_,e=>⟨e,ac⟩
 |b::l,p,q,⟨e,a,g,k,j⟩=>by subst e;have f:=hw _ g;have r:=j.chn hw;refine⟨⟨rfl,f.1,by rw[f.2];exact r.1⟩,λx u=>?_⟩;grind
def CM.cov{h:Wi}{M:List (Int×Int)}{x:Int}:∀{l:List Int} {p q:Int},CM h M p l q->p<=x->x<q->∃b∈l,∃a,(a,b)∈M/\b<=x/\x<b+szA h.w a
 |[],p,q,e,g,f=>by have e:p=q:=e;omega
 |b::l,p,q,⟨e,a,g1,g2,g3⟩,g,f=>by
  by_cases j:x<b+szA h.w a
  .grind
  have⟨c,k,r⟩:=g3.cov ab f;grind
def Xk3{d:Ws}(g:Xx d=true)(ht:tW d.Map):okH (ZB d)=true/\Zf (ZB d)=d/\ZB d≠0:=by
 have hb:=XB g;have j:=ht;unfold tW at j;have e:ZB d=1+4*d.k+16*d.n+d.Map*65536:=by unfold ZB;have s:∀x:Int,ZY .u64 x 16=wU (x*65536):=λ_=>rfl;rw[s];simp only[XcD];omega
 have tu:tU (ZB d):=by rw[e];exact⟨ab,ab⟩
 have p:Xb7 (ZB d)=d:=by rw[Xc7 tu,e];obtain⟨k,l,m⟩:=d;dsimp only at *;congr 1<;>omega
 have f:okH (ZB d)=true:=by unfold okH;rw[p,g];simp
 exact⟨f,by unfold Zf;simp_all,ab⟩
def XsV(h:Wi)(a:Int):okH (XiC h a)=true/\Zf (XiC h a)=⟨0,(hdA h.w a).n,0⟩:=by have e:=XgY h.w a;have:=Xk3 (d:=⟨0,(hdA h.w a).n,0⟩) (XrX ab) ⟨ac,ac⟩;exact⟨this.1,this.2.1⟩
section
variable {N:Nat}{h0:Wi}{S:List Int}{P:Int->Prop}{w:Wv}{M:List (Int×Int)}{D:Int->Prop}{v v':List Int}{ps:List Wo}
def JX.q_st(J:JX N h0 S P w M D)(B:BX N h0 S){a:Int}(j:Stt h0 a){p:Int×Int}(hp:p∈M)(e:p.2=a):p=(a,a):=by
 rcases J.k p hp with⟨k,_⟩|⟨_,_,i,g,k1,k2⟩
 .grind
 have t:=J.tk B g;have x:=(XA h0.w p.1).2.1;have f:=j.at_ B.hp;have y:Xc h0.c i 0=4096+i*h0.c.W+0:=rfl;have z:Xc h0.c i (pg w.h.p i).u=4096+i*h0.c.W+(pg w.h.p i).u:=rfl;have:=(Yb (c:=h0.c) B.hp.conf (p:=i) (o:=a-Xc h0.c i 0) ab ab).1;rw[show Xc h0.c i (a-Xc h0.c i 0)=a by unfold Xc;omega]at this;have q:=f.kind;rw[this]at q;have:=(J.t i g).1;omega
def JX.nw(J:JX N h0 S P w M D)(B:BX N h0 S){a:Int}(j:Stt h0 a)(H:(hdA h0.w a).k=0)(F:FX h0 w M v v' ps)(z:¬Zk w (pgi h0.c a)):wd v' a=wd h0.w a:=by
 have q:=j.at_ B.hp;have u:=q.rng;have hw:=B.hp.words;have x:=(B.mS a).2 j;have⟨O,s,f⟩:=J.ci.obj;have y:=f.old a x;have A:=(XA h0.w a).2.1;rw[F.wk a u.1 ab z,F.fo a u.1 λb hb I=>?_]
 .refine J.o a u.1 λp hp=>?_;have E:=(J.l p hp).1;have n1:a≠p.1:=λe=>E.2 (by simp_all);have g:=J.geo f hp;have n2:p.2≠a:=λe=>n1 (by have:=J.q_st B j hp e;grind);have:=f.apart p.2 a g.1 y.1 n2;omega
 have G:=B.at_ hb.1;have ob:=f.old b G.2.1;have n1:a≠b:=λe=>hb.1.2 (by simp_all);have:=f.apart a b y.1 ob.1 n1;omega
def JX.hdr(J:JX N h0 S P w M D)(hN:NB N)(B:BX N h0 S)(F:FX h0 w M v v' ps){a:Int}(j:Stt h0 a)(z:(pg h0.p (pgi h0.c a)).k=1)(hp:(pg h0.p (pgi h0.c a)).P>0):okH (wd v' a)=true/\szA v' a=szA h0.w a/\((∃p∈M,p.2=a)\/(hdA v' a).k=0):=by
 have g:=j.at_ B.hp;have A:=g.rng;have hw:=B.hp.words;have H:=B.hp.pages;have q:=XN B.hp.conf A;have u:pgi h0.c a∉w.t:=λh=>by have:=(J.t _ h).1;omega
 have E:¬Zk w (pgi h0.c a):=λh=>(((J.fz hN B q.2.1 ab).2 u).2.1 z).1 h hp;by_cases y:(hdA h0.w a).k=0
 .have e:=J.nw B j y F E;refine⟨by rw[e];exact g.ok,Ju e,.inr ?_⟩;unfold hdA at y⊢;grind
 by_cases G:a∈M.map (·.1)
 .have⟨b,f⟩:=JH G;rcases J.k _ f with⟨k1,_⟩|⟨k1,_⟩
  .have k1:b=a:=k1;subst k1;have e:=J.kw hN B F f (x:=b) (Ut _) (by have:=(XA h0.w b).2.1;grind);have e:=e.trans (J.hd _ f);exact⟨by rw[e];exact g.ok,Ju e,.inl ⟨_,f,rfl⟩⟩
  exact absurd hp k1.2
 have hd:XcP h0 M a:=⟨⟨j,y⟩,G,z,hp⟩
 have e:=(F.fd a hd).1;have I:wd v' a=XiC h0 a:=by rw[F.wk a A.1 ab E];exact e
 have fo:=XsV h0 a;have K:hdA v' a=⟨0,(hdA h0.w a).n,0⟩:=by unfold hdA;rw[I];exact fo.2
 exact⟨by grind,by unfold szA;grind,.inr (by grind)⟩
def JX.pars(J:JX N h0 S P w M D)(hN:NB N)(B:BX N h0 S)(F:FX h0 w M v v' ps){H:Wi}(U:H.c=h0.c)(V:H.w=v')(ep:H.p=ps){i:Int}(j:0<=i)(q:i<(h0.p.length:Int)):
 ∃l,OC H i l/\(∀b∈l,XcO H i b/\((∃p∈M,p.2=b)\/(hdA H.w b).k=0))/\(i∈w.t->∀p∈M,Xc h0.c i 0<=p.2->p.2<Xc h0.c i (pg w.h.p i).u->p.2∈l)/\(i∉w.t->¬Zk w i->∀m,OC h0 i m->m=l):=by
 have W:=(B.hp.pgs i j q).kind;have g:∀p∈M,wd v' p.2=wd h0.w p.1:=λp hp=>by have:=(XA h0.w p.1).2.1;rw[J.kw hN B F hp (x:=p.2) (Ut _) ab];exact J.hd p hp
 by_cases E:Zk w i
 .have e:=F.pz i j q E;rw[←ep]at e;refine⟨[],⟨λ_=>rfl,λk=>?_,λk=>?_⟩,ac,λy=>absurd E ((J.fz hN B j q).1 y),λ_ h=>absurd E h⟩
  .rw[e]at k;exact absurd k ag
  rw[e]at k;exact absurd k ag
 have e:=F.pk i j q E;rw[←ep]at e;by_cases y:i∈w.t
 .have t:=J.t i y;have tk:=J.tk B y;have⟨l,hl⟩:=t.2.2.2;have c:=hl.chn (vs:=v') λp hp=>by have T:=B.at_ (J.l p hp).1;exact⟨by rw[g p hp];exact T.1.ok,Ju (g p hp)⟩
  refine⟨l,⟨λk=>?_,λk=>?_,λk=>?_⟩,λb hb=>?_,λ_ p hp h1 h2=>?_,λh=>absurd y h⟩
  .simp_all
  .simp_all
  .simp_all
  .have⟨a,f,hc⟩:=c.2 b hb;refine⟨⟨λ_=>?_,λk=>by rw[e,tk.2.2.1]at k;omega⟩,.inl ⟨_,f,rfl⟩⟩;have G:=(J.l _ f).1;have⟨m,Y,am⟩:=G.1.pars B.hp;have T:=B.at_ G;have:=(B.gx.cl _ m T.2.2.1 T.2.2.2.1 Y a am).1 hc.1;have es:szA v' b=szA h0.w a:=Ju (g _ f);simp_all
  have⟨b,hb,a,f,b1,b2⟩:=hl.cov h1 h2;have:p.2=b:=by apply Classical.byContradiction;intro hn;obtain⟨O,s,I⟩:=J.ci.obj;have g1:=J.geo I hp;have g2:=J.geo I f;have:=I.apart p.2 b g1.1 g2.1 hn;have:=(XA h0.w p.1).2.1;dsimp only at g2;omega
  simp_all
 have p:=J.pgs i j q y;have z:=(J.fz hN B j q).2 y;have⟨l,pl⟩:=B.gx.ps i j q;have K:∀a∈l,Stt h0 a/\II h0 a/\pgi h0.c a=i:=λa G=>⟨⟨i,l,j,q,pl,G⟩,pl.at_ B.hp j q G⟩
 refine⟨l,⟨λk=>?_,λk=>?_,λk=>?_⟩,λb hb=>?_,λh=>absurd h y,λ_ _ m Y=>Y.fn W pl⟩
 .rw[e,p.1]at k;exact pl.none k
 .rw[e,p.1]at k;have L:(pg h0.p i).P>0:=Classical.byContradiction λh=>E ((z.2.1 k).2 h);rw[V,U,e,p.2.1];refine(pl.small k).tr λa G=>?_;have A:=K a G;have:=J.hdr hN B F A.1 (by rw[A.2.2];exact k) (by rw[A.2.2];exact L);simp_all
 .rw[e,p.1]at k;obtain⟨rfl,I,hs⟩:=pl.large k;have Z:Xc h0.c i 0∈M.map (·.1):=Classical.byContradiction λh=>E ((z.2.2 k).2 h);have⟨b,f⟩:=JH Z;have hb:b=Xc h0.c i 0:=by
   rcases J.k _ f with⟨k1,_⟩|⟨k1,_⟩
   .omega
   have:=k1.1;simp_all
  subst hb;have:=g _ f;rw[U,V,e,p.2.1];exact⟨rfl,by simp_all,by rw[Ju this];omega⟩
 have A:=K b hb;have cl:=B.gx.cl i l j q pl b hb;have R:=A.2.1.kind;rw[A.2.2]at R;unfold XcO;rw[V,U,e,p.1];rcases R with k|k
 .have:=J.hdr hN B F A.1 (by simp_all) (by simp_all);exact⟨⟨λ_=>by rw[this.2.1];exact cl.1 k,λh=>ab⟩,this.2.2⟩
 obtain⟨rfl,I,hs⟩:=pl.large k;rw[W9.1 hb]at A cl⊢;have Z:Xc h0.c i 0∈M.map (·.1):=Classical.byContradiction λh=>E ((z.2.2 k).2 h);have⟨b,f⟩:=JH Z;have hb:b=Xc h0.c i 0:=by
  rcases J.k _ f with⟨k1,_⟩|⟨k1,_⟩
  .omega
  have:=k1.1;simp_all
 subst hb;have:=g _ f;refine⟨⟨λh=>ab,λ_=>?_⟩,.inl ⟨_,f,rfl⟩⟩;unfold hdA;rw[this];exact cl.2 k
end
structure OJ(N:Nat)(h0:Wi)(P:Int->Prop)(M:List (Int×Int))(h:Wi):Prop where
 gx:GX N h
 cf:h.c=h0.c
 sp:h.s=1-h0.s
 wl:h.w.length=h0.w.length
 pl:h.p.length=h0.p.length
 n1:(M.map (·.1)).Nodup
 n2:(M.map (·.2)).Nodup
 l:∀p∈M,Obb h0 p.1/\P p.1
 ob:∀b,Obb h b↔b∈M.map (·.2)
 hd:∀p∈M,hdA h.w p.2=hdA h0.w p.1
 f1:∀p∈M,∀j,0<=j->j<(hdA h0.w p.1).n->j∉XL (hdA h0.w p.1)->wd h.w (p.2+1+j)=wd h0.w (p.1+1+j)
 f2:∀p∈M,∀j∈XL (hdA h0.w p.1),rel M (wd h0.w (p.1+1+j)) (wd h.w (p.2+1+j))
 pn:∀i,0<=i->i<(h0.p.length:Int)->((pg h0.p i).k=2->(pg h0.p i).P>0->Xc h0.c i 0∈M.map (·.1))->(pg h.p i).P=(pg h0.p i).P
 kp:∀p∈M,(pg h0.p (pgi h0.c p.1)).P>0->p.2=p.1
 cy:∀p∈M,cpB h p.2=cpB h0 p.1
 us:h.p.countP XO=h.p.countP stC+(JG h0 (M.map (·.1))).1
 bp:(JG h0 (M.map (·.1))).1=0/\h.b = -1\/(JG h0 (M.map (·.1))).1≠0/\0<=h.b/\(pg h.p h.b).u=(JG h0 (M.map (·.1))).2
 st:(∀a,Obb h0 a->a∈M.map (·.1))->h.p.countP stC=h0.p.countP stC
 fl:∀i,0<=i->i<(h.p.length:Int)->(pg h.p i).k=1->¬(pg h.p i).P>0->i≠h.b->3*h.c.W<4*(pg h.p i).u/\∀x,Xc h.c i 0<=x->x<Xc h.c i (pg h.p i).u->∃p∈M,p.2<=x/\x<p.2+szA h.w p.2
def Xbi{α:Type}(q:α->Bool):∀(l m:List α),l.length=m.length->(∀(i:Nat) (e:i<l.length) (f:i<m.length),q l[i]=true->q m[i]=true)->l.countP q<=m.countP q
 |[],m,_,_=>by simp
 |a::l,[],h,_=>by grind
 |a::l,b::m,h,g=>by
  have j:=Xbi q l m (by simpa using h) λi e f=>by have:=g (i+1) (by simpa using e) (by simpa using f);exact this
  grind
section
variable {N:Nat}{h0:Wi}{S:List Int}{P:Int->Prop}{w:Wv}{M:List (Int×Int)}{v v':List Int}{ps:List Wo}
def Xet{h f:Wi}{a b:Int}(e:hdA f.w b=hdA h.w a):Kl f b=Kl h a:=by unfold Kl szA;rw[e]
def JX.fin(J:JX N h0 S P w M (Dn h0 M M.length))(hN:NB N)(B:BX N h0 S)(F:FX h0 w M v v' ps){h':Wi}(Y:h'.c=h0.c)(Z:h'.w=v')(ep:h'.p=ps)(es:h'.s=1-h0.s)(hbp:h'.b = -1/\w.t=[]\/w.t.getLast? = some h'.b):OJ N h0 P M h':=by
 have G:=B.hp;have hsp0:=G.space;have hpl0:=G.pages;have hw0:=G.words;have hvc:=Xh.1 G.conf;have hb0:=B.st.hb;have spn:=J.spn hN B;have hwsp:=J.ci.spc;have hwpl:=J.ci.plen;have hb':HB h':=⟨by rw[Z,F.vl];exact hb0.1,by rw[ep,F.pl];omega⟩
 have wspc:∀i,0<=i->i<(h0.p.length:Int)->0<=(pg w.h.p i).s/\(pg w.h.p i).s<=1:=λi A g=>by
  by_cases I:(pg w.h.p i).k=3
  .have⟨k,k0,k1,L,k2,k4⟩:=spn.tl i A ab I;have:=((L.k2 k2).2.2 (i-k) ab ab).2.1;rw[show k+(i-k)=i by omega]at this;have:=L.sp;omega
  exact(spn.hd i A ab I).sp
 have pgq:∀i,0<=i->i<(h0.p.length:Int)->(pg h'.p i=Y5/\Zk w i)\/(pg h'.p i=pg w.h.p i/\¬Zk w i):=λi A g=>by
  by_cases E:Zk w i
  .exact .inl ⟨by rw[ep];exact F.pz i A g E,E⟩
  exact .inr ⟨by rw[ep];exact F.pk i A g E,E⟩
 have spn':OS h'.c h'.p:=by
  rw[Y];have lp:h'.p.length=h0.p.length:=by rw[ep,F.pl]
  refine⟨λi A g I=>?_,λi A g I=>?_⟩
  .rw[lp]at g;rcases pgq i A g with⟨e,E⟩|⟨e,E⟩
   .refine⟨?_,?_,λ_=>e,λk=>?_,λk=>?_,?_⟩<;>rw[e]at *<;>simp[Y5]at *
   rw[e]at I;have b:=spn.hd i A ab I;refine⟨by rw[e];exact b.sp,by rw[e];exact b.pn,by rw[e];exact b.k0,by rw[e];exact b.k1,λk=>?_,by rw[e];exact b.kd⟩;rw[e]at k⊢;have k2:=b.k2 k;refine⟨k2.1,ab,λm m0 m1=>?_⟩;have t:=k2.2.2 m m0 m1;rcases pgq (i+m) ab ab with⟨_,hz'⟩|⟨e',_⟩
   .exfalso;exact E ⟨ab,by have:=hz'.2;omega⟩
   simp_all
  rw[lp]at g;rcases pgq i A g with⟨e,E⟩|⟨e,E⟩
  .rw[e]at I;exact absurd I ag
  rw[e]at I;have⟨k,k0,k1,L,k2,k4⟩:=spn.tl i A ab I;have t:=(L.k2 k2).2.2;have ti:=(t (i-k) ab ab).2.1;rw[show k+(i-k)=i by omega]at ti;have R:¬Zk w k:=λh=>E ⟨ab,by have:=h.2;omega⟩;have ek:pg h'.p k=pg w.h.p k:=by
   rcases pgq k k0 ab with⟨_,h⟩|⟨e,_⟩
   .exact absurd h R
   exact e
  refine⟨k,k0,k1,⟨by rw[ek];exact L.sp,by rw[ek];exact L.pn,by rw[ek];exact L.k0,by rw[ek];exact L.k1,λ_=>?_,by rw[ek];exact L.kd⟩,by rw[ek];exact k2,by rw[ek];exact k4⟩;have kk:=L.k2 k2;rw[ek];refine⟨kk.1,ab,λm m0 m1=>?_⟩;have tm:=t m m0 m1;rcases pgq (k+m) ab ab with⟨_,hz'⟩|⟨e',_⟩
  .exfalso;exact R ⟨ab,by have:=hz'.2;omega⟩
  simp_all
 have pre:O6 h':=by
  refine⟨by rw[Y];exact G.conf,by simp_all[Z,Y,F.vl],by simp_all[ep,Y,F.pl],ab,?_⟩;rcases hbp with h|h
  .omega
  have h:=On h;have t:=J.tk B h;have:pg h'.p h'.b=pg w.h.p h'.b:=by rw[ep];exact F.pk _ t.1 t.2.1 ((J.fz hN B t.1 t.2.1).1 h)
  simp_all[this,ep,F.pl]
 have epr:=JS hN hb' pre spn';have hp':=Xp hN hb' epr;have pars:=λi A g=>J.pars hN B F Y Z ep (i:=i) A g;have lp:h'.p.length=h0.p.length:=by rw[ep,F.pl]
 have hkw:∀p∈M,wd h'.w p.2=wd h0.w p.1:=λp hp=>by have:=(XA h0.w p.1).2.1;rw[Z,J.kw hN B F hp (x:=p.2) (Ut _) ab];exact J.hd p hp
 have hhd:∀p∈M,hdA h'.w p.2=hdA h0.w p.1:=λp hp=>by unfold hdA;grind
 have st_of:∀p∈M,Stt h' p.2:=λp hp=>by
  have H:=(J.l p hp).1;have T:=B.at_ H;rcases J.k p hp with⟨k1,k2⟩|⟨k1,_,i,u,I,k4⟩
  .have⟨m,pm,am⟩:=H.1.pars G;have⟨l,pl,_,_,l2⟩:=pars _ T.2.2.1 T.2.2.2.1;have f:=J.fzm hN B hp (x:=p.2) (Ut _) (by have:=(XA h0.w p.1).2.1;omega);rw[k1]at f⊢;have:=(J.prm B H).1;rw[l2 this f.1 m pm]at am;exact⟨_,l,T.2.2.1,ab,pl,am⟩
  have t:=J.tk B u;have⟨l,pl,_,l1,_⟩:=pars i t.1 t.2.1;exact⟨i,l,t.1,ab,pl,l1 u p hp I (by have:=(XA h0.w p.1).2.1;omega)⟩
 have ob:∀b,Obb h' b↔b∈M.map (·.2):=λb=>by
  constructor
  .rintro⟨⟨i,l,A,g,pl,hb⟩,hk⟩;rw[lp]at g;have⟨l',pl',q,_,_⟩:=pars i A g;have:=pl.fn (hp'.pgs i A (by rw[lp];exact g)).kind pl';grind
  intro hb;obtain⟨p,hp,rfl⟩:=WI.1 hb;exact⟨st_of p hp,by rw[hhd p hp];exact(J.l p hp).1.2⟩
 have f1:∀p∈M,∀j,0<=j->j<(hdA h0.w p.1).n->j∉XL (hdA h0.w p.1)->wd h'.w (p.2+1+j)=wd h0.w (p.1+1+j):=λp hp j j0 j1 hj=>by
  have ez:szA h0.w p.1=(hdA h0.w p.1).n+1:=rfl;rw[Z,J.kw hN B F hp (x:=p.2+1+j) ab ab];refine(J.fl p hp j j0 j1).1 ?_;rintro⟨i,q,j',u,hq,hj',e⟩;have hqm:q∈M:=W3 hq;have r':=Y6 hj';have ezq:szA h0.w q.1=(hdA h0.w q.1).n+1:=rfl;have⟨O,s,ho⟩:=J.ci.obj;have g1:=J.geo ho hp;have g2:=J.geo ho hqm;have:q.2=p.2:=by apply Classical.byContradiction;intro U;have:=ho.apart _ _ g2.1 g1.1 U;omega
  grind
 have f2:∀p∈M,∀j∈XL (hdA h0.w p.1),rel M (wd h0.w (p.1+1+j)) (wd h'.w (p.2+1+j)):=λp hp j hj=>by have ez:szA h0.w p.1=(hdA h0.w p.1).n+1:=rfl;have r:=Y6 hj;rw[Z,J.kw hN B F hp (x:=p.2+1+j) ab ab];have⟨i,u,e⟩:=Wt hp;exact(J.fl p hp j r.1 r.2).2 ⟨i,p,j,u,by simp_all,hj,rfl⟩
 have zfree:∀i,0<=i->i<(h0.p.length:Int)->(pg h0.p i).k=0->(pg h0.p i).P=0:=λi A g k=>by rw[(G.pgs i A g).free k];rfl
 have hpins:∀i,0<=i->i<(h0.p.length:Int)->¬Zk w i->(pg h'.p i).P=(pg h0.p i).P:=λi A g E=>by
  have e:pg h'.p i=pg w.h.p i:=by
   rcases pgq i A g with⟨_,h⟩|⟨e,_⟩
   .simp_all
   omega
  rw[e];by_cases u:i∈w.t
  .have t:=J.t i u;simp_all
  exact(J.pgs i A g u).2.2.1
 have frs:∀i,0<=i->i<(h0.p.length:Int)->(pg h'.p i).k=1->¬(pg h'.p i).P>0->i∈w.t:=λi A g k1 U=>by
  rcases pgq i A g with⟨e,_⟩|⟨e,E⟩
  .rw[e]at k1;exact absurd k1 ag
  rw[e]at k1 U;exact Classical.byContradiction λu=>by have p:=J.pgs i A g u;rw[p.1]at k1;rw[p.2.2.1]at U;exact E ((((J.fz hN B A g).2 u).2.1 k1).2 U)
 refine⟨⟨epr,λi A g=>?_,λi A g k=>?_,λi l A g pl a ha=>?_,λx x0 hx=>?_,λb hb j hj=>?_,?_⟩,Y,es,by rw[Z,F.vl],lp,J.n1,?_,J.l,ob,hhd,f1,f2,λi A g hl=>?_,λp hp h=>?_,λp hp=>?_,?_,?_,λall=>?_,λi A g k1 U hb=>?_⟩
 .grind
 .rw[lp]at g;rcases pgq i A g with⟨e,_⟩|⟨e,E⟩
  .rw[e]at k;exact absurd rfl k
  rw[e]at k⊢;have:=wspc i A g;have:(pg w.h.p i).s≠w.h.s:=λh=>E ⟨k,h⟩;omega
 .rw[lp]at g;have⟨l',pl',q,_,_⟩:=pars i A g;have:=pl.fn (hp'.pgs i A (by rw[lp];exact g)).kind pl';simp_all
 ·
  have x1:x<4096+h0.w.length:=by have:=XoF x0 hx;rw[Z,F.vl]at this;exact this
  rw[Z]at hx;have E:¬Zk w (pgi h0.c x):=λh=>hx (F.wz x x0 x1 h);rw[F.wk x x0 x1 E]at hx;have seen:∀p∈M,p.2<=x->x<p.2+szA h0.w p.1->∃a,Stt h' a/\a<=x/\x<a+Kl h' a:=λp hp h1 h2=>by refine⟨p.2,st_of p hp,h1,?_⟩;rw[Xet (hhd p hp)];unfold Kl;rw[Wj (J.l p hp).1.2];omega
  have prom:∀a,Stt h0 a->(pg h0.p (pgi h0.c a)).k=1->(pg h0.p (pgi h0.c a)).P>0->Stt h' a:=λa ha hk V=>by
   have K:=ha.at_ G;have q:=XN G.conf K.rng;have hnt:pgi h0.c a∉w.t:=λh=>by have:=(J.t _ h).1;omega
   have⟨m,pm,am⟩:=ha.pars G;have⟨l,pl,_,_,l2⟩:=pars _ q.2.1 ab;have hzz:¬Zk w (pgi h0.c a):=λh=>(((J.fz hN B q.2.1 ab).2 hnt).2.1 hk).1 h V;rw[l2 hnt hzz m pm]at am;exact⟨_,l,q.2.1,ab,pl,am⟩
  by_cases hd:∃a,XcP h0 M a/\a<=x/\x<a+szA h0.w a
  .have⟨a,hd,h1,h2⟩:=hd;have fd:=F.fd a hd;have ez:szA h0.w a=(hdA h0.w a).n+1:=rfl;have hxa:x=a:=by apply Classical.byContradiction;intro U;have:=fd.2 (x-a-1) ab ab;rw[show a+1+(x-a-1)=x by omega]at this;exact hx this
   subst hxa;refine⟨x,prom x hd.1.1 hd.2.2.1 hd.2.2.2,Ut _,?_⟩;have:1<=Kl h' x:=(XgJ h' x).1;omega
  rw[F.fo x x0 λa h1 h2=>hd ⟨a,h1,h2⟩]at hx;by_cases hs:∃p∈M,p.2<=x/\x<p.2+szA h0.w p.1
  .grind
  by_cases h1:∃p∈M,x=p.1
  .obtain⟨p,hp,rfl⟩:=h1;rcases J.k p hp with⟨k1,_⟩|⟨k1,_⟩
   .exact absurd ⟨p,hp,ab,by have:=(XA h0.w p.1).2.1;omega⟩ hs
   have H:=(J.l p hp).1;have T:=B.at_ H;exact absurd ((((J.fz hN B T.2.2.1 T.2.2.2.1).2 (J.prm B H).1).2.1 k1.1).2 k1.2) E
  rw[J.o x x0 λp hp=>⟨λe=>h1 ⟨p,hp,e⟩,λe=>hs ⟨p,hp,e⟩⟩]at hx;have⟨a,sa,a1,a2⟩:=B.gx.dt x x0 hx;have K:=sa.at_ G;have q:=XN G.conf K.rng;have hext:=XgX h0 a;have fz:=J.fza hN B K a1 ab;rw[fz.2.2]at E;have z:=(J.fz hN B q.2.1 ab).2 fz.2.1;have⟨m,pm,am⟩:=sa.pars G;by_cases hf:(hdA h0.w a).k=0
  .have hk1:(pg h0.p (pgi h0.c a)).k=1:=by
    rcases K.kind with k|k
    .omega
    exact absurd hf ((B.gx.cl _ m q.2.1 ab pm a am).2 k)
   have V:(pg h0.p (pgi h0.c a)).P>0:=Classical.byContradiction λh=>E ((z.2.1 hk1).2 h);have e:=J.nw B sa hf F E;refine⟨a,prom a sa hk1 V,a1,?_⟩;have:Kl h' a=Kl h0 a:=Xet (by rw[Z];unfold hdA;rw[e]);omega
  by_cases hm:a∈M.map (·.1)
  .have⟨b,hab⟩:=JH hm;rcases J.k _ hab with⟨k1,_⟩|⟨k1,_⟩
   .grind
   exact absurd ((z.2.1 k1.1).2 k1.2) E
  rcases K.kind with k|k
  .have V:(pg h0.p (pgi h0.c a)).P>0:=Classical.byContradiction λh=>E ((z.2.1 k).2 h);exact absurd ⟨a,⟨⟨sa,hf⟩,hm,k,V⟩,a1,ab⟩ hd
  have e:=q.1;rw[(K.large k).1]at e;grind
 .rw[ob]at hb;obtain⟨p,hp,rfl⟩:=WI.1 hb;rw[hhd p hp]at hj;rcases f2 p hp j hj with h|h
  .exact .inl h.2
  grind
 .have hcr:=B.gx.cr;rw[Y];refine Int.le_trans (Int.ofNat_le.2 (Xbi ZU h'.p h0.p lp λi h1 h2 hq=>?_)) hcr;rw[←Zt h1]at hq;rw[←Zt h2];unfold ZU at hq⊢;rw[WH,decide_eq_true_iff,beq_iff_eq]at hq⊢;rcases pgq (i:Int) ab ab with⟨e,_⟩|⟨e,E⟩
  .rw[e]at hq;exact absurd hq.1 ag
  rw[hpins _ ab ab E]at hq;have hk:=hq.1;rw[e]at hk;by_cases u:(i:Int)∈w.t
  .have:=(J.t _ u).1;grind
  rw[(J.pgs _ ab ab u).1]at hk;omega
 .have:=J.ci.qnd;simp_all[J.q]
 .by_cases E:Zk w i
  .have e:pg h'.p i=Y5:=by rw[ep];exact F.pz i A g E
   rw[e];have u:i∉w.t:=λu=>(J.fz hN B A g).1 u E;have z:=(J.fz hN B A g).2 u;have pk:=G.pgs i A g;have h4:=pk.kind;have hpp:=pk.pins;show(0:Int)=_;by_cases k0:(pg h0.p i).k=0
   .exact(zfree i A g k0).symm
   by_cases k1:(pg h0.p i).k=1
   .have:=(z.2.1 k1).1 E;omega
   by_cases k2:(pg h0.p i).k=2
   .have h5:=(z.2.2 k2).1 E;apply Classical.byContradiction;intro U;exact h5 (hl k2 ab)
   have I:(pg h0.p i).k=3:=ab;have⟨k,q0,q1,L,q2,q4⟩:=(VC hN hb0 B.gx.ep).tl i A g I;have:=((L.k2 q2).2.2 (i-k) ab ab).2.2.2;rw[show k+(i-k)=i by omega]at this;omega
  simp_all
 .rcases J.k p hp with⟨k1,_⟩|⟨k1,_⟩
  .omega
  exact absurd h k1.2
 ·
  have H:=(J.l p hp).1;have T:=B.at_ H;rcases J.k p hp with⟨k1,k2⟩|⟨k1,_,i,u,I,k4⟩
  .have f:=(J.fzm hN B hp (x:=p.2) (Ut _) (by have:=(XA h0.w p.1).2.1;omega)).1;rw[k1]at f⊢;rcases pgq _ T.2.2.1 T.2.2.2.1 with⟨_,h⟩|⟨e,_⟩
   .exact absurd h f
   have q:=J.pgs _ T.2.2.1 T.2.2.2.1 (J.prm B H).1;unfold cpB;rw[Y,e,q.1,q.2.2.1]
  have t:=J.tk B u;have z:=(XA h0.w p.1).2.1;have ea:∀o,Xc h0.c i o=4096+i*h0.c.W+o:=λ_=>rfl;have:=(Yb (c:=h0.c) G.conf (p:=i) (o:=p.2-Xc h0.c i 0) ab (by rw[ea]at I k4⊢;omega)).1;rw[show Xc h0.c i (p.2-Xc h0.c i 0)=p.2 by unfold Xc;omega]at this;rw[Xdc.2 k1,Xdc];unfold cpy;rw[Y,this];rcases pgq i t.1 t.2.1 with⟨_,h⟩|⟨e,_⟩
  .exact absurd h ((J.fz hN B t.1 t.2.1).1 u)
  rw[e];have:=J.t i u;omega
 ·
  have tl:((K2 0 h'.p.length).filter λi=>(pg h'.p i).k==1&&!decide ((pg h'.p i).P>0)).length=w.t.length:=by
   refine Nat.le_antisymm (JE ((XaR _ _).filter _) λi u=>?_) (JE J.ci.tnd λi u=>?_)
   .obtain⟨hr,u⟩:=WV.1 u;rw[Y7]at hr;simp only[WH,beq_iff_eq,Ic,IB]at u;exact frs i hr.1 ab u.1 u.2
   have t:=J.tk B u;have:=J.t i u;refine WV.2 ⟨Y7.2 ⟨t.1,ab⟩,?_⟩;rcases pgq i t.1 t.2.1 with⟨_,h⟩|⟨e,_⟩
   .exact absurd h ((J.fz hN B t.1 t.2.1).1 u)
   rw[e,t.2.2.1,this.2.1];rfl
  rw[J.pk,←tl,←UR,JR,JR];generalize K2 0 (h'.p.length:Int)=l;induction l with
  |nil=>rfl
  |cons a l ih=>
   simp only[U9];have:(if XO (pg h'.p a)=true then 1 else 0)=(if stC (pg h'.p a)=true then 1 else 0)+if((pg h'.p a).k==1&&!decide ((pg h'.p a).P>0))=true then 1 else 0:=by
    unfold XO stC;by_cases k1:(pg h'.p a).k=1
    .by_cases U:(pg h'.p a).P>0<;>simp[k1,U]
    simp[k1]
   omega
 ·
  rw[J.pk];rcases hbp with⟨h,e⟩|h
  .exact .inl ⟨by rw[e];rfl,h⟩
  have hm:=On h;have t:=J.tk B hm;refine .inr ⟨by have:=List.length_pos_of_mem hm;show w.t.length≠0;omega,t.1,?_⟩;show _=Xae w;unfold Xae;rw[h];rcases pgq _ t.1 t.2.1 with⟨_,h⟩|⟨e,_⟩
  .exact absurd h ((J.fz hN B t.1 t.2.1).1 hm)
  rw[e]
 ·
  rw[JR,JR,lp];refine List.countP_congr λi u=>?_;rw[Y7]at u;have g:i<(h0.p.length:Int):=ab;by_cases ht:i∈w.t
  .have t:=J.tk B ht;have t2:=J.t i ht;rcases pgq i u.1 g with⟨_,h⟩|⟨e,_⟩
   .exact absurd h ((J.fz hN B t.1 t.2.1).1 ht)
   rw[e];unfold stC;rw[t.2.2.1,t2.2.1,t2.1];simp
  have q:=J.pgs i u.1 g ht;have z:=(J.fz hN B u.1 g).2 ht;have big:∀k,0<=k->k<(h0.p.length:Int)->(pg h0.p k).k=2->Xc h0.c k 0∈M.map (·.1):=λk k0 k1 k2=>by
   have⟨l,pl⟩:=B.gx.ps k k0 k1;have am:Xc h0.c k 0∈l:=by rw[(pl.large k2).1];simp
   exact all _ ⟨⟨k,l,k0,k1,pl,am⟩,(B.gx.cl k l k0 k1 pl _ am).2 k2⟩
  rcases pgq i u.1 g with⟨e,E⟩|⟨e,_⟩
  .rw[e];have hk:=(G.pgs i u.1 g).kind;have:stC (pg h0.p i)=false:=by
    by_cases k0:(pg h0.p i).k=0
    .unfold stC;rw[k0];rfl
    by_cases k1:(pg h0.p i).k=1
    .have:=(z.2.1 k1).1 E;unfold stC;rw[k1];simpa using this
    by_cases k2:(pg h0.p i).k=2
    .exact absurd (big i u.1 g k2) ((z.2.2 k2).1 E)
    exfalso;have⟨k,k0',k1',L,k2',k4⟩:=spn.tl i u.1 ab (by rw[q.1];omega);have tt:=((L.k2 k2').2.2 (i-k) ab ab).2.1;rw[show k+(i-k)=i by omega]at tt;have R:Zk w k:=⟨ab,by have:=E.2;omega⟩
    have kt:k∉w.t:=λh=>(J.fz hN B k0' ab).1 h R;have k2'':(pg h0.p k).k=2:=by rw[←(J.pgs k k0' ab kt).1];exact k2'
    exact((((J.fz hN B k0' ab).2 kt).2.2 k2'').1 R) (big k k0' ab k2'')
   rw[this];simp[stC,Y5]
  rw[e];unfold stC;rw[q.1,q.2.2.1]
 rw[lp]at g;have u:=frs i A g k1 U;rcases pgq i A g with⟨e,_⟩|⟨e,E⟩
 .rw[e]at k1;exact absurd k1 ag
 rw[e];rw[Y];refine⟨J.fu i ?_,λx x0 x1=>?_⟩
 .rcases hbp with h|h
  .rw[h.2]at u;cases u
  have⟨ys,ey⟩:=List.getLast?_eq_some_iff.1 h;simp_all
 have⟨_,hl⟩:=(J.t i u).2.2.2;have⟨y,hy,_,y0,y1⟩:=hl.cvr x0 x1;exact⟨y,hy,y0,by rw[Ju (hkw y hy)];exact y1⟩
end
section
variable {N:Nat}{h0 h:Wi}{P:Int->Prop}{M:List (Int×Int)}
def GX.big(g:GX N h)(hN:NB N)(hb:HB h){i:Int}(j:0<=i)(y:i<h.p.length)(f:(pg h.p i).k=2\/(pg h.p i).k=3):∃b,Obb h b/\∀x,Xc h.c i 0<=x->x<Xc h.c i h.c.W->b<=x/\x<b+eS h.c (szA h.w b):=by
 have hp:=Xp hN hb g.ep;have s:=VC hN hb g.ep;have G:=Xh.1 hp.conf;have⟨k,k0,k1,k2,H⟩:∃k,0<=k/\k<=i/\(pg h.p k).k=2/\i<k+Xn h.c (pg h.p k).u:=by
  rcases f with f|f
  .have:=((s.hd i j y ab).k2 f).1;exact⟨i,j,ab,f,ab⟩
  have⟨k,a,b,_,c,d⟩:=s.tl i j y f;exact⟨k,a,ab,c,d⟩
 have⟨l,pl⟩:=g.ps k k0 ab;have e:=(pl.large k2).1;have A:Xc h.c k 0∈l:=by rw[e];simp
 have B:Obb h (Xc h.c k 0):=⟨⟨k,l,k0,ab,pl,A⟩,(g.cl k l k0 ab pl _ A).2 k2⟩
 have q:=(Yb (c:=h.c) hp.conf (p:=k) (o:=0) ab ab).1;have z:=(OR hp B (by rw[q];exact k2)).1;rw[q]at z;refine⟨_,B,λx I J=>?_⟩;have K:=WU (a:=k) (b:=i) (c:=h.c.W) ab ab;have E:=WU (a:=i+1) (b:=k+Xn h.c (pg h.p k).u) (c:=h.c.W) ab ab;rw[UY,UY]at E;unfold Xc at *;omega
def OJ.cap(c:OJ N h0 P M h)(hN:NB N)(hb:HB h)(cp:Cap h0):Cap h:=by
 have hp:=Xp hN hb c.gx.ep;have hv:=Xh.1 hp.conf;have A:=cp.a (M.map (·.1)) c.n1 λa J=>by obtain⟨p,hp,rfl⟩:=WI.1 J;exact(c.l p hp).1
 rw[Iy,←c.cf]at A;have K:∀p∈M,szA h0.w p.1=szA h.w p.2:=λp hp=>by unfold szA;rw[c.hd p hp]
 refine⟨λl L j=>UK ?_ A,?_⟩
 .refine XjR (f:=id) (f':=λp:Int×Int=>p.2) (g':=λp=>eS h.c (szA h0.w p.1)) ?_ λa J x O R=>?_
  .refine(List.pairwise_iff_forall_sublist.2 λ{a b} T x O R V Y=>?_);have Z:=Ow.1 (L.sublist T);have:=c.gx.own hp (j a (T.subset ac)) (j b (T.subset ac)) O R V Y;exact Z.1 (by simp[this])
  obtain⟨p,hp,rfl⟩:=WI.1 ((c.ob a).1 (j a J));exact⟨p,hp,O,by rw[K p hp];exact R⟩
 rw[Int.toNat_mul ab ab]at A;have cr:=c.gx.cr;have F:=Xk0 (c:=h.c) hp.conf (X:=(K2 0 h.p.length).filter λi=>XO (pg h.p i)&&(!ZU (pg h.p i)&&i != h.b)) (u:=λi=>if(pg h.p i).k=1 then(pg h.p i).u else h.c.W) (m:=M) (f':=λp=>p.2) (g':=λp=>eS h.c (szA h0.w p.1)) ((XaR _ _).filter _) ?_ ?_ A
 .have cc:=Xq7 (l:=K2 0 h.p.length) (p:=λi=>XO (pg h.p i)) (q:=λi=>XO (pg h.p i)&&(!ZU (pg h.p i)&&i != h.b)) (r:=λi=>ZU (pg h.p i)) (s:=λi=>i==h.b) λi _ hb=>by cases ZU (pg h.p i)<;>cases e:(i==h.b)<;>simp_all
  have c1:(K2 0 h.p.length).countP (λi=>i==h.b)<=1:=by rw[UR];exact JE (m:=[h.b]) ((XaR _ _).filter _) λx I=>by simpa using(WV.1 I).2
  rw[←JR,←JR]at cc;rw[←UR]at F;generalize en:(K2 0 h.p.length).countP (λi=>XO (pg h.p i)&&(!ZU (pg h.p i)&&i != h.b))=n2 at *;by_cases hX:n2=0
  .omega
  have:=F.2 λe=>hX (by rw[←en,UR,e];rfl);omega
 .intro i y;have⟨B,y⟩:=WV.1 y;rw[Y7]at B;simp only[WH,Ic,bne_iff_ne,ZU,XO]at y;by_cases k1:(pg h.p i).k=1
  .have:=(hp.pgs i B.1 ab).small k1;have:=(c.fl i B.1 ab k1 (by simp_all) y.2.2).1;omega
  omega
 intro i y x U H;have⟨B,y⟩:=WV.1 y;rw[Y7]at B;simp only[WH,Ic,bne_iff_ne,ZU,XO]at y;by_cases k1:(pg h.p i).k=1
 .rw[Wm k1]at H;have⟨p,g,p0,p1⟩:=(c.fl i B.1 ab k1 (by simp_all) y.2.2).2 x U H;have j:=(c.ob p.2).2 (WI.2 ⟨p,g,rfl⟩);refine⟨p,g,p0,?_⟩;rw[K p g];have E:=(j.1.at_ hp).kind;rcases E with E|E
  .rw[(c.gx.szs hp j E).2];exact p1
  have z:=(OR hp j E).1;have G:=j.1.at_ hp;have s2:=(G.large E).2;have L:=((hp.pgs _ (XN hp.conf G.rng).2.1 (by have:=(XN hp.conf G.rng).2.2.1;have:=hp.pages;omega)).large E).1;rw[z];unfold Xn at L⊢;grind
 rw[Wj k1]at H;have E:=(hp.pgs i B.1 ab).kind;have⟨b,j,I⟩:=c.gx.big hN hb B.1 ab (i:=i) ab;obtain⟨p,g,rfl⟩:=WI.1 ((c.ob b).1 j);exact⟨p,g,(I x U H).1,by rw[K p g];exact(I x U H).2⟩
def Qof(hN:NB N)(ht:HT h0)(gx:GX N h0)(cp:Cap h0){rs ws:List Int}(lr:rs.length<=1000000)(lw:ws.length<=1000000)(R:∀r∈rs,r=0\/Obb h0 r/\P r)(hw:∀r∈ws,r=0\/Obb h0 r)(V:∀a,Obb h0 a->P a->∀j∈XL (hdA h0.w a),wd h0.w (a+1+j)=0\/P (wd h0.w (a+1+j))):
 Ok (Qci N h0 rs ws) λr=>r.2.2.2.2=0/\HT r.1/\∃M,OJ N h0 P M r.1/\M.map (·.1)=Km h0 N 0 (Jt [] rs)/\R2 (rel M) rs r.2.1/\R2 (wk M) ws r.2.2.1:=by
 have Y:=hN;unfold NB at Y;have hb:=ht.hb;have⟨S,B,eL⟩:=Xub hN hb gx cp;have hp:=B.hp;have hsp:=hp.space;have⟨b1,er,Z⟩:=Xbh hN ht lr gx;have⟨b2,ew,hb2⟩:=Xbh hN ht lw gx;rw[Z.2 λr h=>(R r h).imp id And.left]at er;rw[hb2.2 hw]at ew;have⟨w0,ebg,J0,hs0⟩:=Xq9 (P:=P) hN ht B eL;rw[Qci,gx.ep,Xa,Wh,Wa];refine Ir ?_;rw[er,Xa,Wh,Wa,ew,Xa,Wh,Wa,ebg,Xa];have hroots:Ok (Qc5 N w0 rs) λr=>r.2.2=0/\∃M,JX N h0 S P r.1 M (Dn h0 M 0)/\r.1.d=0/\R2 (rel M) rs r.2.1/\M.map (·.1)=Jt [] rs:=by have hx:=Xk1 (D:=Dn h0 [] 0) hN B rs lr R N 0 w0 [] [] ab ab J0 (R2.nil _);refine I6 hx (λa q=>q.elim) λt q=>?_;obtain⟨w',M',o',c1,c2,_,c4,c5,rfl⟩:=q;refine Wd ⟨rfl,M',c1.cong (by rfl) (by rfl) (by rfl) (by rfl) (by rfl) c1.ci λx=>?_,c2.trans hs0,c4,c5⟩;exact⟨λ⟨i,p,j,hi,_⟩=>ab,λ⟨i,p,j,hi,_⟩=>ab⟩
 refine WJ hroots λT _ hy5=>?_;have⟨k,M1,J1,hs1,hrr,hm1⟩:=hy5;rw[k,show((0:Int) != 0)=false from rfl,Wa];have H:Ok (Qeo N T.1) λr=>r.2=0/\∃M',JX N h0 S P r.1 M' (Dn h0 M' M'.length)/\(∃t,M'=M1++t)/\M'.map (·.1)=Km h0 N 0 (M1.map (·.1)):=
  WJ (XrW hN B V N 0 T.1 M1 J1 hs1 ab ab) λr _ R=>Wd R
 refine WJ H λe _ hy6=>?_;have⟨hz6,M,J,hM,I⟩:=hy6;rw[hm1]at I;rw[hz6,show((0:Int) != 0)=false from rfl,Wa];refine WJ (XoK hN B ws lw hw T e J N 0 _ [] ab ab (R2.nil _)) λf _ L=>?_;have J':=J.upd e.1.d (WT.mk e.1.r.j e.1.r.K e.1.r.F e.1.r.E f.1 e.1.r.y);have A:=J.ci.wlen;have g:=J.ci.plen;have hol:=J.ci.old.length_le;have hsl:=B.st.st.len;have⟨v,c,f1,f2,f3,f4,f5⟩:=XgZ hN B J' N 0 e.1.h.w e.1.r.F ab (by grind) A J.tu λa ha hd=>J.same B hd.1 hd.2.1 (Ut _) (by have:=(XA h0.w a).2.1;omega);have f1:QaD N (Wv.mk e.1.h e.1.o e.1.t e.1.q e.1.d (WT.mk e.1.r.j e.1.r.K e.1.r.F e.1.r.E f.1 e.1.r.y)) N 0 e.1.h.w e.1.r.F=some (v,c):=f1;have hdO:∀a,XcP h0 M a->a∈e.1.o:=λa hd=>by rw[J.ol];unfold Yc;rw[WV];exact⟨(B.at_ hd.1).2.1,by simp[YY,fnd,hd.1.2]⟩
 rw[Qek];rw[f1,Xa,Xa];have⟨c',v',ps,g1,g2,g3,g4,g5,g6⟩:=XjS hN (w:=Wv.mk (Wi.mk e.1.h.c v e.1.h.p e.1.h.s e.1.h.b) e.1.o e.1.t e.1.q e.1.d (WT.mk e.1.r.j e.1.r.K c e.1.r.E f.1 e.1.r.y)) hb hp J.ci.conf g N 0 e.1.r.E v e.1.h.p ab ab (by have:=hb.2;omega) f2 f3 g λ_ _=>rfl;have hb1':=hb.1;have hb2':=hb.2;rw[Qej];dsimp only;rw[Xb ab,Xb ab,g1,Xa,Xa];dsimp only;have hw0:=hp.words;have hpl0:=hp.pages;have F:FX h0 e.1 M v v' ps:=by
  have pgx:∀x:Int,4096<=x->x<4096+h0.w.length->∀j,0<=j->(Xc h0.c j 0<=x/\x<Xc h0.c j h0.c.W↔j=pgi h0.c x):=λx z U j G=>by
   have q:=XN (a:=x) hp.conf ab;have e1:∀i o,Xc h0.c i o=4096+i*h0.c.W+o:=λ_ _=>rfl;constructor
   .rintro⟨h1,h2⟩;rw[e1]at h1 h2;have:=(Yb (c:=h0.c) hp.conf (p:=j) (o:=x-Xc h0.c j 0) (by rw[e1];omega) (by rw[e1];omega)).1;rw[show Xc h0.c j (x-Xc h0.c j 0)=x by unfold Xc;omega]at this;exact this.symm
   grind
  refine⟨λa hd=>f4 a (hdO a hd) hd,λx z hx=>f5 x z λa _ hd=>hx a hd,g4,g2,λj G j1 k=>(g5 j G).1 ⟨G,j1,k⟩,λj G j1 k=>(g5 j G).2 λh=>k h.2.2,λx z U k=>?_,λx z U k=>?_⟩
  .have q:=XN (a:=x) hp.conf ab;have:=(pgx x z U _ q.2.1).2 rfl;exact(g6 x z).1 ⟨pgi h0.c x,q.2.1,ab,k,this.1,this.2⟩
  refine(g6 x z).2 ?_;rintro⟨j,G,j1,O,h1,h2⟩;have:=(pgx x z U j G).1 ⟨h1,h2⟩;rw[this]at O;exact k O
 have esp:wI (1-e.1.h.s)=1-h0.s:=by rw[J.ci.spc,Xe ab ab]
 have fin:∀bp:Int,bp = -1/\e.1.t=[]\/e.1.t.getLast? = some bp->Ok (some ((Wi.mk e.1.h.c v' ps (wI (1-e.1.h.s)) bp),T.2.1,f.2,(WT.mk e.1.r.j e.1.r.K c c' f.1 e.1.r.y),0)) λr:Wi×List Int×List Int×WT×Int=>r.2.2.2.2=0/\HT r.1/\∃M,OJ N h0 P M r.1/\M.map (·.1)=Km h0 N 0 (Jt [] rs)/\R2 (rel M) rs r.2.1/\R2 (wk M) ws r.2.2.1:=λbp hbp=>
  Wd ⟨rfl,⟨⟨by simp_all,by simp_all⟩,g3⟩,M,J.fin hN B F J.ci.conf rfl rfl esp hbp,I,hrr.mono λ_ _ h=>h.mono hM,L⟩
 refine Ir (Wn (λu=>?_) λu=>fin _ (.inl ⟨rfl,WG (by have:=WM u;omega)⟩));have u:0<(e.1.t.length:Int):=Wx u;have htl:=J.ci.tl hb;rw[Xe ab ab];exact Ok.get ab ab λp hp=>fin _ (.inr (by
  rw[List.getLast?_eq_getElem?]
  have:=(KA.1 hp).2
  rwa[show((e.1.t.length:Int)-1).toNat=e.1.t.length-1 by omega]at this))
end
def eR(r:Int->Int->Prop)(a b:W6):Prop:=b.G=a.G/\b.V=a.V/\(a.V=true->r a.a b.a)/\(a.V=false->b.a=a.a)
def sR(r:Int->Int->Prop)(a b:UF):Prop:=b.J=a.J/\b.V=a.V/\(a.V=true->r a.a b.a)/\(a.V=false->b.a=a.a)
def Xeu{α β σ:Type}{q:σ->Nat->α->Bool}{p:σ->Nat->β->Bool}{f:σ->α->σ}{g:σ->β->σ}:∀{l:List α} {m:List β} {s:σ} {k:Nat},R2 (λa b=>(∀s k,p s k b=q s k a)/\∀s,g s b=f s a) l m->YD p g s k m=YD q f s k l
 |[],m,s,k,h=>by
  have:=h.1;cases m with
  |nil=>rfl
  |cons b m=>simp_all
 |a::l,m,s,k,h=>by obtain⟨b,u,rfl,e,j⟩:=h.unc;rw[YD,YD,e.1,e.2,Xeu j]
def R2.filt{α β:Type}{r:α->β->Prop}{p:α->Bool}{q:β->Bool}:∀{l:List α} {m:List β},R2 (λa b=>q b=p a/\(p a=true->r a b)) l m->R2 r (l.filter p) (m.filter q)
 |[],m,h=>by
  have:=h.1;cases m with
  |nil=>exact R2.nil _
  |cons b m=>simp_all
 |a::l,m,h=>by
  obtain⟨b,g,rfl,⟨j,f⟩,e⟩:=h.unc;cases hp:p a with
  |false=>rw[UC (by grind),UC (by simp_all)];exact e.filt
  |true=>rw[Uq hp,Uq (by simp_all)];exact R2.cons (f hp) e.filt
def R2.map{α β γ δ:Type}{r:α->β->Prop}{s:γ->δ->Prop}{f:α->γ}{g:β->δ}{l:List α}{m:List β}(h:R2 r l m)(u:∀a b,r a b->s (f a) (g b)):R2 s (l.map f) (m.map g):=by
 refine⟨by simp[h.1],λk x y e j=>?_⟩;rw[UW]at e j;cases p:l[k]? with
 |none=>simp_all
 |some a=>
  cases q:m[k]? with
  |none=>simp_all
  |some b=>rw[p]at e;rw[q]at j;cases e;cases j;exact u a b (h.2 k a b p q)
def ON{r:Int->Int->Prop}{l m:List W6}(h:R2 (eR r) l m):R2 r (Xu l) (Xu m):=
 R2.map (r:=λa b=>r a.a b.a) (R2.filt (h.mono λa b q=>⟨q.2.1,q.2.2.1⟩)) λ_ _ q=>q
def OV{r:Int->Int->Prop}{l m:List UF}(h:R2 (sR r) l m):R2 r (XD l) (XD m):=
 R2.map (r:=λa b=>r a.a b.a) (R2.filt (h.mono λa b q=>⟨q.2.1,q.2.2.1⟩)) λ_ _ q=>q
def R2.all{α β:Type}{p:α->Bool}{q:β->Bool}:∀{l:List α} {m:List β},R2 (λa b=>q b=p a) l m->m.all q=l.all p
 |[],m,h=>by have:=h.1;simp_all
 |a::l,m,h=>by obtain⟨b,g,rfl,e,f⟩:=h.unc;rw[Og,Og,e,R2.all f]
def R2.countP{α β:Type}{p:α->Bool}{q:β->Bool}:∀{l:List α} {m:List β},R2 (λa b=>q b=p a) l m->m.countP q=l.countP p
 |[],m,h=>by have:=h.1;simp_all
 |a::l,m,h=>by obtain⟨b,g,rfl,e,f⟩:=h.unc;rw[U9,U9,e,R2.countP f]
def Xg0{r:Int->Int->Prop}{l m:List W6}(h:R2 (eR r) l m):Yk m=Yk l:=by
 unfold Yk;rw[R2.all (p:=Jp) (q:=Jp) (h.mono λa b q=>?_),h.1];unfold Jp;rw[q.1,q.2.1];cases e:a.V with
 |true=>rfl
 |false=>rw[q.2.2.2 e]
def Xk4{r:Int->Int->Prop}{a b:Wq}(j:∀x y,r x y->(y=0↔x=0))(e:b.x=a.x)(f:b.i=a.i)(h:R2 (sR r) a.S b.S):Yl b=Yl a:=by
 have z:stB b.i b.S=stB a.i a.S:=by
  unfold stB;rw[f];refine Xeu (h.mono λx y q=>⟨λs k=>?_,λs=>q.1⟩);unfold stQ;rw[q.1,q.2.1];have:(y.a != 0)=(x.a != 0):=by
   cases g:x.V with
   |false=>rw[q.2.2.2 g]
   |true=>have:=j _ _ (q.2.2.1 g);grind
  rw[this]
 have A:Xcc b=Xcc a:=by
  unfold Xcc;rw[e];congr 1;funext u i p;have et:toL b i=toL a i:=by unfold toL;rw[e,h.1]
  unfold XhV YQ;rw[et];have:=(h.drop p.O.toNat).take ((toL a i).toNat-p.O.toNat);rw[R2.countP (p:=λx:UF=>x.V) (q:=λx:UF=>x.V) (this.mono λ_ _ q=>q.2.1)]
 unfold Yl;rw[e,f,h.1,←z,A,f]
section
variable {N:Nat}{r:Int->Int->Prop}
def Xev(E:List W6)(z:E.length<=1000000)(rs:List Int)(f:rs.length<=1000000):∀(n k c:Nat) (v:List W6),k<=E.length->E.length-k<n->v.length=E.length->v.drop k=E.drop k->c<=rs.length->R2 r (Xu (E.drop k)) (rs.drop c) ->
 ∃t,Qbi N rs n (c:Int) (k:Int) v=some (v.take k++t)/\R2 (eR r) (E.drop k) t
 |0,k,c,v,_,A,_,_,_,_=>by omega
 |n+1,k,c,v,K,A,B,hd,H,h=>by
  rw[Qbi,Xb ab,B];by_cases g:k<E.length;rotate_left
  .obtain rfl:k=E.length:=ab;rw[Xz,Wa,WY ab];exact⟨[],by grind,R2.nil _⟩
  have hdr:=Wl g;have p:=Wl (show k<v.length by omega);rw[p,hdr]at hd;have⟨I,q⟩:=I4 hd;rw[Xi g,Wc,Xf,Wb ab,Xa,I,Xg (k:=k) ab];rw[hdr]at h⊢;cases J:E[k].V with
  |false=>
   have u:Xu (E[k]::E.drop (k+1))=Xu (E.drop (k+1)):=by unfold Xu;rw[UC (by grind)]
   rw[u]at h;have⟨t,e,ht⟩:=Xev E z rs f n (k+1) c v ab ab B q H h;refine⟨E[k]::t,by grind,R2.cons ⟨rfl,rfl,(λh=>by grind),λ_=>rfl⟩ ht⟩
  |true=>
   have u:Xu (E[k]::E.drop (k+1))=E[k].a::Xu (E.drop (k+1)):=by unfold Xu;rw[Uq J];rfl
   rw[u]at h;have⟨b,L,x,O,R⟩:=h.unc;have j:c<rs.length:=by apply Classical.byContradiction;intro A;rw[WY ab]at x;cases x
   rw[Wl j]at x;rw[Wc,Xf,Wb j,Xa,Xa,Xg (k:=c) ab];have⟨t,e,ht⟩:=Xev E z rs f n (k+1) (c+1) (v.set k ⟨E[k].G,rs[c],E[k].V⟩) ab ab (by grind) (by rw[UU ab];omega) ab (by grind);have y:(v.set k ⟨E[k].G,rs[c],E[k].V⟩).take (k+1)=v.take k++[⟨E[k].G,rs[c],E[k].V⟩]:=by rw[Io,U4,Wm rfl,Wm ab,I5 ab];rfl
   rw[show(k:Int).toNat=k from rfl,e,y,W5];exact⟨_,rfl,R2.cons ⟨rfl,rfl,λ_=>by grind,λh=>by grind⟩ ht⟩
def Xk5(hN:NB N){t:WD}(ht:TB t)(g:Yk t.e=true){rs:List Int}(h:R2 r (Xu t.e) rs):∃m,Qb8 N t rs=some (m,0)/\R2 (eR r) t.e m.e:=by
 have f:1000000<N:=by unfold NB at hN;omega
 have j:=Jq g;have:=Vc t.e;have k:=h.1;have⟨m,e,p⟩:=Xev (N:=N) (r:=r) t.e ab rs ab N 0 0 t.e ab ab rfl rfl ab ah;rw[show((0:Nat):Int)=0 from rfl,Oy,W8]at e;refine⟨⟨m⟩,?_,p⟩;rw[Qb8,YP ht f,g,Xa,Wh,Wa,XW ht f,g,Wc,Xa,Xb ab,k];simp;rw[Xb ab,e,Xa]
def Xew(a:Wq)(B:a.S.length<=1000000)(rs:List Int)(g:rs.length<=1000000)(p:∀x∈rs,x≠0):∀(n k c:Nat) (v:List UF),k<=a.S.length->a.S.length-k<n->v.length=a.S.length->v.drop k=a.S.drop k->c<=rs.length->R2 r (XD (a.S.drop k)) (rs.drop c) ->
 ∃t,Qbh N a rs n (c:Int) (k:Int) v=some (.nxt (v.take k++t))/\R2 (sR r) (a.S.drop k) t
 |0,k,c,v,_,E,_,_,_,_=>by omega
 |n+1,k,c,v,L,E,G,hd,H,h=>by
  rw[Qbh,Xb ab,G];by_cases j:k<a.S.length;rotate_left
  .obtain rfl:k=a.S.length:=ab;rw[Xz,Wa,WY ab];exact⟨[],by grind,R2.nil _⟩
  have hdr:=Wl j;have q:=Wl (show k<v.length by omega);rw[q,hdr]at hd;have⟨I,u⟩:=I4 hd;rw[Xi j,Wc,Xf,Wb ab,Xa,I,Xg (k:=k) ab];rw[hdr]at h⊢;cases K:a.S[k].V with
  |false=>
   have y:XD (a.S[k]::a.S.drop (k+1))=XD (a.S.drop (k+1)):=by unfold XD;rw[UC (by grind)]
   rw[y]at h;have⟨t,e,ht⟩:=Xew a B rs g p n (k+1) c v ab ab G u H h;refine⟨a.S[k]::t,by grind,R2.cons ⟨rfl,rfl,(λh=>by grind),λ_=>rfl⟩ ht⟩
  |true=>
   have y:XD (a.S[k]::a.S.drop (k+1))=a.S[k].a::XD (a.S.drop (k+1)):=by unfold XD;rw[Uq K];rfl
   rw[y]at h;have⟨b,O,z,R,T⟩:=h.unc;have f:c<rs.length:=by apply Classical.byContradiction;intro E;rw[WY ab]at z;cases z
   rw[Wl f]at z;rw[Wh,Wa,Xf,Wb f,Xa,Xk (p _ (Ww f)),Wa,Xa,Xa,Xg (k:=c) ab];have⟨t,e,ht⟩:=Xew a B rs g p n (k+1) (c+1) (v.set k ⟨a.S[k].J,rs[c],a.S[k].V⟩) ab ab (by grind) (by rw[UU ab];omega) ab (by grind);have A:(v.set k ⟨a.S[k].J,rs[c],a.S[k].V⟩).take (k+1)=v.take k++[⟨a.S[k].J,rs[c],a.S[k].V⟩]:=by rw[Io,U4,Wm rfl,Wm ab,I5 ab];rfl
   rw[show(k:Int).toNat=k from rfl,e,A,W5];exact⟨_,rfl,R2.cons ⟨rfl,rfl,λ_=>by grind,λh=>by grind⟩ ht⟩
def Xrb(hN:NB N){a:Wq}(j:LBp a)(g:Yl a=true){rs:List Int}(h:R2 r (XD a.S) rs)(k:∀x∈rs,x≠0):∃m,Qde N a rs=some (⟨m,a.x,a.i⟩,0)/\R2 (sR r) a.S m:=by
 have f:1000000<N:=by unfold NB at hN;omega
 have p:=(XX.1 g).slots;have:=(XX.1 g).iss;have:=XaE a.S;have q:=h.1;have⟨m,e,u⟩:=Xew (N:=N) (r:=r) a ab rs ab k N 0 0 a.S ab ab rfl rfl ab ah;rw[show((0:Nat):Int)=0 from rfl,Oy,W8]at e;refine⟨m,?_,u⟩;rw[Qde,Zu j f,g,Xa,Wh,Wa,YR j f,g,Wc,Xa,q];simp;rw[Xb ab,e,Xa,Xm]
end
structure OM(N:Nat)(x y:Uj)(P:Int->Prop)(M:List (Int×Int)):Prop where
 et:ET y
 vx:VX N y
 ch:OJ N x.h P M y.h
 rt:R2 (rel M) x.R y.R
 ls:R2 (sR (rel M)) x.l.S y.l.S
 lc:y.l.x=x.l.x/\y.l.i=x.l.i
 gl:R2 (eR (rel M)) x.g.e y.g.e
 we:R2 (eR (wk M)) x.v.e y.v.e
 pi:y.P=x.P
 st:∀r∈YE x,r=0\/r∈M.map (·.1)
 ps:∀p∈x.P,(p.a,p.a)∈M
 od:M.map (·.1)=Km x.h N 0 (Jt [] (YE x))
def Xg1{c:WN}:∀{l:List UB},(∀p∈l,1<=p.M)->∀i,0<=ZF c l i
 |[],_,_=>by simp[ZF]
 |p::l,h,i=>by have:=Xg1 (c:=c) (l:=l) (λq e=>h q (WQ _ e)) i;grind[ZF]
def Xex{c:WN}:∀{l:List UB},(∀p∈l,1<=p.M)->∀p∈l,0<ZF c l (pgi c p.a)
 |[],_,p,hp=>by simp_all
 |q::l,h,p,hp=>by
  have f:=Xg1 (c:=c) (l:=l) λq e=>h q (WQ _ e);have g:=h q ac;rw[ZF];rcases Ig.1 hp with rfl|hp
  .grind
  have:=Xex (c:=c) (l:=l) (λq e=>h q (WQ _ e)) p hp;omega
def Xk6{c:WN}:∀{l:List UB} {i:Int},0<ZF c l i->∃p∈l,pgi c p.a=i
 |[],i,h=>by simp_all[ZF]
 |q::l,i,h=>by
  rw[ZF]at h;by_cases e:pgi c q.a=i
  .simp_all
  have⟨p,hp,e⟩:=Xk6 (c:=c) (l:=l) (i:=i) ab;grind
def MX.col{N:Nat}{h y:Wi}{pins:List UB}{P:Int->Prop}{M:List (Int×Int)}(m:MX N h pins)(c:OJ N h P M y)(hp:Uu h)(z:∀p∈pins,p.a∈M.map (·.1)):MX N y pins/\∀p∈pins,(p.a,p.a)∈M:=by
 have A:∀p∈pins,1<=p.M:=λp hp=>(m.ob p hp).2.1;have g:∀p∈pins,(p.a,p.a)∈M:=λp f=>by have⟨b,hb⟩:=JH (z p f);have j:=(m.ob p f).1.1.at_ hp;have q:=XN hp.conf j.rng;have B:=hp.pages;have E:=m.sm _ q.2.1 ab;have:=Xex (c:=h.c) A p f;have:=c.kp _ hb (by dsimp only;omega);grind
 refine⟨⟨c.gx,m.len,λp f=>⟨(c.ob _).2 (WI.2 ⟨_,g p f,rfl⟩),(m.ob p f).2⟩,m.nd,λi x u=>?_⟩,g⟩;rw[c.pl]at u;rw[c.pn i x u λk2 k=>?_,c.cf]
 .exact m.sm i x u
 rw[m.sm i x u]at k;have⟨p,f,e⟩:=Xk6 k;have j:=(m.ob p f).1.1.at_ hp;have q:=XN hp.conf j.rng;have:=(j.large (by rw[e];exact k2)).1;grind
section
variable {N:Nat}{x:Uj}
def XoL(s:List Int)(f:Wi×List Int×List Int×WT×Int)(g j:List Int)(p:Wq×Int)(q u:WD×Int)(A:x.P.length<=1000000)(y:∀k(B:k<x.P.length),Xd f.2.1 (wI (wI (wI ((x.R.length:Int)+(g.length:Int))+(j.length:Int))+(k:Int)))=some x.P[k].a):∀(n k:Nat) (v:List UB),k<=x.P.length->x.P.length-k<n->v=x.P.take k->QaX N x f g j p q u n (k:Int) v=some x.P
 |0,k,v,_,E,_=>by omega
 |n+1,k,v,B,E,z=>by
  rw[QaX];by_cases e:k<x.P.length
  .have G:v.length<=1000000:=by rw[z,Wu];omega
   rw[Xi e,Wc,y k e,Xa,Xf,Wb e,Xa,Xb ab,Xg ab];exact XoL s f g j p q u A y n (k+1) _ ab ab (by rw[Io,Wb e,z];rfl)
  grind
def R2.rel_ob{h:Wi}{M:List (Int×Int)}(e:∀b,Obb h b↔b∈M.map (·.2)){l m:List Int}(r:R2 (rel M) l m):∀b∈m,b=0\/Obb h b:=λb hb=>by
 have⟨a,f,h⟩:=r.memr hb;rcases h with h|h
 .exact .inl h.2
 grind
def XoM(hN:NB N)(ht:ET x)(vx:VX N x)(cp:Cap x.h){P:Int->Prop}(W:∀a,Obb x.h a->P a->∀j∈XL (hdA x.h.w a),wd x.h.w (a+1+j)=0\/P (wd x.h.w (a+1+j)))(hP:∀r∈YE x,r=0\/P r):Ok (QaY N x) λr=>r.2.2=0/\∃M,OM N x r.1 P M:=by
 have B:1000000<N:=by unfold NB at hN;omega
 have A:=ht.eb;have h1:=YK A.loc;have h2:=XZ x.g.e;have h5:=XZ x.v.e;have h3:=A.pins;have h4:=A.roots;rw[vx.loc,Wc]at h1;rw[vx.glo,Wc]at h2;rw[vx.wea,Wc]at h5;have hp64:=vx.mx.len;have gx:=vx.mx.gx;have hp:=Xp hN A.heap gx.ep;have I:YE x=((x.R++XD x.l.S)++Xu x.g.e)++x.P.map (·.a):=by unfold YE;rw[vx.loc,vx.glo];rfl
 have hll:(YE x).length=x.R.length+(XD x.l.S).length+(Xu x.g.e).length+x.P.length:=by rw[I];simp only[WK,Uf]
 have hsl:∀r∈YE x,r=0\/Obb x.h r:=λr u=>by
  rw[I]at u;simp only[Wr]at u;rcases u with((u|u)|u)|u
  .exact vx.rr r u
  .exact vx.rl r u
  .exact vx.rg r u
  obtain⟨p,hp,rfl⟩:=WI.1 u;exact .inr (vx.mx.ob p hp).1
 rw[QaY,(Jg hN ht).2 vx,Xa,Wh,Wa,VB hN A,Xa,XW A.wea B,vx.wea,Wc,Xa];refine WJ (Qof hN ht.ht gx cp (P:=P) (rs:=YE x) (ws:=Xu x.v.e) ab ab (λr u=>?_) vx.rw_ W) λy _ hy=>?_
 .grind
 obtain⟨hz,E,M,c,Y,u,hw⟩:=hy;rw[hz,show((0:Int) != 0)=false from rfl,Wa];have hs1:=u.1;generalize hs:y.2.1=s at *;generalize Z:XD x.l.S=f at *;generalize hm:Xu x.g.e=z at *;have en:(x.R.length:Int).toNat=x.R.length:=rfl;have w1:wI ((x.R.length:Int)+(f.length:Int))=((x.R.length+f.length:Nat):Int):=by rw[Xe ab ab];omega
 have w2:wI (((x.R.length+f.length:Nat):Int)+(z.length:Int))=((x.R.length+f.length+z.length:Nat):Int):=by rw[Xe ab ab];omega
 have t1:((x.R.length+f.length:Nat):Int).toNat=x.R.length+f.length:=rfl;have t2:((x.R.length+f.length+z.length:Nat):Int).toNat=x.R.length+f.length+z.length:=rfl;have r1:R2 (rel M) x.R (s.take x.R.length):=by have:=u.take x.R.length;rwa[I,W5,W5,List.take_left]at this
 have r2:R2 (rel M) f ((s.drop x.R.length).take f.length):=by have:=(u.drop x.R.length).take f.length;rwa[I,W5,W5,List.drop_left,List.take_left]at this
 have r3:R2 (rel M) z ((s.drop (x.R.length+f.length)).take z.length):=by
  have:=(u.drop (x.R.length+f.length)).take z.length;have e:(YE x).drop (x.R.length+f.length)=z++x.P.map (·.a):=by rw[I,W5,←WK,List.drop_left]
  rwa[e,List.take_left]at this
 have r4:R2 (rel M) (x.P.map (·.a)) (s.drop (x.R.length+f.length+z.length)):=by
  have:=u.drop (x.R.length+f.length+z.length);have e:(YE x).drop (x.R.length+f.length+z.length)=x.P.map (·.a):=by rw[I,←WK,←WK,List.drop_left]
  rwa[e]at this
 have hpm:∀p∈x.P,p.a∈M.map (·.1):=λp J=>by
  obtain⟨b,_,hb⟩:=r4.meml (WI.2 ⟨p,J,rfl⟩);rcases hb with h|h
  .have:=((vx.mx.ob p J).1.1.at_ hp).rng;omega
  grind
 have G:=vx.mx.col c hp hpm;have nz:∀a b,rel M a b->(b=0↔a=0):=λa b h=>by
  rcases h with h|h
  .omega
  have h1:=((c.l _ h).1.1.at_ hp).rng;have h2:=(((c.ob b).2 (WI.2 ⟨_,h,rfl⟩)).1.at_ (Xp hN E.hb c.gx.ep)).rng;omega
 have lz:∀v∈f,v≠0:=λv K=>by rw[←Z]at K;unfold XD at K;obtain⟨p,hp,rfl⟩:=WI.1 K;have hp:=WV.1 hp;obtain⟨q,hq,eq⟩:=Wt hp.1;exact(XaD (XX.1 vx.loc).st (i:=q) (p:=p) (by simp_all)).2.2.2.1 hp.2
 have lz':∀v∈(s.drop x.R.length).take f.length,v≠0:=λv K e=>by obtain⟨a,ha,h⟩:=r2.memr K;grind
 obtain⟨ml,e1,T⟩:=Xrb hN A.loc vx.loc (by rw[Z];exact r2) lz';obtain⟨mg,e2,L⟩:=Xk5 hN A.glo vx.glo (by rw[hm];exact r3);have⟨mw,e3,U⟩:=Xk5 hN A.wea vx.wea hw;rw[YR A.loc B,vx.loc,Wc,Z,Xa,XW A.glo B,vx.glo,Wc,hm,Xa,w1,w2,t1,t2,en];rw[Xb ab,Xb ab,Xb ab,Xb ab,show x.R.length+f.length-x.R.length=f.length by omega,e1,Xa,Xb ab,show x.R.length+f.length+z.length-(x.R.length+f.length)=z.length by omega,e2,Xa,e3,Xa];have O:=XoL (N:=N) (x:=x) s y f z (⟨ml,x.l.x,x.l.i⟩,0) (mg,0) (mw,0) h3 (λk hkp=>by
  rw[hs,w1,w2,Xe ab ab,show((x.R.length+f.length+z.length:Nat):Int)+(k:Int)=((x.R.length+f.length+z.length+k:Nat):Int) by omega,Xf,←UO]
  have⟨b,eb,hb⟩:=r4.get (k:=k) (a:=x.P[k].a) (by simp_all)
  have hsf:=G.2 _ (Ww hkp)
  rcases hb with h|h
  .simp_all
  .have hn:=c.n1
   have:b=x.P[k].a:=by
    rw[List.Nodup,ID,W7]at hn
    obtain⟨i,hi,ei⟩:=Wt h
    obtain⟨j,hj,V⟩:=Wt hsf
    rcases Nat.lt_trichotomy i j with g|g|g
    .exact absurd (by rw[ei,V]) (hn i j hi hj g)
    .subst g;rw[ei]at V;exact congrArg Prod.snd V
    .exact absurd (by rw[ei,V]) (hn j i hj hi g)
   grind) N 0 [] ab ab rfl
 rw[show((0:Nat):Int)=0 from rfl]at O;rw[O,Xa];have hgz:∀r∈Xu mg.e,r≠0:=λr H e=>by have⟨a,ha,h⟩:=(ON L).memr H;exact vx.gz a ha ((nz a r h).1 e)
 refine Wd (⟨rfl,M,⟨⟨⟨E.hb,⟨by rw[T.1];exact A.loc.1,A.loc.2⟩,by show mg.e.length<=_;rw[L.1];exact A.glo,by show mw.e.length<=_;rw[U.1];exact A.wea,h3,by grind⟩,E.tw⟩,⟨G.1,?_,?_,?_,hgz,r1.rel_ob c.ob,(OV T).rel_ob c.ob,(ON L).rel_ob c.ob,?_⟩,c,r1,T,⟨rfl,rfl⟩,L,U,rfl,λr H=>?_,G.2,Y⟩⟩)
 .exact(Xk4 (a:=x.l) (b:=⟨ml,x.l.x,x.l.i⟩) nz rfl rfl T).trans vx.loc
 .exact(Xg0 L).trans vx.glo
 .exact(Xg0 U).trans vx.wea
 .intro b hb;have⟨a,ha,h⟩:=(ON U).memr hb;rcases h with h|h|h
  .exact .inl h.2
  .exact .inr ((c.ob b).2 (WI.2 ⟨_,h,rfl⟩))
  omega
 have⟨b,_,h⟩:=u.meml H;rcases h with h|h
 .exact .inl h.1
 grind
end
structure Sc(N:Nat)(h h2:Wi)(a:Int)(d:Ws):Prop where
 ep:Qaa N h2=some true
 cf:h2.c=h.c
 sp:h2.s=h.s
 wl:h2.w.length=h.w.length
 pl:h2.p.length=h.p.length
 vd:Xx d=true/\tW d.Map/\d.k≠0
 w:∀x:Int,4096<=x->wd h2.w x=if x=a then ZB d else wd h.w x
 z:∀x:Int,a<=x->x<a+(d.n+1)->4096<=x/\wd h.w x=0
 pa:0<=pgi h.c a/\pgi h.c a<(h.p.length:Int)
 st:∀b,Stt h b->b≠a/\¬(b<=a/\a<b+szA h.w b)
 po:∀i,0<=i->i<(h.p.length:Int)->i≠pgi h.c a->pg h2.p i=pg h.p i\/(pg h.p i).k=0/\(pg h2.p i).k=3/\(pg h2.p i).s=h.s/\(pg h2.p i).P=0
 pp:(pg h2.p (pgi h.c a)).P=(pg h.p (pgi h.c a)).P/\(pg h2.p (pgi h.c a)).s=h.s /\
  (((pg h.p (pgi h.c a)).k=1/\(pg h2.p (pgi h.c a)).k=1/\a=Xc h.c (pgi h.c a) (pg h.p (pgi h.c a)).u/\(pg h2.p (pgi h.c a)).u=(pg h.p (pgi h.c a)).u+(d.n+1)/\d.n+1<=smC h.c) \/
   ((pg h.p (pgi h.c a)).k=0/\a=Xc h.c (pgi h.c a) 0/\(pg h2.p (pgi h.c a)).u=d.n+1/\((pg h2.p (pgi h.c a)).k=1/\d.n+1<=smC h.c\/(pg h2.p (pgi h.c a)).k=2)))
 us:((h2.p.countP XO:Nat):Int)<=h.c.p / 4
structure OQ(N:Nat)(h h2:Wi)(a:Int)(d:Ws):Prop where
 gx:GX N h2
 cf:h2.c=h.c
 sp:h2.s=h.s
 wl:h2.w.length=h.w.length
 pl:h2.p.length=h.p.length
 ge:4096<=a
 hd:hdA h2.w a=d
 zf:∀j,0<=j->j<d.n->wd h2.w (a+1+j)=0
 ob:∀b,Obb h2 b↔Obb h b\/b=a
 fr:¬Obb h a
 w:∀b,Obb h b->∀x,b<=x->x<b+szA h.w b->wd h2.w x=wd h.w x
 pn:∀i,0<=i->i<(h.p.length:Int)->(pg h2.p i).P=(pg h.p i).P
 us:((h2.p.countP XO:Nat):Int)<=h.c.p / 4
section
variable {N:Nat}{h h2:Wi}{a:Int}{d:Ws}
def Sc.new(q:Sc N h h2 a d)(g:GX N h)(hN:NB N)(hb:HB h):OQ N h h2 a d:=by
 have hp:=Xp hN hb g.ep;have hb2:HB h2:=⟨by rw[q.wl];exact hb.1,by rw[q.pl];exact hb.2⟩
 have V:=Xp hN hb2 q.ep;have⟨v1,v2,v3⟩:=q.vd;have vl:=XB v1;have ge:4096<=a:=(q.z a (Ut _) ab).1;have ed:=Xk3 v1 v2;have I:wd h2.w a=ZB d:=by rw[q.w a ge,Wm rfl]
 have K:hdA h2.w a=d:=by unfold hdA;rw[I];exact ed.2.1
 have sza:szA h2.w a=d.n+1:=by unfold szA;rw[K]
 have keep:∀b,Stt h b->wd h2.w b=wd h.w b:=λb A=>by have:=(A.at_ hp).rng;rw[q.w b this.1,Wj (q.st b A).1]
 have kh:∀b,Stt h b->hdA h2.w b=hdA h.w b:=λb A=>by unfold hdA;simp_all
 have ks:∀b,Stt h b->szA h2.w b=szA h.w b:=λb A=>Ju (keep b A);have pars:∀i l,0<=i->i<(h.p.length:Int)->OC h i l->OC h2 i (if i=pgi h.c a then l++[a]else l):=λi l y f pl=>by
  have L:∀b∈l,Stt h b:=λb hb=>⟨i,l,y,f,pl,hb⟩
  by_cases B:i=pgi h.c a
  .rw[Wm B];subst B;rcases q.pp.2.2 with⟨E,O,Y,Z,p5⟩|⟨E,O,Y,Z⟩
   .refine⟨λk=>ab,λ_=>?_,λk=>ab⟩;rw[q.cf,Z];have c1:=(pl.small E).congr (vs:=h2.w) λb hb=>keep b (L b hb);rw[←Y]at c1;refine c1.app ⟨rfl,by rw[I];exact ed.1,?_⟩;show a+szA h2.w a=_;have e1:∀o,Xc h.c (pgi h.c a) o=4096+pgi h.c a*h.c.W+o:=λ_=>rfl;grind
   rw[pl.none (.inl E),W8];refine⟨λk=>ab,λ_=>?_,λ_=>?_⟩
   .rw[q.cf,Y,←O];refine⟨rfl,by rw[I];exact ed.1,?_⟩;show a+szA h2.w a=_;have e1:∀o,Xc h.c (pgi h.c a) o=4096+pgi h.c a*h.c.W+o:=λ_=>rfl;grind
   rw[q.cf,Y,←O,I,sza];grind
  rw[Wj B];rcases q.po i y f B with e|⟨E,O,_⟩
  .refine⟨λk=>pl.none (by simp_all),λk=>?_,λk=>?_⟩
   .rw[q.cf,e];rw[e]at k;exact(pl.small k).congr λb hb=>keep b (L b hb)
   rw[e]at k;obtain⟨rfl,h1,h2'⟩:=pl.large k;have:=L (Xc h.c i 0) ac;simp_all[q.cf,e,keep,this,ks]
  rw[pl.none (.inl E)];exact⟨λ_=>rfl,λk=>ab,λk=>ab⟩
 have G:∀b,Stt h2 b↔Stt h b\/b=a:=λb=>by
  constructor
  .rintro⟨i,l,y,f,pl,u⟩;rw[q.pl]at f;have⟨m,H⟩:=g.ps i y f;have:=pl.fn (V.pgs i y (by simp_all[q.pl])).kind (pars i m y f H);subst this;split at u
   .rcases Wr.1 u with u|u
    .exact .inl ⟨i,m,y,f,H,u⟩
    simp_all
   exact .inl ⟨i,m,y,f,H,u⟩
  rintro(⟨i,l,y,f,pl,u⟩|rfl)
  .refine⟨i,_,y,by rw[q.pl];exact f,pars i l y f pl,?_⟩;grind
  have⟨m,H⟩:=g.ps _ q.pa.1 q.pa.2;have:=pars _ m q.pa.1 q.pa.2 H;exact⟨_,_,q.pa.1,by rw[q.pl];exact q.pa.2,this,ac⟩
 have ob2:∀b,Obb h2 b↔Obb h b\/b=a:=λb=>by
  constructor
  .rintro⟨R,hk⟩;rcases(G b).1 R with R|R
   .rw[kh b R]at hk;exact .inl ⟨R,hk⟩
   omega
  rintro(⟨R,hk⟩|rfl)
  .exact⟨(G b).2 (.inl R),by simp_all⟩
  exact⟨(G b).2 (.inr rfl),by simp_all⟩
 have ww:∀b,Stt h b->∀x,b<=x->x<b+szA h.w b->wd h2.w x=wd h.w x:=λb A x x0 x1=>by have:=(A.at_ hp).rng;rw[q.w x ab,Wj];rintro rfl;exact(q.st b A).2 ⟨x0,x1⟩
 have pins:∀i,0<=i->i<(h.p.length:Int)->(pg h2.p i).P=(pg h.p i).P:=λi y f=>by
  by_cases B:i=pgi h.c a
  .rw[B];exact q.pp.1
  rcases q.po i y f B with e|⟨E,_,_,Z⟩
  .rw[e]
  rw[Z,(hp.pgs i y f).free E];rfl
 have zf:∀j,0<=j->j<d.n->wd h2.w (a+1+j)=0:=λj j0 j1=>by rw[q.w _ ab,Wj ab];exact(q.z _ ab ab).2
 refine⟨⟨q.ep,λi y f=>?_,λi y f k=>?_,λi l y f pl b u=>?_,λx x0 hx=>?_,λb T j hj=>?_,?_⟩,q.cf,q.sp,q.wl,q.pl,ge,K,zf,ob2,λho=>(q.st a ho.1).1 rfl,λb T=>ww b T.1,pins,q.us⟩
 .rw[q.pl]at f;have⟨m,H⟩:=g.ps i y f;grind
 .rw[q.pl]at f;rw[q.sp];by_cases B:i=pgi h.c a
  .rw[B];exact q.pp.2.1
  rcases q.po i y f B with e|⟨_,_,Y,_⟩
  .rw[e]at k⊢;exact g.sp i y f k
  omega
 .rw[q.pl]at f;have⟨m,H⟩:=g.ps i y f;have:=pl.fn (V.pgs i y (by rw[q.pl];exact f)).kind (pars i m y f H);subst this;have old:∀b∈m,XcO h2 i b:=λb U=>by
   have A:Stt h b:=⟨i,m,y,f,H,U⟩
   have c:=g.cl i m y f H b U;have hat:=H.at_ hp y f U;have hk:=hat.1.kind;rw[hat.2]at hk;unfold XcO;rw[kh b A,ks b A,q.cf];by_cases B:i=pgi h.c a
   .rcases q.pp.2.2 with⟨E,O,_⟩|⟨E,_⟩
    .rw[←B]at E O;exact⟨λ_=>c.1 E,λk=>ab⟩
    rw[←B]at E;omega
   rcases q.po i y f B with e|⟨E,_⟩
   .rw[e];exact c
   omega
  split at u
  .rename_i B;rcases Wr.1 u with u|u
   .exact old b u
   rw[W9.1 u];unfold XcO;rw[K,sza,q.cf];refine⟨λk=>?_,λ_=>v3⟩;rcases q.pp.2.2 with⟨E,O,_,_,p5⟩|⟨E,_,_,⟨_,p5⟩|Z⟩
   .exact p5
   .exact p5
   rw[B]at k;omega
  simp_all
 .rw[q.w x x0]at hx;by_cases hxa:x=a
  .refine⟨a,(G a).2 (.inr rfl),ab,?_⟩;have:=(XgJ h2 a).1;omega
  rw[Wj hxa]at hx;have⟨b,sb,b1,b2⟩:=g.dt x x0 hx;exact⟨b,(G b).2 (.inl sb),b1,by rw[Xet (kh b sb)];omega⟩
 .rcases(ob2 b).1 T with ho|rfl
  .rw[kh b ho.1]at hj;have hr:=Y6 hj;have ez:szA h.w b=(hdA h.w b).n+1:=rfl;rw[ww b ho.1 (b+1+j) ab ab];rcases g.pt b ho j hj with e|e
   .exact .inl e
   simp_all
  have hr:=Y6 hj;simp_all
 rw[q.cf];refine Int.le_trans (Int.ofNat_le.2 (Xbi ZU h2.p h.p q.pl λi h1 h3 J=>?_)) g.cr;rw[←Zt h1]at J;rw[←Zt h3];unfold ZU at J⊢;rw[WH,decide_eq_true_iff,beq_iff_eq]at J⊢;have hpi:=pins (i:Int) ab ab;rw[hpi]at J;refine⟨?_,J.2⟩;have zk:(pg h.p (i:Int)).k=0->False:=λk=>by have:=(hp.pgs (i:Int) ab ab).free k;rw[this]at J;exact absurd J.2 ag
 by_cases B:(i:Int)=pgi h.c a
 .rcases q.pp.2.2 with⟨E,_⟩|⟨E,_⟩
  .rw[B];exact E
  grind
 rcases q.po (i:Int) ab ab B with e|⟨E,_⟩
 .rw[e]at J;exact J.1
 omega
end
section
variable {N:Nat}{h:Wi}{d:Ws}
def GX.nocov(g:GX N h)(hp:Uu h){x:Int}(z:4096<=x)(I:x<4096+h.w.length)(f:(pg h.p (pgi h.c x)).k=0\/(pg h.p (pgi h.c x)).k=1/\(pg h.p (pgi h.c x)).u<=pgo h.c x):(∀b,Stt h b->¬(b<=x/\x<b+szA h.w b))/\wd h.w x=0:=by
 have A:∀b,Stt h b->¬(b<=x/\x<b+szA h.w b):=by
  rintro b q ⟨b0,y⟩;have e:=q.at_ hp;obtain⟨J,K,L,B⟩:=(XbS hp e b0 y).1;have j:pgi h.c b=pgi h.c x:=by apply Classical.byContradiction;intro O;have:=B (pgi h.c x) ab (Ut _);omega
  have E:=e.kind;rw[j]at E;rcases f with f|⟨f,R⟩
  .omega
  have:=e.small (by rw[j];exact f);have eb:=(XN hp.conf e.rng).1;have G:=(XN (a:=x) hp.conf (by have:=hp.words;omega)).1;rw[j]at this eb;have H:∀o,Xc h.c (pgi h.c x) o=4096+pgi h.c x*h.c.W+o:=λ_=>rfl;rw[H]at eb G;omega
 refine⟨A,Classical.byContradiction λhw=>?_⟩;have⟨b,q,b0,y⟩:=g.dt x z hw;have:=XgX h b;grind
def XoN(hN:NB N){e:Wi}(hb:HB e)(ep:Qaa N e=some true)(k:Xx d=true){a:Int}(A:4096<=a)(B:a+(d.n+1)<=4096+e.w.length):∃ws,Qa1 N e a d=some (⟨e.c,ws,e.p,e.s,e.b⟩,0)/\ws.length=e.w.length/\(∀x:Int,4096<=x->wd ws x=if x=a then ZB d else if a<x/\x<a+(d.n+1)then 0 else wd e.w x)/\((∀x∈e.w,tU x)->∀x∈ws,tU x):=by
 have y:=hb.1;have vl:=XB k;have f:([ZB d]++List.replicate d.n.toNat (0:Int)).length=d.n.toNat+1:=by simp
 have q:ix a+([ZB d]++List.replicate d.n.toNat (0:Int)).length<=e.w.length:=by rw[f];unfold ix;omega
 refine⟨ovr e.w ([ZB d]++List.replicate d.n.toNat (0:Int)) (ix a),?_,Zz q,λx g=>?_,λtu x g=>?_⟩
 .rw[Qa1,KB,Wm k,ep,Xa,Xa,Wh,Wa];rw[show((0:Int) != 0)=false from rfl,Wa,Xb ab,Xb ab,ZA (by unfold BIG;omega) (by rw[f];unfold BIG;omega) (by rw[f];unfold NB at hN;omega),f,Wm (by unfold Ym;omega),Xa];rfl
 .unfold wd;rw[V3 q,f];by_cases j:x=a
  .simp_all
  rw[Wj j];by_cases u:a<x/\x<a+(d.n+1)
  .rw[Wm u,Wm (by unfold ix;omega)];obtain⟨m,z⟩:∃m,ix x-ix a=m+1:=⟨ix x-ix a-1,by unfold ix;omega⟩
   rw[z,Wk,List.singleton_append,Ij,IA];grind
  rw[Wj u,Wj (by unfold ix;omega)]
 unfold ovr at g;simp only[Wr,W9]at g;rcases g with(g|g|g)|g
 .exact tu x (WR g)
 .rw[g];exact V0 _
 .rw[(IL.1 g).2];exact⟨ab,ab⟩
 grind
def VD(hN:NB N){e:Wi}(hb:HB e)(ep:Qaa N e=some true){ws:List Int}(hw:ws.length=e.w.length):Qaa N ⟨e.c,ws,e.p,e.s,e.b⟩=some true:=
 Xab hN hb ep rfl (λ_ _=>rfl) hw (Xp hN hb ep).bump
def Xrc{ps l:List Wo}{j:Nat}(e:j+l.length<=ps.length)(i:Int)(f:0<=i):pg (Z8 ps l j) i=if(j:Int)<=i/\i<(j:Int)+l.length then l.getD (i-j).toNat Y5 else pg ps i:=by
 obtain⟨m,rfl⟩:∃m:Nat,i=m:=⟨i.toNat,ab⟩
 unfold pg;rw[Wk,show(m:Int).toNat=m from rfl,Xio e m];grind
def XiD(hN:NB N)(ht:HT h)(g:GX N h)(L:Xx d=true)(tm:tW d.Map)(O:d.k≠0)(hnd:Xn h.c (Xj d)≠-1):Ok (Qbm N h d) λr=>r.2.2=3\/(r.2.2=0/\HT r.1/\Sc N h r.1 r.2.1 d):=by
 have R:1000000<N:=by unfold NB at hN;omega
 have hb:=ht.hb;have hl:=hb.2;have eb:=g.ep;have hp:=Xp hN hb eb;have hcv:=Xh.1 hp.conf;have hvb:=XB L;have hpages:=hp.pages;have hw:=hp.words;have hs:Xj d=d.n+1:=by unfold Xj;rw[Wm L]
 have hnr:=KC h.c (Xj d);have⟨u,eu,hu⟩:=J8 (N:=N) (ps:=h.p) ab ab;have hub:u=((h.p.countP XO:Nat):Int):=Wz (eu.symm.trans (Xeg R hl));have hlm:Ke h.c=h.c.p / 4:=by unfold Ke;rw[Wm hp.conf]
 have⟨f1,T,_⟩:=Zj (N:=N) (ps:=h.p) 1 ab ab;rw[Qbm,eb,Xa,Wh,Wa,Xac R,Xa,L,Xl O,Xl hnd];rw[show(!(true&&(true&&true)))=false from rfl,Wa,XI,Xa,Zg ab,Xa,XaN hN hb hp (n:=Xj d) ⟨ab,ab⟩ eu T,Xa,Xt];by_cases H:Xn h.c (Xj d)=0
 ·
  rw[H,Wg ab,Wa];have Y:Xj d<=smC h.c:=by
   unfold Xn at H;rw[Wm ⟨hp.conf,ab⟩]at H;unfold smC;rw[Wm hp.conf];by_cases hle:Xj d<=h.c.W / 4
   .omega
   omega
  have hn:1<=Xj d/\Xj d<=h.c.W:=by refine⟨ab,?_⟩;unfold smC at Y;rw[Wm hp.conf]at Y;omega
  cases q:XbP N h (Xj d) u f1 with
  |none=>exact Wd (.inl rfl)
  |some ja=>
   have⟨j,o⟩:=ja;have⟨q1,q2,q3,q4⟩:=Xoz hN hb eb hn T q;have hm:=XE hp.conf (i:=(j:Int)) ab ab;have z:=Xei hb (Xj d) j o;have ea:Xc h.c (j:Int) o=4096+j*h.c.W+o:=rfl;have eqa:=Yb (c:=h.c) hp.conf (p:=(j:Int)) (o:=o) q2 ab;have G:(pg h.p (j:Int)).k=1/\o=(pg h.p (j:Int)).u\/(pg h.p (j:Int)).k=0/\o=0:=by
    unfold XbP at q;split at q
    .cases q;rename_i hc;have hbump:0<=h.b/\h.b<h.p.length/\(pg h.p h.b).k=1:=by
      rcases hp.bump with I|I
      .omega
      exact I
     grind
    split at q
    .cases q;rename_i hc;have y:RunOK h.p f1 1:=by
      rcases(Zj (N:=N) (ps:=h.p) 1 ab ab).get_eq T with I|I
      .omega
      exact I
     have:=y.2.2.2 0 ab ab;rw[Int.add_zero]at this;rw[show(f1.toNat:Int)=f1 by omega];exact .inr ⟨this,rfl⟩
    simp_all
   have⟨ws,J,U,i3,i4⟩:=XoN hN z q4 L (a:=Xc h.c (j:Int) o) ab (by show _<=4096+(h.w.length:Int);omega);dsimp only;have Z:Qa1 N (Wi.mk (WN.mk (YF h (Xj d) j o).c.W (YF h (Xj d) j o).c.p) (YF h (Xj d) j o).w (YF h (Xj d) j o).p (YF h (Xj d) j o).s (YF h (Xj d) j o).b) (Xc h.c (j:Int) o) d=_:=J;rw[Z,Xa];have epr:=VD hN z q4 U;have e2:=λi B=>YW (ps:=h.p) (i:=(j:Int)) (j:=i) ⟨1,h.s,o+Xj d,(pg h.p (j:Int)).P⟩ ab ab B;have epg:∀i,0<=i->pg (YF h (Xj d) j o).p i=if i=(j:Int)then⟨1,h.s,o+Xj d,(pg h.p (j:Int)).P⟩else pg h.p i:=λi B=>e2 i B
   have hus:(((YF h (Xj d) j o).p.countP XO:Nat):Int)<=h.c.p / 4:=by
    have K:(YF h (Xj d) j o).p.length=h.p.length:=by show(h.p.set j _).length=_;simp
    rcases G with⟨k1,_⟩|⟨k0,_⟩
    .have b0:=Xdb (ps:=h.p) (qs:=(YF h (Xj d) j o).p) (j:=0) (k:=0) K λi B J A=>by
      rw[epg i B]at A;left;split at A
      .rename_i e;rw[e,k1];decide
      exact A
     unfold XbP at q;split at q
     .omega
     split at q
     .omega
     cases q
    have b1:=Xdb (ps:=h.p) (qs:=(YF h (Xj d) j o).p) (j:=j) (k:=1) K λi B J A=>by
     rw[epg i B]at A;split at A
     .omega
     exact .inl A
    unfold XbP at q;split at q
    .rename_i hc;cases q;rcases hp.bump with I|I
     .omega
     rw[show(h.b.toNat:Int)=h.b by omega]at k0;omega
    split at q
    .omega
    cases q
   have cov:∀x,Xc h.c (j:Int) o<=x->x<Xc h.c (j:Int) o+(d.n+1)->(∀b,Stt h b->¬(b<=x/\x<b+szA h.w b))/\wd h.w x=0:=λx E x1=>by
    have ex:=Yb (c:=h.c) hp.conf (p:=(j:Int)) (o:=x-Xc h.c (j:Int) 0) (by unfold Xc at *;omega) (by unfold Xc at *;omega);rw[show Xc h.c (j:Int) (x-Xc h.c (j:Int) 0)=x by unfold Xc;omega]at ex;refine g.nocov hp ab ab ?_;rw[ex.1,ex.2];rcases G with⟨k1,ho⟩|⟨k0,ho⟩
    .exact .inr ⟨k1,by unfold Xc at *;omega⟩
    omega
   refine Wd (.inr ⟨rfl,⟨⟨by rw[U];exact hb.1,z.2⟩,i4 ht.tw⟩,⟨epr,rfl,rfl,U,?_,⟨L,tm,O⟩,λx E=>?_,λx E x1=>have E:Xc h.c (j:Int) o<=x:=E;⟨ab,(cov x E x1).2⟩,by grind,λb sb=>?_,λi B J hi=>?_,?_,hus⟩⟩)
   .show(h.p.set j _).length=_;simp
   .rw[i3 x E];split
    .rfl
    split
    .grind
    rfl
   .have c:=(cov (Xc h.c (j:Int) o) (Ut _) ab).1 b sb;exact⟨λe=>have e:b=Xc h.c (j:Int) o:=e;c ⟨ab,by have:=(XA h.w b).2.1;omega⟩,c⟩
   .simp_all
   rw[eqa.1];rw[epg (j:Int) ab,Wm rfl];grind
 
 have⟨k,A⟩:∃k:Nat,Xn h.c (Xj d)=(k:Int):=⟨(Xn h.c (Xj d)).toNat,ab⟩
 have V:=Xgo hp.conf (w:=Xj d) ab;rw[A]at V H hnr⊢;have⟨f,ef,hf⟩:=Zj (N:=N) (ps:=h.p) (k:Int) ab ab;rw[We (show(k:Int)>0 by omega),Wc,Qes,ef,Xa];by_cases h1:f<0
 .rw[We h1,Wc,Xa];exact Wd (.inl rfl)
 rw[Wg h1,Wa,eu,Xa,Xb8,Xa,Xe (n:=u+(k:Int)) ab ab];by_cases h2:u+(k:Int)>Ke h.c
 .rw[We h2,Wc,Xa];exact Wd (.inl rfl)
 have y:RunOK h.p f (k:Int):=by
  rcases hf with I|I
  .omega
  omega
 obtain⟨j,rfl⟩:∃j:Nat,f=(j:Int):=⟨f.toNat,ab⟩
 have hfit:=y.2.2.1;rw[Wg h2,Wa,Xip R hl hp ab ab A y,Xa,Xa];have hpr:=Xek hN hb eb ab y A;have z:=Xiq hb (Xj d) (j:=j) (k:=k) ab ab;have hm:=XE hp.conf (i:=(j:Int)) ab ab;have hmul:((j:Int)+(k:Int))*h.c.W<=h.c.p*h.c.W:=WU ab ab;rw[UY]at hmul;have ea0:Xc h.c (j:Int) 0=4096+j*h.c.W+0:=rfl;have eqa:=Yb (c:=h.c) hp.conf (p:=(j:Int)) (o:=0) ab ab;have⟨ws,J,U,i3,i4⟩:=XoN hN z hpr L (a:=Xc h.c (j:Int) 0) ab (by show _<=4096+(h.w.length:Int);omega);have ea:wU (wI (4096+wI ((j:Int)*h.c.W)))=Xc h.c (j:Int) 0:=by rw[ea0,Xe (n:=(j:Int)*h.c.W) ab ab,Xe (n:=4096+(j:Int)*h.c.W) ab ab,Xw ab ab];omega
 have i1':Qa1 N (Wi.mk (WN.mk h.c.W h.c.p) h.w (JQ h (Xj d) j k).p h.s h.b) (Xc h.c (j:Int) 0) d=_:=J;dsimp only;rw[ea,Wh,Wa,i1',Xa];have epr:=VD hN z hpr U;have hll:(Wo.mk 2 h.s (Xj d) 0::List.replicate (k-1) (Wo.mk 3 h.s 0 0)).length=k:=by simp;omega
 have epg:∀i,0<=i->pg (JQ h (Xj d) j k).p i=if(j:Int)<=i/\i<(j:Int)+k then(Wo.mk 2 h.s (Xj d) 0::List.replicate (k-1) (Wo.mk 3 h.s 0 0)).getD (i-j).toNat Y5 else pg h.p i:=λi B=>by have:=Xrc (ps:=h.p) (l:=Wo.mk 2 h.s (Xj d) 0::List.replicate (k-1) (Wo.mk 3 h.s 0 0)) (j:=j) ab i B;rw[hll]at this;exact this
 have k0:(pg h.p (j:Int)).k=0:=by have:=y.2.2.2 0 ab ab;rwa[Int.add_zero]at this
 have cov:∀x,Xc h.c (j:Int) 0<=x->x<Xc h.c (j:Int) 0+(d.n+1)->(∀b,Stt h b->¬(b<=x/\x<b+szA h.w b))/\wd h.w x=0:=λx E x1=>by
  have rx:=XN (a:=x) hp.conf ab;have e1:∀i o,Xc h.c i o=4096+i*h.c.W+o:=λ_ _=>rfl;have ex:=rx.1;rw[e1]at ex;have lo:(j:Int)<=pgi h.c x:=by apply Classical.byContradiction;intro hn;have:=Vw hp.conf (i:=pgi h.c x) (j:=(j:Int)) (o:=h.c.W) (p:=0) ab ab ab;rw[e1,e1]at this;omega
  have hi:pgi h.c x<(j:Int)+k:=by apply Classical.byContradiction;intro hn;have:((j:Int)+k)*h.c.W<=pgi h.c x*h.c.W:=WU ab ab;rw[UY]at this;omega
  refine g.nocov hp ab ab (.inl ?_);have:=y.2.2.2 (pgi h.c x-j) ab ab;grind
 refine Wd (.inr ⟨rfl,⟨⟨by rw[U];exact hb.1,z.2⟩,i4 ht.tw⟩,⟨epr,rfl,rfl,U,?_,⟨L,tm,O⟩,λx E=>?_,λx E x1=>have E:Xc h.c (j:Int) 0<=x:=E;⟨ab,(cov x E x1).2⟩,by grind,λb sb=>?_,λi B J hi=>?_,?_,?_⟩⟩)
 .exact Vh ab
 .rw[i3 x E];split
  .rfl
  split
  .grind
  rfl
 .have c:=(cov (Xc h.c (j:Int) 0) (Ut _) ab).1 b sb;exact⟨λe=>have e:b=Xc h.c (j:Int) 0:=e;c ⟨ab,by have:=(XA h.w b).2.1;omega⟩,c⟩
 .rw[eqa.1]at hi;rw[epg i B];by_cases hr:(j:Int)<=i/\i<(j:Int)+k
  .right;have kf:=y.2.2.2 (i-j) ab ab;rw[show(j:Int)+(i-j)=i by omega]at kf;obtain⟨m,hm'⟩:∃m,(i-(j:Int)).toNat=m+1:=⟨(i-(j:Int)).toNat-1,ab⟩
   rw[Wm hr,hm',Wk,Ij,IA,Wm ab];exact⟨kf,rfl,rfl,rfl⟩
  grind
 .rw[eqa.1];have hz:(pg h.p (j:Int)).P=0:=by rw[(hp.pgs (j:Int) ab ab).free k0];rfl
  grind
 have b:=Xdb (ps:=h.p) (qs:=(JQ h (Xj d) j k).p) (j:=j) (k:=k) (Vh ab) λi B J A=>by
  rw[epg i B]at A;split at A
  .rename_i e;exact .inr e
  exact .inl A
 have b:(JQ h (Xj d) j k).p.countP XO<=h.p.countP XO+k:=b;show(((JQ h (Xj d) j k).p.countP XO:Nat):Int)<=_;omega
end
section
variable {N:Nat}{h:Wi}{a:Int}
def XiE(hN:NB N)(hb:HB h)(g:GX N h){a b:Int}(k:Stt h a)(e:Stt h b)(p:a≠b):a+szA h.w a<=b\/b+szA h.w b<=a:=by have⟨S,L,q,mS,_⟩:=Xbg hN hb g.ep g.ps;have f:=q.obj.pw;rw[W7]at f;have⟨i,u,y⟩:=Wt ((mS a).2 k);have⟨j,z,A⟩:=Wt ((mS b).2 e);grind
def GX.words(g:GX N h)(hN:NB N)(hb:HB h){h2:Wi}(cf:h2.c=h.c)(sp:h2.s=h.s)(wl:h2.w.length=h.w.length)(pl:h2.p.length=h.p.length)(ep:Qaa N h2=some true)(E:∀i,0<=i->i<(h.p.length:Int)->(pg h2.p i).k=(pg h.p i).k/\(pg h2.p i).u=(pg h.p i).u/\(pg h2.p i).s=(pg h.p i).s)(hw:∀b,Stt h b->wd h2.w b=wd h.w b)(U:∀x:Int,4096<=x->wd h2.w x=wd h.w x\/∃b,Obb h b/\b<=x/\x<b+szA h.w b)(V:∀a,Obb h a->∀j∈XL (hdA h.w a),wd h2.w (a+1+j)=0\/Obb h (wd h2.w (a+1+j)))(W:((h2.p.countP ZU:Nat):Int)<=h.c.p / 4):GX N h2/\(∀b,Obb h2 b↔Obb h b)/\∀b,Stt h2 b↔Stt h b:=by
 have J:HB h2:=⟨by rw[wl];exact hb.1,by rw[pl];exact hb.2⟩
 have B:=Xp hN J ep;have I:∀b,Stt h b->hdA h2.w b=hdA h.w b:=λb A=>by unfold hdA;simp_all
 have Y:∀b,Stt h b->szA h2.w b=szA h.w b:=λb A=>Ju (hw b A);have pars:∀i l,0<=i->i<(h.p.length:Int)->OC h i l->OC h2 i l:=λi l q f p=>by
  have K:∀b∈l,Stt h b:=λb hb=>⟨i,l,q,f,p,hb⟩
  have e:=E i q f;refine⟨λk=>p.none ab,λk=>?_,λk=>?_⟩
  .rw[cf,e.2.1];exact(p.small ab).congr λb hb=>hw b (K b hb)
  obtain⟨rfl,h1,Z⟩:=p.large (by rw[←e.1];exact k);simp_all
 have st:∀b,Stt h2 b↔Stt h b:=λb=>by
  constructor
  .rintro⟨i,l,q,f,p,y⟩;rw[pl]at f;have⟨m,G⟩:=g.ps i q f;have:=p.fn (B.pgs i q ab).kind (pars i m q f G);subst this;exact⟨i,l,q,f,G,y⟩
  rintro⟨i,l,q,f,p,y⟩;exact⟨i,l,q,ab,pars i l q f p,y⟩
 have ob:∀b,Obb h2 b↔Obb h b:=λb=>by
  constructor
  .rintro⟨A,hk⟩;have:=(st b).1 A;exact⟨this,by simp_all⟩
  rintro⟨A,hk⟩;exact⟨(st b).2 A,by simp_all⟩
 refine⟨⟨ep,λi q f=>?_,λi q f k=>?_,λi l q f p b y=>?_,λx O R=>?_,λb z j hj=>?_,by simp_all⟩,ob,st⟩
 .rw[pl]at f;have⟨m,G⟩:=g.ps i q f;grind
 .rw[pl]at f;have e:=E i q f;rw[sp,e.2.2];exact g.sp i q f ab
 .rw[pl]at f;have⟨m,G⟩:=g.ps i q f;have:=p.fn (B.pgs i q ab).kind (pars i m q f G);subst this;have A:Stt h b:=⟨i,l,q,f,G,y⟩
  have c:=g.cl i l q f G b y;unfold XcO;rw[I b A,Y b A,cf,(E i q f).1];exact c
 .rcases U x O with e|⟨b,z,L,b2⟩
  .rw[e]at R;have⟨b,T,L,b2⟩:=g.dt x O R;exact⟨b,(st b).2 T,L,by rw[Xet (I b T)];omega⟩
  refine⟨b,(st b).2 z.1,L,?_⟩;rw[Xet (I b z.1)];unfold Kl;rw[Wj z.2];omega
 have H:=(ob b).1 z;rw[I b H.1]at hj;simp_all
structure Si(N:Nat)(h h2:Wi)(a i v:Int):Prop where
 ht:HT h2
 gx:GX N h2
 cf:h2.c=h.c
 sp:h2.s=h.s
 pl:h2.p=h.p
 ob:∀b,Obb h2 b↔Obb h b
 hd:∀b,Obb h b->hdA h2.w b=hdA h.w b
 w:∀x:Int,4096<=x->wd h2.w x=if x=a+1+i then v else wd h.w x
def Xey(hN:NB N)(ht:HT h)(g:GX N h)(B:Obb h a){i v:Int}(O:0<=i)(R:i<(hdA h.w a).n)(T:i∈XL (hdA h.w a)->v=0\/Obb h v)(U:tU v):∃h2,Qcm N h a i v=some (h2,0)/\Si N h h2 a i v:=by
 have hb:=ht.hb;have hp:=Xp hN hb g.ep;have k:=B.1.at_ hp;have V:=k.rng;have W:=KD hp k;have Y:szA h.w a=(hdA h.w a).n+1:=rfl;have J:=hb.1;have y:inW h.w (a+1+i):=by unfold inW;omega
 have u:∀x:Int,4096<=x->wd (h.w.set (ix (a+1+i)) v) x=if x=a+1+i then v else wd h.w x:=λx A=>Xcb y A
 have nst:∀b,Stt h b->b≠a+1+i:=λb E e=>by
  by_cases z:b=a
  .omega
  have:=XiE hN hb g E B.1 z;have:=(XA h.w b).2.1;omega
 have G:Qaa N ⟨h.c,h.w.set (ix (a+1+i)) v,h.p,h.s,h.b⟩=some true:=VD hN hb g.ep ac;have q:=g.words (h2:=⟨h.c,h.w.set (ix (a+1+i)) v,h.p,h.s,h.b⟩) hN hb rfl rfl ac rfl G (λ_ _ _=>⟨rfl,rfl,rfl⟩) (λb E=>by
  rw[u b (E.at_ hp).rng.1,Wj (nst b E)]) (λx Z=>by
  grind) (λb f j I=>by
  have K:=Y6 I
  have ezb:szA h.w b=(hdA h.w b).n+1:=rfl
  have:=(f.1.at_ hp).rng
  rw[u _ ab]
  by_cases L:b+1+j=a+1+i
  .by_cases z:b=a
   .simp_all
   .have:=XiE hN hb g f.1 B.1 z
    omega
  .rw[Wj L];exact g.pt b f j I) g.cr
 have H:=XaP hN hb g.ep k;refine⟨⟨h.c,h.w.set (ix (a+1+i)) v,h.p,h.s,h.b⟩,?_,⟨⟨by simp_all,hb.2⟩,λx A=>?_⟩,q.1,rfl,rfl,rfl,q.2.1,λb f=>?_,u⟩
 .rw[Qcm,Qc7,Xcn hN hb g.ep k H B.2,Xa];dsimp only;rw[show((0:Int) != 0)=false from rfl,Wa,Wg ab,Wa,Wg ab,Wa,Xw (n:=a+1) ab ab,Xw (n:=i) ab ab,Xw (n:=a+1+i) ab ab,Ye (by unfold BIG;omega),Xa,Wm y,Xa];rw[show((0:Int) != 0)=false from rfl,Wa,KJ (by unfold BIG;omega) (by unfold NB at hN;omega),Xa,Wm y]
 .rcases WZ A with A|A
  .exact ht.tw x A
  simp_all
 unfold hdA;rw[u b (f.1.at_ hp).rng.1,Wj (nst b f.1)]
def OS.pins{c:WN}{ps:List Wo}(s:OS c ps){j:Int}(p:0<=j)(y:j<ps.length)(A:(pg ps j).k=1\/(pg ps j).k=2){q:Int}(B:0<=q)(E:q<=2147483647):OS c (ps.set j.toNat ⟨(pg ps j).k,(pg ps j).s,(pg ps j).u,q⟩):=by
 have z:=λi f=>YW (ps:=ps) (i:=j) (j:=i) ⟨(pg ps j).k,(pg ps j).s,(pg ps j).u,q⟩ p y f;have e3:∀i,0<=i->(pg (ps.set j.toNat ⟨(pg ps j).k,(pg ps j).s,(pg ps j).u,q⟩) i).k=(pg ps i).k/\(pg (ps.set j.toNat ⟨(pg ps j).k,(pg ps j).s,(pg ps j).u,q⟩) i).s=(pg ps i).s/\(pg (ps.set j.toNat ⟨(pg ps j).k,(pg ps j).s,(pg ps j).u,q⟩) i).u=(pg ps i).u/\(i≠j->(pg (ps.set j.toNat ⟨(pg ps j).k,(pg ps j).s,(pg ps j).u,q⟩) i)=pg ps i):=λi f=>by grind
 have spb:∀i,0<=i->i<(ps.length:Int)->O8 c ps i->O8 c (ps.set j.toNat ⟨(pg ps j).k,(pg ps j).s,(pg ps j).u,q⟩) i:=λi f g b=>by
  have e:=e3 i f;refine⟨by rw[e.2.1];exact b.sp,?_,λk=>?_,λk=>?_,λk=>?_,by rw[e.1];exact b.kd⟩
  .rw[z i f];split
   .simp_all
   exact b.pn
  .rw[e.1]at k;have:i≠j:=λh=>by simp_all
   rw[e.2.2.2 this];exact b.k0 k
  .rw[e.1]at k;rw[e.2.2.1];exact b.k1 k
  rw[e.1]at k;have k2:=b.k2 k;grind
 refine⟨λi f g k=>?_,λi f g k=>?_⟩
 .rw[WL]at g;rw[(e3 i f).1]at k;exact spb i f g (s.hd i f g k)
 rw[WL]at g;rw[(e3 i f).1]at k;have⟨m,G,H,I,J,K⟩:=s.tl i f g k;grind
structure O3(N:Nat)(h h2:Wi):Prop where
 ht:HT h2
 gx:GX N h2
 cf:h2.c=h.c
 sp:h2.s=h.s
 wd:h2.w=h.w
 ob:∀b,Obb h2 b↔Obb h b
 us:h2.p.countP XO<=h.p.countP XO
def Xk7(hN:NB N)(ht:HT h)(g:GX N h)(R:Obb h a){by_:Int}(T:0<=(pg h.p (pgi h.c a)).P+by_)(U:(pg h.p (pgi h.c a)).P+by_<=2147483647)(V:(pg h.p (pgi h.c a)).k=1->(pg h.p (pgi h.c a)).P+by_>0->(pg h.p (pgi h.c a)).P>0\/((h.p.countP ZU:Nat):Int)<h.c.p / 4):
 ∃h2,QbZ N h a by_=some h2/\O3 N h h2/\h2.p.length=h.p.length/\∀i,0<=i->(pg h2.p i).P=if i=pgi h.c a then(pg h.p i).P+by_ else(pg h.p i).P:=by
 have hb:=ht.hb;have W:=hb.2;have hp:=Xp hN hb g.ep;have E:=R.1.at_ hp;have⟨Y,J,K⟩:=K0 (N:=N) hp E;have L:=E.kind;generalize ej:pgi h.c a=j at *;have O:=λi B=>YW (ps:=h.p) (i:=j) (j:=i) ⟨(pg h.p j).k,(pg h.p j).s,(pg h.p j).u,(pg h.p j).P+by_⟩ J K B;have spn:=(VC hN hb g.ep).pins J K L T U;have f:(h.p.set j.toNat ⟨(pg h.p j).k,(pg h.p j).s,(pg h.p j).u,(pg h.p j).P+by_⟩).length=h.p.length:=WL;have pre:O6 ⟨h.c,h.w,h.p.set j.toNat ⟨(pg h.p j).k,(pg h.p j).s,(pg h.p j).u,(pg h.p j).P+by_⟩,h.s,h.b⟩:=by
  refine⟨hp.conf,hp.words,by rw[f];exact hp.pages,hp.space,?_⟩;rcases hp.bump with y|y
  .exact .inl y
  right;rw[f];refine⟨y.1,y.2.1,?_⟩;rw[O _ y.1];split
  .rename_i e;rw[←e];exact y.2.2
  exact y.2.2
 have G:HB ⟨h.c,h.w,h.p.set j.toNat ⟨(pg h.p j).k,(pg h.p j).s,(pg h.p j).u,(pg h.p j).P+by_⟩,h.s,h.b⟩:=⟨hb.1,by rw[f];exact hb.2⟩
 have epr:=JS hN G pre spn;have H:((((h.p.set j.toNat ⟨(pg h.p j).k,(pg h.p j).s,(pg h.p j).u,(pg h.p j).P+by_⟩).countP ZU:Nat)):Int)<=h.c.p / 4:=by
  have Z:=g.cr;have z:j.toNat<h.p.length:=ab;rw[Il,Wm z,List.countP_append,U9];have I:h.p.countP ZU=(h.p.take j.toNat).countP ZU+((h.p.drop (j.toNat+1)).countP ZU+if ZU h.p[j.toNat]=true then 1 else 0):=by
   conv=>lhs;rw[←If j.toNat h.p]
   rw[List.countP_append,Wl z,U9]
  have epj:pg h.p j=h.p[j.toNat]:=by have:=Zt z;rwa[show(j.toNat:Int)=j by omega]at this
  rw[←epj]at I;by_cases A:ZU ⟨(pg h.p j).k,(pg h.p j).s,(pg h.p j).u,(pg h.p j).P+by_⟩=true
  .rw[Wm A];unfold ZU at A;rw[WH,decide_eq_true_iff,beq_iff_eq]at A;rcases V A.1 A.2 with y|y
   .have:ZU (pg h.p j)=true:=by unfold ZU;rw[WH,decide_eq_true_iff,beq_iff_eq];exact⟨A.1,y⟩
    rw[Wm this]at I;omega
   split at I<;>omega
  rw[Wj A];split at I<;>omega
 have q:=g.words (h2:=⟨h.c,h.w,h.p.set j.toNat ⟨(pg h.p j).k,(pg h.p j).s,(pg h.p j).u,(pg h.p j).P+by_⟩,h.s,h.b⟩) hN hb rfl rfl rfl f epr (λi B i1=>by
  rw[O i B]
  split
  .rename_i e;rw[e];exact⟨rfl,rfl,rfl⟩
  .exact⟨rfl,rfl,rfl⟩) (λ_ _=>rfl) (λ_ _=>.inl rfl) g.pt H
 refine⟨⟨h.c,h.w,h.p.set j.toNat ⟨(pg h.p j).k,(pg h.p j).s,(pg h.p j).u,(pg h.p j).P+by_⟩,h.s,h.b⟩,?_,⟨⟨G,ht.tw⟩,q.1,rfl,rfl,rfl,q.2.1,Xdb (j:=0) (k:=0) f λi B i1 L=>.inl (by rw[O i B]at L;grind)⟩,f,λi B=>?_⟩
 .rw[QbZ,Xb ab,Y,Xa,Xo J K,Xa,Xa,Xe ab ab]
 grind
end
end Go.Sx
