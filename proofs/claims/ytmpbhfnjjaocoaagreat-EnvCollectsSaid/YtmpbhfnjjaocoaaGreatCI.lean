import Derived.Test.YtmpbhfnjjaocoaaGreatCE
set_option linter.all false
namespace Go.Sx
section
variable {N:Nat}{h0:Wl}{l:List Int}
structure I5(h0:Wl)(l:List Int)(w:WC):Prop where
 q:∀a∈w.q,okH (wd w.h.w a)=true
 old:∀a∈l,a∉w.q->Vf (wd w.h.w a)=false->okH (wd w.h.w a)=true
 fw:∀a∈l,Vf (wd w.h.w a)=true->Yz .u64 (wd w.h.w a) 2≠0
 ws:∀x∈w.h.w,tU x
 ss:SpanS h0.c h0.p w.h.p
 k1:∀i,0<=i->(pg h0.p i).k=1->(pg w.h.p i).k=1
 pr:∀i,Prm w i->(pg h0.p i).k=1/\(pg w.h.p i).u=(pg h0.p i).u
 hw:∀b∈l,Prm w (pgi h0.c b)->wd w.h.w b=wd h0.w b
 bm:w.h.b=h0.b
 ol:w.o=Jx h0 l
def KeepW(w w':WC):Prop:=w'=⟨⟨w.h.c,w'.h.w,w'.h.p,w.h.s,w.h.b⟩,w.o,w'.t,w'.q,w.d,⟨w'.r.j,w'.r.K,w.r.F,w.r.E,w.r.f,w.r.y⟩⟩
def Xih(w:WC)(a:Int):∀(n:Nat)(i:Int)(qs r:List Wt),0<=i->QaD N w a n i qs=some r->∀j,0<=j->(((i<=j/\j<qs.length/\∀x,i<=x->x<=j->(pg qs x).k=3)/\pg r j=⟨3,wI (1-w.h.s),(pg qs j).u,(pg qs j).P⟩)\/(¬(i<=j/\j<qs.length/\∀x,i<=x->x<=j->(pg qs x).k=3)/\pg r j=pg qs j))
 |0,i,qs,r,_,e,_,_=>by simp_all[QaD]
 |n+1,i,qs,r,h0,e,j,hj=>by
  rw[QaD]at e;by_cases hl:qs.length<=140737488355328;rotate_left
  .unfold grd at e;rw[Wn hl]at e;cases e
  rw[Xc hl]at e;by_cases hc:i<(qs.length:Int);rotate_left
  .rw[Wh hc,Wa]at e;cases e;exact .inr ⟨λh=>aa,rfl⟩
  rw[Wg hc,Wc,XH h0 hc,Xa,Xa]at e;by_cases h3:(pg qs i).k=3;rotate_left
  .rw[XD h3,Wa]at e;cases e;exact .inr ⟨λh=>h3 (h.2.2 i aa h.1),rfl⟩
  rw[XL h3,Wc,Xd (n:=i+1) aa aa,h3]at e;have e2:=λx hx=>ZE (ps:=qs) (j:=x) ⟨3,wI (1-w.h.s),(pg qs i).u,(pg qs i).P⟩ h0 hc hx;have hr:=Xih w a n (i+1) _ r aa e j hj;grind
def Xrt{v:Int}(h:0<=v):Yz .u64 v 2=v / 4:=YO v 2 aa h
def Xp2{v:Int}(h1:4096<=v)(h2:v<4294967296):Vf (wU (wU (4*v)+2))=true/\Yz .u64 (wU (wU (4*v)+2)) 2=v/\tU (wU (wU (4*v)+2)):=by
 rw[Xx (n:=4*v) aa aa,Xx aa aa];have e:Yz .u64 (4*v+2) 2=v:=by rw[Xrt aa];omega
 refine⟨?_,e,⟨aa,aa⟩⟩;unfold Vf;grind
def Xge{ws:List Int}(h:∀x∈ws,tU x)(a:Int):tU (wd ws a):=by
 unfold wd;rw[Wo];cases e:ws[ix a]? with
 |none=>simp
 |some x=>grind
def Xoa{v:Int}(hv:tU v)(h:okH v=true):Vf v=false:=by rw[Xlr hv]at h;unfold Vf;grind
def I5.push{w:WC}(hh:I5 h0 l w){a:Int}(h:okH (wd w.h.w a)=true)(rp:WL):I5 h0 l {w with q:=w.q++[a],r:=rp}:=by
 refine⟨λb hb=>?_,λb hb hq hf=>hh.old b hb (λe=>hq (W0 _ e)) hf,hh.fw,hh.ws,hh.ss,hh.k1,hh.pr,hh.hw,hh.bm,hh.ol⟩;rcases WG.1 hb with hb|hb
 .exact hh.q b hb
 simp_all
structure On(h0:Wl)(w:WC)(qs:List Wt)(tk:List Int):Prop where
 ss:SpanS h0.c w.h.p qs
 kd:∀i,0<=i->(pg w.h.p i).k=1->(pg qs i).k=1
 pr:∀i:Int,0<=i->i<qs.length->(pg qs i).k=1->i∉tk->pg qs i=pg w.h.p i/\i∉w.t
def Oc{w:WC}{qs:List Wt}{tk:List Int}(hq:On h0 w qs tk){w':WC}(e1:w'.h.p=qs)(e2:w'.t=tk)(e3:w'.h.s=w.h.s){i:Int}(h:Prm w' i):Prm w i/\pg w'.h.p i=pg w.h.p i:=by have⟨⟨a,b⟩,c,d,f⟩:=h;rw[e1]at b c d⊢;rw[e2]at f;have⟨g1,g2⟩:=hq.pr i a b c f;refine⟨⟨⟨a,by rw[←hq.ss.1];omega⟩,by simp_all,by simp_all,g2⟩,g1⟩
def I5.spn(hN:NB N)(hb:HB h0)(ep:Qab N h0=some true){w:WC}(hh:I5 h0 l w):Om h0.c w.h.p:=by have h:=hh.ss.proper hN hb ep (ws:=h0.w) rfl (b:=-1) (.inl rfl);exact XlQ hN (h:=⟨h0.c,h0.w,w.h.p,h0.s,-1⟩) ⟨hb.1,by rw[hh.ss.1];exact hb.2⟩ h
def Om.sp{c:WU}{ps:List Wt}(h:Om c ps):∀i,0<=i->(pg ps i).k=1->0<=(pg ps i).s/\(pg ps i).s<=1:=λi hi hk=>by
 by_cases hl:i<ps.length
 .exact(h.hd i hi hl aa).sp
 unfold pg at hk;rw[Wo,WY aa]at hk;cases hk
def Xru{w:WC}(hs:Om h0.c w.h.p)(h0s:0<=w.h.s/\w.h.s<=1){a i:Int}{n:Nat}{qs:List Wt}(i0:0<=i)(hi:i<w.h.p.length)(hk:(pg w.h.p i).k=2)(hl:qs.length=w.h.p.length)(e:QaD N w a n (i+1) (w.h.p.set i.toNat ⟨(pg w.h.p i).k,wI (1-w.h.s),(pg w.h.p i).u,(pg w.h.p i).P⟩)=some qs):On h0 w qs w.t:=by
 have hw:wI (1-w.h.s)=1-w.h.s:=Xd aa aa;have e2:=λx hx=>ZE (ps:=w.h.p) (j:=x) ⟨(pg w.h.p i).k,wI (1-w.h.s),(pg w.h.p i).u,(pg w.h.p i).P⟩ i0 hi hx;have hr:=λj hj=>Xih w a n (i+1) _ qs aa e j hj;have run:∀j,0<=j->(i<j/\j<w.h.p.length/\(∀x,i<x->x<=j->(pg w.h.p x).k=3)/\pg qs j=⟨3,1-w.h.s,(pg w.h.p j).u,(pg w.h.p j).P⟩)\/(¬(i<j/\j<w.h.p.length/\∀x,i<x->x<=j->(pg w.h.p x).k=3)/\pg qs j=if j=i then⟨2,1-w.h.s,(pg w.h.p i).u,(pg w.h.p i).P⟩else pg w.h.p j):=λj hj=>by
  have h:=hr j hj;rw[WR,e2 j hj,hw,hk]at h;have eq:∀x,i<x->pg (w.h.p.set i.toNat ⟨2,1-w.h.s,(pg w.h.p i).u,(pg w.h.p i).P⟩) x=pg w.h.p x:=λx hx=>by have:=e2 x aa;rw[hk,hw]at this;rw[this,Wn aa]
  rcases h with⟨⟨a1,a2,a3⟩,b⟩|⟨a,b⟩
  .rw[Wn (show¬j=i by omega)]at b;exact .inl ⟨aa,a2,λx hx hxj=>by rw[←eq x hx];exact a3 x aa hxj,b⟩
  exact .inr ⟨λh=>a ⟨aa,h.2.1,λx hx hxj=>by rw[eq x aa];exact h.2.2 x aa hxj⟩,b⟩
 refine⟨XcT hs hl (λj j0 j1=>.inr ?_) λk m k0 kk m1 m2 m3=>?_,λj j0 j1=>?_,λj j0 j1 jk jt=>?_⟩
 .rcases run j j0 with⟨a1,a2,a3,b⟩|⟨a,b⟩
  .have:=a3 j a1 aa;rw[b,this];exact⟨rfl,rfl,rfl,.inr ⟨aa,by show 0<=1-w.h.s;omega,by show 1-w.h.s<=1;omega⟩⟩
  rw[b];by_cases hij:j=i
  .rw[Wp hij,hij];exact⟨hk.symm,rfl,rfl,.inr ⟨aa,by show 0<=1-w.h.s;omega,by show 1-w.h.s<=1;omega⟩⟩
  rw[Wn hij];exact⟨rfl,rfl,rfl,.inl rfl⟩
 .have hsk:=hs.hd k k0 aa aa;have htl:=(hsk.k2 kk).2.2;by_cases hki:k=i
  .subst hki;have r1:=run k k0;have r2:=run (k+m) aa;have h3:∀x,k<x->x<=k+m->(pg w.h.p x).k=3:=λx hx hxm=>by have:=(htl (x-k) aa aa).1;rwa[show k+(x-k)=x by omega]at this
   rcases r1 with r1|⟨_,r1⟩
   .omega
   rcases r2 with r2|⟨r2,_⟩
   .rw[r1,r2.2.2.2,Wp rfl]
   exact absurd ⟨aa,m3,h3⟩ r2
  have r1:=run k k0;have r2:=run (k+m) aa;have t:=htl m m1 m2;rcases r1 with r1|⟨_,r1⟩
  .have:=r1.2.2.1 k r1.1 aa;omega
  rw[Wn hki]at r1;rcases r2 with r2|⟨_,r2⟩
  .by_cases hlt:k<i
   .have:=(htl (i-k) aa aa).1;rw[show k+(i-k)=i by omega]at this;omega
   have:=r2.2.2.1 k aa aa;omega
  by_cases hmi:k+m=i
  .rw[hmi]at t;omega
  rw[Wn hmi]at r2;rw[r1,r2];exact t.2.1
 .rcases run j j0 with⟨a1,a2,a3,b⟩|⟨a,b⟩
  .have:=a3 j a1 aa;omega
  rw[b,Wn (λe=>by rw[e]at j1;omega)];exact j1
 grind
def Xob{w w':WC}(hs:Om h0.c w.h.p)(h0s:0<=w.h.s/\w.h.s<=1)(htk:∀j∈w.t,(pg w.h.p j).k=1){n at_ j u:Int}(hn:0<=n)(pq:Od h0 w n w' at_ j u):On h0 w w'.h.p w'.t:=by
 have r:=pq.rng;have t:=pq.this;have f:=pq.fit;have hkj:(pg w.h.p j).k=0\/(pg w.h.p j).k=1:=by rcases pq.way with g|g;exact .inr (htk j g.1);exact .inl g.1
 have hb:=hs.hd j r.1 r.2 aa;have hsp:=hb.sp;have hpn:=hb.pn;refine⟨XcT hs pq.plen (λi i0 i1=>?_) λi m i0 ik m1 m2 m3=>?_,λi i0 ik=>?_,λi i0 i1 ik it=>?_⟩
 .by_cases hij:i=j
  .subst hij;rcases pq.sp with g|g<;>rw[g.1,g.2]<;>omega
  rw[pq.other i i0 hij];omega
 .have tl:=((hs.hd i i0 aa aa).k2 ik).2.2 m m1 m2;have e1:i≠j:=λe=>by rw[e]at ik;omega
  have e2:i+m≠j:=λe=>by rw[e]at tl;omega
  rw[pq.other i i0 e1,pq.other (i+m) aa e2];omega
 .by_cases hij:i=j
  .simp_all
  rw[pq.other i i0 hij];omega
 have hij:i≠j:=by
  rintro rfl;rcases pq.way with g|g
  .rw[g.2.1]at it;exact it g.1
  rw[g.2.1]at it;simp at it
 refine⟨pq.other i i0 hij,λh=>it ?_⟩;rcases pq.way with g|g<;>rw[g.2.1]
 .exact h
 simp_all
def I5.pages{w:WC}(hh:I5 h0 l w){qs:List Wt}(h:On h0 w qs w.t):I5 h0 l {w with h:={w.h with p:=qs}}:=
 ⟨hh.q,hh.old,hh.fw,hh.ws,hh.ss.trans h.ss,λi hi hk=>h.kd i hi (hh.k1 i hi hk),λi hp=>by
  have:=Oc (w':={w with h:={w.h with p:=qs}}) h rfl rfl rfl hp
  rw[this.2];exact hh.pr i this.1,λb hb hp=>hh.hw b hb (Oc (w':={w with h:={w.h with p:=qs}}) h rfl rfl rfl hp).1,hh.bm,hh.ol⟩
def Xp3(hN:NB N)(hs:Start N h0 l){w:WC}{O:Int->Prop}{s:Int->Int}(hc:CI h0 l w)(ho:I4 h0 l w O s)(hh:I5 h0 l w){a:Int}(ta:tU a):
 (∃r w2,QaZ N w a=some r/\r.2.2≠0/\QaW N w a=some (0,r.2.2,w2)) \/
 ∃w' to,QaZ N w a=some (w',to,0)/\Og h0 l w w' O s/\I5 h0 l w'/\tU to/\(a≠0->to≠0)/\KeepW w w'/\QaW N w a=some (to,0,w'):=by
 have hN':=hN;unfold NB at hN';have hb:=hs.hb;have hql:=hc.ql hb;have htl:=hc.tl hb;have hwl:=hc.wl hb;have hww:=hc.wlen;have hpl:=hc.plen;have hsl:=hs.st.len;have hspc:=hc.spc;have hconf:=hc.conf;have hol:=hc.old.length_le;have same:Og h0 l w w O s:=⟨hc,⟨O,s,ho,λ_ h=>⟨h,rfl⟩⟩,rfl,Un _⟩
 have kp:KeepW w w:=rfl;have hlp:∀i ps,QbB N w a N i ps=QaD N w a N i ps:=λi ps=>Xrs w a (λn i ps=>QbB N w a n i ps) (λi ps=>by rfl) (λn i ps=>by rfl) N i ps;rw[QaW,XE,QaZ];by_cases h1:a=0
 .rw[XL h1,Wc,Wc];grind
 rw[XD h1,Wa,Wa,Vo _ _ aa aa,YE a aa aa,Xa,Xa];cases h2:w.q.contains a with
 |true=>grind
 |false=>
 have hq:=ZR h2;rw[Wa,Wa,Vo _ _ aa aa,YE a aa aa,Xa,Xa];cases h3:w.o.contains a with
 |false=>simp
 |true=>
 have hal:a∈l:=hc.old.subset (Y6 h3);have hne:l≠[]:=List.ne_nil_of_mem hal;have hp:=hs.prop hne;have hg:=hs.good hne;have hat:=hs.st.obj.at_ a hal;have ep:Qab N h0=some true:=by obtain⟨r,er,hr⟩:=Xdy hN hb a;rw[hs.st.obj.ev a hal]at er;obtain rfl:=WK er;exact(hr rfl).2.1
 have hspn:=hh.spn hN hb ep;have hwd0:=hp.words;have hpg0:=hp.pages;have hvc:=Xl.1 hp.conf;have hrng:=hat.rng;have hspr:=hp.space;have⟨_,q0,q1,_⟩:=Kr hp.conf hrng;obtain⟨o1,o2⟩:Qcd N w.h.c a=some (pgi h0.c a,pgo h0.c a,0)/\wI (wI (pgi h0.c a*w.h.c.W)+pgo h0.c a)=a-4096:=by rw[hconf];exact Xig (N:=N) hp.conf hrng
 have hin:inW w.h.w a:=by unfold inW;omega
 have hm4:h0.c.p*h0.c.W<=4096:=(XZ hp.conf (i:=0) aa aa).2.2;have tw:=Xge hh.ws a;have gp:∀n:Nat,1<=n->Kl w.h.w (a-4096).toNat n 0=some (wd w.h.w a):=by intro n hn;rw[XbJ aa aa aa];unfold wd ix;rw[Wo,Wb aa];simp
 have hof:QcH N w.h.c a=some (pgi h0.c a,pgo h0.c a,0):=by rw[Js,hc.conf,hp.conf,Wn ab,Wp hrng];rfl
 rw[Ws,Wa,Wa,o1,Xa];rw[show((0:Int) != 0)=false from rfl,Wa,Xc aa,o2,Xd (n:=(w.h.w.length:Int)-(a-4096)) aa aa,Wh aa,Wa,Xd (n:=a-4096+1) aa aa,Xc aa,
  gp _ aa,Xa,XcS aa tw,YI hwl,Xa,Wp hin,Jr,Xa]
 rw[show w.h.w.getD (ix a) 0=wd w.h.w a from rfl,Jr,Xa];cases h4:Vf (wd w.h.w a)with
 |true=>refine .inr ⟨w,_,rfl,same,hh,?_,λ_=>hh.fw a hal h4,kp,rfl⟩;simp[Xrt,tw]
 |false=>
 have hok:=hh.old a hal hq h4;rw[Wn ab,Wa,Wa,hof,Xa,Xa,Xc aa];rw[show((0:Int) != 0)=false from rfl,Wa,Wh (p:=pgi h0.c a>=_) aa,Wa,Wa];have⟨b,hbp,eb,hb'⟩:=XeN (N:=N) (w:=w) (i:=pgi h0.c a) hN htl aa aa hspn.sp;simp only[Xc (p:=w.h.p.length<=140737488355328) aa];rw[hb',eb,Xa,Xa];cases b with
 |true=>simp only[Wc,Qds,Xc (p:=w.q.length*8<=140737488355328) aa,Xc (p:=(w.q.length+1)*8<=140737488355328) aa,Xa];exact .inr ⟨_,a,rfl,hc.push ho (ho.old a hal).1 hq _,hh.push hok _,ta,λh=>h,rfl,rfl⟩
 |false=>
 simp only[Wa,XH (ps:=w.h.p) q0 aa,Xa];by_cases hk2:(pg w.h.p (pgi h0.c a)).k=2
 .simp only[XL hk2,Wc,hlp,Xd (n:=pgi h0.c a+1) aa aa,Xc (p:=w.h.p.length*32<=140737488355328) aa];obtain⟨qs,eqs,hqs⟩:=XgR (N:=N) w a (ps:=w.h.p) aa N (pgi h0.c a+1) _ aa aa aa ((SameK.refl _).set q0 aa (wI (1-w.h.s)) (pg w.h.p (pgi h0.c a)).P);have hrc:=Xru hspn aa q0 aa hk2 hqs.1 eqs;simp only[eqs,Xa,Qds,Xc (p:=w.q.length*8<=140737488355328) aa,Xc (p:=(w.q.length+1)*8<=140737488355328) aa];have q:=λrp=>(hc.pages hqs).push (ho.pages hc hqs) (ho.old a hal).1 hq rp;refine .inr ⟨{w with h:={w.h with p:=qs},q:=w.q++[a],r:=⟨w.r.j,wI (w.r.K+1),w.r.F,w.r.E,w.r.f,w.r.y⟩},a,rfl,⟨(q _).ci,(q _).ob,(q w.r).sc,(q w.r).ql⟩,((hh.pages hrc).push hok _),ta,λh=>h,rfl,rfl⟩
 have hk12:∀x∈l,(pg h0.p (pgi h0.c x)).k=1\/(pg h0.p (pgi h0.c x)).k=2:=λx hx=>(hs.st.obj.at_ x hx).kind;have hpr:∀x∈l,0<=pgi h0.c x:=λx hx=>(Kr hp.conf (hs.st.obj.at_ x hx).rng).2.1;have hk1:(pg h0.p (pgi h0.c a)).k=1:=by
  rcases hk12 a hal with h|h
  .omega
  exact absurd (by rw[hc.knd a hal];omega) hk2
 have hsz:=hg.sz hs.st hal hk1;have hso:=(ho.old a hal).2;have hfit:=ho.fit a (ho.old a hal).1;have hsw:=YR w.h.w a;have e1:X0 (ZC (wd w.h.w a))=szA w.h.w a:=hsw.1;simp only[XD hk2,Wa,XcJ (N:=N) aa tw,Ky,Xa,hok,Zo (N:=N) aa,Yh,e1];rw[show((0:Int) != 0)=false from rfl,Wa,Xc aa,o2,Xd (n:=(w.h.w.length:Int)-(a-4096)) aa aa,Wh aa,Wa,Xd (n:=a-4096+szA w.h.w a) aa aa,Xc aa,Ws,Wa,Xc aa];have eL:(((a-4096+szA w.h.w a).toNat-(a-4096).toNat:Nat):Int)=szA w.h.w a:=aa;have⟨y,ey,hy⟩:=XfJ hN hb hp hc (n:=szA w.h.w a) hsw.2.1 aa;rcases XpZ hN hb hp hc (n:=szA w.h.w a) hsw.2.1 aa with⟨r,er,er2,eg⟩|⟨j,u,ps,tk,rq,er,eg⟩
 .simp[er,Xa,er2,Ui,Wc,eL,eg]
 have hft:=Xs4 (N:=N) (c:=h0.c) (c':=w.h.c) hconf.symm hp.conf aa (cp:=w.r.j) (X:=a-4096) (n:=szA w.h.w a) (i:=j) (u:=u) (ws:=w.h.w) (q:=w.q) (ps:=ps) (λx34 x35 x36 x37 x38 x39=>some (x34,x35,(WC.mk (Wl.mk w.h.c x37 x38 w.h.s w.h.b) w.o tk x39 w.d (WL.mk x36 w.r.K w.r.F w.r.E w.r.f w.r.y)))) aa aa hsw.2.1 aa rq.rng.1 (by have:=rq.rng.2;have:=rq.len;omega) rq.fit.1 rq.fit.2 (by have:=rq.len;omega) hql;rw[FT,eL]at hft;rw[er,Xa,eL,eg,Xa];rw[show((0:Int) != 0)=false from rfl,Wa,XE];rw[er]at ey;obtain rfl:=WK ey;have⟨j',u',pq⟩:=hy rfl;have hpc:=Xob hspn aa (λj hj=>(hc.tk j hj).2.2.1) aa pq;have hcp:=λv hv rp=>Xk1 (n:=szA w.h.w a) hp hk12 hpr hc ho hal rfl hsw.2.1 pq v hv rp;have⟨i1,i2,aw,fr,aw2,hwd⟩:=Xk0 (n:=szA w.h.w a) hp hc ho hal rfl hsw.2.1 pq (wU (wU (4*Xg h0.c j u)+2));have en:szA w.h.w a=(((szA w.h.w a).toNat:Nat):Int):=aa;have hmv:=XhI (N:=N) hwl (Xg h0.c j u) a (szA w.h.w a).toNat aa aa;rw[←en,Wp ⟨i1,i2⟩]at hmv;have ol:=XbA i1 i2;have hin2:inW (ovr w.h.w ((w.h.w.drop (ix a)).take (szA w.h.w a).toNat) (ix (Xg h0.c j u))) a:=by unfold inW;rw[ol];exact hin
 dsimp only at i1 i2 aw fr aw2 hwd;have hr1:4096<=Xg h0.c j u/\Xg h0.c j u<10000:=by unfold Yp at i2;omega
 have⟨f1,f2,f3⟩:=Xp2 (v:=Xg h0.c j u) aa aa;have hOa:=(ho.old a hal).1;have off:∀b,O b->¬(Xg h0.c j u<=b/\b<Xg h0.c j u+szA w.h.w a):=λb hb=>by have:=aw2 b hb;have:=(ho.fit b hb).2.1;omega
 have wd1:∀b,O b->b≠a->wd ((ovr w.h.w ((w.h.w.drop (ix a)).take (szA w.h.w a).toNat) (ix (Xg h0.c j u))).set (ix a) (wU (wU (4*Xg h0.c j u)+2))) b=wd w.h.w b:=λb hb hba=>by rw[hwd b (ho.fit b hb).1,Wn hba,Wn (off b hb)]
 have wda:=hwd a (ho.fit a hOa).1;have hna:Xg h0.c j u≠a:=λe=>fr (by grind);have wdt:=hwd (Xg h0.c j u) aa;simp only[Ws,Wa];rw[hmv,Xa,VX,Xa,Wn aa,Jq (by grind) aa,Xa,Wp hin2,Xc aa,Xc aa];refine .inr ⟨_,Xg h0.c j u,rfl,(hcp _ (XfK _ aa aa) _).2.2.2.2,⟨λb hb=>?_,λb hb hbq hbf=>?_,λb hb hbf=>?_,λx hx=>?_,?_,λi hi hki=>?_,λi hi=>?_,λb hb hbp2=>?_,hh.bm,hh.ol⟩,⟨aa,aa⟩,λ_=>aa,rfl,hft⟩
 .show okH (wd _ b)=true;rcases WG.1 hb with hb|hb
  .rw[wd1 b (ho.queue b hb) (λe=>hq (e▸hb))];exact hh.q b hb
  grind
 .have hbf:Vf (wd _ b)=false:=hbf;show okH (wd _ b)=true;by_cases hba:b=a
  .grind
  rw[wd1 b (ho.old b hb).1 hba]at hbf⊢;exact hh.old b hb (λe=>hbq (W0 _ e)) hbf
 .have hbf:Vf (wd _ b)=true:=hbf;show Yz .u64 (wd _ b) 2≠0;by_cases hba:b=a
  .grind
  rw[wd1 b (ho.old b hb).1 hba]at hbf⊢;exact hh.fw b hb hbf
 .rcases Uw hx with hx|hx
  .unfold ovr at hx;rcases WG.1 hx with hx|hx
   .rcases WG.1 hx with hx|hx
    .exact hh.ws x (WW hx)
    exact hh.ws x (WP (WW hx))
   exact hh.ws x (WP hx)
  grind
 .exact hh.ss.trans hpc.ss
 .exact hpc.kd i hi (hh.k1 i hi hki)
 .have:=Oc (w':=⟨_,_,_,_,_,_⟩) hpc rfl rfl rfl hi;show _/\(pg (ps.set _ _) i).u=_;rw[this.2];exact hh.pr i this.1
 have hpm:=(Oc (w':=⟨_,_,_,_,_,_⟩) hpc rfl rfl rfl hbp2).1;have hba:b≠a:=λe=>by grind
 show wd _ b=_;rw[wd1 b (ho.old b hb).1 hba];exact hh.hw b hb hpm
end
section
variable {N:Nat}{h0:Wl}{l:List Int}
def KeepW.trans{a b c:WC}(h1:KeepW a b)(h2:KeepW b c):KeepW a c:=by unfold KeepW at *;grind
def QN(l:List Int)(w:WC):Prop:=l=[]->w.q=[]
def Xoc(hN:NB N){w w':WC}{a to:Int}(hl:w.o=[])(hq:w.q=[])(e:QaZ N w a=some (w',to,0)):w'.q=[]:=by unfold NB at hN;rw[QaZ,hl,hq,YE a ab ah,Xa,Xa]at e;grind
def XlR(hN:NB N)(hs:Start N h0 l){w:WC}{O:Int->Prop}{s:Int->Int}(hc:CI h0 l w)(ho:I4 h0 l w O s)(hh:I5 h0 l w)(hn:QN l w){a:Int}(ta:tU a):
 (∃r w2,QaZ N w a=some r/\r.2.2≠0/\QaW N w a=some (0,r.2.2,w2)) \/
 ∃w' to,QaZ N w a=some (w',to,0)/\Og h0 l w w' O s/\I5 h0 l w'/\tU to/\(a≠0->to≠0)/\KeepW w w'/\QN l w'/\QaW N w a=some (to,0,w'):=by
 rcases Xp3 hN hs hc ho hh ta with h|⟨w',to,er,hq,hh',tt,tz,hkw,eg⟩
 .simp_all
 exact .inr ⟨w',to,er,hq,hh',tt,tz,hkw,λh=>Xoc hN (List.sublist_nil.1 (h▸hc.old)) (hn h) er,eg⟩
def NZ(rs out:List Int):Prop:=∀(i:Nat)(y:Int),out[i]? = some y->∀(x:Int),rs[i]? = some x->x≠0->y≠0
def NZ.push{rs out:List Int}(h:NZ rs out){y:Int}(hy:∀x,rs[out.length]? = some x->x≠0->y≠0):NZ rs (out++[y]):=by
 intro i z hz x hx;by_cases hi:i<out.length
 .rw[US hi]at hz;exact h i z hz x hx
 grind
def zWk:WC:=WC.mk zHp [] [] [] 0 (WL.mk 0 0 0 0 0 0)
def Xii(hN:NB N)(hs:Start N h0 l){rs:List Int}(hl:rs.length<=1000000)(ht:∀x∈rs,tU x):∀(n k:Nat)(w:WC)(out:List Int),k<=rs.length->rs.length-k<n->CI h0 l w->I5 h0 l w->QN l w->out.length=k->NZ rs out ->
 (∃e,e≠0/\QdZ N rs n k w.h.c.W w.h.c.p w.h.s w.h.b w.d w.r.j w.r.K w.r.F w.r.E w.r.f w.r.y w.h.w w.h.p w.o w.t w.q out=some (.ret (zWk,[],e)) /\
  Qa8 N rs n k w.h.c.W w.h.c.p w.h.w w.h.p w.h.s w.h.b w.o w.t w.q w.d w.r.j w.r.K w.r.F w.r.E w.r.f w.r.y out=some (.ret (zWk,[],e))) \/
 ∃w' out',CI h0 l w'/\I5 h0 l w'/\QN l w'/\KeepW w w'/\out'.length=rs.length/\NZ rs out' /\
  QdZ N rs n k w.h.c.W w.h.c.p w.h.s w.h.b w.d w.r.j w.r.K w.r.F w.r.E w.r.f w.r.y w.h.w w.h.p w.o w.t w.q out=some (.nxt (w'.h.c.W,w'.h.c.p,w'.h.s,w'.h.b,w'.d,w'.r.j,w'.r.K,w'.r.F,w'.r.E,w'.r.f,w'.r.y,w'.h.w,w'.h.p,w'.o,w'.t,w'.q,out')) /\
  Qa8 N rs n k w.h.c.W w.h.c.p w.h.w w.h.p w.h.s w.h.b w.o w.t w.q w.d w.r.j w.r.K w.r.F w.r.E w.r.f w.r.y out=some (.nxt (w'.h.c.W,w'.h.c.p,w'.h.w,w'.h.p,w'.h.s,w'.h.b,w'.o,w'.t,w'.q,w'.d,w'.r.j,w'.r.K,w'.r.F,w'.r.E,w'.r.f,w'.r.y,out'))
 |0,k,w,out,_,hn,_,_,_,_,_=>by omega
 |n+1,k,w,out,hk,hn,hc,hh,hqn,ho,hz=>by
  rw[QdZ,Qa8];by_cases h:k<rs.length
  .have htx:=ht _ (WN h);rw[Xk h,Wc,Wc,Xe,Wb h,Xa,Xa,Xf aa];have⟨O,s,hob⟩:=hc.obj;have eta:(⟨⟨⟨w.h.c.W,w.h.c.p⟩,w.h.w,w.h.p,w.h.s,w.h.b⟩,w.o,w.t,w.q,w.d,⟨w.r.j,w.r.K,w.r.F,w.r.E,w.r.f,w.r.y⟩⟩:WC)=w:=rfl;rcases XlR hN hs hc hob hh hqn htx with⟨r,w2,er,e0,eg⟩|⟨w',to,er,hq,hh',tt,tz,hkw',hqn',eg⟩
   .refine .inl ⟨r.2.2,e0,?_,?_⟩
    .rw[eg,Xa,X6 e0,Wc];rfl
    rw[er,Xa,X6 e0,Wc];rfl
   rw[eg,er,Xa,Xa,show((0:Int) != 0)=false from rfl,Wa,Wa,Xc aa,Xc aa];rcases Xii hN hs hl ht n (k+1) w' (out++[to]) aa aa hq.ci hh' hqn' (by simp_all) (hz.push λx hx hx0=>tz (by simp_all))with h|⟨w'',o'',c1,c2,c6,c3,c4,c5,e1,e2⟩
   .simp_all
   exact .inr ⟨w'',o'',c1,c2,c6,hkw'.trans c3,c4,c5,e1,e2⟩
  obtain rfl:k=rs.length:=aa;rw[Xw,Wa,Wa];exact .inr ⟨w,out,hc,hh,hqn,rfl,ho,hz,rfl,rfl⟩
def XlS(hN:NB N)(hs:Start N h0 l){w:WC}(hc:CI h0 l w)(hh:I5 h0 l w)(hqn:QN l w){rs:List Int}(hl:rs.length<=1000000)(ht:∀x∈rs,tU x):
 (∃e,e≠0/\QfF N w rs=some (zWk,[],e)/\Qdv N w rs=some (zWk,[],e)) \/
 ∃w' out,CI h0 l w'/\I5 h0 l w'/\QN l w'/\KeepW w w'/\out.length=rs.length/\NZ rs out/\QfF N w rs=some (w',out,0)/\Qdv N w rs=some (w',out,0):=by
 have hN':=hN;unfold NB at hN';rw[QfF,Qdv];simp only[Qac,Qad,QaI,Xa];have hr:=Xii hN hs hl ht N 0 w [] aa aa hc hh hqn rfl (λi y e=>by grind);rw[show((0:Nat):Int)=0 from rfl]at hr;rcases hr with⟨e,e0,e1,e2⟩|⟨w',out,c1,c2,c6,c3,c4,c5,e1,e2⟩
 .simp_all[e1,Xa,Xy,e2]
 exact .inr ⟨w',out,c1,c2,c6,c3,c4,c5,by rw[e1,Xa,Xm],by rw[e2,Xa,Xm]⟩
end
section
variable {N:Nat}{h0:Wl}{l:List Int}
def Xod{w:WC}{O:Int->Prop}{s:Int->Int}(ho:I4 h0 l w O s)(hh:I5 h0 l w){p x:Int}(hp:O p)(h1:p<x)(h2:x<p+s p){v:Int}(tv:tU v):
 I5 h0 l {w with h:={w.h with w:=w.h.w.set (ix x) v}}:=by
 have hf:=ho.fit p hp;have hin:inW w.h.w x:=by unfold inW;omega
 have wd1:∀b,O b->wd (w.h.w.set (ix x) v) b=wd w.h.w b:=λb hb=>by
  have:b≠x:=by
   rintro rfl;by_cases he:b=p
   .omega
   have:=ho.apart b p hb hp he;have:=ho.fit b hb;omega
  rw[XgQ hin (ho.fit b hb).1,Wn this]
 refine⟨λb hb=>?_,λb hb hq hf=>?_,λb hb hf=>?_,λy hy=>?_,hh.ss,hh.k1,hh.pr,λb hb hf=>?_,hh.bm,hh.ol⟩
 .rw[wd1 b (ho.queue b hb)];exact hh.q b hb
 .rw[wd1 b (ho.old b hb).1]at hf⊢;exact hh.old b hb hq hf
 .rw[wd1 b (ho.old b hb).1]at hf⊢;exact hh.fw b hb hf
 .rcases Uw hy with hy|hy
  .exact hh.ws y hy
  simp_all
 rw[wd1 b (ho.old b hb).1];exact hh.hw b hb hf
def Xgf(hN:NB N)(hs:Start N h0 l){p z u:Int}{ks:List Int}(hkl:ks.length<=255)(hpi:wI (wI (pgi h0.c p*h0.c.W)+u)=p-4096)(hp0:4096<=p)(hz0:1<=z)(hz1:z<=256)(hz:p-4096+z<=h0.w.length):
 ∀(n k:Nat)(w:WC)(O:Int->Prop)(s:Int->Int),k<=ks.length->ks.length-k<n->CI h0 l w->I4 h0 l w O s->I5 h0 l w->QN l w->O p->(∀k∈ks,0<=k/\k<255/\k+1<s p/\k+1<z) ->
 (∃e,e≠0/\(∃t,Qe7 N h0.c.W z (pgi h0.c p,u,0) ks n k w.h.c.W w.h.c.p w.h.s w.h.b w.d w.r.j w.r.K w.r.F w.r.E w.r.f w.r.y w.h.w w.h.p w.o w.t w.q=some (.ret (e,t))) /\
  Qbs N p ks n k w.h.c.W w.h.c.p w.h.w w.h.p w.h.s w.h.b w.o w.t w.q w.d w.r.j w.r.K w.r.F w.r.E w.r.f w.r.y=some (.ret (zWk,false,e))) \/
 ∃w',CI h0 l w'/\I5 h0 l w'/\QN l w'/\KeepW w w'/\w.q.length<=w'.q.length /\
  Qe7 N h0.c.W z (pgi h0.c p,u,0) ks n k w.h.c.W w.h.c.p w.h.s w.h.b w.d w.r.j w.r.K w.r.F w.r.E w.r.f w.r.y w.h.w w.h.p w.o w.t w.q=some (.nxt (w'.h.c.W,w'.h.c.p,w'.h.s,w'.h.b,w'.d,w'.r.j,w'.r.K,w'.r.F,w'.r.E,w'.r.f,w'.r.y,w'.h.w,w'.h.p,w'.o,w'.t,w'.q)) /\
  Qbs N p ks n k w.h.c.W w.h.c.p w.h.w w.h.p w.h.s w.h.b w.o w.t w.q w.d w.r.j w.r.K w.r.F w.r.E w.r.f w.r.y=some (.nxt (w'.h.c.W,w'.h.c.p,w'.h.w,w'.h.p,w'.h.s,w'.h.b,w'.o,w'.t,w'.q,w'.d,w'.r.j,w'.r.K,w'.r.F,w'.r.E,w'.r.f,w'.r.y))
 |0,k,w,O,s,_,hn,_,_,_,_,_,_=>by omega
 |n+1,k,w,O,s,hi,hn,hc,ho,hh,hqn,hp,hk=>by
  have hN':=hN;unfold NB at hN';have hb1:=hs.hb.1;rw[Qe7,Qbs];by_cases h:k<ks.length
  .have⟨k0,k1,k2,k3⟩:=hk _ (WN h);have hwl:=hc.wlen;have eta:(⟨⟨⟨w.h.c.W,w.h.c.p⟩,w.h.w,w.h.p,w.h.s,w.h.b⟩,w.o,w.t,w.q,w.d,⟨w.r.j,w.r.K,w.r.F,w.r.E,w.r.f,w.r.y⟩⟩:WC)=w:=rfl;have ex:ix (p+1+ks[k])=(p-4096).toNat+(1+ks[k]).toNat:=by unfold ix;omega
   have gp:∀ws:List Int,ws.length=h0.w.length->Kl ws (p-4096).toNat ((p-4096+z).toNat-(p-4096).toNat) (1+ks[k])=some (wd ws (p+1+ks[k])):=by intro ws hw;rw[XbJ aa aa aa];unfold wd;rw[ex,Wo,Wb aa];rfl
   rw[eta,Xk h,Wc,Wc,Xe,Wb h,Xa,Xa,Xf aa];rw[hpi,Xd (n:=p-4096+z) aa aa,Xd (n:=1+ks[k]) aa aa,gp _ hwl,Xa];rw[Xx (n:=p+1) aa aa,Xx (n:=ks[k]) aa aa,Xx (n:=p+1+ks[k]) aa aa];rw[YI (hc.wl hs.hb),Xa,Wp (by unfold inW;omega)];rw[show w.h.w.getD (ix (p+1+ks[k])) 0=wd w.h.w (p+1+ks[k])from rfl];rcases XlR hN hs hc ho hh hqn (Xge hh.ws (p+1+ks[k]))with⟨r,w2,er,e0,eg⟩|⟨w',to,er,q,hh',tt,tz,hkw,hqn',eg⟩
   .refine .inl ⟨r.2.2,e0,?_,?_⟩
    .simp[eg,Xa,X6,e0,Wc]
    rw[er,Xa,X6 e0,Wc];rfl
   have⟨O',s',ho',hx⟩:=q.ob;have⟨hp',hs'⟩:=hx p hp;have st:=XhR q.ci ho' hp' (x:=p+1+ks[k]) aa aa to;have sh:=Xod ho' hh' hp' (x:=p+1+ks[k]) aa aa tt;rw[eg,er,Xa,Xa,show((0:Int) != 0)=false from rfl,Wa,Wa];rw[gp _ q.ci.wlen,Xa,Jq (q.ci.wl hs.hb) aa,Xa,Wp st.1,←ex];rcases Xgf hN hs hkl hpi hp0 hz0 hz1 hz n (k+1) {w' with h:={w'.h with w:=w'.h.w.set (ix (p+1+ks[k])) to}} O' s' aa aa st.2.1 st.2.2 sh hqn' hp' (λk' hk'=>by simp_all)with h|⟨w'',c1,c2,c3,c4,c5,c6,c7⟩
   .grind
   exact .inr ⟨w'',c1,c2,c3,KeepW.trans (b:={w' with h:={w'.h with w:=w'.h.w.set (ix (p+1+ks[k])) to}}) (by unfold KeepW at hkw⊢;grind) c4,Um q.ql c5,c6,c7⟩
  obtain rfl:k=ks.length:=aa;rw[Xw,Wa,Wa];exact .inr ⟨w,hc,hh,hqn,rfl,Un _,rfl,rfl⟩
theorem Xrv(n:Int):wI n=if n % 18446744073709551616>=9223372036854775808 then n % 18446744073709551616-18446744073709551616 else n % 18446744073709551616:=by have e1:IntKind.bits .i64=64:=rfl;have e2:IntKind.signed .i64=true:=rfl;simp[wI,IntKind.wrap,e1,e2]
def Xrw(a b:Int):wI (wI a+b)=wI (a+b):=by grind[Xrv]
def Xs5(a b:Int):wI (a+wI b)=wI (a+b):=by rw[Int.add_comm a,Xrw,Int.add_comm b]
def XlT(hN:NB N)(hs:Start N h0 l):∀(n:Nat)(w:WC),CI h0 l w->I5 h0 l w->QN l w->0<=w.d->w.d<=w.q.length->(100001-w.d).toNat<n ->
 (∃e,e≠0/\Qe8 N n w.h.c.W w.h.c.p w.h.s w.h.b w.d w.r.j w.r.K w.r.F w.r.E w.r.f w.r.y w.h.w w.h.p w.o w.t w.q=some (zWk,e) /\
  QbE N n w.h.c.W w.h.c.p w.h.w w.h.p w.h.s w.h.b w.o w.t w.q w.d w.r.j w.r.K w.r.F w.r.E w.r.f w.r.y=some (zWk,e)) \/
 ∃w',CI h0 l w'/\I5 h0 l w'/\QN l w' /\
  Qe8 N n w.h.c.W w.h.c.p w.h.s w.h.b w.d w.r.j w.r.K w.r.F w.r.E w.r.f w.r.y w.h.w w.h.p w.o w.t w.q=some (w',0) /\
  QbE N n w.h.c.W w.h.c.p w.h.w w.h.p w.h.s w.h.b w.o w.t w.q w.d w.r.j w.r.K w.r.F w.r.E w.r.f w.r.y=some (w',0)
 |0,w,_,_,_,_,_,hn=>by omega
 |n+1,w,hc,hh,hqn,g0,g1,hn=>by
  have hN':=hN;unfold NB at hN';have hb:=hs.hb;have hql:=hc.ql hb;have hwl:=hc.wl hb;have hww:=hc.wlen;have hb1:=hb.1;have eta:(⟨⟨⟨w.h.c.W,w.h.c.p⟩,w.h.w,w.h.p,w.h.s,w.h.b⟩,w.o,w.t,w.q,w.d,⟨w.r.j,w.r.K,w.r.F,w.r.E,w.r.f,w.r.y⟩⟩:WC)=w:=rfl;have etc:(⟨w.h.c.W,w.h.c.p⟩:WU)=h0.c:=hc.conf;rw[Qe8,QbE,eta,Qfy,XE,etc,Wh (p:=w.d<0) aa,Wa,Xc aa];by_cases hlt:w.d<w.q.length;rotate_left
  .rw[Wg (p:=w.d>=_) aa,Wc,Wc,Xa];exact .inr ⟨w,hc,hh,hqn,rfl,rfl⟩
  rw[Wh (p:=w.d>=_) aa,Wa,Wa,Yg g0 hlt,Xa,Xa];have hpm:w.q[w.d.toNat]'aa∈w.q:=WN _;generalize w.q[w.d.toNat]'aa=p at hpm⊢;have hne:l≠[]:=λe=>by rw[hqn e]at hpm;grind
  have hp:=hs.prop hne;have hwd0:=hp.words;have⟨O,s,ho⟩:=hc.obj;have hOp:=ho.queue p hpm;have hf:=ho.fit p hOp;have hok:=hh.q p hpm;have hrng:4096<=p/\p<4096+h0.c.p*h0.c.W:=aa;have⟨o1,o2⟩:=Xig (N:=N) hp.conf hrng;have tw:=Xge hh.ws p;have hsw:=YR w.h.w p;have e1:X0 (ZC (wd w.h.w p))=szA w.h.w p:=hsw.1;have gp:∀n:Nat,1<=n->Kl w.h.w (p-4096).toNat n 0=some (wd w.h.w p):=by intro n hn;rw[XbJ aa aa aa];unfold wd ix;rw[Wo,Wb aa];simp
  rw[Qeh,YI hwl,Xa,Wp (by unfold inW;omega),Ky,Xa,Xa,XfA aa,Xa];rw[show w.h.w.getD (ix p) 0=wd w.h.w p from rfl];rw[o1,Xa];have ecp:w.h.c.W=h0.c.W:=by rw[hc.conf]
  rw[ecp,show((0:Int) != 0)=false from rfl,Wa,Xc aa,o2,Xd (n:=(w.h.w.length:Int)-(p-4096)) aa aa,Wh aa,Wa,Xd (n:=p-4096+1) aa aa,Xc aa,
   gp _ aa,Xa,XcJ aa tw,Xa]
  rw[hok,Zo aa,Xa,e1,Xa];dsimp only;rw[show((0:Int) != 0)=false from rfl,Wa,o2,Xd (n:=(w.h.w.length:Int)-(p-4096)) aa aa,Wh aa,Wa,Xd (n:=p-4096+szA w.h.w p) aa aa,Xc aa,Xc aa,Ws,Wa,XdQ aa _ (ZD _),Xa];have hkl:=XdE (hdA w.h.w p);have hg:=Xgf hN hs (p:=p) (z:=szA w.h.w p) (u:=pgo h0.c p) (ks:=Ze (hdA w.h.w p)) hkl o2 hf.1 hsw.2.1 hsw.2.2 aa N 0 w O s aa aa hc ho hh hqn hOp λk hk=>by have h1:=XdD hk;have h2:szA w.h.w p=(hdA w.h.w p).n+1:=rfl;omega
  rw[show((0:Nat):Int)=0 from rfl,ecp]at hg;rcases hg with⟨e,e0,⟨t,e2⟩,e3⟩|⟨w',c1,c2,c3,c4,c5,e2,e3⟩
  .refine .inl ⟨e,e0,?_,?_⟩
   .rw[show ZC (wd w.h.w p)=hdA w.h.w p from rfl,e2,Xa,Xy,X6 e0,Wc];rfl
   rw[show ZC (wd w.h.w p)=hdA w.h.w p from rfl,e3,Xa,Xy,Xa,X6 e0,Wc];rfl
  rw[show ZC (wd w.h.w p)=hdA w.h.w p from rfl,e2,e3,Xa,Xa,Xm,Xm,Xa];have esc:w'.d=w.d:=by unfold KeepW at c4;rw[c4]
  have ee:wI (w'.d+1)=w.d+1:=by rw[esc,Xd aa aa]
  have est:wI (w'.r.y+wI (1+(((Ze (hdA w.h.w p)).length:Nat):Int)))=wI (wI (w'.r.y+1)+(((Ze (hdA w.h.w p)).length:Nat):Int)):=by rw[Xs5,Xrw,Int.add_assoc]
  rw[est];have c1':CI h0 l {w' with d:=wI (w'.d+1),r:={w'.r with y:=wI (wI (w'.r.y+1)+(((Ze (hdA w.h.w p)).length:Nat):Int))}}:=by refine⟨c1.conf,c1.wlen,c1.plen,c1.spc,c1.old,c1.tk,c1.tnd,c1.knd,c1.qnd,?_⟩;obtain⟨O,s,h⟩:=c1.obj;exact⟨O,s,⟨h.old,h.queue,h.fit,h.apart,h.taken,h.free⟩⟩
  exact XlT hN hs n _ c1' ⟨c2.q,c2.old,c2.fw,c2.ws,c2.ss,c2.k1,c2.pr,c2.hw,c2.bm,c2.ol⟩ c3 (by grind) (by grind) (by grind)
def Xp4(hN:NB N)(hs:Start N h0 l){w:WC}(hc:CI h0 l w)(hh:I5 h0 l w)(hqn:QN l w)(g0:0<=w.d)(g1:w.d<=w.q.length):
 (∃e,e≠0/\Qge N w=some (zWk,e)/\QeN N w=some (zWk,e)) \/
 ∃w',CI h0 l w'/\I5 h0 l w'/\QN l w'/\Qge N w=some (w',0)/\QeN N w=some (w',0):=by
 have hN':=hN;unfold NB at hN';rw[Qge,QeN];simp only[Qac,Qad,QaI,Xa];rcases XlT hN hs N w hc hh hqn g0 g1 aa with⟨e,e0,e1,e2⟩|⟨w',c1,c2,c3,e1,e2⟩
 .simp_all[e1,Xa,e2]
 exact .inr ⟨w',c1,c2,c3,by rw[e1,Xa],by rw[e2,Xa]⟩
end
section
variable {N:Nat}{h0:Wl}{l:List Int}
def lpg(N:Nat)(h:Wl)(i:Nat):List Int:=match Qal N h (i:Int)with|some r=>r.1|none=>[]
def lps(N:Nat)(h:Wl)(k:Nat):Nat->List Int
 |0=>[]
 |m+1=>lpg N h k++lps N h (k+1) m
def XdY(hb:HB h0)(hp:∀i:Nat,i<h0.p.length->∃l,Qal N h0 (i:Int)=some (l,0)/\l.length<=64):∀(n k:Nat)(v:List Int),k<=h0.p.length->h0.p.length-k<n->v.length<=64*k->QaM N h0 n (k:Int) v=some (.nxt (v++lps N h0 k (h0.p.length-k)))
 |0,k,v,_,hn,_=>by omega
 |n+1,k,v,hk,hn,hv=>by
  have hb2:=hb.2;rw[QaM];by_cases h:k<h0.p.length
  .have⟨l,e,hl⟩:=hp k h;rw[Xk h,Wc,e,Xa,show(((0:Int)) != 0)=false from rfl,Wa,Xc (by grind),Xf aa,XdY hb hp n (k+1) _ aa aa (by grind),UA,show h0.p.length-k=(h0.p.length-(k+1))+1 by omega,lps,lpg,e]
  obtain rfl:k=h0.p.length:=aa;simp[Xw,Wa,IW,lps,U1]
structure Ow(N:Nat)(h:Wl)(L:List Int):Prop where
 ep:Qab N h=some true
 eg:Qbl N h=some true
 st:Start N h L
 eL:L=lps N h 0 h.p.length
 pg:∀i:Nat,i<h.p.length->Qal N h (i:Int)=some (lpg N h i,0)/\PageL N h (i:Int) (lpg N h i)
 ob:Qay N h=some (Jx h L,0)
def Xp5(hN:NB N)(ht:HT h0)(eg:Qbl N h0=some true):∃L,Ow N h0 L:=by
 have hN':=hN;unfold NB at hN';have hb:=ht.hb;have⟨b,eb,hgd⟩:=Kc hN hb;rw[eg]at eb;obtain rfl:=WK eb;have hg:=hgd rfl;have hp:=hg.prop;have ep:Qab N h0=some true:=by
  obtain⟨b,eb⟩:=Ka (N:=N) hN hb;cases b with
  |true=>exact eb
  |false=>rw[Qbl,QgC,eb,Xa,Ui,Wc,Xa]at eg;cases eg
 have hpg:∀i:Nat,i<h0.p.length->Qal N h0 (i:Int)=some (lpg N h0 i,0)/\PageL N h0 (i:Int) (lpg N h0 i)/\(lpg N h0 i).length<=64:=λi hi=>by
  obtain⟨r,er,hr1,hr2⟩:=Qhr hN hb hp (i:Int) aa aa;have h2:=(hg.small i aa aa r er).2;have e:lpg N h0 i=r.1:=by unfold lpg;rw[er]
  rw[e];refine⟨?_,hr1,hr2⟩;rw[er];congr 1;exact Prod.ext rfl h2
 have es:=XdY hb (λi hi=>⟨_,(hpg i hi).1,(hpg i hi).2.2⟩) N 0 [] aa (by have:=hb.2;omega) ab;have est:Qcp N h0=some (lps N h0 0 h0.p.length,0):=by rw[Qcp,ep,Xa,Ws,Wa,show(0:Int)=((0:Nat):Int)from rfl,es,Xa,Xm,Ug,Nat.sub_zero]
 have⟨r,er,hst,_,_⟩:=Vx hN hb;rw[est]at er;obtain rfl:=WK er;refine⟨_,ep,eg,⟨hb,λ_=>hg,λ_=>hp,hst⟩,rfl,λi hi=>⟨(hpg i hi).1,(hpg i hi).2.1⟩,?_⟩;have hlen:(lps N h0 0 h0.p.length).length<=4096:=hst.len;have:=Xay (N:=N) (h:=h0) (lps N h0 0 h0.p.length,0) (by show(lps N h0 0 h0.p.length).length<=_;omega) hst.obj.ev N 0 [] aa (by show(lps N h0 0 h0.p.length).length-0<_;omega) ab;rw[show((0:Nat):Int)=0 from rfl,WX,Ug]at this;simp[Qay,est,Xa,this]
def Xhf(y3:List Int×Int)(y4:List Int)(y5:List Wt)(hl:h0.p.length<=100000)(h5:y5.length=h0.p.length):∀(n k:Nat)(v:List Wt),k<=h0.p.length->h0.p.length-k<n->v.length=h0.p.length->(∀j:Nat,k<=j->pg v j=pg h0.p j) ->
 ∃r,Qca N h0 y3 n (k:Int) v=some r/\QbW N h0 y3 y4 y5 n (k:Int) v=some r/\r.length=h0.p.length/\∀j:Nat,pg r j=if j<k\/¬((pg h0.p j).k=1/\(pg h0.p j).P>0)then pg v j else⟨1,wI (1-h0.s),(pg h0.p j).u,(pg h0.p j).P⟩
 |0,k,v,_,hn,_,_=>by omega
 |n+1,k,v,hk,hn,hv,hj=>by
  rw[Qca,QbW,Xc aa,hv,h5];by_cases h:k<h0.p.length
  .rw[Xk h,Wc,Wc,XH (ps:=v) (i:=(k:Int)) aa aa,Xa,Xa,Xf aa];simp only[Xa,hj k (Un k)];by_cases hc:(pg h0.p k).k=1/\(pg h0.p k).P>0
   .have e2:=λx:Nat=>ZE (ps:=v) (i:=(k:Int)) (j:=(x:Int)) ⟨(pg h0.p k).k,wI (1-h0.s),(pg h0.p k).u,(pg h0.p k).P⟩ aa aa aa;obtain⟨r,r1,r2,r3,r4⟩:=Xhf y3 y4 y5 hl h5 n (k+1) (v.set (k:Int).toNat ⟨(pg h0.p k).k,wI (1-h0.s),(pg h0.p k).u,(pg h0.p k).P⟩) aa aa (by rw[WR];exact hv) λj hkj=>by rw[e2 j,Wn aa];exact hj j aa
    grind
   have⟨r,r1,r2,r3,r4⟩:=Xhf y3 y4 y5 hl h5 n (k+1) v aa aa hv λj hkj=>hj j aa;grind
  obtain rfl:k=h0.p.length:=aa;rw[Xw,Wa,Wa];refine⟨v,rfl,rfl,hv,λj=>?_⟩;by_cases hq:j<h0.p.length\/¬((pg h0.p j).k=1/\(pg h0.p j).P>0)
  .simp_all
  exfalso;apply hq;right;intro hh;have:pg h0.p j=KW:=by unfold pg;rw[Wo,WY aa];rfl
  rw[this]at hh;exact absurd hh.1 ae
def XlU(hN:NB N)(ht:HT h0){L:List Int}(hB:Ow N h0 L):∃w,Qet N h0=some (w,0)/\QcW N h0=some (w,0)/\CI h0 L w/\I5 h0 L w/\QN L w/\w.d=0:=by
 have hN':=hN;unfold NB at hN';have hb:=ht.hb;have hb2:=hb.2;have ep:=hB.ep;have hp:=Yn hN hb ep;have hs:=hB.st.st;have hsp:=hp.space;have hw:wI (1-h0.s)=1-h0.s:=Xd aa aa;have hspn:=XlQ hN hb ep;have⟨r,r1,r2,r3,r4⟩:=Xhf (N:=N) (h0:=h0) (Jx h0 L,0) h0.w h0.p aa rfl N 0 h0.p aa aa rfl λ_ _=>rfl;rw[show((0:Nat):Int)=0 from rfl]at r1 r2;have r5:∀j,0<=j->((pg h0.p j).k=1/\(pg r j)=⟨1,1-h0.s,(pg h0.p j).u,(pg h0.p j).P⟩)\/pg r j=pg h0.p j:=λj hj=>by
  obtain⟨m,rfl⟩:∃m:Nat,j=m:=⟨j.toNat,aa⟩
  grind
 have hk:SameK h0.p r:=⟨r3,λj hj=>by grind⟩
 have ci:=Xck hb hp hs (w:=⟨⟨h0.c,h0.w,r,h0.s,h0.b⟩,Jx h0 L,[],[],0,⟨0,0,0,0,0,0⟩⟩) rfl rfl rfl hk List.filter_sublist rfl rfl;refine⟨⟨⟨h0.c,h0.w,r,h0.s,h0.b⟩,Jx h0 L,[],[],0,⟨0,0,0,0,0,0⟩⟩,?_,?_,ci,⟨λa ha=>(by grind),λa ha _ _=>(hs.obj.at_ a ha).ok,λa ha hf=>?_,ht.tw,?_,λi hi hk1=>by grind,λi hi=>?_,λ_ _ _=>rfl,rfl,rfl⟩,λ_=>rfl,rfl⟩
 .rw[Qet,YC hb2 aa,ep,Xa,Ws,Wa,XcN hN ht,hB.eg,Xa,Ws,Wa,Jb hN ht,hB.ob,Xa];simp only[Qac,Qad,Xa];rw[show((0:Int) != 0)=false from rfl,Wa,Xc aa,r2,Xa]
 .rw[QcW,ep,Xa,Ws,Wa,hB.eg,Xa,Ws,Wa,hB.ob,Xa,Xc aa,r1,Xa]
 .have:=Xoa (Xge ht.tw a) (hs.obj.at_ a ha).ok;simp_all
 .refine XcT hspn r3 (λi i0 i1=>?_) λi m i0 ik m1 m2 m3=>?_
  .have hb:=hspn.hd i i0 i1;rcases r5 i i0 with⟨a,b⟩|b
   .have:=(hb aa).k1 a;have:=(hb aa).pn;rw[b];exact .inl ⟨aa,rfl,⟨by show 0<=1-h0.s;omega,by show 1-h0.s<=1;omega⟩,ag,by dsimp only;omega,by dsimp only;omega⟩
   simp_all
  have tl:=((hspn.hd i i0 aa aa).k2 ik).2.2 m m1 m2;grind
 have:=hk.2 i hi.1.1;rw[show(pg r i).k=1 from hi.2.1]at this;simp_all
end
section
variable {N:Nat}{h0:Wl}{l:List Int}
def Xp6(hN:NB N){h:Wl}(hb:HB h)(ep:Qab N h=some true){a:Int}(ha:IG h a):Qam N h a=some (hdA h.w a,0):=by
 have hp:=Yn hN hb ep;have hr:=ha.rng;have⟨_,q0,q1,q2,q3⟩:=Kr hp.conf hr;have hpl:=hp.pages;have hw:=hp.words;have hk:=ha.kind;have hu:=ha.used;have hsz:=YR h.w a;have hv:=Xl.1 hp.conf;have e1:X0 (ZC (wd h.w a))=szA h.w a:=hsz.1;rw[Qam,ep,Xa,Ws,Wa,Js,hp.conf,Wn ab,Wp hr,Xa];rw[show(a-4096) / h.c.W=pgi h.c a from rfl,show(a-4096) % h.c.W=pgo h.c a from rfl];rw[XH q0 aa,Xa,YI (by have:=hb.1;unfold BIG;omega),Xa,Wp (by unfold inW;omega),Ky,Xa,XE,Yh,Xa];rw[show h.w.getD (ix a) 0=wd h.w a from rfl,ha.ok,e1,Wh (show¬pgo h.c a>=(pg h.p (pgi h.c a)).u by omega),Ws];rcases hk with hk|hk
 .have:=ha.small hk;rw[show((pg h.p (pgi h.c a)).k != 1)=false by grind,Wa,XL hk,Wc,Xd (n:=pgo h.c a+szA h.w a) aa aa,Wh aa,Wa,show((pg h.p (pgi h.c a)).k==2)=false by grind,Wa];rfl
 have:=ha.large hk;rw[show((pg h.p (pgi h.c a)).k != 1)=true by grind,Wc,show((pg h.p (pgi h.c a)).k != 2)=false by grind,Wa,XD aa,Wa,XL hk,Wc,this.1,this.2];simp;rfl
def IG.same{h h2:Wl}(hc:h2.c=h.c){a:Int}(ha:IG h a)(hk:(pg h2.p (pgi h.c a)).k=(pg h.p (pgi h.c a)).k)(hu:(pg h2.p (pgi h.c a)).u=(pg h.p (pgi h.c a)).u)(hw:wd h2.w a=wd h.w a):IG h2 a:=by
 have hs:szA h2.w a=szA h.w a:=by unfold szA hdA;rw[hw]
 refine⟨by rw[hc];exact ha.rng,?_,by rw[hw];exact ha.ok,?_,λh=>?_,λh=>?_⟩<;>rw[hc]at *
 .rw[hk];exact ha.kind
 .rw[hu];exact ha.used
 .rw[hk]at h;rw[hu,hs];exact ha.small h
 rw[hk]at h;rw[hu,hs];exact ha.large h
def QpM{h h2:Wl}(hc:h2.c=h.c){i:Int}{p p2:Wt}(hu:p2.u=p.u)(hk:p2.k=p.k):∀(n:Nat)(o:Int)(v r:List Int),Qas N h i p n o v=some (.nxt r)->(∃t,r=v++t)/\((∀b∈r,Qam N h2 b=Qam N h b)->Qas N h2 i p2 n o v=some (.nxt r))
 |0,o,v,r,e=>by simp_all[Qas]
 |n+1,o,v,r,e=>by
  rw[Qas]at e;rw[Qas,hu,hk,hc];cases h1:decide (o<p.u)with
  |false=>simp_all
  |true=>
   rw[h1,Wc]at e;rw[Wc];cases h2':Qbq N h.c i o with
   |none=>simp_all[h2',Kq]
   |some y=>
    rw[h2',Xa]at e;rw[Xa];cases h3:Qam N h y.1 with
    |none=>simp_all[h3,Kq]
    |some z=>
     rw[h3,Xa]at e;cases h4:z.2 != 0 with
     |true=>simp_all
     |false=>
      rw[h4,Wa]at e;by_cases h5:(v.length+1)*8<=140737488355328;rotate_left
      .unfold grd at e;simp_all
      rw[Xc h5]at e;have key:∀t,r=v++[y.1]++t->y.1∈r:=λt ht=>by simp_all
      cases h6:p.k==2 with
      |true=>rw[h6,Wc]at e;cases e;refine⟨⟨[y.1],rfl⟩,λhb=>?_⟩;rw[hb y.1 ab,h3,Xa,h4,Wa,Xc h5,Wc]
      |false=>rw[h6,Wa,Yh,Xa]at e;have⟨⟨t,ht⟩,q⟩:=QpM hc hu hk n _ _ r e;refine⟨⟨[y.1]++t,by rw[ht,UA]⟩,λhb=>?_⟩;rw[hb y.1 (key t ht),h3,Xa,h4,Wa,Xc h5,Wa,Yh,Xa];simp_all
def Qn9{h:Wl}{i:Int}{p:Wt}{a:List Int×Int}:∀(n:Nat)(o:Int)(v:List Int),Qas N h i p n o v=some (.ret a)->a.2=19
 |0,o,v,e=>by simp_all[Qas]
 |n+1,o,v,e=>by
  rw[Qas]at e;cases h1:decide (o<p.u)with
  |false=>simp_all
  |true=>
   rw[h1,Wc]at e;cases h2':Qbq N h.c i o with
   |none=>simp_all[h2',Kq]
   |some y=>
    rw[h2',Xa]at e;cases h3:Qam N h y.1 with
    |none=>simp_all[h3,Kq]
    |some z=>
     rw[h3,Xa]at e;cases h4:z.2 != 0 with
     |true=>grind
     |false=>
      rw[h4,Wa]at e;by_cases h5:(v.length+1)*8<=140737488355328;rotate_left
      .unfold grd at e;simp_all
      rw[Xc h5]at e;cases h6:p.k==2 with
      |true=>simp_all
      |false=>rw[h6,Wa,Yh,Xa]at e;exact Qn9 n _ _ e
def QpW{h h2:Wl}(hc:h2.c=h.c)(hl:h2.p.length=h.p.length)(ep:Qab N h=some true)(ep2:Qab N h2=some true){i:Int}(i0:0<=i)(i1:i<h.p.length)(hk:(pg h2.p i).k=(pg h.p i).k)(hu:(pg h2.p i).u=(pg h.p i).u){r:List Int}(e:Qal N h i=some (r,0))(hb:∀b∈r,Qam N h2 b=Qam N h b):Qal N h2 i=some (r,0):=by
 rw[Qal,ep,Xa,Ws,Wa,Wh aa,Wa,Wh aa,Wa,XH i0 i1,Xa]at e;rw[Qal,ep2,Xa,Ws,Wa,Wh aa,Wa,Wh aa,Wa,XH i0 aa,Xa,hk];cases h1:(pg h.p i).k==0 with
 |true=>simp_all
 |false=>
  cases h2':(pg h.p i).k==3 with
  |true=>simp_all
  |false=>
   rw[h1,Wa,h2',Wa]at e;rw[Wa,Wa];cases h3:Qas N h i (pg h.p i) N 0 []with
   |none=>simp_all[h3,Kq]
   |some x=>
    rw[h3,Xa]at e;cases x with
    |ret a=>rw[Xy]at e;cases e;exact absurd (Qn9 _ _ _ h3) ab
    |nxt v=>rw[Xm]at e;cases e;rw[(QpM hc hu hk N 0 [] r h3).2 hb,Xa,Xm]
def Xp7{L:List Int}(hs:Ib N h0 L){a b:Int}(ha:a∈L)(hb:b∈L)(hab:a≠b):a+szA h0.w a<=b\/b+szA h0.w b<=a:=by have hpw:=hs.obj.pw;rw[UH]at hpw;have⟨i,hi,ei⟩:=WM ha;have⟨j,hj,ej⟩:=WM hb;grind
instance(w:WC)(i:Int):Decidable (Prm w i):=by unfold Prm;infer_instance
def XaB(h0:Wl)(a:Int):Int:=(hdA h0.w a).n
def fwr(h0:Wl)(v:List Int)(a:Int):List Int:=ovr v ([JX ⟨0,XaB h0 a,0⟩]++List.replicate (XaB h0 a).toNat (0:Int)) (ix a)
def Z0(h0:Wl)(w:WC)(x:List Int×Int)(a:Int):List Int×Int:=if Prm w (pgi h0.c a)/\a∉w.q then(fwr h0 x.1 a,wI (x.2+1))else x
structure VI(h0:Wl)(v:List Int):Prop where
 len:v.length=h0.w.length
 tu:∀x∈v,tU x
def vf{d:Int}(h:0<=d/\d<=255):XG ⟨0,d,0⟩=true:=by unfold XG;simp_all
def Xhg(h0:Wl)(a:Int):0<=XaB h0 a/\XaB h0 a<=255/\szA h0.w a=XaB h0 a+1:=by have:=XP (ZD (wd h0.w a));exact⟨this.2.2.1,this.2.2.2,rfl⟩
def Xhh(h0:Wl)(a x:Int):([x]++List.replicate (XaB h0 a).toNat (0:Int)).length=(XaB h0 a).toNat+1:=by simp
def Xoe(d:WD):tU (JX d):=by unfold JX;simp
def Xp8{v:List Int}(hv:VI h0 v){a:Int}(h1:4096<=a)(h2:a+szA h0.w a<=4096+h0.w.length):VI h0 (fwr h0 v a)/\∀b,4096<=b->(b+1<=a\/a+szA h0.w a<=b)->wd (fwr h0 v a) b=wd v b:=by
 have hf:=Xhg h0 a;have hl:=Xhh h0 a (JX ⟨0,XaB h0 a,0⟩);have hvl:=hv.len;have hi:ix a+([JX ⟨0,XaB h0 a,0⟩]++List.replicate (XaB h0 a).toNat (0:Int)).length<=v.length:=by rw[hl];unfold ix;omega
 refine⟨⟨(ZB hi).trans hvl,λx hx=>?_⟩,λb hb hab=>?_⟩
 .rcases WG.1 hx with hx|hx
  .rcases WG.1 hx with hx|hx
   .exact hv.tu x (WW hx)
   rcases WG.1 hx with hx|hx
   .rw[UJ.1 hx];exact Xoe _
   simp_all
  exact hv.tu x (WP hx)
 unfold wd fwr;rw[Xcc hi,hl,Wn (by unfold ix;omega)]
def XlV(hN:NB N){h:Wl}(hb:HB h)(ep:Qab N h=some true){d a:Int}(hd:0<=d/\d<=255)(h1:4096<=a)(h2:a+(d+1)<=4096+h.w.length):Qbm N h a ⟨0,d,0⟩=some (⟨h.c,ovr h.w ([JX ⟨0,d,0⟩]++List.replicate d.toNat (0:Int)) (ix a),h.p,h.s,h.b⟩,0):=by have hb1:=hb.1;rw[Qbm,Kx,Wp (vf hd),ep,Xa,Xa,Ws,Wa];dsimp only;rw[show((0:Int) != 0)=false from rfl,Wa,Xc aa,Xc aa,Zv (by unfold BIG;omega) (by unfold BIG;simp;omega) (by simp;unfold NB at hN;omega),Wp (by unfold Yp;simp;omega),Xa];rfl
def V6{w:WC}{L:List Int}(hp:Ut h0)(hs:Ib N h0 L){x:List Int×Int}(hv:VI h0 x.1){a:Int}(ha:a∈L):VI h0 (Z0 h0 w x a).1/\∀b∈L,b≠a->wd (Z0 h0 w x a).1 b=wd x.1 b:=by
 have hat:=hs.obj.at_ a ha;have hf:=K3 hp hat;unfold Z0;split
 .have⟨q1,q2⟩:=Xp8 hv hat.rng.1 hf;refine⟨q1,λb hb hba=>q2 b (hs.obj.at_ b hb).rng.1 ?_⟩;have:=(YR h0.w b).2.1;rcases Xp7 hs hb ha hba with h|h<;>omega
 simp_all
def VF{w:WC}{L:List Int}(hp:Ut h0)(hs:Ib N h0 L)(q:Int->Bool):∀(m:List Int)(x:List Int×Int),(∀a∈m,a∈L)->VI h0 x.1->VI h0 (m.foldl (λx a=>if q a then Z0 h0 w x a else x) x).1/\∀b∈L,b∉m->wd (m.foldl (λx a=>if q a then Z0 h0 w x a else x) x).1 b=wd x.1 b
 |[],x,_,hv=>⟨hv,λ_ _ _=>rfl⟩
 |a::m,x,hm,hv=>by
  rw[Ik];have h1:=V6 (w:=w) hp hs hv (hm a ab);cases hq:q a with
  |false=>obtain⟨r1,r2⟩:=VF hp hs q m x (λb hb=>hm b (by grind)) hv;exact⟨r1,λb hb hbm=>r2 b hb λh=>hbm (by grind)⟩
  |true=>obtain⟨r1,r2⟩:=VF hp hs q m (Z0 h0 w x a) (λb hb=>hm b (by grind)) h1.1;exact⟨r1,λb hb hbm=>(r2 b hb λh=>hbm (by grind)).trans (h1.2 b hb λh=>hbm (by grind))⟩
end
section
variable {N:Nat}{h0:Wl}{L:List Int}
def XeO(hN:NB N)(hb:HB h0)(hp:Ut h0)(hs:Ib N h0 L){w:WC}(hc:CI h0 L w)(hh:I5 h0 L w)(hspn:Om h0.c w.h.p):∀(n k:Nat)(x:List Int×Int),k<=w.o.length->w.o.length-k<n->VI h0 x.1->(∀a∈w.o.drop k,Prm w (pgi h0.c a)->wd x.1 a=wd h0.w a) ->
 QaT N w n (k:Int) x.1 x.2=some ((w.o.drop k).foldl (Z0 h0 w) x)
 |0,k,x,_,hn,_,_=>by omega
 |n+1,k,x,hk,hn,hv,hw=>by
  have hN':=hN;unfold NB at hN';have hb1:=hb.1;have hql:=hc.ql hb;have htl:=hc.tl hb;have hol:=hc.old.length_le;have hsl:=hs.len;have hspc:=hc.spc;have hsp:=hp.space;rw[QaT];by_cases h:k<w.o.length;rotate_left
  .grind
  have hdr:=Wq h;have haL:w.o[k]∈L:=hc.old.subset (WN h);have hpw:=(hs.obj.pw.sublist hc.old).drop (i:=k);rw[hdr]at hw hpw⊢;rw[IC]at hpw;rw[Xk h,Wc,Xe,Wb h,Xa,Xf aa,Ik];generalize w.o[k]=a at haL hw hpw⊢;have hat:=hs.obj.at_ a haL;have hr:=hat.rng;have hfit:=K3 hp hat;have hof:QcH N w.h.c a=some (pgi h0.c a,pgo h0.c a,0):=by rw[Js,hc.conf,hp.conf,Wn ab,Wp hr];rfl
  have hlt:∀b∈w.o.drop (k+1),b∈L/\b≠a:=λb hb=>⟨hc.old.subset (WP hb),λe=>by have:=hpw.1 b hb;have:=(YR h0.w a).2.1;omega⟩
  have hpl:=hc.plen;have hb2:=hb.2;have⟨b,hbp,eb,_⟩:=XeN (N:=N) (w:=⟨⟨w.h.c,x.1,w.h.p,w.h.s,w.h.b⟩,w.o,w.t,w.q,w.d,⟨w.r.j,w.r.K,x.2,w.r.E,w.r.f,w.r.y⟩⟩) (i:=pgi h0.c a) hN htl (by simp_all) (by simp_all) hspn.sp;have hbp:b=true↔Prm w (pgi h0.c a):=hbp;rw[hof,Xa];rw[eb,Xa];have nxt:¬(Prm w (pgi h0.c a)/\a∉w.q)->QaT N w n ((k+1:Nat):Int) x.1 x.2=some ((w.o.drop (k+1)).foldl (Z0 h0 w) (Z0 h0 w x a)):=λhq=>by rw[show Z0 h0 w x a=x from Wn hq];exact XeO hN hb hp hs hc hh hspn n (k+1) x aa aa hv λb hb=>hw b (by grind)
  cases hbv:b with
  |false=>simp_all
  |true=>
   rw[Ws,Wa,Xa,YE a aa aa,Xa];cases hqv:w.q.contains a with
   |true=>simp_all
   |false=>
    have hq:=ZR hqv;have hpm:=hbp.1 hbv;have ewd:=hw a ab hpm;have hf:=Xhg h0 a;have hvl:=hv.len;have eL:(ZC (wd x.1 a)).n=XaB h0 a:=by rw[ewd];rfl
    rw[Wa,Xa,Qeh,YI (by show x.1.length<=_;unfold BIG;omega),Xa,Wp (by show inW x.1 a;unfold inW;omega),Ky,Xa,Xa];rw[show x.1.getD (ix a) 0=wd x.1 a from rfl,eL,Kx,Wp (vf aa),Xa,Xa,Xc aa,Xc aa,Zv (by unfold BIG;omega) (by rw[Xhh];unfold BIG;omega) (by grind),Xhh,Wp (by unfold Yp;omega),Xa];have⟨q1,q2⟩:=V6 (w:=w) hp hs hv haL;have ef:Z0 h0 w x a=(fwr h0 x.1 a,wI (x.2+1)):=Wp ⟨hpm,hq⟩;rw[ef]at q1 q2⊢;exact XeO hN hb hp hs hc hh hspn n (k+1) _ aa aa q1 λb hb hbp=>(q2 b (hlt b hb).1 (hlt b hb).2).trans (hw b (by grind) hbp)
def hpv(w:WC)(v:List Int):Wl:=⟨w.h.c,v,w.h.p,w.h.s,w.h.b⟩
def Xhi(hN:NB N)(hb:HB h0)(ep:Qab N h0=some true){w:WC}(hc:CI h0 L w)(hh:I5 h0 L w){v:List Int}(hv:VI h0 v):Qab N (hpv w v)=some true/\HT (hpv w v):=by
 have hp:=Yn hN hb ep;have hpl:=hc.plen;refine⟨?_,⟨?_,hv.tu⟩⟩
 .have:=hh.ss.proper hN hb ep (ws:=v) hv.len (b:=w.h.b) (by
   rw[hh.bm]
   rcases hp.bump with h|⟨a,b,c⟩
   .exact .inl h
   .exact .inr ⟨a,aa,hh.k1 _ a c⟩)
  unfold hpv
  simp_all[hc.conf,hc.spc]
 have:=hb.1;have:=hb.2;have:=hv.len;exact⟨by show v.length<=_;omega,by show w.h.p.length<=_;omega⟩
def XlW(hN:NB N)(hb:HB h0)(ep:Qab N h0=some true)(hs:Ib N h0 L){w:WC}(hc:CI h0 L w)(hh:I5 h0 L w){v:List Int}(hv:VI h0 v){a:Int}(ha:a∈L)(hpm:Prm w (pgi h0.c a))(hw:wd v a=wd h0.w a):Qeq N (hpv w v) a=some (hdA h0.w a,0):=by have⟨e1,e2⟩:=Xhi hN hb ep hc hh hv;have hat:=hs.obj.at_ a ha;have hpr:=hh.pr _ hpm;have hr:=hat.rng;have hp:=Yn hN hb ep;have h2:IG (hpv w v) a:=hat.same (h2:=hpv w v) hc.conf (by rw[hpr.1];exact hpm.2.1) hpr.2 hw;have hwl:=hp.words;have hb1:=hb.1;rw[XaZ hN e2 (by unfold tU;omega),Xp6 hN e2.hb e1 h2];unfold hdA;rw[show(hpv w v).w=v from rfl,hw]
def XcU(hN:NB N)(hb:HB h0)(ep:Qab N h0=some true)(hs:Ib N h0 L){w:WC}(hc:CI h0 L w)(hh:I5 h0 L w){i:Int}(hpm:Prm w i){m:List Int}(hm:m.Sublist L)(hmi:∀a∈m,pgi h0.c a=i):∀(n k:Nat)(x:List Int×Int),k<=m.length->m.length-k<n->VI h0 x.1->(∀a∈m.drop k,wd x.1 a=wd h0.w a) ->
 Qck N w (m,0) i n (k:Int) w.h.c.W w.h.c.p x.1 w.h.p w.h.s w.h.b x.2=some (w.h.c.W,w.h.c.p,((m.drop k).foldl (λx a=>if Za (fnd h0 a)then Z0 h0 w x a else x) x).1,w.h.p,w.h.s,w.h.b,((m.drop k).foldl (λx a=>if Za (fnd h0 a)then Z0 h0 w x a else x) x).2)
 |0,k,x,_,hn,_,_=>by omega
 |n+1,k,x,hk,hn,hv,hw=>by
  have hN':=hN;unfold NB at hN';have hb1:=hb.1;have hql:=hc.ql hb;have hol:=hm.length_le;have hsl:=hs.len;have hp:=Yn hN hb ep;rw[Qck];by_cases h:k<m.length;rotate_left
  .grind
  have hdr:=Wq h;have haL:m[k]∈L:=hm.subset (WN h);have hai:=hmi _ (WN h);have hpw:=(hs.obj.pw.sublist hm).drop (i:=k);rw[hdr]at hw hpw⊢;rw[IC]at hpw;rw[Xk h,Wc,Xe,Wb h,Xa,Xf aa,Ik];generalize m[k]=a at haL hw hpw hai⊢;have hat:=hs.obj.at_ a haL;have hr:=hat.rng;have hfit:=K3 hp hat;have hlt:∀b∈m.drop (k+1),b∈L/\b≠a:=λb hb=>⟨hm.subset (WP hb),λe=>by have:=hpw.1 b hb;have:=(YR h0.w a).2.1;omega⟩
  have ewd:=hw a ab;have eat:=XlW hN hb ep hs hc hh hv haL (by simp_all) ewd;unfold hpv at eat;rw[show(⟨w.h.c.W,w.h.c.p⟩:WU)=w.h.c from rfl,eat,Xa];have nxt:=XcU hN hb ep hs hc hh hpm hm hmi n (k+1) x aa aa hv λb hb=>hw b (by grind);have must0:Qaj N 0=some ():=by rw[Qaj];rfl
  rw[must0,Xa];by_cases hk0:(hdA h0.w a).k=0
  .have hl:Za (fnd h0 a)=false:=by unfold Za fnd;rw[XL hk0];rfl
   simp_all
  have hl:Za (fnd h0 a)=true:=by unfold Za fnd;rw[XD hk0];rfl
  rw[XD hk0,Wa,hl,Wp rfl,Vo _ _ aa aa,Xa];cases hqv:w.q.contains a with
  |true=>rw[Wc,show Z0 h0 w x a=x from Wn λh=>h.2 (Y6 hqv)];omega
  |false=>have hq:=ZR hqv;have hf:=Xhg h0 a;have hvl:=hv.len;have hsz:=YR h0.w a;have⟨e1,e2⟩:=Xhi hN hb ep hc hh hv;have ei:=XlV hN e2.hb e1 (d:=XaB h0 a) (a:=a) aa hr.1 (by show _<=4096+(x.1.length:Int);omega);rw[Wa,Zo aa,Xa,hsz.1,Qh9,Wh (show¬szA h0.w a<1 by omega),Wa,Wh (show¬szA h0.w a>256 by omega),Wa,Xd (n:=szA h0.w a-1) aa aa,show szA h0.w a-1=XaB h0 a by omega];have eg:=XlG hN e2.hb (a:=a) aa (d:=⟨0,XaB h0 a,0⟩) ab;rw[ei]at eg;unfold hpv at eg;rw[eg,Xa,Xa];rw[must0,Xa];have⟨q1,q2⟩:=V6 (w:=w) hp hs hv haL;have ef:Z0 h0 w x a=(fwr h0 x.1 a,wI (x.2+1)):=Wp ⟨by simp_all,hq⟩;rw[ef]at q1 q2⊢;exact XcU hN hb ep hs hc hh hpm hm hmi n (k+1) _ aa aa q1 λb hb=>(q2 b (hlt b hb).1 (hlt b hb).2).trans (hw b (by grind))
def fF(h0:Wl)(w:WC)(x:List Int×Int)(a:Int):List Int×Int:=if Za (fnd h0 a)then Z0 h0 w x a else x
def Xij{h:Wl}{a:Int}:∀(m k:Nat),a∈lps N h k m->∃i,k<=i/\i<k+m/\a∈lpg N h i
 |0,k,ha=>by cases ha
 |m+1,k,ha=>by
  rcases WG.1 ha with ha|ha
  .grind
  have⟨i,h1,h2,h3⟩:=Xij m (k+1) ha;grind
def Xik{h:Wl}:∀(m k j:Nat),j<=m->(lps N h (k+j) (m-j)).Sublist (lps N h k m)
 |m,k,0,_=>List.Sublist.refl _
 |0,k,j+1,h=>by omega
 |m+1,k,j+1,hj=>by have:(lps N h (k+1+j) (m-j)).Sublist (lps N h (k+1) m):=Xik m (k+1) j aa;rw[show k+1+j=k+(j+1) by omega,show m-j=m+1-(j+1) by omega]at this;simp_all[lps]
def Xil{w:WC}:∀(m:List Int)(x:List Int×Int),(∀a∈m,¬Prm w (pgi h0.c a))->m.foldl (fF h0 w) x=x
 |[],x,_=>rfl
 |a::m,x,h=>by rw[Ik,show fF h0 w x a=x by unfold fF Z0;simp_all];exact Xil m x λb hb=>h b (by grind)
def XcV(hN:NB N)(hb:HB h0)(hB:Ow N h0 L){w:WC}(hc:CI h0 L w)(hh:I5 h0 L w):∀(n k:Nat)(x:List Int×Int),k<=h0.p.length->h0.p.length-k<n->VI h0 x.1->(∀a∈lps N h0 k (h0.p.length-k),Prm w (pgi h0.c a)->wd x.1 a=wd h0.w a) ->
 Qc7 N w n (k:Int) w.h.c.W w.h.c.p x.1 w.h.p w.h.s w.h.b x.2=some (w.h.c.W,w.h.c.p,((lps N h0 k (h0.p.length-k)).foldl (fF h0 w) x).1,w.h.p,w.h.s,w.h.b,((lps N h0 k (h0.p.length-k)).foldl (fF h0 w) x).2)
 |0,k,x,_,hn,_,_=>by omega
 |n+1,k,x,hk,hn,hv,hw=>by
  have hN':=hN;unfold NB at hN';have hpl:=hc.plen;have hb2:=hb.2;have htl:=hc.tl hb;have ep:=hB.ep;have hp:=Yn hN hb ep;have hs:=hB.st.st;have hsp:=hp.space;have hspc:=hc.spc;have hspn:=hh.spn hN hb ep;rw[Qc7,hpl];by_cases h:k<h0.p.length;rotate_left
  .obtain rfl:k=h0.p.length:=aa;simp[Xw,Wa,IW,lps]
  rw[Xk h,Wc,Xf aa];have⟨b,hbp,_,eb⟩:=XeN (N:=N) (w:=⟨⟨w.h.c,x.1,w.h.p,w.h.s,w.h.b⟩,w.o,w.t,w.q,w.d,⟨w.r.j,w.r.K,x.2,w.r.E,w.r.f,w.r.y⟩⟩) (i:=(k:Int)) hN htl (by simp_all) (by simp_all) hspn.sp;have hbp:b=true↔Prm w (k:Int):=hbp;have ep2:Qeb N ⟨⟨w.h.c,x.1,w.h.p,w.h.s,w.h.b⟩,w.o,w.t,w.q,w.d,⟨w.r.j,w.r.K,x.2,w.r.E,w.r.f,w.r.y⟩⟩ (k:Int)=some b:=by rw[←eb,Qeb,QcU];simp only[XE,Xc (p:=w.h.p.length<=140737488355328) aa]
  rw[show(⟨w.h.c.W,w.h.c.p⟩:WU)=w.h.c from rfl,ep2,Xa];have esub:h0.p.length-k=(h0.p.length-(k+1))+1:=aa;have⟨g1,g2⟩:=hB.pg k h;have hmi:∀a∈lpg N h0 k,pgi h0.c a=(k:Int):=λa ha=>(g2.2.1 a ha).2;have hLk:(lps N h0 k (h0.p.length-k)).Sublist L:=by have:=Xik (N:=N) (h:=h0) h0.p.length 0 k hk;rw[Ux]at this;rw[hB.eL];exact this
  rw[esub,lps]at hw hLk⊢;rw[List.foldl_append];have hm:(lpg N h0 k).Sublist L:=(List.sublist_append_left _ _).trans hLk;cases hbv:b with
  |false=>rw[Ui,Wc,Xil (lpg N h0 k) x λa ha=>by simp_all];exact XcV hN hb hB hc hh n (k+1) x aa aa hv λa ha=>hw a (Ua _ ha)
  |true=>
   have hpm:=hbp.1 hbv;have⟨e1,e2⟩:=Xhi hN hb ep hc hh hv;have hpr:=hh.pr _ hpm;have hwk:∀a∈lpg N h0 k,wd x.1 a=wd h0.w a:=λa ha=>hw a (W0 _ ha) (by simp_all);have epg:QeW N (hpv w x.1) (k:Int)=some (lpg N h0 k,0):=by rw[XcM hN e2];refine QpW (h:=h0) (h2:=hpv w x.1) hc.conf hpl ep e1 aa aa (by rw[hpr.1];exact hpm.2.1) hpr.2 g1 λa ha=>?_;have haL:=hm.subset ha;have:=XlW hN hb ep hs hc hh hv haL (by simp_all) (hwk a ha);have hr:=(hs.obj.at_ a haL).rng;have hv2:=Xl.1 hp.conf;have hwl:=hp.words;have hb1:=hb.1;rw[XaZ hN e2 (by unfold tU;omega)]at this;rw[this,hs.obj.ev a haL]
   unfold hpv at epg;have must0:Qaj N 0=some ():=by rw[Qaj];rfl
   have gl:=XcU hN hb ep hs hc hh hpm hm hmi N 0 x aa (by have:=hm.length_le;have:=hs.len;omega) hv λa ha=>hwk a ha;rw[show((0:Nat):Int)=0 from rfl,WX]at gl;rw[Ws,Wa,epg,Xa];rw[must0,Xa,gl,Xa];have⟨q1,q2⟩:=VF (w:=w) hp hs (λa=>Za (fnd h0 a)) (lpg N h0 k) x (λa ha=>hm.subset ha) hv;refine XcV hN hb hB hc hh n (k+1) _ aa aa q1 λa ha hpa=>?_;have haL:=hLk.subset (Ua _ ha);rw[q2 a haL λhc=>?_]
   .simp_all
   have⟨i,i1,i2,i3⟩:=Xij _ _ ha;have:=(g2.2.1 a hc).2;have:=((hB.pg i aa).2.2.1 a i3).2;omega
def Xof(hN:NB N)(hb:HB h0)(hB:Ow N h0 L){w:WC}(hc:CI h0 L w)(hh:I5 h0 L w):∃v c,VI h0 v/\Qez N w=some ⟨⟨w.h.c,v,w.h.p,w.h.s,w.h.b⟩,w.o,w.t,w.q,w.d,⟨w.r.j,w.r.K,c,w.r.E,w.r.f,w.r.y⟩⟩ /\
 QeO N w=some ⟨⟨w.h.c,v,w.h.p,w.h.s,w.h.b⟩,w.o,w.t,w.q,w.d,⟨w.r.j,w.r.K,c,w.r.E,w.r.f,w.r.y⟩⟩:=by
 have hN':=hN;unfold NB at hN';have ep:=hB.ep;have hp:=Yn hN hb ep;have hs:=hB.st.st;have hb2:=hb.2;have hspn:=hh.spn hN hb ep;have hv:VI h0 w.h.w:=⟨hc.wlen,hh.ws⟩
 have hol:=hc.old.length_le;have hsl:=hs.len;have g:=XcV hN hb hB hc hh N 0 (w.h.w,w.r.F) aa aa hv λa ha hpa=>hh.hw a (by rw[hB.eL];exact ha) hpa;have r:=XeO hN hb hp hs hc hh hspn N 0 (w.h.w,w.r.F) aa aa hv λa ha hpa=>hh.hw a (hc.old.subset ha) hpa;have e:(w.o.drop 0).foldl (Z0 h0 w) (w.h.w,w.r.F)=(lps N h0 0 (h0.p.length-0)).foldl (fF h0 w) (w.h.w,w.r.F):=by rw[WX,Nat.sub_zero,←hB.eL,hh.ol,Jx,List.foldl_filter];rfl
 rw[e]at r;rw[show((0:Nat):Int)=0 from rfl]at g r;have k:=VF (w:=w) hp hs (λa=>Za (fnd h0 a)) (lps N h0 0 (h0.p.length-0)) (w.h.w,w.r.F) (λa ha=>by rw[hB.eL];exact ha) hv;refine⟨((lps N h0 0 (h0.p.length-0)).foldl (fF h0 w) (w.h.w,w.r.F)).1,((lps N h0 0 (h0.p.length-0)).foldl (fF h0 w) (w.h.w,w.r.F)).2,k.1,?_,?_⟩
 .rw[Qez,g,Xa]
 simp[QeO,r,Xa]
end
section
variable {N:Nat}{h0:Wl}{L:List Int}
def Xog(hN:NB N)(hb:HB h0)(hp:Ut h0)(hs:Ib N h0 L){w:WC}(hc:CI h0 L w)(hws:∀x∈w.h.w,tU x){a:Int}(ha:a∈L):∃m,QfQ N w a=some m/\Qdw N w a=some m:=by
 have hN':=hN;unfold NB at hN';have hql:=hc.ql hb;have hat:=hs.obj.at_ a ha;have⟨o1,o2⟩:=Xig (N:=N) hp.conf hat.rng;have hw:=hp.words;have hwl:=hc.wlen;have hr:=hat.rng;have must0:Qaj N 0=some ():=by rw[Qaj];rfl
 rw[QfQ,Qdw,Vo _ _ aa aa,YE a aa aa,Xa,Xa];cases w.q.contains a with
 |true=>simp
 |false=>
  rw[Wa,Wa,hc.conf,o1,Xa];have e:Xb w.h.w (a-4096)=some (wd w.h.w a):=by rw[Yg aa aa];unfold wd ix;rw[Wo,Wb aa];rfl
  rw[must0,Xa,o2,e,Xa,XcS aa (Xge hws a),YI (hc.wl hb),Xa,Wp (by unfold inW;omega),show w.h.w.getD (ix a) 0=wd w.h.w a from rfl,Jr,Xa];simp
def Xgg(hN:NB N)(hb:HB h0)(hp:L≠[]->Ut h0)(hs:Ib N h0 L){w:WC}(hc:CI h0 L w)(hws:∀x∈w.h.w,tU x){ws:List Int}(hl:ws.length<=1000000)(hm:∀x∈ws,x=0\/x∈L)(y5:WC×List Int×Int):∀(n k:Nat)(c:Int)(out:List Int),k<=ws.length->ws.length-k<n->out.length=k ->
 ∃o c',o.length=ws.length/\Qcm N w ws n (k:Int) c out=some (o,c')/\Qa3 N ws y5 (w,0) n (k:Int) c out=some (c',o)
 |0,k,c,out,_,hn,_=>by omega
 |n+1,k,c,out,hk,hn,ho=>by
  rw[Qcm,Qa3];by_cases h:k<ws.length;rotate_left
  .grind
  rw[Xk h,Wc,Wc,Xe,Wb h,Xa,Xa,Xf aa,XE,XE];have nx:=λc' x=>Xgg hN hb hp hs hc hws hl hm y5 n (k+1) c' (out++[x]) aa aa (by simp_all);have hmk:=hm _ (WN h);generalize ws[k]=a at hmk⊢;by_cases h0a:a=0
  .dsimp only;rw[Xc aa,Xc aa];simp_all
  rw[X6 h0a,Wc,Wc,Xa];have haL:a∈L:=by rcases hmk with h|h;exact absurd h h0a;exact h
  have⟨m,e1,e2⟩:=Xog hN hb (hp (List.ne_nil_of_mem haL)) hs (w:=⟨w.h,w.o,w.t,w.q,w.d,⟨w.r.j,w.r.K,w.r.F,w.r.E,c,w.r.y⟩⟩) (by
   obtain⟨O,s,ho⟩:=hc.obj
   exact⟨hc.conf,hc.wlen,hc.plen,hc.spc,hc.old,hc.tk,hc.tnd,hc.knd,hc.qnd,⟨O,s,⟨ho.old,ho.queue,ho.fit,ho.apart,ho.taken,ho.free⟩⟩⟩) hws haL
  rw[e1,e2,Xa,Xa,XE,XE];cases m==0 with
  |true=>rw[Wc,Wc];dsimp only;rw[Xc aa,Xc aa];simp_all
  |false=>rw[Wa,Wa];dsimp only;rw[Xc aa,Xc aa];simp_all
def XdZ(p1:Wt)(hp1:p1.k=2):∀(n k:Nat)(qs:List Wt),k<=qs.length->qs.length-k<n->qs.length<=100000->∃r,QeA N p1 n (k:Int) qs=some r/\r.length=qs.length/\∀j:Nat,((k<=j/\j<qs.length/\∀x:Nat,k<=x->x<=j->(pg qs x).k=3)/\pg r j=KW)\/(¬(k<=j/\j<qs.length/\∀x:Nat,k<=x->x<=j->(pg qs x).k=3)/\pg r j=pg qs j)
 |0,k,qs,_,hn,_=>by omega
 |n+1,k,qs,hk,hn,hl=>by
  rw[QeA,XL hp1,Wc,Xc aa];by_cases h:k<qs.length;rotate_left
  .grind
  rw[Xk h,Wc,XH (ps:=qs) (i:=(k:Int)) aa aa,Xa];by_cases h3:(pg qs k).k=3;rotate_left
  .grind
  rw[XL h3,Wc,Xa,Xf aa];have e2:=λx:Nat=>ZE (ps:=qs) (i:=(k:Int)) (j:=(x:Int)) ⟨0,0,0,0⟩ aa aa aa;have eq:∀x:Nat,k+1<=x->pg (qs.set (k:Int).toNat ⟨0,0,0,0⟩) x=pg qs x:=λx hx=>by grind
  have⟨r,r1,r2,r3⟩:=XdZ p1 hp1 n (k+1) (qs.set (k:Int).toNat ⟨0,0,0,0⟩) (by grind) (by grind) (by simp_all);rw[WR]at r2 r3;refine⟨r,r1,r2,λj=>?_⟩;by_cases hjk:j=k
  .subst hjk;refine .inl ⟨⟨Un _,h,λx a b=>by grind⟩,?_⟩;rcases r3 j with g|g
   .omega
   rw[g.2,e2 j,Wp rfl];rfl
  rcases r3 j with⟨⟨a1,a2,a3⟩,b⟩|⟨a,b⟩
  .refine .inl ⟨⟨aa,a2,λx hx hxj=>?_⟩,b⟩;by_cases hxk:x=k
   .rw[hxk];exact h3
   rw[←eq x aa];exact a3 x aa hxj
  grind
def Xim{w:WC}(v4:List Wt)(p5:Wt)(i c:Int)(hp:Ut h0)(hc:w.h.c=h0.c)(g0:0<=i)(g1:i<h0.c.p):∀(n k:Nat)(v:List Int),(k:Int)<=h0.c.W->65-k<n->v.length=h0.w.length ->
 ∃r,Qbt N w v4 p5 i c n (k:Int) v=some r/\r.length=v.length/\∀j,r.getD j 0=if(i*h0.c.W).toNat+k<=j/\j<((i+1)*h0.c.W).toNat then 0 else v.getD j 0
 |0,k,v,_,hn,_=>by omega
 |n+1,k,v,k0,hn,hv=>by
  have hvc:=Xl.1 hp.conf;have hm:=XZ hp.conf g0 g1;have hw:=hp.words;have e1:(i+1)*h0.c.W=i*h0.c.W+h0.c.W:=by rw[Iy,IN]
  rw[Qbt,hc];by_cases h1:(k:Int)<h0.c.W;rotate_left
  .rw[Wh h1,Wa];exact⟨v,rfl,rfl,λj=>by rw[Wn aa]⟩
  rw[Wg h1,Wc,Xf aa,Xd (n:=i*h0.c.W) aa aa,Xd (n:=i*h0.c.W+k) aa aa,Yg aa aa,Xa];have⟨r,r1,r2,r3⟩:=Xim v4 p5 i c hp hc g0 g1 n (k+1) (v.set (i*h0.c.W+k).toNat 0) aa aa (by rw[WR];exact hv);grind
def frZ(ps:List Wt)(sp:Int)(j:Nat):Prop:=(pg ps j).k≠0/\(pg ps j).s=sp
def frC(ps:List Wt)(sp:Int)(k j:Nat):Prop:=∃i:Nat,i<k/\i<j/\j<ps.length/\(pg ps i).k=2/\(pg ps i).s=sp/\∀x:Nat,i<x->x<=j->(pg ps x).k=3
def Xp9{c:WU}{ps:List Wt}(hs:Om c ps){sp:Int}{k j:Nat}(h:frC ps sp k j):frZ ps sp j:=by
 have⟨i,h1,h2,h3,h4,h5,h6⟩:=h;have h3j:=h6 j h2 (Un j);have⟨k',t0,t1,t2,t3,t4⟩:=hs.tl j aa aa h3j;obtain⟨m,rfl⟩:∃m:Nat,k'=m:=⟨k'.toNat,aa⟩
 have tl:=(t2.k2 t3).2.2;have e:m=i:=by
  rcases Nat.lt_trichotomy m i with h|h|h
  .have:=(tl ((i:Int)-m) aa aa).1;grind
  .omega
  grind
 subst e;have:=(tl ((j:Int)-m) aa aa).2.1;rw[show(m:Int)+((j:Int)-m)=j by omega]at this;exact⟨aa,this.trans h5⟩
def XlX{a b:List Int}(hl:a.length=b.length)(h:∀j,a.getD j 0=b.getD j 0):a=b:=by refine List.ext_getElem hl λi h1 h2=>?_;have:=h i;simp_all
def XeP(hN:NB N)(hb:HB h0)(hp:Ut h0){w:WC}(hc:w.h.c=h0.c)(hpl:w.h.p.length=h0.p.length)(hs:Om h0.c w.h.p):∀(n k:Nat)(c:Int)(v:List Int)(q g:List Wt),k<=h0.p.length->h0.p.length-k<n->v.length=h0.w.length->q.length=h0.p.length->g.length=h0.p.length ->
 (∀j:Nat,(j<k/\frZ w.h.p w.h.s j->pg q j=KW)/\(¬(j<k/\frZ w.h.p w.h.s j)->pg q j=pg w.h.p j)) ->
 (∀j:Nat,((j<k/\frZ w.h.p w.h.s j)\/frC w.h.p w.h.s k j->pg g j=KW)/\(¬((j<k/\frZ w.h.p w.h.s j)\/frC w.h.p w.h.s k j)->pg g j=pg w.h.p j)) ->
 ∃c' v' r,v'.length=h0.w.length/\r.length=h0.p.length/\Qa0 N w n (k:Int) c v q=some (c',v',r)/\Qbz N w n (k:Int) g c v=some (v',r,c')
 |0,k,c,v,q,g,_,hn,_,_,_,_,_=>by omega
 |n+1,k,c,v,q,g,hk,hn,hv,hq,hg,hqj,hgj=>by
  have hN':=hN;unfold NB at hN';have hb2:=hb.2;have hpp:=hp.pages;have hw:=hp.words;have must0:Qaj N 0=some ():=by rw[Qaj];rfl
  rw[Qa0,Qbz,Xc aa,hq,hpl];by_cases h:k<h0.p.length;rotate_left
  .obtain rfl:k=h0.p.length:=aa;rw[Xw,Wa,Wa];have e:g=q:=by
    refine Xp0 aa λj hj=>?_;obtain⟨m,rfl⟩:∃m:Nat,j=m:=⟨j.toNat,aa⟩
    by_cases hm:m<h0.p.length/\frZ w.h.p w.h.s m
    .simp_all
    rw[(hqj m).2 hm];refine(hgj m).2 λh=>?_;rcases h with h|h
    .simp_all
    have hf:=Xp9 hs h;have⟨_,_,_,h3,_⟩:=h;grind
   subst e;exact⟨c,v,g,hv,hg,rfl,rfl⟩
  have hqk:pg q k=pg w.h.p k:=(hqj k).2 λh=>by omega
  rw[Xk h,Wc,Wc,XH (ps:=q) (i:=(k:Int)) aa aa,XH (ps:=w.h.p) (i:=(k:Int)) aa aa,Xa,Xa,Xa,hqk,Xf aa];have skip:¬frZ w.h.p w.h.s k->∃c' v' r,v'.length=h0.w.length/\r.length=h0.p.length/\Qa0 N w n ((k+1:Nat):Int) c v q=some (c',v',r)/\Qbz N w n ((k+1:Nat):Int) g c v=some (v',r,c'):=λhf=>by
   have lt:∀j:Nat,j<k+1/\frZ w.h.p w.h.s j↔j<k/\frZ w.h.p w.h.s j:=λj=>⟨λh=>⟨by rcases Uq j k with a|a;exact a;exact absurd (show j=k by omega▸h.2) (λ_=>hf (by rw[show k=j by omega];exact h.2)),h.2⟩,λh=>⟨aa,h.2⟩⟩
   have fr:∀j:Nat,frC w.h.p w.h.s (k+1) j↔frC w.h.p w.h.s k j:=λj=>⟨λ⟨i,a,b,d,e,f,g⟩=>⟨i,by
    rcases Uq i k with x|x
    .exact x
    .exfalso;rw[show i=k by omega]at e f;exact hf ⟨aa,f⟩,b,d,e,f,g⟩,λ⟨i,a,b,d,e,f,g⟩=>⟨i,aa,b,d,e,f,g⟩⟩
   refine XeP hN hb hp hc hpl hs n (k+1) c v q g aa aa hv hq hg (λj=>?_) λj=>?_
   .rw[lt j];exact hqj j
   grind
  by_cases h1:(pg w.h.p k).k=0
  .rw[XL h1,Wc,Wc];exact skip λh=>h.1 h1
  rw[XD h1,Wa,Wa];by_cases h2:(pg w.h.p k).s=w.h.s;rotate_left
  .rw[X6 h2,Wc,Wc];exact skip λh=>h2 h.2
  have hfz:frZ w.h.p w.h.s k:=⟨h1,h2⟩
  rw[show((pg w.h.p k).s != w.h.s)=false by simp_all,Wa,Wa];have hm:=XZ hp.conf (i:=(k:Int)) aa aa;have hvc:=Xl.1 hp.conf;have e1:((k:Int)+1)*h0.c.W=k*h0.c.W+h0.c.W:=by rw[Iy,IN]
  have e2:(((k+1:Nat):Int))*h0.c.W=(k:Int)*h0.c.W+h0.c.W:=by rw[←e1];congr 1
  obtain⟨u,u1,u2,u3⟩:=Xim (N:=N) (w:=w) q (pg w.h.p k) (k:Int) c hp hc aa aa N 0 v aa aa hv;rw[show((0:Nat):Int)=0 from rfl]at u1;rw[hc,e2,Xd (n:=(k:Int)*h0.c.W) aa aa,Xd (n:=(k:Int)*h0.c.W+h0.c.W) aa aa,Xc aa,u1,Xa];have eu:((v.take ((k:Int)*h0.c.W).toNat)++(List.replicate (((k:Int)*h0.c.W+h0.c.W).toNat-((k:Int)*h0.c.W).toNat) (0:Int)))++(v.drop (((k:Int)*h0.c.W).toNat+(((k:Int)*h0.c.W+h0.c.W).toNat-((k:Int)*h0.c.W).toNat)))=u:=by
   refine XlX ?_ λj=>?_
   .grind
   rw[Xie aa aa,u3 j,e1,IA]
  rw[eu];have hul:u.length=h0.w.length:=u2.trans hv;have p2:=λx:Nat=>ZE (ps:=q) (i:=(k:Int)) (j:=(x:Int)) ⟨0,0,0,0⟩ aa aa aa;have hq':∀j:Nat,(j<k+1/\frZ w.h.p w.h.s j->pg (q.set (k:Int).toNat ⟨0,0,0,0⟩) j=KW)/\(¬(j<k+1/\frZ w.h.p w.h.s j)->pg (q.set (k:Int).toNat ⟨0,0,0,0⟩) j=pg w.h.p j):=λj=>by
   rw[p2 j];by_cases hjk:j=k
   .subst hjk;rw[Wp rfl];exact⟨λ_=>rfl,λh=>absurd ⟨aa,hfz⟩ h⟩
   grind
  have fin:=λg' hg' hgj'=>XeP hN hb hp hc hpl hs n (k+1) (wI (c+1)) u (q.set (k:Int).toNat ⟨0,0,0,0⟩) g' aa aa hul (by simp_all) hg' hq' hgj';have frm:∀j,frC w.h.p w.h.s k j->frC w.h.p w.h.s (k+1) j:=λj ⟨i,a,b,d,e,f,g⟩=>⟨i,aa,b,d,e,f,g⟩
  have frk:∀j,frC w.h.p w.h.s (k+1) j->(pg w.h.p k).k≠2->frC w.h.p w.h.s k j:=λj ⟨i,a,b,d,e,f,g⟩ h2=>⟨i,by
   grind,b,d,e,f,g⟩
  by_cases h3:(pg w.h.p k).k=3
  .rw[show((pg w.h.p k).k != 3)=false by rw[h3];rfl,Wa];refine fin g hg λj=>?_;refine⟨λh=>?_,λh=>(hgj j).2 λa=>h (by rcases a with a|a;exact .inl ⟨aa,a.2⟩;exact .inr (frm j a))⟩;rcases h with⟨a,b⟩|a
   .by_cases hjk:j=k
    .subst hjk;have⟨k',t0,t1,t2,t3,t4⟩:=hs.tl j aa aa h3;obtain⟨m,rfl⟩:∃m:Nat,k'=m:=⟨k'.toNat,aa⟩
     have tl:=(t2.k2 t3).2.2;have tx:∀x:Nat,m<x->x<=j->(pg w.h.p x).k=3/\(pg w.h.p x).s=(pg w.h.p m).s:=λx a b=>by have:=tl ((x:Int)-m) aa aa;rw[show(m:Int)+((x:Int)-m)=x by omega]at this;exact⟨this.1,this.2.1⟩
     exact(hgj j).1 (.inr ⟨m,aa,aa,aa,t3,by rw[←(tx j aa (Un _)).2];exact h2,λx a b=>(tx x a b).1⟩)
    exact(hgj j).1 (.inl ⟨aa,b⟩)
   simp_all
  rw[X6 h3,Wc];have hgk:pg g k=pg w.h.p k:=(hgj k).2 λh=>by
   rcases h with h|⟨i,a,b,d,e,f,x⟩
   .omega
   simp_all
  have g2:=λx:Nat=>ZE (ps:=g) (i:=(k:Int)) (j:=(x:Int)) ⟨0,0,0,0⟩ aa aa aa;have hkd:=(hs.hd k aa aa h3).kd;rw[Qia,Wh (show¬(k:Int)<0 by omega),Wa,Wh (show¬(k:Int)>=(g.length:Int) by omega),Wa,XH (ps:=g) (i:=(k:Int)) aa aa,Xa,XE,hgk];have ej:∀x y:Option (List Wt×Int),(bif (pg w.h.p k).k != 1 then(bif (pg w.h.p k).k != 2 then x else y)else y)=y:=λx y=>by grind
  rw[ej];simp only[Qad,Xa];rw[XH (ps:=g) (i:=(k:Int)) aa aa,Xa,Xf aa];rcases hkd with e|e|e
  .omega
  .obtain⟨n',rfl⟩:∃m,N=m+1:=⟨N-1,aa⟩
   rw[QeA,XD aa,Wa,Xa,Xa];rw[must0,Xa];refine fin _ (by rw[WR];exact hg) λj=>?_;rw[g2 j];grind
  have⟨r,r1,r2,r3⟩:=XdZ (N:=N) (pg w.h.p k) e N (k+1) (g.set (k:Int).toNat ⟨0,0,0,0⟩) (by grind) (by grind) (by simp_all);rw[WR]at r2 r3;rw[r1,Xa,Xa];rw[must0,Xa];have gx:∀x j:Nat,k<x->x<=j->j<h0.p.length->(∀y:Nat,k<y->y<=j->(pg w.h.p y).k=3)->pg g x=pg w.h.p x:=λx j a b d f=>(hgj x).2 λh=>by
   rcases h with h|⟨i,i1,i2,i3,i4,i5,i6⟩
   .omega
   grind
  have gy:∀x:Nat,(pg g x).k=3->pg g x=pg w.h.p x:=λx hx=>(hgj x).2 λh=>by grind
  refine fin r aa λj=>?_;have run:(k+1<=j/\j<g.length/\∀x:Nat,k+1<=x->x<=j->(pg (g.set (k:Int).toNat ⟨0,0,0,0⟩) x).k=3)↔(k<j/\j<h0.p.length/\∀x:Nat,k<x->x<=j->(pg w.h.p x).k=3):=by
   rw[hg];refine⟨λ⟨a,b,d⟩=>⟨a,b,λx hx hxj=>?_⟩,λ⟨a,b,d⟩=>⟨a,b,λx hx hxj=>?_⟩⟩
   .have:=d x hx hxj;rw[g2 x,Wn aa]at this;grind
   rw[g2 x,Wn aa,gx x j hx hxj b d];grind
  have ht:=r3 j;rw[run,g2 j]at ht;rcases ht with⟨a,b⟩|⟨a,b⟩
  .have:frC w.h.p w.h.s (k+1) j:=⟨k,aa,a.1,aa,e,h2,a.2.2⟩
   grind
  rw[b];by_cases hjk:j=k
  .grind
  rw[Wn aa];refine⟨λh=>(hgj j).1 ?_,λh=>(hgj j).2 λq=>h ?_⟩
  .rcases h with h|⟨i,i1,i2,i3,i4,i5,i6⟩
   .exact .inl ⟨aa,h.2⟩
   refine .inr ⟨i,?_,i2,i3,i4,i5,i6⟩;rcases Uq i k with x|x
   .exact x
   exfalso;obtain rfl:i=k:=aa;exact a ⟨i2,aa,i6⟩
  grind
def Xoh(hN:NB N)(hb:HB h0)(hp:Ut h0){w:WC}(hc:w.h.c=h0.c)(hpl:w.h.p.length=h0.p.length)(hw:w.h.w.length=h0.w.length)(hs:Om h0.c w.h.p):∃c v r,v.length=h0.w.length/\r.length=h0.p.length/\Qed N w=some ⟨⟨w.h.c,v,r,w.h.s,w.h.b⟩,w.o,w.t,w.q,w.d,⟨w.r.j,w.r.K,w.r.F,c,w.r.f,w.r.y⟩⟩/\QeB N w=some ⟨⟨w.h.c,v,r,w.h.s,w.h.b⟩,w.o,w.t,w.q,w.d,⟨w.r.j,w.r.K,w.r.F,c,w.r.f,w.r.y⟩⟩:=by
 have hN':=hN;unfold NB at hN';have hb1:=hb.1;have hb2:=hb.2;obtain⟨c,v,r,a1,a2,a3,a4⟩:=XeP hN hb hp hc hpl hs N 0 w.r.E w.h.w w.h.p w.h.p aa aa hw hpl hpl (λj=>⟨λh=>aa,λ_=>rfl⟩) (λj=>⟨λh=>by rcases h with h|⟨i,h,_⟩<;>omega,λ_=>rfl⟩);rw[show((0:Nat):Int)=0 from rfl]at a3 a4;refine⟨c,v,r,a1,a2,?_,?_⟩
 .rw[Qed,Xc aa,Xc aa,a3,Xa]
 simp[QeB,Qac,Xa,a4]
end
section
variable {N:Nat}{h0:Wl}{L:List Int}
def CI.rep{w:WC}(hc:CI h0 L w)(rp:WL):CI h0 L {w with r:=rp}:=by have⟨O,s,ho⟩:=hc.obj;exact⟨hc.conf,hc.wlen,hc.plen,hc.spc,hc.old,hc.tk,hc.tnd,hc.knd,hc.qnd,⟨O,s,⟨ho.old,ho.queue,ho.fit,ho.apart,ho.taken,ho.free⟩⟩⟩
def I5.rep{w:WC}(h:I5 h0 L w)(rp:WL):I5 h0 L {w with r:=rp}:=⟨h.q,h.old,h.fw,h.ws,h.ss,h.k1,h.pr,h.hw,h.bm,h.ol⟩
def RefB(h0:Wl)(L:List Int)(l:List Int):Prop:=(l.all λx=>x==0||(Jx h0 L).contains x)=true
def RefB.mem{l:List Int}(h:RefB h0 L l):∀x∈l,x=0\/x∈L:=λx hx=>by
 have:=Ud.1 h x hx;simp only[Ij,beq_iff_eq]at this;rcases this with h|h
 .omega
 exact .inr (List.filter_sublist.subset (Y6 h))
def Xhj(hN:NB N)(ht:HT h0)(hB:Ow N h0 L){rs ws:List Int}(hrw:rs.length+ws.length<=1000000)(tr:∀x∈rs,tU x)(br:RefB h0 L rs)(bw:RefB h0 L ws):∃r,QdN N h0 rs ws=some r/\QcG N h0 rs ws=some r/\(r.2.2.2.2=0->NZ rs r.2.1):=by
 have hN':=hN;unfold NB at hN';have hb:=ht.hb;have ep:=hB.ep;have hp:=Yn hN hb ep;have hs:=hB.st;have⟨w,g1,r1,hc,hh,hq,hsc⟩:=XlU hN ht hB;have e1:Qbc N h0 rs=some true:=by rw[ZK hN ht aa hB.eg hB.ob];exact congrArg some br
 have e2:Qbc N h0 ws=some true:=by rw[ZK hN ht aa hB.eg hB.ob];exact congrArg some bw
 have e3:QdK N h0 (rs++ws)=some true:=by rw[XdV hN ht (by rw[WQ];omega),ZK hN ht (by rw[WQ];omega) hB.eg hB.ob,List.all_append,show(rs.all λx=>x==0||(Jx h0 L).contains x)=true from br,show(ws.all λx=>x==0||(Jx h0 L).contains x)=true from bw];rfl
 rw[QdN,QcG,g1,r1,ep,e1,e2,Xa,Xa,XE,Xa,Xa,Ws,Wa,Wa,Wa,Xa];rw[show((0:Int)==0)=true from rfl,Wc,XaX _ ab (by unfold V2;unfold V2;unfold V2;omega) aa,Xa,show [rs,ws].flatten=rs++ws by simp,e3,Xa,Wc];rcases XlS hN hs hc hh hq aa tr with⟨e,e0,a1,a2⟩|⟨w1,out,c1,h1,q1,k1,l1,z1,a1,a2⟩
 .rw[a1,a2,Xa,Xa,XD e0,X6 e0,Wa,Wc];exact⟨_,rfl,rfl,λh=>absurd h e0⟩
 rw[a1,a2,Xa,Xa];have esc:w1.d=0:=by unfold KeepW at k1;rw[k1];exact hsc
 rcases Xp4 hN hs c1 h1 q1 aa aa with⟨e,e0,a1,a2⟩|⟨w2,c2,h2,q2,a1,a2⟩
 .rw[a1,a2,Xa,Xa,XD e0,X6 e0,Wa,Wc];exact⟨_,rfl,rfl,λh=>absurd h e0⟩
 rw[a1,a2,Xa,Xa];have⟨o,cl,ol,b1,b2⟩:=Xgg hN hb (λ_=>hp) hs.st c2 h2.ws aa bw.mem (w1,out,0) N 0 w2.r.f [] aa aa rfl;rw[show((0:Nat):Int)=0 from rfl]at b1 b2;rw[Qdq,b1,b2,Xa,Xa,Xa];have⟨v,cf,vi,f1,f2⟩:=Xof hN hb hB (c2.rep ⟨w2.r.j,w2.r.K,w2.r.F,w2.r.E,cl,w2.r.y⟩) (h2.rep _);rw[f1,f2,Xa,Xa];have⟨cr,v',ps,y1,y2,y3,y4⟩:=Xoh (w:=⟨⟨w2.h.c,v,w2.h.p,w2.h.s,w2.h.b⟩,w2.o,w2.t,w2.q,w2.d,⟨w2.r.j,w2.r.K,cf,w2.r.E,cl,w2.r.y⟩⟩) hN hb hp c2.conf c2.plen vi.len (h2.spn hN hb ep);have htl:=c2.tl hb;rw[y3,y4,Xa,Xa];dsimp only;rw[Xc aa,XE];by_cases hk:(w2.t.length:Int)>0
 .rw[Wg hk,Wc,Xd (n:=(w2.t.length:Int)-1) aa aa,Yg aa aa,Xa];exact⟨_,rfl,rfl,λ_=>z1⟩
 simp_all
end
section
variable {N:Nat}
def Xin{rs:List Int}{c:Nat}(h:c<rs.length):Xb (rs.drop c) 0=some rs[c]:=by rw[show(0:Int)=((0:Nat):Int)from rfl,Xe,UF,Wb aa];rfl
def XcW(t:WE)(hl:t.e.length<=1000000)(rs:List Int)(hr:rs.length<=1000000):∀(n k c:Nat)(v:List W8),k<=t.e.length->t.e.length-k<n->v.length=t.e.length->c+(XR (v.drop k)).length=rs.length ->
 ∃r,Qd1 N t n (rs.drop c) (k:Int) v=some r/\Qba N rs n (c:Int) (k:Int) v=some r
 |0,k,c,v,_,hn,_,_=>by omega
 |n+1,k,c,v,hk,hn,hv,hc=>by
  rw[Qd1,Qba,Xc aa,hv];by_cases h:k<t.e.length;rotate_left
  .obtain rfl:k=t.e.length:=aa;simp
  have hd:=Wq (show k<v.length by omega);rw[hd]at hc;rw[Xk h,Wc,Wc,Xe,Wb aa,Xa,Xa,Xf aa];cases hL:v[k].V with
  |false=>exact XcW t hl rs hr n (k+1) c v aa aa hv (by rw[←hc];unfold XR;grind)
  |true=>
   have h2:c+1+(XR (v.drop (k+1))).length=rs.length:=by rw[←hc];unfold XR;rw[Uv aa,Uf,Uo];omega
   rw[Wc,Wc,Xin aa,Xa,Xe,Wb (show c<rs.length by omega),Xa,Xc (by grind),Xa,Xa,IV,Xf aa];exact XcW t hl rs hr n (k+1) (c+1) _ aa aa (by simp_all) (by rw[show(k:Int).toNat=k from rfl,Is aa];omega)
def Xgh(hN:NB N){t:WE}(ht:TB t)(hv:YX t.e=true){rs:List Int}(hr:(XR t.e).length=rs.length):∃r,Qgu N t rs=some (r,0)/\Qcb N t rs=some (r,0):=by
 have hN':1000000<N:=by unfold NB at hN;omega
 have h64:=Vg hv;have:=Vy t.e;have⟨r,e1,e2⟩:=XcW (N:=N) t aa rs aa N 0 0 t.e aa aa rfl (by simp_all);rw[WX,show((0:Nat):Int)=0 from rfl]at e1;rw[show((0:Nat):Int)=0 from rfl]at e2;refine⟨⟨r⟩,?_,?_⟩
 .rw[Qgu,Xav ht hN',hv,Xa,Ws,Wa,KM ht hN',hv,Wc,Xa,hr];simp only[bne_self_eq_false,Wa,Qhy,QaF,Xa];rw[Xc aa,show(WE.mk t.e)=t from rfl,e1,Xa]
 rw[Qcb,Y9 ht hN',hv,Xa,Ws,Wa,Yi ht hN',hv,Wc,Xa,Xc aa,hr];simp;rw[Xc aa,e2,Xa]
def XcX(a:Ww)(hl:a.S.length<=1000000)(rs:List Int)(hr:rs.length<=1000000)(hz:∀x∈rs,x≠0):∀(n k c:Nat)(v:List UK),k<=a.S.length->a.S.length-k<n->v.length=a.S.length->c+(X8 (v.drop k)).length=rs.length ->
 ∃r,Qd0 N a n (rs.drop c) (k:Int) v=some r/\Qa9 N a rs n (c:Int) (k:Int) v=some (.nxt r)
 |0,k,c,v,_,hn,_,_=>by omega
 |n+1,k,c,v,hk,hn,hv,hc=>by
  rw[Qd0,Qa9,Xc aa,hv];by_cases h:k<a.S.length;rotate_left
  .obtain rfl:k=a.S.length:=aa;simp
  have hd:=Wq (show k<v.length by omega);rw[hd]at hc;rw[Xk h,Wc,Wc,Xe,Wb aa,Xa,Xa,Xf aa];cases hL:v[k].V with
  |false=>exact XcX a hl rs hr hz n (k+1) c v aa aa hv (by rw[←hc];unfold X8;grind)
  |true=>
   have h2:c+1+(X8 (v.drop (k+1))).length=rs.length:=by rw[←hc];unfold X8;rw[Uv aa,Uf,Uo];omega
   have hcl:c<rs.length:=aa;rw[Ws,Wc,Wa,Xin hcl,Xa,Xe,Wb hcl,Xa,Xa,XD (hz _ (WN hcl)),Wa,Xa,Xa,Xc (by grind),IV,Xf aa];exact XcX a hl rs hr hz n (k+1) (c+1) _ aa aa (by grind) (by rw[show(k:Int).toNat=k from rfl,Is aa];omega)
def XlY(hN:NB N){a:Ww}(ha:LBp a)(hv:Y1 a=true){rs:List Int}(hr:(X8 a.S).length=rs.length)(hz:∀x∈rs,x≠0):∃r,Qg9 N a rs=some (r,0)/\Qdx N a rs=some (r,0):=by
 have hN':1000000<N:=by unfold NB at hN;omega
 have hsl:=(Zf.1 hv).slots;have:=(Zf.1 hv).iss;have:=XaO a.S;have⟨r,e1,e2⟩:=XcX (N:=N) a aa rs aa hz N 0 0 a.S aa aa rfl (by simp_all);rw[WX,show((0:Nat):Int)=0 from rfl]at e1;rw[show((0:Nat):Int)=0 from rfl]at e2;have hc:rs.contains 0=false:=by rw[Bool.eq_false_iff];intro h;exact hz 0 (Y6 h) rfl
 refine⟨⟨r,a.x,a.i⟩,?_,?_⟩
 .rw[Qg9,XcF ha hN',hv,Xa,Ws,Wa,XaW ha hN',hv,Wc,Xa,hr,Vo _ _ aa hN',hc];simp only[bne_self_eq_false,Wa,Qhx,QaR,QaE,QaI,Xa];rw[Xc aa,show(Ww.mk a.S a.x a.i)=a from rfl,e1,Xa]
 rw[Qdx,Zy ha hN',hv,Xa,Ws,Wa,Zg ha hN',hv,Wc,Xa,hr];simp;rw[Xc aa,e2,Xa,Xm]
def Xio(x:Ub)(hx:x.P.length<=1000000)(y4:Wl×List Int×List Int×WL×Int)(y5:Ub)(y6:List Int×List Int)(y9:Ww×Int)(y11:List Int×List Int)(y12 y13:WE×Int)(z5 z6:List Int)(z7:Ww×Int)(z8 z9:WE×Int)(hlen:y11.2.length=x.P.length)(hg:∀k:Nat,k<x.P.length->Xb y4.2.1 (wI (wI (wI ((x.R.length:Int)+(z5.length:Int))+(z6.length:Int))+k))=y11.2[k]?):∀(n k:Nat)(v:List UG),k<=x.P.length->x.P.length-k<n->v.length=k ->
 ∃r,Qeu N y4 y5 y6 y9 y11 y12 y13 n (k:Int) (v++x.P.drop k)=some r/\QaU N x y4 z5 z6 z7 z8 z9 n (k:Int) v=some r
 |0,k,v,_,hn,_=>by omega
 |n+1,k,v,hk,hn,hv=>by
  rw[Qeu,QaU,hlen];by_cases h:k<x.P.length;rotate_left
  .obtain rfl:k=x.P.length:=aa;simp
  have hd:=Wq h;have e:Xb (v++x.P.drop k) (k:Int)=some x.P[k]:=by rw[Xe,UZ aa,hv,IW,hd];rfl
  rw[Xk h,Wc,Wc,Xe,hg k h,Wb aa,Xa,Xa,e,Xa,Xe,Wb h,Xa,Xc aa,Xf aa];have es:(v++x.P.drop k).set (k:Int).toNat ⟨y11.2[k],x.P[k].M⟩=(v++[⟨y11.2[k],x.P[k].M⟩])++x.P.drop (k+1):=by rw[show(k:Int).toNat=k from rfl,IJ _ _ aa,hv,IW,hd,Ic,UA];rfl
  rw[es];exact Xio x hx y4 y5 y6 y9 y11 y12 y13 z5 z6 z7 z8 z9 hlen hg n (k+1) _ aa aa (by simp_all)
structure OD(N:Nat)(x:Ub)(L:List Int):Prop where
 beg:Ow N x.h L
 ev:EV N x
 strong:RefB x.h L (JQ x)
 weak:RefB x.h L (XR x.v.e)
def Xqa(hN:NB N){x:Ub}(ht:ET x)(e:Qcr N x=some true):∃L,OD N x L:=by
 have hN':1000000<N:=by unfold NB at hN;omega
 have hx:=ht.eb;have h1:=Y7 hx.loc;have h2:=Yj x.g.e;have h5:=Yj x.v.e;have h3:=hx.pins;have h4:=hx.roots;have⟨b,eb,hb⟩:=Z7 hN hx;rw[e]at eb;obtain rfl:=WK eb;have hv:=hb rfl;have⟨b,eb,_⟩:=Jv hN hx.heap h3;rw[Qcr,eb,Xa]at e;cases b with
 |false=>grind
 |true=>
 have⟨eg,hp64,hpn⟩:=XcO hN ht.ht h3 eb;have⟨L,hB⟩:=Xp5 hN ht.ht eg;have hl:JQ x=((x.R++X8 x.l.S)++XR x.g.e)++x.P.map (·.a):=by unfold JQ;rw[hv.loc,hv.glo];rfl
 simp only[Ws,Wa,Zy hx.loc hN',Y9 hx.glo hN',Y9 hx.wea hN',Yi hx.glo hN',Yi hx.wea hN',Zg hx.loc hN',Xa,hv.loc,hv.glo,hv.wea,Wc]at e h1 h2 h5;rw[YE 0 aa aa,Xa]at e;cases hc:(XR x.g.e).contains 0 with
 |true=>simp_all
 |false=>
 rw[hc,Wa,Xc aa,Xc aa,Xc aa,Xc aa,ZK hN ht.ht (by grind) eg hB.ob,Xa]at e;have e:=WK e;simp only[List.all_append,W5]at e;refine⟨L,hB,hv,?_,e.2⟩;unfold RefB;rw[hl];simp only[List.all_append,W5];refine⟨⟨⟨e.1.1.1,e.1.1.2⟩,e.1.2⟩,?_⟩;rw[Ud];intro r hr;obtain⟨p,hp,rfl⟩:=UW.1 hr;rw[hpn _ hB.ob p hp,Bool.or_true]
def XlZ(hN:NB N){x:Ub}(ht:ET x):∃r,QfZ N x=some r/\Qa1 N x=some r:=by
 have hN':1000000<N:=by unfold NB at hN;omega
 have hx:=ht.eb;have h1:=Y7 hx.loc;have h2:=Yj x.g.e;have h5:=Yj x.v.e;have h3:=hx.pins;have h4:=hx.roots;have⟨b,eb,_⟩:=Z7 hN hx;rw[QfZ,Qa1,Xn6 hN ht,eb,Xa,Xa];cases b with
 |false=>simp
 |true=>
 have⟨L,hV⟩:=Xqa hN ht eb;have hv:=hV.ev;have hB:=hV.beg;rw[hv.loc,Wc]at h1;rw[hv.glo,Wc]at h2;rw[hv.wea,Wc]at h5;have hp64:=hv.mat.len;have hl:JQ x=((x.R++X8 x.l.S)++XR x.g.e)++x.P.map (·.a):=by unfold JQ;rw[hv.loc,hv.glo];rfl
 have hll:(JQ x).length=x.R.length+(X8 x.l.S).length+(XR x.g.e).length+x.P.length:=by rw[hl];simp only[WQ,W4]
 rw[Ws,Wa,Wa,XcP hN hx,Xg9 hN hx,Xa,Xa,KM hx.wea hN',Yi hx.wea hN',hv.wea,Wc,Xa,Xa];have tr:∀y∈JQ x,tU y:=λy hy=>by
  rcases hV.strong.mem y hy with h|h
  .simp_all
  have hr:=(hB.st.st.obj.at_ y h).rng;have hp:=Yn hN hx.heap hB.ep;have hw:=hp.words;have hb1:=hx.heap.1;unfold tU;omega
 have⟨y,e1,e2,hnz⟩:=Xhj hN ht.ht hB (rs:=JQ x) (ws:=XR x.v.e) aa tr hV.strong hV.weak;have⟨y',e3,hq⟩:=QkT hN hx.heap (rs:=JQ x) (ws:=XR x.v.e) aa aa;rw[e2]at e3;obtain rfl:=WK e3;rw[e1,e2,Xa,Xa];by_cases he:y.2.2.2.2=0;rotate_left
 .simp[X6,he,Wc]
 have hnz:=hnz he;have⟨hl1,hl2⟩:=hq.len he;rw[show(y.2.2.2.2 != 0)=false by simp_all,Wa,Wa];simp only[Qg8,Qhw,QgM,Qgf,Qac,Qad,QaR,QaE,QaI,QaF,Qcg,Xa,QdO];generalize hs:y.2.1=s at *;have en:(x.R.length:Int).toNat=x.R.length:=rfl;rw[Xc aa,Xc aa,Xa,en,Xc (by grind),XaW hx.loc hN',Zg hx.loc hN',hv.loc,Wc,Xa,Xa,Yi hx.glo hN',KM hx.glo hN',hv.glo,Wc,Xa];generalize hk:X8 x.l.S=lk at *;generalize hm:XR x.g.e=lm at *;have ek:(lk.length:Int).toNat=lk.length:=rfl;have em:(lm.length:Int).toNat=lm.length:=rfl;have w1:wI ((x.R.length:Int)+(lk.length:Int))=((x.R.length+lk.length:Nat):Int):=by rw[Xd aa aa];omega
 have w2:wI (((x.R.length+lk.length:Nat):Int)+(lm.length:Int))=((x.R.length+lk.length+lm.length:Nat):Int):=by rw[Xd aa aa];omega
 have t1:((x.R.length+lk.length:Nat):Int).toNat=x.R.length+lk.length:=rfl;have t2:((x.R.length+lk.length+lm.length:Nat):Int).toNat=x.R.length+lk.length+lm.length:=rfl;have hz:∀v∈(s.drop x.R.length).take lk.length,v≠0:=λv hvm=>by
  obtain⟨i,hi,ei⟩:=WM hvm;rw[Wj]at hi;rw[U6,Iq]at ei;have hik:i<lk.length:=aa;have e4:(JQ x)[x.R.length+i]? = some lk[i]:=by rw[hl,UA,UA,UZ aa,Iv,US hik,Wb hik]
  refine hnz (x.R.length+i) v (by rw[Wb aa,ei]) _ e4 ?_;have hmem:lk[i]∈X8 x.l.S:=by rw[hk];exact WN hik
  unfold X8 at hmem;obtain⟨p,hp,ep⟩:=UW.1 hmem;rw[←ep];have hp:=UR.1 hp;obtain⟨q,hq,eq⟩:=WM hp.1;exact(XdF (Zf.1 hv.loc).st (i:=q) (p:=p) (by simp_all)).2.2.2.1 hp.2
 have⟨r1,a1,a2⟩:=XlY hN hx.loc hv.loc (rs:=(s.drop x.R.length).take lk.length) (by rw[hk,Wj,Wk];omega) hz;have⟨r2,b1,b2⟩:=Xgh hN hx.glo hv.glo (rs:=(s.drop (x.R.length+lk.length)).take lm.length) (by rw[hm,Wj,Wk];omega);have⟨r3,c1,c2⟩:=Xgh hN hx.wea hv.wea (rs:=y.2.2.1) hl2.symm;have⟨r4,d1,d2⟩:=Xio (N:=N) x h3 y ⟨x.h,x.l,x.g,x.v,x.P,x.R⟩ (s.take x.R.length,s.drop x.R.length) (r1,0) ((s.drop (x.R.length+lk.length)).take lm.length,s.drop (x.R.length+lk.length+lm.length)) (r2,0) (r3,0) lk lm (r1,0) (r2,0) (r3,0) (by simp_all) (λk hkp=>by
  rw[hs,w1,w2,Xd aa aa,show((x.R.length+lk.length+lm.length:Nat):Int)+(k:Int)=((x.R.length+lk.length+lm.length+k:Nat):Int) by omega,Xe,UF]) N 0 [] aa aa rfl
 rw[show((0:Nat):Int)=0 from rfl,WX,Ug]at d1;rw[show((0:Nat):Int)=0 from rfl]at d2;rw[w1,w2,t1,t2,ek,Xc (by grind),Xc (by grind),Xa,a1,Xa,Xa];rw[em,IV,Xc (by grind[Wk]),Xc (by grind[Wk]),Xa];dsimp only;rw[b1,Xa,c1,Xa,IV,d1,Xa];rw[Xc aa,Xc aa,Xc aa,Xc aa,show x.R.length+lk.length-x.R.length=lk.length by omega,a2,Xa,Xc aa,show x.R.length+lk.length+lm.length-(x.R.length+lk.length)=lm.length by omega,b2,Xa,c2,Xa,d2,Xa];refine⟨_,?_,rfl⟩;rw[show(!(((0:Int)==0)&&(((0:Int)==0)&&((0:Int)==0))))=false from rfl,Wa,List.take_zero,Ug,Wj,UE aa,U1]
end
section
variable {N:Nat}
def Xoi{t:UX}{m:Int}(h0:0<=t.at_)(h1:t.at_<=m)(hm:m<=1000000){a:Int}(ha:a<=1000000000):Ok (Qaa N t a) λr=>0<=r.1/\(1<=a->r.1<a)/\0<=r.2.at_/\r.2.at_<=m+1:=by
 refine Wm (λ_=>We ⟨ab,λh=>aa,h0,by grind⟩) λhg=>?_;have hg:=WO hg;have rest:∀x:Int,Ok (grd (a≠0) <| grd (a≠0) <| some (((wI ((x.tmod a)+a)).tmod a),(UX.mk t.L (wI (t.at_+1))))) λr=>0<=r.1/\(1<=a->r.1<a)/\0<=r.2.at_/\r.2.at_<=m+1:=by
  intro x;have b1:=Int.tmod_lt_of_pos x (show 0<a by omega);have b2:-a<x.tmod a:=by have:=Int.tmod_lt_of_pos (-x) (show 0<a by omega);rw[Int.neg_tmod]at this;omega
  have e:=Xd (n:=x.tmod a+a) aa aa;have e2:=Xd (n:=t.at_+1) aa aa;have c1:=Int.tmod_lt_of_pos (x.tmod a+a) (show 0<a by omega);have c2:=Int.tmod_nonneg a (show 0<=x.tmod a+a by omega);refine WT aa (WT aa (We ?_));simp only[e,e2];exact⟨c2,λ_=>c1,aa,aa⟩
 refine U7 (Wm (λh=>Ok.get h0 (Wu h) λp _=>rest p) λ_=>rest _)
def TA(m:Int)(t:UX):Prop:=0<=t.at_/\t.at_<=m
def nxp{t:UX}{m a:Int}(h:TA m t)(hm:m<=1000000)(ha1:1<=a)(ha:a<=1000000000):Ok (Qaa N t a) λr=>0<=r.1/\r.1<a/\TA (m+1) r.2:=(Xoi h.1 h.2 hm ha).mono λr hr=>⟨hr.1,hr.2.1 ha1,hr.2.2⟩
def TA.le{t:UX}{m n:Int}(h:TA m t)(hn:m<=n):TA n t:=⟨h.1,by have:=h.2;omega⟩
def VG{p:Iu}{t:UX}{m:Int}(hw:1<=p.w.length)(hw2:p.w.length<=1000)(h:TA m t)(hm:m+5<=1000000):Ok (QbO N p t) λr=>TA (m+3) r.2:=by
 have k2:∀(t':UX)(x8:Bool),TA (m+1) t'->Ok (bif x8 then(bnd (Qaa N t' (p.w.length:Int)) λy9=>bnd (Xb p.w y9.1) λp10=>some (p10,y9.2))else bnd (Qaa N t' (if 6<(p.w.length:Int)then 6 else(p.w.length:Int))) λy11=>bnd (Xb p.w (wI ((wI ((p.w.length:Int)-1))-y11.1))) λp12=>some (p12,y11.2)) λr=>TA (m+3) r.2:=by
  intro t' x8 h';refine Wm (λ_=>W7 (nxp h' aa aa aa) λy hy=>Ok.get hy.1 hy.2.1 λ_ _=>We (hy.2.2.le aa)) λ_=>?_;refine W7 (nxp h' aa aa aa) λy hy=>?_;have h1:y.1<(p.w.length:Int):=by have:=hy.2.1;split at this<;>omega
  have h0:=hy.1;rw[Xd (n:=(p.w.length:Int)-1) aa aa,Xd (n:=(p.w.length:Int)-1-y.1) aa aa];exact Ok.get aa aa λ_ _=>We (hy.2.2.le aa)
 refine W7 (nxp h aa aa aa) λy hy=>Wm (λ_=>W7 (nxp hy.2.2 aa aa aa) λz hz=>Ok.get hz.1 hz.2.1 λ_ _=>We (hz.2.2.le aa)) λ_=>Wm (λ_=>?_) λ_=>?_
 .exact W7 (nxp hy.2.2 aa aa aa) λz hz=>Ok.get hz.1 hz.2.1 λ_ _=>W7 (nxp hz.2.2 aa aa aa) λu hu=>We (hu.2.2.le aa)
 refine IS (λx8=>k2 _ x8 hy.2.2) λj2 h2=>W6 (h2 _) (IS (λx7=>h2 _) λj h=>W6 (h _) (h _))
def Xoj{p:Iu}{t:UX}{m:Int}(hw:1<=p.w.length)(hw2:p.w.length<=1000)(h:TA m t)(hm:m+30<=1000000):Ok (Qdm N p t) λr=>TA (m+20) r.2:=by
 refine W7 (nxp h aa aa aa) λy1 h1=>Ok.get h1.1 h1.2.1 λp2 _=>Wm (λ_=>?_) λ_=>?_
 .refine W7 (nxp h1.2.2 aa aa aa) λy3 h3=>?_;have e:=Xx h3.1 aa;refine WT aa ?_;have hs:1<=ZW .i64 1 (wU y3.1)/\ZW .i64 1 (wU y3.1)<=1000:=by rw[e];have a:=h3.1;have b:=h3.2.1;have c:y3.1=0\/y3.1=1\/y3.1=2\/y3.1=3:=aa;rcases c with c|c|c|c<;>rw[c]<;>decide
  exact W7 (nxp h3.2.2 aa aa aa) λy4 h4=>We (h4.2.2.le aa)
 refine IS (λx5=>Wm (λ_=>?_) λ_=>Wm (λ_=>?_) λ_=>?_) λj h=>W6 (h _) (h _)
 .exact W7 (nxp h1.2.2 aa aa aa) λy6 h6=>W7 (nxp h6.2.2 aa aa aa) λy7 h7=>W6 (W7 (nxp h7.2.2 aa aa aa) λy8 h8=>We (h8.2.2.le aa)) (We (h7.2.2.le aa))
 .exact W7 (nxp h1.2.2 aa aa aa) λy9 h9=>We (h9.2.2.le aa)
 refine W7 (VG hw hw2 h1.2.2 aa) λy10 h10=>W7 (nxp h10 aa aa aa) λy11 h11=>W7 (nxp h11.2.2 aa aa aa) λy12 h12=>?_;have k:∀(l:List Int)(at_ c:Int),TA (m+12) ⟨l,at_⟩->Ok (bif (p2==10)then(bnd (QbO N p (UX.mk l at_)) λy19=>
  some ((IZ.mk p2 y10.1 y19.1 c),y19.2))
 else some ((IZ.mk p2 y10.1 (wU y11.1) c),(UX.mk l at_))) λr=>TA (m+20) r.2:=λl at_ c ht=>
  W6 (W7 (VG hw hw2 ht aa) λy hy=>We (hy.le aa)) (We (ht.le aa))
 refine U7 (W6 (W7 (VG hw hw2 h12.2.2 aa) λy hy=>k _ _ _ (hy.le aa)) (W7 (nxp h12.2.2 aa aa aa) λy13 h13=>W6 (W7 (VG hw hw2 h13.2.2 aa) λy hy=>k _ _ _ (hy.le aa)) (k _ _ _ (h13.2.2.le aa))))
structure PB(k:Nat)(p:Iu):Prop where
 env:EB p.N
 wor:WB k p.z
 ty:VW p
 w1:1<=p.w.length
 w2:p.w.length<=k+1
def Xqb(a b:Ub)(op v e:Int):Ok (QeF N a b op v e) λ_=>True:=by
 have k2:∀x y:Bool,Ok (bif (op==19)then(bif (e==0)then some (I6.mk x y v)
  else some (I6.mk x y 0))
  else some (I6.mk x y 0)) λ_=>True:=λx y=>W6 (W6 (We trivial) (We trivial)) (We trivial)
 refine IS (λx=>IS (λy=>k2 x y) λj h=>W6 (h _) (h _)) λj h=>W6 (h _) (W6 (h _) (h _))
def Xrx(hN:NB N){k:Nat}{p:Iu}(hp:PB k p)(hk:k+1<=900){d:IZ}(td:Xca d):Ok (Qb0 N p d) λr=>PB (k+1) r.1:=by
 have ty:=λr (e:Qb0 N p d=some r)=>QkS (N:=N) hp.ty td r e;have main:Ok (Qb0 N p d) λr=>EB r.1.N/\WB (k+1) r.1.z/\1<=r.1.w.length/\r.1.w.length<=k+1+1:=by
  have w1:=hp.w1;have w2:=hp.w2;have up:=hp.wor.up hk;rw[Qb0];refine Wm (λ_=>?_) λ_=>?_
  .refine W7 (K8 hN hp.env) λy1 h1=>U7 (W6 (W7 (Xbi hN hp.wor hp.ty.2.1) λy2 h2=>We ⟨h1,h2.up hk,w1,Ip w2⟩) (We ⟨hp.env,up,w1,Ip w2⟩))
  refine WH (Xld hN hp.env _ _ _ _) λy26 e26 h26=>W7 (Xqb _ _ _ _ _) λy27 _=>W7 (Xlk hN hp.wor hk hp.ty.2.1 d.Op td.1 td.2.1 td.2.2 y27) λy28 h28=>?_;have k2:∀w:WV,WB (k+1) w->Ok (α:=Iu×Int×Int) (bif (y26.2.2==0)then(bif (y26.2.1 != 0)then(grd (p.w.length*8<=140737488355328) <| grd ((p.w.length+1)*8<=140737488355328) <| some ((Iu.mk y26.1 w (p.w++[y26.2.1])),y26.2.1,y26.2.2))else some ((Iu.mk y26.1 w p.w),y26.2.1,y26.2.2))else some ((Iu.mk p.N w p.w),y26.2.1,y26.2.2)) λr=>EB r.1.N/\WB (k+1) r.1.z/\1<=r.1.w.length/\r.1.w.length<=k+1+1:=by
   intro w hw;refine W6 (W6 (WT aa (WT aa (We ⟨h26,hw,?_,?_⟩))) (We ⟨h26,hw,w1,by grind⟩)) (We ⟨hp.env,hw,w1,by grind⟩)
   .simp
   simp_all
  exact U7 (W6 (k2 y28.1 h28) (k2 p.z up))
 have⟨r,e,h⟩:=main;exact⟨r,e,h.1,h.2.1,(ty r e).1,h.2.2.1,h.2.2.2⟩
end
section
variable {N:Nat}
def Xjw{t:UX}{m:Int}(h:TA m t)(hm:m+5<=1000000):Ok (Qff N t) λr=>TA (m+2) r.2:=by exact W7 (nxp h aa aa aa) λy hy=>Ok.get hy.1 hy.2.1 λ_ _=>W7 (nxp hy.2.2 aa aa aa) λz hz=>Ok.get hz.1 hz.2.1 λ_ _=>We (hz.2.2.le aa)
def Xl0(c:WU):Ok (QeL N c) λr=>EB r.1:=by
 rw[QeL,Qf7,Y0,Xa];refine WH (Q:=λr:Wl×Int=>HB r.1) ?_ λy _ hy=>We ⟨hy,Zw,Xcp,Xcp,ab,ab⟩;refine Wm (λ_=>We ZZ) λhv=>?_;have hv:X5 c=true:=by simpa using hv
 have hvc:=Xl.1 hv;have hm:=XZ hv (i:=0) aa aa;have e:=Xd (n:=c.p*c.W) aa aa;refine WT aa (WT aa (We ⟨?_,?_⟩))
 .rw[WS,e];omega
 grind
def Xl1(c:WU):Ok (Qf8 N c) λr=>WB 0 r.1:=by
 rw[Qf8,Y0,Xa];have z:∀c:WU,WB 0 ⟨c,[],zL,zT,zT,[],[]⟩:=λc=>⟨aa,ab,λx hx=>by simp_all,Zw,by simp[zT],by simp[zT],ab,ab⟩
 exact W6 (We (z _)) (We (z _))
def Xl2{t:UX}{m:Int}(h:TA m t)(hm:m+5<=1000000):Ok (QbX N t) λr=>PB 0 r.1/\TA (m+3) r.2:=by
 have main:Ok (QbX N t) λr=>EB r.1.N/\WB 0 r.1.z/\1<=r.1.w.length/\r.1.w.length<=1/\TA (m+3) r.2:=by rw[QbX];refine W7 (Xjw h hm) λy1 h1=>W7 (Xl0 _) λy2 h2=>W7 (Xl1 _) λy3 h3=>W7 (nxp h1 aa aa aa) λy4 h4=>We ⟨⟨h2.heap,⟨h2.loc.1,ab,h2.loc.2.2⟩,h2.glo,h2.wea,h2.pins,h2.roots⟩,⟨h3.kk,h3.things,h3.fields,⟨h3.loc.1,ab,h3.loc.2.2⟩,h3.gloK,h3.weaK,h3.marksK,h3.rootsK⟩,ab,ab,h4.2.2.le aa⟩
 have⟨r,e,h1,h2,h3,h4,h5⟩:=main;exact⟨r,e,⟨h1,h2,QiU r e,h3,h4⟩,h5⟩
end
section
variable {N:Nat}
def JR{α β:Type}{L:Nat}{F:Nat->Int->Option (Ex α β)}{u:β}(hok:∀n k,k<L->F (n+1) (k:Int)=F n ((k+1:Nat):Int))(hstop:∀n,F (n+1) (L:Int)=some (.nxt u)){n:Nat}(hn:L<n):F n 0=some (.nxt u):=by have⟨e,e1,_,e3⟩:=Jc (p:=λ_=>False) (Q:=λ_=>True) (u:=u) (λn k _ h=>h.elim) (λn k hk _=>hok n k hk) hstop n 0 aa aa;simp_all
def JS(n:Nat):((n:Int) != (n:Int))=false:=by simp
def Xqc{l:List Int}(hl:l.length<=1300000)(hN:NB N):Qhd N l l=some true:=by unfold NB at hN;rw[Qhd,JS,Wa,JR (F:=Qd8 N l l) (L:=l.length) (u:=()) (λn k hk=>by rw[Qd8,Wg aa,Wc,Xe,Wb hk,Xa,Xa,show(l[k] != l[k])=false by simp,Wa,Xf aa]) (λn=>by rw[Qd8,Wh aa,Wa]) aa,Xa,Xm]
def Xqd{h:Wl}(hb:HB h)(hN:NB N):Qha N h h=some true:=by
 unfold NB at hN;have hb1:=hb.1;have hb2:=hb.2;have e1:QeX N h.p h.p=some true:=by rw[QeX,JS,Wa,JR (F:=Qb3 N h.p h.p) (L:=h.p.length) (u:=()) (λn k hk=>by rw[Qb3,Wg aa,Wc,Xe,Wb hk,Xa,Xa];simp only[beq_self_eq_true,IF,Ws,Wa];rw[Xf aa]) (λn=>by rw[Qb3,Wh aa,Wa]) aa,Xa,Xm]
 rw[Qha];simp only[beq_self_eq_true,IF,Ws,Wa,bne_self_eq_false,e1,Xa];rw[JR (F:=Qd2 N h h) (L:=h.w.length) (u:=()) (λn k hk=>by rw[Qd2,Wg aa,Wc,Xe,Wb hk,Xa,Xa,show(h.w[k] != h.w[k])=false by simp,Wa,Xf aa]) (λn=>by rw[Qd2,Wh aa,Wa]) aa,Xa,Xm]
def Xjx(x:Ub):Ok (QgK N x) λb=>b=true->EB x:=by
 refine WH (Q:=λb=>b=true->HB x.h) ?_ λy _ hy=>?_
 .refine Wm (λh=>We λh2=>?_) λ_=>We λh=>by grind
  have a:=Wu h;have b:=Wu h2;exact⟨aa,aa⟩
 refine Wm (λh0=>Wm (λh1=>Wm (λh2=>Wm (λh3=>Wm (λh4=>Wm (λh5=>Wm (λh6=>We λh7=>?_) λ_=>We λh=>by grind) λ_=>We λh=>by grind) λ_=>We λh=>by grind) λ_=>We λh=>by grind) λ_=>We λh=>by grind) λ_=>We λh=>by grind) λ_=>We λh=>by grind
 have a1:=Wu h1;have a2:=Wu h2;have a3:=Wu h3;have a4:=Wu h4;have a5:=Wu h5;have a6:=Wu h6;have a7:=Wu h7;exact⟨hy h0,⟨aa,aa,aa⟩,by unfold TB;omega,by unfold TB;omega,aa,aa⟩
end
section
variable {N:Nat}
def XeQ(m:Nat):Qhz (m+400)=some true:=ac
end
section
variable {N:Nat}
def KL(h h':Wl):Prop:=h'.w.length=h.w.length/\h'.p.length=h.p.length
def Xl3(hN:NB N){h:Wl}(hb:HB h)(a:Int)(d:WD):Ok (Qbm N h a d) λr=>r.2=0->KL h r.1:=by
 have hN':=hN;unfold NB at hN';rw[Qbm,Kx];have⟨b,eb⟩:=Ka (N:=N) hN hb;rw[Xa,eb,Xa];refine Wm (λ_=>We λe=>aa) λ_=>Wm (λ_=>We λe=>aa) λh2=>?_;have hv:XG d=true:=by
  cases hv:XG d with
  |true=>rfl
  |false=>simp_all
 have hd:=XP hv;refine WT aa (WT aa ?_);rw[Zv (by unfold BIG;have:=hb.1;omega) (by unfold BIG;grind) (by grind),Xa];have hv':(if XG d=true then(JX d,(0:Int))else(0,1))=(JX d,0):=Wp hv;rw[hv'];by_cases hin:Yp h.w a ([(JX d,(0:Int)).fst]++List.replicate d.n.toNat (0:Int)).length
 .rw[Wp hin];refine Wm (λh3=>absurd h3 ab) λ_=>We λ_=>⟨?_,rfl⟩
  unfold Yp at hin;exact ZB (by unfold ix;omega)
 rw[Wn hin];exact Wm (λ_=>We λe=>aa) λh3=>absurd h3 ab
def Xip(hN:NB N){h:Wl}(hb:HB h){d:WD}(tm:tW d.Map):Ok (QeQ N h d) λr=>r.2.2=0->KL h r.1:=by
 have hN':1000000<N:=by unfold NB at hN;omega
 have hl:=hb.2;have⟨r,er,hr⟩:=XeA hN hb d;refine⟨r,er,λh0=>?_⟩;have bad:∀{x y e:_},some ((x,y,e):Wl×Int×Int)=some r->e≠0->False:=λh he=>by grind
 rw[QeQ]at er;have⟨b,eb⟩:=Ka (N:=N) hN hb;rw[eb,Xa]at er;cases b with
 |false=>grind
 |true=>
 rw[Ws,Wa,XlJ hN',Xa]at er;cases hv:XG d with
 |false=>grind
 |true=>
 cases hkd:(d.k != 0)with
 |false=>grind
 |true=>
 have hp:=Yn hN hb eb;have hcv:=Xl.1 hp.conf;have hvb:=XP hv;have hpages:=hp.pages;have hs:X0 d=d.n+1:=by unfold X0;rw[Wp hv]
 have hnr:=Xak h.c (X0 d);by_cases hm1:XF h.c (X0 d) = -1
 .grind
 have⟨k,hk⟩:∃k:Nat,XF h.c (X0 d)=(k:Int):=⟨(XF h.c (X0 d)).toNat,aa⟩
 have⟨u,eu,hu⟩:=Xcf (N:=N) (ps:=h.p) aa aa;have⟨f1,ef1,_⟩:=Kg (N:=N) (ps:=h.p) 1 aa aa;have e1:(XF h.c (X0 d) != -1)=true:=by simpa using hm1
 rw[hv,hkd,e1]at er;simp only[IF,Ws,Wa,Yh,Xa,Kz (show 10<=N by omega),Xjs hN hb hp (n:=X0 d) ⟨aa,aa⟩ eu ef1,XE]at er;have fin:∀(hh:Wl)(a:Int),HB hh->Qab N hh=some true->Yp hh.w a (d.n.toNat+1)->KL h hh->(bnd (Qbm N hh a d) λy15=>some (y15.1,a,0))=some r->KL h r.1:=by intro hh a hhb hpr hin hkl e;obtain⟨h2,e2⟩:=Xjr hN hhb hpr hv hin;have k2:=(Xl3 hN hhb a d).get_eq e2 rfl;rw[e2,Xa]at e;cases e;exact⟨k2.1.trans hkl.1,k2.2.trans hkl.2⟩
 by_cases hk0:k=0
 .subst hk0;rw[hk]at er;have hn:1<=X0 d/\X0 d<=h.c.W:=by
   have h1:1<=X0 d:=aa;refine⟨h1,?_⟩;unfold XF at hk;rw[Wp ⟨hp.conf,h1⟩]at hk;by_cases hle:X0 d<=h.c.W / 4
   .omega
   omega
  cases hpl:XlI N h (X0 d) u f1 with
  |none=>grind
  |some ja=>have⟨j,a⟩:=ja;rw[hpl]at er;have⟨q1,q2,q3,q4⟩:=XpX hN hb eb hn ef1 hpl;have hm:=XZ hp.conf (i:=(j:Int)) aa aa;have hw:=hp.words;refine fin (XaA h (X0 d) j a) (Xg h.c (j:Int) a) (XlK hb _ j a) q4 ?_ ⟨rfl,by show(h.p.set j _).length=_;rw[WR]⟩ er;unfold Yp Xg;show _/\_<=4096+(h.w.length:Int);omega
 have hneed:=XhO hp.conf (w:=X0 d) aa;have⟨f,ef,hf⟩:=Kg (N:=N) (ps:=h.p) (k:Int) aa aa;rw[hk]at er hneed;rw[Wg (show(k:Int)>0 by omega),Wc,Qe3,ef,Xa]at er;by_cases h1:f<0
 .rw[Wg h1,Wc,Xa]at er;exact(bad er ae).elim
 rw[Wh h1,Wa,eu,Xep]at er;simp only[Xa]at er;rw[Xd (n:=u+(k:Int)) aa aa]at er;by_cases h2:u+(k:Int)>Xcd h.c
 .rw[Wg h2,Wc,Xa]at er;exact(bad er ae).elim
 have hrun:RunOK h.p f (k:Int):=by
  rcases hf with hh|hh
  .omega
  exact hh
 obtain⟨j,rfl⟩:∃j:Nat,f=(j:Int):=⟨f.toNat,aa⟩
 have hfit:=hrun.2.2.1;rw[Wh h2,Wa,XlO hN' hl hp aa aa hk hrun]at er;simp only[Xa]at er;have hpr:=Xhd hN hb eb aa hrun hk;have hHB:=XlP hb (X0 d) (j:=j) (k:=k) aa aa;have hm:=XZ hp.conf (i:=(j:Int)) aa aa;have hw:=hp.words;have hmul:((j:Int)+(k:Int))*h.c.W<=h.c.p*h.c.W:=Uz aa aa;rw[Iy]at hmul;have ea:wU (wI (4096+wI ((j:Int)*h.c.W)))=Xg h.c (j:Int) 0:=by unfold Xg;rw[Xd (n:=(j:Int)*h.c.W) aa aa,Xd (n:=4096+(j:Int)*h.c.W) aa aa,Xx aa aa];omega
 rw[ea]at er;refine fin (Xhe h (X0 d) j k) (Xg h.c (j:Int) 0) hHB hpr ?_ ⟨rfl,by
  exact Vn ah⟩ er
 unfold Yp Xg;show _/\_<=4096+(h.w.length:Int);omega
end
section
variable {N:Nat}
def KL.refl(h:Wl):KL h h:=⟨rfl,rfl⟩
def KL.trans{a b c:Wl}(h:KL a b)(k:KL b c):KL a c:=⟨k.1.trans h.1,k.2.trans h.2⟩
def Xgi(hN:NB N){h:Wl}(hb:HB h){a i v:Int}{r:Int×Int}(hf:QbM N h a i=some r)(h0:r.2=0):∃h',QbN N h a i v=some (h',0)/\KL h h':=by
 have hN':=hN;unfold NB at hN';have⟨hp,hat,i0,i1⟩:=(Xch hN hb a i).get_eq hf h0;have hr:=hat.rng;have hfit:=K3 hp hat;have hm:=XZ hp.conf (i:=0) aa (by have:=Xl.1 hp.conf;omega);have hw:=hp.words;unfold szA at hfit;have ew:wU (wU (a+1)+wU i)=a+1+i:=by rw[Xx (n:=a+1) aa aa,Xx (n:=i) aa aa,Xx aa aa]
 rw[QbN,hf,Xa,show(r.2 != 0)=false by simp_all,Wa,ew,Jq (by unfold BIG;omega) aa,Wp (by unfold inW;omega),Xa];exact⟨_,rfl,ab,rfl⟩
end
section
variable {N:Nat}
def Xgj(hN:NB N){h:Wl}(hb:HB h){l:List Int}(e:Qbc N h l=some true):Qbl N h=some true:=by have⟨g,eg,_⟩:=Kc hN hb;rw[Qbc,eg,Xa]at e;grind
def Xhk(hN:NB N){h:Wl}(hb:HB h)(ep:Qab N h=some true)(eg:Qbl N h=some true):Ok (QcW N h) λr=>∃l,Oo N h l r.1:=by have hN':=hN;unfold NB at hN';have hb2:=hb.2;have hp:=Yn hN hb ep;have hg:=(Kc hN hb).get_eq eg rfl;rw[QcW,ep,Xa,eg,Xa,Ws,Wa,Wa];refine WH (ZF hN hb) λy _ hy=>WT aa ?_;refine WH (Xan h y aa N 0 h.p aa aa aa (SameK.refl _)) λqs _ hqs=>We ?_;exact⟨y.1,⟨hb,λ_=>hg,λ_=>hp,hy.1⟩,Xck hb hp hy.1 rfl rfl rfl hqs (.refl _) rfl rfl,rfl,.inl hp⟩
def Xok(hN:NB N){h0:Wl}{w:WC}(hb:HB h0)(hp:Ut h0\/h0.p=[])(hc:w.h.c=h0.c)(hw:w.h.w.length=h0.w.length)(hpl:w.h.p.length=h0.p.length):Ok (Qed N w) λr=>KL h0 r.h/\r.t=w.t:=by have hN':=hN;unfold NB at hN';have hb1:=hb.1;have hb2:=hb.2;exact WT aa (WT aa (WH (XbB hN hb hp hc N 0 _ _ _ aa aa aa hw hpl) λr _ hr=>We ⟨⟨hr.1,hr.2⟩,rfl⟩))
def QpN(hN:NB N){h:Wl}(hb:HB h){rs ws:List Int}(hr:rs.length<=1000000)(hw:ws.length<=1000000):Ok (QcG N h rs ws) λr=>r.2.2.2.2=0->KL h r.1:=by
 have hN':=hN;unfold NB at hN';have bad:∀(a:Wl)(b c:List Int)(d:WL)(e:Int),e≠0->(a,b,c,d,e).2.2.2.2=0->KL h (a,b,c,d,e).1:=λ_ _ _ _ e he hh=>absurd hh he;refine WH (YA (N:=N) aa hb.1 hb.2) λb ep _=>Wm (λ_=>We (bad _ _ _ _ 1 ae)) λhb1=>U7 ?_;have hbt:b=true:=by simpa using hb1
 subst hbt;refine WH (Jt hN hb hr) λb2 e2 _=>Wm (λ_=>We (bad _ _ _ _ 19 ae)) λhb2=>?_;have hbt2:b2=true:=by simpa using hb2
 subst hbt2;have eg:=Xgj hN hb e2;refine WH (Jt hN hb hw) λb _ _=>Wm (λ_=>We (bad _ _ _ _ 19 ae)) λ_=>?_;refine WH (Xhk hN hb ep eg) λy4 _ hy4=>?_;have⟨l,bq⟩:=hy4;have hs:=bq.st;refine WH (XfM hN hs hr bq.ci) λy5 _ hy5=>Wm (λhe=>We (bad _ _ _ _ _ (by simp_all))) λhe=>?_;have⟨c1,c2,c3⟩:=hy5 (by simp_all);have hsc:=bq.sc;refine WH (Xk5 hN hs c1 aa aa) λy6 _ hy6=>Wm (λhe=>We (bad _ _ _ _ _ (by simp_all))) λhe=>?_;have d1:=hy6 (by simp_all);refine WH (Xew hN hs ws hw y5 y6 d1 N 0 _ [] aa aa aa rfl) λy16 _ hy16=>?_;have d2:CI h l (WC.mk y6.1.h y6.1.o y6.1.t y6.1.q y6.1.d (WL.mk y6.1.r.j y6.1.r.K y6.1.r.F y6.1.r.E y16.1 y6.1.r.y)):=by obtain⟨O,s,ho⟩:=d1.obj;exact⟨d1.conf,d1.wlen,d1.plen,d1.spc,d1.old,d1.tk,d1.tnd,d1.knd,d1.qnd,⟨O,s,⟨ho.old,ho.queue,ho.fit,ho.apart,ho.taken,ho.free⟩⟩⟩
 refine WH (XhT hN hs d2) λy17 _ ⟨f1,f2,f3,f4,f5⟩=>?_;refine WH (Xok hN (h0:=h) hs.hb bq.pr f1 f2 f4) λy18 _ ⟨g1,g2⟩=>?_;refine U7 (Wm (λht=>?_) λ_=>We λ_=>g1);have ht:0<(y18.t.length:Int):=Wu ht;rw[g2]at ht⊢;rw[Xd aa aa];exact Ok.get aa aa λp _=>We λ_=>g1
end
section
variable {N:Nat}
def XcY{h:Wl}{a d:Int}:PT (Qcz N h a d) (KL h):=by exact WI (WA λ_=>WA λ_=>WA λ_=>Wd ⟨rfl,ab⟩)
def Xhl{h:Wl}{pins:List UG}{a:Int}:PT (Qb8 N h pins a) λr=>r.2.2=0->KL h r.1:=by
 refine WA λy1=>Wi (Wd λe=>by grind) (Wi (Wd λe=>by grind) (WA λy2=>Wi (Wd λe=>by grind) (WI (WA λp3=>WA λp4=>WA λp5=>Wi ?_ ?_))))
 .exact WI (WI (WI (Wv XcY λy hy=>Wd λ_=>hy)))
 exact Wv XcY λy hy=>Wd λ_=>hy
def UC{α:Type}{P:α->Prop}{b:Bool}{x y:Option α}(h1:b=true->PT x P)(h2:b=false->PT y P):PT (bif b then x else y) P:=by grind
def Xjy{h:Wl}{pins:List UG}{a:Int}:PT (QdH N h pins a) λr=>r.2.2.2=0->KL h r.1:=by
 rw[QdH];simp only[XE]
 repeat' first
  |(refine Wd λe=>?_;first|assumption|(exfalso;revert e;decide))
  |refine Wv XcY λy hy=>?_
  |refine Wi ?_ ?_
  |refine WI ?_
  |refine WA λ_=>?_
end
section
variable {N:Nat}{x:Ub}
def Xgk{α:Type}{o:Option α}{P:α->Prop}(h:Ok o P):PT o P:=λr e=>h.get_eq e
def Xbl(hN:NB N)(hx:EB x):PT (Qa1 N x) λr=>r.2.2=0->KL x.h r.1.h:=by
 have hN':=hN;unfold NB at hN';have hr:=hx.roots;have l1:=Y7 hx.loc;have l2:=Yj x.g.e;have l3:=Yj x.v.e;refine Wv (Xgk (Z7 hN hx)) λb hv=>UC (λ_=>Wd λe=>?_) λhb=>?_
 .simp_all
 have hv:=hv (by simp_all);have h64:=hv.mat.len;refine Wv (Xgk (Xcw hN hx)) λy2 h2=>?_;rw[Yi hx.wea aa,Xa];refine Wv (Xgk (QpN hN hx.heap aa aa)) λy4 h4=>UC (λhc=>Wd λe=>?_) λhc=>?_
 .simp_all
 have hk:KL x.h y4.1:=h4 (by simp_all)
 repeat' first
  |exact Wd λ_=>hk
  |refine WI ?_
  |refine WA λ_=>?_
end
section
variable {N:Nat}{x:Ub}
def Xjz(hN:NB N)(hx:EB x){d:WD}(tm:tW d.Map):PT (Qcu N x d) λr=>r.2.2=0->KL x.h r.1.h:=by
 rw[Qcu];simp only[XE];refine WA λb=>UC (λ_=>Wd λe=>?_) λ_=>?_
 .simp_all
 refine Wv (Xgk (Xip hN hx.heap tm)) λy2 h2=>UC (λ_=>?_) λ_=>?_
 .refine Wv (Q:=λy:Ub×WL×Int=>EB y.1/\(y.2.2=0->KL x.h y.1.h)) (λr e=>⟨(K8 hN hx).get_eq e,Xbl hN hx r e⟩) λy3 h3=>UC (λhc=>Wd λe=>?_) λhc=>?_
  .simp_all
  have k3:=h3.2 (by simp_all);refine Wv (Xgk (Xip hN h3.1.heap tm)) λy4 h4=>UC (λhc=>Wd λe=>?_) λhc=>Wd λ_=>?_
  .simp_all
  exact k3.trans (h4 (by simp_all))
 refine UC (λhc=>Wd λe=>?_) λhc=>Wd λ_=>?_
 .have e':y2.2.2=0:=e;rw[e']at hc;cases hc
 simp_all
end
section
variable {N:Nat}{x:Ub}
structure SM(x:Ub):Prop where
 sc:x.l.x.length<=1000
 glo:x.g.e.length<=1000
 wea:x.v.e.length<=1000
 pins:x.P.length<=1000
 roots:x.R.length<=1000
def KE(x y:Ub):Prop:=KL x.h y.h/\(SM x->SM y)
def KE.refl(x:Ub):KE x x:=⟨KL.refl _,id⟩
def KE.trans{x y z:Ub}(h:KE x y)(k:KE y z):KE x z:=⟨h.1.trans k.1,λs=>k.2 (h.2 s)⟩
def KQ(x:Ub)(r:Ub×Int×Int):Prop:=r.2.2=0->KE x r.1
def YG{e:Int}(h:(e != 0)=true):PT (bnd (Qaf N e) λy=>some (y.1,y.2.1,y.2.2)) (KQ x):=by rw[Qaf,Xa];exact Wd λe'=>by simp_all
def XaC{o:Option (Ub×Int×Int)}(h:PT o (KQ x)):PT (bnd o λy=>some (y.1,y.2.1,y.2.2)) (KQ x):=Wv h λy hy=>Wd hy
def Xhm{a b:Int}:KQ x (x,a,b):=λ_=>KE.refl _
def zz{e:Int}(h:(e != 0)=false):e=0:=by simp_all
def Oz{α:Type}{P:α->Prop}{p:Prop}[Decidable p]{o:Option α}(k:p->PT o P):PT (Sx.grd p o) P:=by
 unfold Sx.grd;split
 .simp_all
 exact Ix
def Xqe(a:Ww)(v:Int):(V1 a v).1.x.length<=a.x.length:=by unfold V1;grind[zL]
def Xqf(a:Ww)(i g:Int):(XaP a i g).1.x.length<=a.x.length:=by unfold XaP;grind[zL]
def Xol(a:Ww)(c:Int):(JL a c).1.x.length<=1000:=by
 unfold JL;cases hv:Y1 a
 .simp[zL]
 have:=(Zf.1 hv).sc;grind[zL]
def Xqg(a:Ww):(ZS a).1.x.length<=a.x.length:=by unfold ZS;grind[zL]
def Xl4(t:WE)(i g:Int):(Vj t i g).1.e.length<=t.e.length:=by unfold Vj;grind[zT]
def Xl5{t:WE}(v:Int)(h:t.e.length<=1000):(Vi t v).1.e.length<=1000:=Xcr (k:=0) h v
def XeR(hN:NB N)(hx:EB x){v:Int}:PT (Qcw N x v) (KQ x):=by have hN':=hN;unfold NB at hN';rw[Qcw,Xap hx.loc aa,Xa];exact UC (λ_=>Wd Xhm) λ_=>UC (λh=>YG h) λ_=>WA λ_=>Wd λ_=>⟨KL.refl _,λs=>⟨Um (Xqe _ _) s.sc,s.glo,s.wea,s.pins,s.roots⟩⟩
def XeS(rs:List Int):∀(n:Nat)(c k:Int)(v:List W8),PT (Qba N rs n c k v) λr=>r.length=v.length
 |0,c,k,v=>Ix
 |n+1,c,k,v=>by refine WI (Wi (WA λ_=>Wi (WA λ_=>WA λ_=>?_) (XeS rs n _ _ v)) (Wd rfl));exactλr e=>(XeS rs n _ _ _ r e).trans (WR ..)
def Xiq{t:WE}{rs:List Int}:PT (Qcb N t rs) λr=>r.1.e.length<=t.e.length:=by exact WA λ_=>Wi (Wd (UM _)) (WA λ_=>WI (Wi (Wd (UM _)) (WI (Wv (XeS rs N _ _ _) λy hy=>Wd (Nat.le_of_eq hy)))))
def XeT(a:Ww)(rs:List Int):∀(n:Nat)(c k:Int)(v:List UK),PT (Qa9 N a rs n c k v) (tE (λr=>r.1.x.length<=a.x.length) λ_=>True)
 |0,c,k,v=>Ix
 |n+1,c,k,v=>by exact WI (Wi (WA λ_=>Wi (XeT a rs n _ _ _) (WA λ_=>Wi (Wd (UM _)) (WA λ_=>WA λ_=>XeT a rs n _ _ _))) (Wd trivial))
def Xom{a:Ww}{rs:List Int}:PT (Qdx N a rs) λr=>r.1.x.length<=a.x.length:=by exact WA λ_=>Wi (Wd (UM _)) (WA λ_=>Wi (Wd (UM _)) (WI (I9 (XeT a rs N _ _ _) (λr hr=>Wd hr) λv _=>Wd (Un _))))
def Xl6(x:Ub)(y4:Wl×List Int×List Int×WL×Int)(y5 y6:List Int)(y7:Ww×Int)(y8 y9:WE×Int)(hp:x.P.length<=1000000):∀(n:Nat)(k:Int)(v:List UG),k=v.length->k<=x.P.length->PT (QaU N x y4 y5 y6 y7 y8 y9 n k v) λr=>r.length<=x.P.length
 |0,k,v,_,_=>Ix
 |n+1,k,v,hk,hkp=>by refine UC (λhc=>WA λ_=>WA λ_=>WI ?_) λ_=>Wd aa;have hc:=Wu hc;rw[Xd (n:=k+1) aa aa];exact Xl6 x y4 y5 y6 y7 y8 y9 hp n _ _ (by simp_all) aa
def Xgl(hN:NB N)(hx:EB x):PT (Qa1 N x) λr=>r.2.2=0->KE x r.1:=by
 have main:PT (Qa1 N x) λr=>SM x->SM r.1:=by
  have z:SM x->SM ⟨zHp,⟨[],[],[]⟩,⟨[]⟩,⟨[]⟩,[],[]⟩:=λ_=>⟨ab,ab,ab,ab,ab⟩
  rw[Qa1];refine WA λb=>Wi (Wd z) (WA λy2=>WA λy3=>WA λy4=>Wi (Wd z) (WA λy5=>WA λy6=>WI (WI (WI (WI (Wv Xom λy7 h7=>WI (Wv Xiq λy8 h8=>Wv Xiq λy9 h9=>Wv (Xl6 x y4 y5 y6 y7 y8 y9 hx.pins N 0 [] rfl aa) λy14 h14=>Wd λs=>⟨Um h7 s.sc,Um h8 s.glo,Um h9 s.wea,Um h14 s.pins,?_⟩)))))));have:=s.roots;show(List.take _ _).length<=_;rw[Wj];omega
 exactλr e h0=>⟨Xbl hN hx r e h0,main r e⟩
def Xqh(hN:NB N)(hx:EB x){d:WD}(tm:tW d.Map):PT (Qcu N x d) λr=>r.2.2=0->KE x r.1:=by
 have main:PT (Qcu N x d) λr=>SM x->SM r.1:=by
  have z:SM x->SM ⟨zHp,⟨[],[],[]⟩,⟨[]⟩,⟨[]⟩,[],[]⟩:=λ_=>⟨ab,ab,ab,ab,ab⟩
  rw[Qcu];simp only[XE];refine WA λb=>Wi (Wd z) (WA λy2=>Wi (Wv (Xgl hN hx) λy3 h3=>UC (λ_=>Wd z) λh=>WA λy4=>Wi (Wd z) (Wd λs=>?_)) (Wi (Wd z) (Wd λs=>⟨s.sc,s.glo,s.wea,s.pins,s.roots⟩)));have s':=(h3 (zz h)).2 s;exact⟨s'.sc,s'.glo,s'.wea,s'.pins,s'.roots⟩
 exactλr e h0=>⟨Xjz hN hx tm r e h0,main r e⟩
def Xd0(hN:NB N){h:Wl}(hb:HB h){l:List UG}(hl:l.length<=1000000):PT (Qcq N h l) λb=>b=true->l.length<=64:=λb e hb1=>((Jv hN hb hl).get_eq e hb1).len
def Xl7(hN:NB N)(hx:EB x){a:Int}:PT (Qb8 N x.h x.P a) λr=>r.2.2=0->KL x.h r.1/\r.2.1.length<=1000:=by
 have main:PT (Qb8 N x.h x.P a) λr=>r.2.1.length<=1000:=by
  rw[Qb8];refine Wv (Xd0 hN hx.heap hx.pins) λb hb=>UC (λ_=>Wd (UM _)) λhb1=>?_;have h64:=hb (by simp_all);refine Wi (Wd (UM _)) (WA λy2=>Wi (Wd (UM _)) (WI (WA λ_=>WA λ_=>WA λ_=>Wi (WI (WI (Oz λhg=>WA λ_=>Wd ?_))) (WA λ_=>Wd ?_))))
  .grind
  grind
 exactλr e h0=>⟨Xhl r e h0,main r e⟩
def Xs6(hN:NB N)(hx:EB x){a:Int}:PT (QdH N x.h x.P a) λr=>r.2.2.2=0->KL x.h r.1/\r.2.1.length<=1000:=by
 have main:PT (QdH N x.h x.P a) λr=>r.2.1.length<=1000:=by
  rw[QdH];simp only[XE];refine Wv (Xd0 hN hx.heap hx.pins) λb hb=>UC (λ_=>Wd (UM _)) λhb1=>?_;have h64:=hb (by simp_all);have l1:∀i p,(x.P.set i p).length<=1000:=λi p=>by grind
  have l2:∀p,(x.P++[p]).length<=1000:=λp=>by grind
  repeat' first
   |exact Wd (UM _)
   |exact Wd (l1 _ _)
   |exact Wd (l2 _)
   |refine Wi ?_ ?_
   |refine WI ?_
   |refine WA λ_=>?_
 exactλr e h0=>⟨Xjy r e h0,main r e⟩
def Xon(N:Nat)(h:Wl)(a:Int):PT (Qam N h a) λr=>r.2≠0->r.1.n=0:=by
 rw[Qam];simp only[XE]
 repeat' first
  |(refine Wd λe=>?_;first|rfl|(exact absurd rfl e))
  |refine Wi ?_ ?_
  |refine WI ?_
  |refine WA λ_=>?_
def Xl8(N:Nat)(h:Wl)(a:Int):PT (QbY N h a) λr=>r.2≠0->r.1.n=0:=by refine WA λb=>Wi (Wd λ_=>rfl) (Wi (Wd λ_=>rfl) (Wv (Xon N h a) λy hy=>Wi (Wi (Wd λ_=>rfl) (Wd hy)) (Wd hy)))
def Xqi(hN:NB N){h:Wl}(hb:HB h){a i:Int}{y:WD×Int}(hg:QbY N h a=some y)(h0:y.2=0)(hi0:0<=i)(hi:i<y.1.n):∃v,QbM N h a i=some (v,0):=by
 have hN':=hN;have⟨hp,_,hat,hh,_⟩:=(VY hN hb a).get_eq hg h0;rw[hh]at hi;have hr:=hat.rng;have hfit:=K3 hp hat;have hm:=XZ hp.conf (i:=0) aa (by have:=Xl.1 hp.conf;omega);have hd:=XP (ZD (wd h.w a));unfold szA at hfit;unfold hdA at *;have ew:wU (wU (a+1)+wU i)=a+1+i:=by rw[Xx (n:=a+1) aa aa,Xx (n:=i) aa aa,Xx aa aa]
 rw[QbM,hg,Xa,show(y.2 != 0)=false by simpa using h0,Wa,Wh aa,Wa,hh,Wh aa,Wa,ew,YI (by unfold BIG;have:=hb.1;omega),Xa,Wp (by unfold inW;omega)];simp
def Xgm(hN:NB N)(hb:HB x.h){a b:Int}(hu:tU b){c:Bool}:PT (Qel N x a b c) λr=>r.2.2=0->∃v,QbM N x.h r.1 r.2.1=some (v,0):=by
 refine WA λy1=>UC (λhc=>Wd λe=>?_) λ_=>?_
 .simp_all
 refine Wv (Q:=λy=>QbY N x.h y1.1=some y) (λr e=>e) λy2 h2=>UC (λ_=>Wd λe=>absurd e ae) λh3=>WA λ_=>Wi (Wd λe=>absurd e ae) (Wd λ_=>?_);have h3:=WO h3;have⟨u1,u2⟩:=hu;have hz:y2.2=0:=by
  by_cases hz:y2.2=0
  .omega
  have:=Xl8 N _ _ _ h2 hz;rw[this,Xx aa aa]at h3;omega
 have⟨_,_,_,hh,_⟩:=(VY hN hb y1.1).get_eq h2 hz;have hd:=XP (ZD (wd x.h.w y1.1));have hl:0<=y2.1.n/\y2.1.n<=255:=by rw[hh];unfold hdA;omega
 rw[Xx aa aa]at h3;show∃v,QbM N x.h y1.1 (wI b)=some (v,0);rw[Xd aa aa];exact Xqi hN hb h2 hz u1 aa
def Xl9(hN:NB N)(hx:EB x){op a b c:Int}(hu:tU b):PT (Qem N x op a b c) (KQ x):=by
 rw[Qem];simp only[XE];have main:∀y:Int×Int×Int,(y.2.2=0->∃v,QbM N x.h y.1 y.2.1=some (v,0))->∀v',y.2.2=0->PT (α:=Ub×Int×Int) (bnd (QbN N x.h y.1 y.2.1 v') λy12=>some ((Ub.mk y12.1 x.l x.g x.v x.P x.R),0,0)) (KQ x):=by intro y hy v' h0;obtain⟨v,ev⟩:=hy h0;obtain⟨h',e',k⟩:=Xgi hN hx.heap (v:=v') ev rfl;rw[e',Xa];exact Wd λ_=>⟨k,λs=>⟨s.sc,s.glo,s.wea,s.pins,s.roots⟩⟩
 refine UC (λ_=>Wv (Xgm hN hx.heap hu) λy hy=>?_) λ_=>Wv (Xgm hN hx.heap hu) λy hy=>?_<;>
 exact UC (λh=>YG h) λh0=>WA λy7=>UC (λ_=>Wd Xhm) λ_=>UC (λ_=>XaC (XeR hN hx)) λ_=>UC (λ_=>WA λy9=>UC (λh=>YG h) λ_=>main y hy _ (zz h0)) λ_=>main y hy _ (zz h0)
def XjA(hN:NB N)(hx:EB x){op a b:Int}(ha:tU a)(hb:tU b):PT (QdC N x op a b) (KQ x):=by rw[QdC];simp only[XE];refine UC (λ_=>YG ae) λ_=>Wv (Qhp ha hb) λy2 h2=>UC (λ_=>YG ae) λ_=>WA λy3=>UC (λ_=>YG ae) λ_=>WA λy5=>UC (λh=>YG h) λ_=>Wv (Q:=λy:Ub×Int×Int=>EB y.1/\(y.2.2=0->KE x y.1)) (λr e=>⟨(XdJ hN hx _).get_eq e,Xqh hN hx h2 r e⟩) λy7 h7=>UC (λh=>YG h) λh=>Wv (XeR hN h7.1) λy9 h9=>Wd λe=>(h7.2 (zz h)).trans (h9 e)
def Xma(hN:NB N)(hx:EB x){op a b:Int}:PT (Qen N x op a b) (KQ x):=by
 rw[Qen];simp only[XE]
 repeat' first
  |exact Wd Xhm
  |exact XaC (XeR hN hx)
  |(refine YG ?_;assumption)
  |(refine UC (λh=>?_) λ_=>?_)
  |refine WA λ_=>?_
def Xhn(hN:NB N)(hx:EB x){op a:Int}:PT (Qdc N x op a) (KQ x):=by
 have hN':=hN;unfold NB at hN';rw[Qdc];simp only[XE];have eW:=K7 (N:=N) (t:=⟨x.v.e⟩) hx.wea aa;have eG:=K7 (N:=N) (t:=⟨x.g.e⟩) hx.glo aa;refine WA λy1=>UC (λh=>YG h) λ_=>UC (λh15=>?_) λh15=>?_
 .rw[eW,Xa,h15];exact UC (λh=>YG h) λ_=>WA λ_=>Wd λ_=>⟨KL.refl _,λs=>⟨s.sc,s.glo,Xl5 _ s.wea,s.pins,s.roots⟩⟩
 rw[eG,Xa,h15];exact UC (λh=>YG h) λ_=>WA λ_=>Wd λ_=>⟨KL.refl _,λs=>⟨s.sc,Xl5 _ s.glo,s.wea,s.pins,s.roots⟩⟩
def XjB(hN:NB N)(hx:EB x){op a:Int}:PT (QdF N x op a) (KQ x):=by
 have hN':=hN;unfold NB at hN';rw[QdF];simp only[XE,Xez hx.loc (show 1000000<N by omega),Vz hx.glo (show 1000000<N by omega),Vz hx.wea (show 1000000<N by omega),Xa]
 repeat' first
  |exact Wd λ_=>⟨KL.refl _,λs=>⟨Um (Xqf _ _ _) s.sc,s.glo,s.wea,s.pins,s.roots⟩⟩
  |exact Wd λ_=>⟨KL.refl _,λs=>⟨s.sc,Um (Xl4 _ _ _) s.glo,s.wea,s.pins,s.roots⟩⟩
  |exact Wd λ_=>⟨KL.refl _,λs=>⟨s.sc,s.glo,Um (Xl4 _ _ _) s.wea,s.pins,s.roots⟩⟩
  |(refine YG ?_;first|assumption|decide)
  |(refine UC (λh=>?_) λ_=>?_)
  |refine WA λ_=>?_
def XjC(hN:NB N)(hx:EB x){op a:Int}:PT (QdG N x op a) (KQ x):=by have hN':=hN;unfold NB at hN';rw[QdG,Xaq hx.loc aa,XbC hx.loc aa];simp only[Xa];refine UC (λ_=>UC (λ_=>YG ae) λ_=>UC (λh=>YG h) λ_=>Wd λ_=>⟨KL.refl _,λs=>⟨Xol _ _,s.glo,s.wea,s.pins,s.roots⟩⟩) λ_=>WA λy4=>UC (λh=>YG h) λ_=>UC (λh=>YG h) λ_=>Wv (XeR hN (x:=⟨x.h,(ZS x.l).1,x.g,x.v,x.P,x.R⟩) ⟨hx.heap,XbD hx.loc,hx.glo,hx.wea,hx.pins,hx.roots⟩) λy hy=>Wd λe=>?_;exact KE.trans (y:=⟨x.h,(ZS x.l).1,x.g,x.v,x.P,x.R⟩) ⟨KL.refl _,λs=>⟨Um (Xqg _) s.sc,s.glo,s.wea,s.pins,s.roots⟩⟩ (hy e)
def Xoo(hN:NB N)(hx:EB x){op a:Int}:PT (QfA N x op a) (KQ x):=by refine WA λy1=>UC (λh=>YG h) λ_=>UC (λ_=>Wv (Xl7 hN hx) λy3 h3=>UC (λh=>YG h) λh=>Wd λ_=>⟨(h3 (zz h)).1,λs=>⟨s.sc,s.glo,s.wea,(h3 (zz h)).2,s.roots⟩⟩) λ_=>Wv (Xs6 hN hx) λy5 h5=>UC (λh=>YG h) λh=>Wd λ_=>⟨(h5 (zz h)).1,λs=>⟨s.sc,s.glo,s.wea,(h5 (zz h)).2,s.roots⟩⟩
def Xop(hN:NB N)(hx:EB x){op a b c:Int}(ha:tU a)(hb:tU b):PT (QeT N x op a b c) (KQ x):=by
 rw[QeT];simp only[XE];refine WA λb1=>UC (λ_=>YG ae) λ_=>?_
 repeat' first
  |exact YG ae
  |exact XaC (XjA hN hx ha hb)
  |exact XaC (Xl9 hN hx hb)
  |exact XaC (Xma hN hx)
  |exact XaC (Xhn hN hx)
  |exact XaC (XjB hN hx)
  |exact XaC (XjC hN hx)
  |exact XaC (Xoo hN hx)
  |refine Wi ?_ ?_
def Xry(hN:NB N){p:Iu}(hx:EB p.N){d:IZ}(td:Xca d):PT (Qb0 N p d) λr=>KE p.N r.1.N:=by
 rw[Qb0];simp only[XE];refine UC (λ_=>Wv (Xgl hN hx) λy1 h1=>UC (λh=>WA λy2=>Wd (h1 (by simp_all))) λ_=>Wd (KE.refl _)) λ_=>?_;refine Wv (Xop hN hx td.1 td.2.1) λy26 h26=>WA λ_=>WA λy28=>?_
 repeat' first
  |exact Wd (KE.refl _)
  |exact Wd (h26 (by simpa using ‹(y26.2.2==0)=true›))
  |(refine UC (λh=>?_) λ_=>?_)
  |refine WI ?_
end
section
variable {N:Nat}
def NE(h:Wl):Prop:=1<=h.w.length/\1<=h.p.length
def KL.ne{a b:Wl}(k:KL a b)(h:NE a):NE b:=⟨by rw[k.1];exact h.1,by rw[k.2];exact h.2⟩
def Xqj{t:UX}:PT (Qff N t) λr=>X5 r.1=true:=by refine WA λy1=>Wv (Q:=λp=>p∈([16,16,20,32]:List Int)) (λr e=>Yx e) λp hp=>WA λy3=>Wv (Q:=λp=>p∈([8,12,16,20,24]:List Int)) (λr e=>Yx e) λq hq=>Wd ?_;simp at hp hq;rcases hp with rfl|rfl|rfl|rfl<;>rcases hq with rfl|rfl|rfl|rfl|rfl<;>(show X5 ⟨_,_⟩=true;decide)
def Xmb{c:WU}(hv:X5 c=true):PT (QeL N c) λr=>NE r.1.h/\SM r.1:=by
 rw[QeL,Qf7,Y0,Xa,hv,Ws,Wa];have hvc:=Xl.1 hv;have hm:=XZ hv (i:=0) aa aa;have e:=Xd (n:=c.p*c.W) aa aa;refine Wv (Q:=λr:Wl×Int=>NE r.1) (WI (WI (Wd ⟨?_,?_⟩))) λy hy=>Wd ⟨hy,ab,ab,ab,ab,ab⟩
 .rw[WS,e];omega
 grind
def Xmc{t:UX}:PT (QbX N t) λr=>NE r.1.N.h/\SM r.1.N:=by exact Wv Xqj λy1 h1=>Wv (Xmb h1) λy2 h2=>WA λy3=>WA λy4=>Wd ⟨h2.1,ab,h2.2.glo,h2.2.wea,h2.2.pins,h2.2.roots⟩
def Xir(hN:NB N):∀(n:Nat)(i:Int)(t:UX)(p:Iu)(k:Nat),0<=i->i<=60->(60-i).toNat<n->(k:Int)=i->PB k p->NE p.N.h/\SM p.N->TA (10+20*i) t ->
 Ok (Qgb N 60 n i t.L t.at_ p.N.h.c.W p.N.h.c.p p.N.h.w p.N.h.p p.N.h.s p.N.h.b p.N.l.S p.N.l.x p.N.l.i p.N.g.e p.N.v.e p.N.P p.N.R p.z.c.W p.z.c.p p.z.T p.z.l.S p.z.l.x p.z.l.i p.z.g.e p.z.v.e p.z.m p.z.R p.w) λr=>∃(p':Iu) (k':Nat),k'<=60/\PB k' p'/\(NE p'.N.h/\SM p'.N)/\r=(p'.N.h.c.W,p'.N.h.c.p,p'.N.h.w,p'.N.h.p,p'.N.h.s,p'.N.h.b,p'.N.l.S,p'.N.l.x,p'.N.l.i,p'.N.g.e,p'.N.v.e,p'.N.P,p'.N.R,p'.z.c.W,p'.z.c.p,p'.z.T,p'.z.l.S,p'.z.l.x,p'.z.l.i,p'.z.g.e,p'.z.v.e,p'.z.m,p'.z.R,p'.w)
 |0,i,t,p,k,_,_,hn,_,_,_,_=>by omega
 |n+1,i,t,p,k,h0,hi,hn,hk,hp,hq,ht=>by refine Wm (λhc=>?_) λ_=>We ⟨p,k,aa,hp,hq,rfl⟩;have hc:i<60:=Wu hc;rw[Qgj,Xa];refine Wm (λ_=>?_) λ_=>We ⟨p,k,aa,hp,hq,rfl⟩;have w1:=hp.w1;have w2:=hp.w2;have dty:=λr (e:Qdm N p t=some r)=>Qjj (N:=N) hp.ty r e;rw[Xd (n:=i+1) aa aa];refine WH (Xoj (p:=p) (t:=t) w1 aa ht aa) λy e hy=>?_;refine WH (Xrx hN hp aa (dty y e)) λz ez hz=>?_;have kz:=Xry hN hp.env (dty y e) z ez;exact Xir hN n (i+1) y.2 z.1 (k+1) aa aa aa aa hz ⟨kz.1.ne hq.1,kz.2 hq.2⟩ (hy.le aa)
def XjD(hN:NB N)(l:List Int):Ok (Qh8 N l 60) λp=>∃k,k<=60/\PB k p/\NE p.N.h/\SM p.N:=by have hN':=hN;unfold NB at hN';refine WH (Xl2 (m:=0) ⟨ab,ab⟩ aa) λy ey hy=>W7 (Xir hN N 0 y.2 y.1 0 aa aa aa rfl hy.1 (Xmc y ey) (hy.2.le aa)) λz hz=>We ?_;obtain⟨p',k',h1,h2,h3,rfl⟩:=hz;exact⟨k',h1,h2,h3⟩
def XcZ(hN:NB N)(w:Ih)(y:Int×UX):∀(n:Nat)(k:Int)(v:List Wt),0<=k->k<=v.length->(v.length-k).toNat<n->v.length<=100000->Ok (Qcl N w y n k v) λr=>r.length<=100000
 |0,k,v,_,_,hn,_=>by omega
 |n+1,k,v,h0,hk,hn,hv=>by refine WT aa (Wm (λhc=>?_) λ_=>We hv);have hc:k<v.length:=Wu hc;rw[Xd (n:=k+1) aa aa];refine Ok.get h0 hc λp _=>Wm (λ_=>Ok.get h0 hc λp _=>?_) λ_=>XcZ hN w y n _ v aa aa aa hv;exact XcZ hN w y n _ _ aa (by grind) (by grind) (by simp_all)
def Xmd(hN:NB N){h:Wl}(hb:HB h)(hne:NE h){t:UX}(ht:TA 10 t):Ok (QcK N ⟨h,[],[]⟩ t) λr=>HB r.1.h:=by
 have hN':=hN;unfold NB at hN';have⟨b1,b2⟩:=hb;have⟨n1,n2⟩:=hne;have sw:∀(c:WU)(i:Nat)(v:Int)(s b:Int),HB ⟨c,h.w.set i v,h.p,s,b⟩:=λc i v s b=>⟨by simp_all,b2⟩
 have sp:∀(c:WU)(i:Nat)(v:Wt)(s b:Int),HB ⟨c,h.w,h.p.set i v,s,b⟩:=λc i v s b=>⟨b1,by simp_all⟩
 have sn:∀(c:WU)(s b:Int),HB ⟨c,h.w,h.p,s,b⟩:=λc s b=>⟨b1,b2⟩
 rw[QcK];dsimp only;refine WT aa (WT aa (WT aa ?_));refine W7 (nxp ht aa aa aa) λy1 h1=>WT aa (W7 (nxp h1.2.2 aa aa aa) λy2 h2=>W7 (nxp h2.2.2 aa aa aa) λy3 h3=>?_);have next:∀{a:Int},1<=a->a<=1000000000->Ok (Qaa N y3.2 a) λr=>0<=r.1/\r.1<a:=λa1 a2=>(nxp h3.2.2 aa a1 a2).mono λr hr=>⟨hr.1,hr.2.1⟩
 have gw:∀{β:Type}{P:β->Prop}{f:Int->Option β},(∀p,Ok (f p) P)->Ok (bnd (Xb h.w y1.1) f) P:=λk=>Ok.get h1.1 h1.2.1 λp _=>k p;have gp:∀{β:Type}{P:β->Prop}{f:Wt->Option β},(∀p,Ok (f p) P)->Ok (bnd (Xb h.p y2.1) f) P:=λk=>Ok.get h2.1 h2.2.1 λp _=>k p;refine IS (λx4=>?_) λj hj=>W6 (hj _) (hj _);refine W6 (W7 (next aa aa) λy5 h5=>Ok.get h5.1 h5.2 λ_ _=>gw λ_=>We (sw _ _ _ _ _)) ?_;refine W6 (gw λ_=>W7 (next aa aa) λy9 h9=>WT (by rw[Xx h9.1 aa];omega) (gw λ_=>We (sw _ _ _ _ _))) ?_;refine W6 (W7 (next aa aa) λ_ _=>gp λ_=>We (sp _ _ _ _ _)) ?_;refine W6 (W7 (next aa aa) λ_ _=>gp λ_=>We (sp _ _ _ _ _)) ?_;refine W6 (gp λ_=>W7 (next aa aa) λ_ _=>gp λ_=>We (sp _ _ _ _ _)) ?_;refine W6 (W7 (next aa aa) λ_ _=>gp λ_=>We (sp _ _ _ _ _)) ?_;refine W6 (W7 (next aa aa) λ_ _=>We (sn _ _ _)) ?_;refine W6 (WT aa ?_) ?_
 .rw[Xd (n:=(h.p.length:Int)+2) aa aa];exact W7 (next aa aa) λ_ _=>We (sn _ _ _)
 refine W6 (We (sn _ _ _)) ?_;refine W6 (WT aa (We ⟨b1,by grind⟩)) ?_;exact W6 (W7 (XcZ hN _ y3 N 0 h.p aa aa aa b2) λr hr=>We ⟨b1,hr⟩) (We (sn _ _ _))
def Xc0{α:Type}{l:List α}{a:α}{m:Nat}(h:l.length<=1000)(hm:1001<=m):(l++[a]).length<=m:=by grind
def Xoq(hN:NB N){x:Ub}(hx:EB x)(hne:NE x.h)(hs:SM x)(l:List Int):Ok (QgT N x ⟨l,0⟩) λr=>EB r.1:=by
 have hN':=hN;have⟨s1,s2,s3,s4,s5⟩:=hs;have⟨l1,l2,l3⟩:=hx.loc;refine W7 (nxp (m:=0) ⟨ab,ab⟩ aa aa aa) λy1 h1=>?_;have n1:∀{a:Int},1<=a->a<=1000000000->Ok (Qaa N y1.2 a) λr=>0<=r.1/\r.1<a/\TA 2 r.2:=λa1 a2=>(nxp h1.2.2 aa a1 a2).mono λr hr=>⟨hr.1,hr.2.1,hr.2.2.le aa⟩
 have n2:∀{t:UX}{a:Int},TA 2 t->1<=a->a<=1000000000->Ok (Qaa N t a) λr=>True:=λht a1 a2=>(nxp ht aa a1 a2).mono λr hr=>trivial;refine W6 (W7 (Xmd hN hx.heap hne (h1.2.2.le aa)) λr hr=>We ⟨hr,hx.loc,hx.glo,hx.wea,hx.pins,hx.roots⟩) ?_;refine W6 (WT aa (W7 (n1 aa aa) λ_ _=>WT aa (We ⟨hx.heap,hx.loc,hx.glo,hx.wea,hx.pins,Xc0 s5 aa⟩))) ?_;refine W6 (Wm (λhc=>?_) λ_=>We hx) ?_
 .have hc:=Wu hc;exact WT aa (W7 (n1 aa aa) λy4 h4=>Ok.get h4.1 h4.2.1 λ_ _=>W7 (n2 h4.2.2 aa aa) λ_ _=>Ok.get h4.1 h4.2.1 λ_ _=>We ⟨hx.heap,⟨by simp_all,l2,l3⟩,hx.glo,hx.wea,hx.pins,hx.roots⟩)
 refine W6 (WT aa (W7 (n1 aa aa) λy h=>W7 (n2 h.2.2 aa aa) λ_ _=>WT aa (We ⟨hx.heap,hx.loc,Xc0 s2 aa,hx.wea,hx.pins,hx.roots⟩))) ?_;refine W6 (WT aa (W7 (n1 aa aa) λy h=>W7 (n2 h.2.2 aa aa) λ_ _=>WT aa (We ⟨hx.heap,hx.loc,hx.glo,Xc0 s3 aa,hx.pins,hx.roots⟩))) ?_;refine W6 (WT aa (W7 (n1 aa aa) λy h=>W7 (n2 h.2.2 aa aa) λ_ _=>WT aa (We ⟨hx.heap,hx.loc,hx.glo,hx.wea,Xc0 s4 aa,hx.roots⟩))) ?_;refine W6 (WT aa (W7 (n1 aa aa) λy h=>W7 (n2 h.2.2 aa aa) λ_ _=>WT aa (We ⟨hx.heap,⟨l1,Xc0 s1 aa,l3⟩,hx.glo,hx.wea,hx.pins,hx.roots⟩))) ?_;exact We ⟨hx.heap,hx.loc,hx.glo,hx.wea,ab,hx.roots⟩
def Xor(hN:NB N){raw:Ub}(tr:X7 raw)(tape odd:List Int):Ok (QhI N raw tape odd) λl=>l.length<=3/\∀x∈l,ET x:=by
 refine W7 (XjD hN tape) λp hp=>?_;have⟨k,hk,hp,hne,hs⟩:=hp;have e1:ET p.N:=⟨hp.env,hp.ty.1.1⟩
 refine WH (Xoq hN hp.env hne hs odd) λy ey hy=>?_;have e2:ET y.1:=⟨hy,(Qn7 hp.ty.1 y ey).1⟩
 refine W7 (Xjx raw) λb hb=>Wm (λh=>We ⟨ab,?_⟩) λ_=>We ⟨ab,?_⟩
 .have e3:ET raw:=⟨hb h,tr.1⟩
  simp only[UY,List.not_mem_nil,or_false];rintro x (rfl|rfl|rfl)
  .exact e1
  .exact e2
  exact e3
 simp_all
end
section
variable {N:Nat}
def Xqk{a:Ww}(h:LBp a)(hN:1000000<N):Qhb N a a=some true:=by have⟨h1,h2,h3⟩:=h;rw[Qhb,JS,JS,JS,Wa,Wa,Wa];rw[JR (F:=Qd3 N a a) (L:=a.S.length) (u:=()) (λn k hk=>by rw[Qd3,Xk hk,Wc,Xe,Wb hk,Xa,Xa,Xf aa];simp) (λn=>by rw[Qd3,Xw,Wa]) aa,Xa,Xm];rw[JR (F:=Qd4 N a a) (L:=a.x.length) (u:=()) (λn k hk=>by rw[Qd4,Xk hk,Wc,Xe,Wb hk,Xa,Xa,Xf aa];simp) (λn=>by rw[Qd4,Xw,Wa]) aa,Xa,Xm];rw[JR (F:=Qd5 N a a) (L:=a.i.length) (u:=()) (λn k hk=>by rw[Qd5,Xk hk,Wc,Xe,Wb hk,Xa,Xa,Xf aa];simp) (λn=>by rw[Qd5,Xw,Wa]) aa,Xa,Xm]
def Xme{t:WE}(h:TB t)(hN:1000000<N):Qgv N t t=some true:=by unfold TB at h;rw[Qgv,JS,Wa,JR (F:=Qd6 N t t) (L:=t.e.length) (u:=()) (λn k hk=>by rw[Qd6,Xk hk,Wc,Xe,Wb hk,Xa,Xa,Xf aa];simp) (λn=>by rw[Qd6,Xw,Wa]) aa,Xa,Xm]
def Xql{l:List UG}(h:l.length<=1000000)(hN:1000000<N):Qhc N l l=some true:=by rw[Qhc,JS,Wa,JR (F:=Qd7 N l l) (L:=l.length) (u:=()) (λn k hk=>by rw[Qd7,Xk hk,Wc,Xe,Wb hk,Xa,Xa,Xf aa];simp) (λn=>by rw[Qd7,Xw,Wa]) aa,Xa,Xm]
def Xqm{x:Ub}(hx:EB x)(hN:NB N):Qhe N x x=some true:=by
 have hN':1000000<N:=by unfold NB at hN;omega
 have:=hx.roots;rw[Qhe,Xqd hx.heap hN,Xa,Wc,Xqk hx.loc hN',Xa,Wc,Xme hx.glo hN',Xa,Wc,Xme hx.wea hN',Xa,Wc,Xql hx.pins hN',Xa,Wc,Xqc aa hN,Xa]
def Xmf(hN:NB N)(l:List Ub)(hl:l.length<=3)(hx:∀x∈l,ET x):Qbh N l N 0=some (.nxt ()):=by have hN':=hN;unfold NB at hN';refine JR (F:=Qbh N l) (L:=l.length) (u:=()) (λn k hk=>?_) (λn=>by rw[Qbh,Xw,Wa]) aa;have ht:=hx _ (WN hk);have⟨r,e1,e2⟩:=XlZ hN ht;have⟨r',e3,hr⟩:=K8 hN ht.eb;rw[e2]at e3;obtain rfl:=WK e3;rw[Qbh,Xk hk,Wc,Xe,Wb hk,Xa,e1,e2,Xa,Xa];simp only[bne_self_eq_false,beq_self_eq_true,IF,Ws,Wa];rw[Xqm hr hN,Xa,Ws,Wa,Xf aa]
def Xa2(hN:NB N){raw:Ub}(tr:X7 raw)(tape odd:List Int):Qec N raw tape odd=some true:=by
 have⟨l,el,hl,hx⟩:=Xor hN tr tape odd;obtain⟨m,rfl⟩:∃m,N=m+400:=⟨N-400,by unfold NB at hN;omega⟩
 rw[Qec,el,Xa,Xmf hN l hl hx,Xa,Xm,XeQ,Xa]
end
end Go.Sx
