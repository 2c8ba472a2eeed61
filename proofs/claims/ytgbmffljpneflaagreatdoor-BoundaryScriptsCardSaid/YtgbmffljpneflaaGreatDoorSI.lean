import Derived.Test.YtgbmffljpneflaaGreatDoorSE
set_option linter.all false
namespace Go.Sx
section
variable {N:Nat}
def VN(l:List Int)(x:Int)(f:l.length<=1000000)(hN:1000000<N):Qah N l x=some (l.contains x):=by
 rw[Qah,QbV];rw[JE (p:=λy:Int=>(x==y)) f hN (λn j y e=>by
  have g:=XC e
  rw[QaI,Xn g,Wb,Xe,e,Xa,Xg aa]) (λn=>by rw[QaI,XB,Wa])]
 rw[Xa,Ku,List.contains_eq_any_beq]
def Xkc(l:List Int)(x:Int)(f:l.length<=1000000)(hN:1000000<N):Qbj N l x=some (l.contains x):=by
 rw[Qbj,QeU];rw[JE (p:=λy:Int=>(x==y)) f hN (λn j y e=>by
  have g:=XC e
  rw[QbM,Xn g,Wb,Xe,e,Xa,Xg aa]) (λn=>by rw[QbM,XB,Wa])]
 rw[Xa,Ku,List.contains_eq_any_beq]
def Xkd(w:WD)(i:Int)(g:w.t.length<=1000000)(hN:1000000<N):Qhp N w i=some (w.t.contains i):=by
 have h:∀(n k:Nat),k<=w.t.length->w.t.length-k<n->Qdp N w i n (k:Int)=some (bif (w.t.drop k).contains i then .ret true else .nxt ()):=by
  intro n;induction n with
  |zero=>omega
  |succ n f=>
   intro k j l;by_cases h:k<w.t.length
   .rw[Qdp,Xn h,Wb,Xe,Wc h,Xa,Xg aa,Wu h,List.contains_cons];by_cases e:w.t[k]=i
    .rw[XO e,Wb,XO e.symm,Bool.true_or,Wb]
    rw[Xf e,Wa,Xf (λh=>e h.symm),Ie];exact f (k+1) aa aa
   obtain rfl:k=w.t.length:=aa;rw[Qdp,XB,Wa,UK (Uf _)];rfl
 have h:=h N 0 aa aa;rw[show((0:Nat):Int)=0 from rfl,WY]at h;rw[Qhp,h,Xa];cases w.t.contains i
 .rw[Wa,Xq]
 simp[Wb,XD]
def Xdr(hN:1000000<N){v:Int}(p:tU v):Qfu N v=QcQ N v:=by
 obtain⟨m,rfl⟩:∃m,N=m+5:=⟨N-5,aa⟩
 have⟨f,q⟩:=p;have j:wI (0+1)=1:=Xd aa aa;have k:wI (1+1)=2:=Xd aa aa;have r:wI (64-2)=62:=Xd aa aa;have s:wI (62-32)=30:=Xd aa aa;have e:([(2:Int),32].length:Nat)=2:=rfl;have l:Xb [(2:Int),32] 0=some 2:=by unfold Xb;rfl
 have g1:Xb [(2:Int),32] 1=some 32:=by unfold Xb;rfl
 have u:QaD (m+5) v [2,32] (m+5) 64 0=some (.nxt ()):=by rw[QaD,e,l];simp only[Xa,j,r];rw[QaD,e,g1];simp only[Xa,k,s];rw[QaD,e];rfl
 have w:Qa2 (m+5) 2=some 3:=Y1 aa aa aa;have y:Qa2 (m+5) 32=some 4294967295:=Y1 aa aa aa;have o:YC .u64 v 2=v / 4:=YG v 2 aa f;have z:YC .u64 (v / 4) 32=v / 4 / 4294967296:=YG (v / 4) 32 aa aa;have A:Y2 .u64 v 3=v % 4:=Ys v 2 aa f q;have B:Y2 .u64 (v / 4) 4294967295=v / 4 % 4294967296:=Ys (v / 4) 32 aa aa aa;have D:QaE (m+5) [2,32] (m+5) v 0 []=some (v / 4 / 4294967296,[v % 4,v / 4 % 4294967296]):=by rw[QaE,e,l];rw[Wd aa,Wb,Xa,w,Xa,Xc ab,Xc aa,o,A,j];rw[QaE,e,g1];rw[Wd aa,Wb,Xa,y,Xa,Xc ab,Xc aa,z,B,k];rw[QaE,e];rw[We aa,Wa];rfl
 rw[Qfu,Qdz,u,Xa,Xq,D,Xa,QcQ,o,Ip f];by_cases h:v / 4 / 4294967296=0
 .rw[h];by_cases g:v % 4=2
  .rw[g];have:v / 4 % 4294967296=v / 4:=aa;rw[this,We aa];rw[show((0:Int) != 0)=false from rfl,Wa,Xa];rw[show Xb [(2:Int),v / 4] 0=some 2 by unfold Xb;rfl,Xa,show Xb [(2:Int),v / 4] 1=some (v / 4) by unfold Xb;rfl,Xa];rfl
  rw[Xl g,Wb];rw[show((0:Int) != 0)=false from rfl,Wa,Xa];show bnd (Xb [v % 4,v / 4 % 4294967296] 0) _=_;rw[show Xb [v % 4,v / 4 % 4294967296] 0=some (v % 4) by unfold Xb;rfl,Xa,Xl g,Wb]
 rw[Xl h,Wb,Xa];grind
def XgQ(hN:1000000<N){a:Int}(g:0<=a)(A:a<4294967296):Qb4 N a=Qc2 N a:=by
 rw[Qb4,Y1 aa aa aa,Xa,Qc2,We (by show¬a>4294967295;omega),We aa,Wa,Wa];obtain⟨n,rfl⟩:∃n,N=n+5:=⟨N-5,aa⟩
 generalize f:[(UB.mk 2 2),(UB.mk 32 a)]=L;have e:L.length=2:=by rw[←f];rfl
 have h:Xb L 0=some (UB.mk 2 2):=by rw[←f];unfold Xb;rfl
 have g1:Xb L 1=some (UB.mk 32 a):=by rw[←f];unfold Xb;rfl
 have j:wI (0+1)=1:=Xd aa aa;have k:wI (1+1)=2:=Xd aa aa;have l:wI (64-2)=62:=Xd aa aa;have o:wI (62-32)=30:=Xd aa aa;have k2:wI (0+2)=2:=Xd aa aa;have p:wI (2+32)=34:=Xd aa aa;have q:Qbf (n+5) L (n+5) 64 0=some (.nxt ()):=by rw[Qbf,e,h];simp only[Xa,j,l];rw[Qbf,e,g1];simp only[Xa,k,o];rw[Qbf,e];rfl
 have r:Qb8 (n+5) 2 2=some true:=XbL aa aa aa aa ae;have s:Qb8 (n+5) a 32=some true:=XbL aa aa aa g (by show a<4294967296;omega);have u:ZP .u64 2 0=2:=by decide +kernel
 have v:ZP .u64 a 2=a*2 ^ 2:=by show wU (a*4)=a*4;exact XA aa aa
 have w:bOr .u64 0 2=2:=by decide +kernel
 have y:bOr .u64 2 (a*2 ^ 2)=2+a*2 ^ 2:=Xcj aa aa ae g aa;have z:QaO (n+5) L (n+5) 0 0 0=some (.nxt (2+a*2 ^ 2)):=by rw[QaO,e,h];simp only[Xa,r,j,k2,u,w];rw[Wd aa,Wb,Wi,Wa,Xc aa];rw[QaO,e,g1];simp only[Xa,s,k,p,v,y];rw[Wd aa,Wb,Wi,Wa,Xc aa];rw[QaO,e];rw[We aa,Wa]
 rw[QfI,q,Xa,Xq,z,Xa,Xq,Xa,XA (n:=4*a) aa aa,XA aa aa];grind
end
section
variable {N:Nat}{h0:Wo}{l:List Int}
structure OU(h0:Wo)(w:WD)(n j u:Int)(ps:List Wv):Prop where
 rng:0<=j/\j<ps.length
 len:ps.length=w.h.p.length
 fit:0<=u/\u+n<=h0.c.W
 used:(pg ps j).u=u
 sp:∀i,0<=i->pg ps i=pg w.h.p i\/(pg ps i).s=1-h0.s
def Xp9(hN:NB N)(hb:HB h0)(hp:Ut h0){w:WD}(G:CI h0 l w){n:Int}(hn:1<=n)(hn2:n<=h0.c.W){β:Type}(B:Int->Int->Int->List Wv->List Int->Option β):
 (∃r,QcR N w n=some r/\r.2.2=false/\GR N h0.c h0.s n w.h.p w.t B=B 0 0 3 w.h.p w.t) \/
 ∃j u ps tk,OU h0 w n j u ps/\QcR N w n=some (⟨⟨w.h.c,w.h.w,ps.set j.toNat ⟨(pg ps j).k,(pg ps j).s,wI ((pg ps j).u+n),(pg ps j).P⟩,w.h.s,w.h.b⟩,w.o,tk,w.q,w.d,w.r⟩,Xj h0.c j u,true) /\
  GR N h0.c h0.s n w.h.p w.t B=B j u 0 ps tk:=by
 have S:=hN;unfold NB at S;have hpl:=G.plen;have hv:=Xu.1 hp.conf;have htl:=G.tl hb;have hpp:=hp.pages;have hsp:=hp.space;have T:=G.spc;have V:∀j u:Int,0<=j->j<w.h.p.length->0<=u->u+n<=h0.c.W->wU (wI (wI (4096+wI (j*w.h.c.W))+u))=Xj h0.c j u:=by intro j u h1 h2 h3 h4;have hm:=X4 hp.conf (i:=j) h1 aa;rw[G.conf,Xd (n:=j*h0.c.W) aa aa,Xd (n:=4096+j*h0.c.W) aa aa,Xd aa aa,XA aa aa];rfl
 rw[QcR,GR];rw[Xc aa,Xc aa,Xz,Xz];have new:(∃r,(bnd (Qbp N w.h.p 1) λv=>
  bif (decide (v<0))then some ((WD.mk zHp [] [] [] 0 (WP.mk 0 0 0 0 0 0)),0,false)
  else bnd (QbJ N w.h.p v (wI (1-w.h.s))) λD=>
  grd (w.t.length*8<=140737488355328) <|
  grd ((w.t.length+1)*8<=140737488355328) <|
  bnd (Xb D.1 v) λH=>
  bnd (Xb D.1 v) λI=>
  bnd (Xb D.1 v) λz=>
  some ((WD.mk (Wo.mk w.h.c w.h.w (D.1.set v.toNat (Wv.mk z.k z.s (wI (I.u+n)) z.P)) w.h.s w.h.b) w.o (w.t++[v]) w.q w.d w.r),(wU (wI ((wI (4096+(wI (v*w.h.c.W))))+H.u))),true))=some r/\r.2.2=false /\
   (bnd (Qei N w.h.p 1) λf=>
    bif (decide (f<0))then B 0 0 3 w.h.p w.t
    else bnd (Qeh N w.h.p f (wI (1-h0.s))) λA=>
    bif (A.2 != 0)then none
    else grd ((w.t.length+1)*8<=140737488355328) <|
    B f 0 0 A.1 (w.t++[f]))=B 0 0 3 w.h.p w.t) \/
  ∃j u ps tk,OU h0 w n j u ps/\(bnd (Qbp N w.h.p 1) λv=>
  bif (decide (v<0))then some ((WD.mk zHp [] [] [] 0 (WP.mk 0 0 0 0 0 0)),0,false)
  else bnd (QbJ N w.h.p v (wI (1-w.h.s))) λD=>
  grd (w.t.length*8<=140737488355328) <|
  grd ((w.t.length+1)*8<=140737488355328) <|
  bnd (Xb D.1 v) λH=>
  bnd (Xb D.1 v) λI=>
  bnd (Xb D.1 v) λz=>
  some ((WD.mk (Wo.mk w.h.c w.h.w (D.1.set v.toNat (Wv.mk z.k z.s (wI (I.u+n)) z.P)) w.h.s w.h.b) w.o (w.t++[v]) w.q w.d w.r),(wU (wI ((wI (4096+(wI (v*w.h.c.W))))+H.u))),true))=some (⟨⟨w.h.c,w.h.w,ps.set j.toNat ⟨(pg ps j).k,(pg ps j).s,wI ((pg ps j).u+n),(pg ps j).P⟩,w.h.s,w.h.b⟩,w.o,tk,w.q,w.d,w.r⟩,Xj h0.c j u,true) /\
   (bnd (Qei N w.h.p 1) λf=>
    bif (decide (f<0))then B 0 0 3 w.h.p w.t
    else bnd (Qeh N w.h.p f (wI (1-h0.s))) λA=>
    bif (A.2 != 0)then none
    else grd ((w.t.length+1)*8<=140737488355328) <|
    B f 0 0 A.1 (w.t++[f]))=B j u 0 ps tk:=by
  obtain⟨j,ej,hj⟩:=ZK (N:=N) (ps:=w.h.p) 1 aa aa
  rw[XbK aa aa,ej,Xa,Xa]
  rcases hj with rfl|hr
  .exact .inl ⟨_,rfl,rfl,rfl⟩
  .refine .inr ?_
   obtain⟨y,ey,Y⟩:=XcO (N:=N) (ps:=w.h.p) j (1-h0.s) aa aa
   have J:=Y.2.2 hr aa aa
   have⟨M,q1,q2,Z⟩:=Y.1 J
   have K:j<y.1.length:=aa
   have g:pg y.1 j=⟨1,1-h0.s,0,0⟩:=by rw[Z j M,Wp rfl]
   rw[Xd (n:=1-h0.s) aa aa,Xep aa aa,T,Xd (n:=1-h0.s) aa aa,ey,Xa,Xa,We aa,Wa,Wa,Xc aa,Xc aa,XG M K,Xa,Xa,Xa,J,Xc aa]
   refine⟨j,0,y.1,w.t++[j],⟨⟨M,K⟩,aa,⟨aa,aa⟩,by rw[g],λi L=>?_⟩,?_,rfl⟩
   .by_cases e:i=j
    .subst e;rw[g];exact .inr rfl
    .rw[Z i L,Wk e,Wk aa];exact .inl rfl
   .rw[show(pg y.1 j).u=0 by rw[g],V j 0 M aa aa aa]
 by_cases ht:0<(w.t.length:Int)
 .rw[Wd aa,Wb,Wb,Xd (n:=(w.t.length:Int)-1) aa aa];have L:=X0 (l:=w.t) (i:=(w.t.length:Int)-1) aa aa;generalize w.t[((w.t.length:Int)-1).toNat]'aa=j at L;have⟨O,R,t2,t3,t4⟩:=G.tk j (YT L);rw[L,Xa,Xa,Xa,Xa,Xa,XG O R,Xa,Xa,Xa,Xa,Xa,Wd (p:=j>=0) O,Wb,Xc aa,Wd (p:=j<_) R,Wb,G.conf];have U:=Xd (n:=(pg w.h.p j).u+n) aa aa;have e2:=Xd (n:=h0.c.W-(pg w.h.p j).u) aa aa;by_cases E:(pg w.h.p j).u+n<=h0.c.W
  .rw[U,e2,Wd (p:=(pg w.h.p j).u+n<=h0.c.W) E,Wd (p:=n<=h0.c.W-(pg w.h.p j).u) aa,Wb,Wb];refine .inr ⟨j,(pg w.h.p j).u,w.h.p,w.t,⟨⟨O,R⟩,rfl,⟨t3,E⟩,rfl,λi _=>.inl rfl⟩,?_,rfl⟩;have:=V j (pg w.h.p j).u O R t3 E;rw[G.conf]at this;rw[this,U]
  rw[U,e2,We (p:=(pg w.h.p j).u+n<=h0.c.W) E,We (p:=n<=h0.c.W-(pg w.h.p j).u) aa,Wa,Wa];rw[G.conf]at new;exact new
 grind
def Xqa(hN:NB N)(hb:HB h0)(hp:Ut h0){w:WD}(y:CI h0 l w){n:Int}(E:1<=n)(z:n<=h0.c.W):
 (∃r,QcR N w n=some r/\r.2.2=false/\Qct N w n=some (0,0,3,w.h.p,w.t)) \/
 ∃j u f tk,OU h0 w n j u f/\QcR N w n=some (⟨⟨w.h.c,w.h.w,f.set j.toNat ⟨(pg f j).k,(pg f j).s,wI ((pg f j).u+n),(pg f j).P⟩,w.h.s,w.h.b⟩,w.o,tk,w.q,w.d,w.r⟩,Xj h0.c j u,true) /\
  Qct N w n=some (j,u,0,f,tk):=by
 have h:=Xp9 hN hb hp y E z λA B D g v=>some (A,B,D,g,v);have e:Qct N w n=GR N h0.c h0.s n w.h.p w.t λA B D g v=>some (A,B,D,g,v):=by rw[←y.conf,←y.spc,Qct,Xz];rfl
 simp_all
end
section
variable {N:Nat}
def Jn{e:List Wv}{i:Nat}(h:i<e.length):pg e (i:Int)=e[i]:=by unfold pg;simp_all
def Xqb{ps e:List Wv}(f:e.length=ps.length)(h:∀i,0<=i->pg e i=pg ps i):e=ps:=by refine List.ext_getElem f λi g j=>?_;rw[←Jn g,←Jn j];simp_all
def Xqc{f:List Wv}(q:Wv->Bool){i k:Nat}(h:i+1+k<=f.length):((f.drop (i+1)).take k).all q=true↔∀m:Int,1<=m->m<=k->q (pg f (i+m))=true:=by
 rw[W9];constructor
 .intro g m p r;have e:pg f (i+m)=((f.drop (i+1)).take k)[m.toNat-1]'(by rw[Wj,Wl];omega):=by rw[Ih,ID,←Jn];congr 1;omega
  grind
 intro g x j;obtain⟨m,o,rfl⟩:=WJ j;rw[Wj,Wl]at o;rw[Ih,ID,←Jn];have:=g (m+1) aa aa;grind
structure OO(c:WV)(ps:List Wv)(i:Int):Prop where
 sp:0<=(pg ps i).s/\(pg ps i).s<=1
 pn:0<=(pg ps i).P/\(pg ps i).P<=2147483647
 k0:(pg ps i).k=0->pg ps i=Je
 k1:(pg ps i).k=1->0<=(pg ps i).u/\(pg ps i).u<=c.W
 k2:(pg ps i).k=2->1<=XF c (pg ps i).u/\i+XF c (pg ps i).u<=ps.length/\∀m,1<=m->m<XF c (pg ps i).u->(pg ps (i+m)).k=3/\(pg ps (i+m)).s=(pg ps i).s/\(pg ps (i+m)).u=0/\(pg ps (i+m)).P=0
 kd:(pg ps i).k=0\/(pg ps i).k=1\/(pg ps i).k=2
def Xev{s:Int}{p:Wv}:Yc s p=true↔p.k=3/\p.s=s/\p.u=0/\p.P=0:=by unfold Yc Kb;grind
def Xck{c:WV}{g:List Wv}{i:Nat}(A:i<g.length):(Yb c g i g[i]≠0↔OO c g i)/\(OO c g i->Yb c g i g[i]=if g[i].k=2 then(XF c g[i].u).toNat else 1):=by
 have e:=Jn A;generalize hp:g[i]=p at *;have tl:∀(h:i+XF c p.u<=g.length)(j:1<=XF c p.u),((g.drop (i+1)).take ((XF c p.u).toNat-1)).all (Yc p.s)=true↔∀m,1<=m->m<XF c p.u->(pg g (i+m)).k=3/\(pg g (i+m)).s=p.s/\(pg g (i+m)).u=0/\(pg g (i+m)).P=0:=λh j=>by rw[Xqc _ aa];exact⟨λq m a b=>Xev.1 (q m a aa),λq m a b=>Xev.2 (q m a aa)⟩
 unfold Yb;constructor
 .constructor
  .intro h;by_cases h0:p.k=0
   .rw[Wp h0]at h;by_cases j:p.s=0/\p.u=0/\p.P=0
    .obtain⟨a,b,d⟩:=j;refine⟨?_,?_,?_,?_,?_,?_⟩<;>rw[e]
     .omega
     .omega
     .intro _;obtain⟨k,s,u,q⟩:=p;simp_all[Je]
     .intro h;omega
     .intro h;omega
     exact .inl h0
    rw[Wk j]at h;exact absurd rfl h
   rw[Wk h0]at h;by_cases j:(p.s=0\/p.s=1)/\0<=p.P/\p.P<=2147483647;rotate_left
   .rw[Wk j]at h;exact absurd rfl h
   rw[Wp j]at h;by_cases w:p.k=1
   .rw[Wp w]at h;by_cases o:0<=p.u/\p.u<=c.W
    .refine⟨?_,?_,?_,?_,?_,?_⟩<;>rw[e]
     .omega
     .omega
     .intro h;omega
     .exactλ_=>o
     .intro h;omega
     exact .inr (.inl w)
    rw[Wk o]at h;exact absurd rfl h
   rw[Wk w]at h;by_cases o:p.k=2;rotate_left
   .rw[Wk o]at h;exact absurd rfl h
   by_cases y:1<=XF c p.u/\(XF c p.u).toNat<=g.length-i/\((g.drop (i+1)).take ((XF c p.u).toNat-1)).all (Yc p.s)=true
   .refine⟨?_,?_,?_,?_,?_,?_⟩<;>rw[e]
    .omega
    .omega
    .omega
    .omega
    .exactλ_=>⟨y.1,aa,(tl aa y.1).1 y.2.2⟩
    exact .inr (.inr o)
   simp_all
  intro b;have f:=b.kd;have z:=b.sp;have r:=b.pn;have b0:=b.k0;have v:=b.k1;have b2:=b.k2;rw[e]at f z r b0 v b2;rcases f with f|f|f
  .rw[Wp f,b0 f,Wp ⟨rfl,rfl,rfl⟩];omega
  .rw[Wk aa,Wp ⟨aa,r⟩,Wp f,Wp (v f)];omega
  grind
 intro b;have f:=b.kd;have z:=b.sp;have r:=b.pn;have b0:=b.k0;have v:=b.k1;have b2:=b.k2;rw[e]at f z r b0 v b2;rcases f with f|f|f
 .rw[Wp f,b0 f,Wp ⟨rfl,rfl,rfl⟩];rfl
 .rw[Wk aa,Wp ⟨aa,r⟩,Wp f,Wp (v f),Wk aa]
 grind
structure OI(c:WV)(ps:List Wv):Prop where
 hd:∀i:Int,0<=i->i<ps.length->(pg ps i).k≠3->OO c ps i
 tl:∀i:Int,0<=i->i<ps.length->(pg ps i).k=3->∃k:Int,0<=k/\k<i/\OO c ps k/\(pg ps k).k=2/\i<k+XF c (pg ps k).u
def XgR{h:Wo}(o:h.p.length<=100000)(hN:1000000<N):∀(n i:Nat),i<=h.p.length->Qaf N h n (i:Int)=some (.nxt ())->∀j:Nat,i<=j->j<h.p.length->∃k s:Nat,i<=k/\k<=j/\j<k+s/\∃r:k<h.p.length,Yb h.c h.p k h.p[k]=s
 |0,i,_,e,_,_,_=>by simp_all[Qaf]
 |n+1,i,u,e,j,v,q=>by
  have g:i<h.p.length:=aa;rw[Qaf,Wd (show(i:Int)<_ by omega),Wb,Kz o hN g,Xa]at e;have w:=Xdb (c:=h.c) g (p:=h.p[i]);generalize y:Yb h.c h.p i h.p[i]=s at *;by_cases h0:s=0
  .simp_all
  rw[show((s:Int)==0)=false by simp_all,Wa,Xd aa aa,show(i:Int)+(s:Int)=((i+s:Nat):Int) by omega]at e;by_cases z:j<i+s
  .grind
  have⟨k,t,a,b,d,f⟩:=XgR o hN n (i+s) aa e j aa q;grind
def XgS{h:Wo}:∀(n:Nat)(i:Int){b:Bool},Qaf N h n i=some (.ret b)->b=false
 |0,i,b,e=>by simp_all[Qaf]
 |n+1,i,b,e=>by
  rw[Qaf]at e;cases g:decide (i<(h.p.length:Int))with
  |false=>simp_all
  |true=>
   rw[g,Wb]at e;cases f:QhG N h.c h.p i with
   |none=>simp_all[f,ZR]
   |some y=>
    rw[f,Xa]at e;cases j:y==0 with
    |true=>simp_all
    |false=>rw[j,Wa]at e;exact XgS n _ e
def Xmr(hN:NB N){h:Wo}(hb:HB h)(ep:Qac N h=some true):OI h.c h.p:=by
 have o:1000000<N:=by unfold NB at hN;omega
 have hp:=Yq hN hb ep;have e:=ep;rw[←Yd hb.2 o,Jm hp.pre]at e;have z:Qaf N h N 0=some (.nxt ()):=by
  cases q:Qaf N h N 0 with
  |none=>simp_all[q,ZR]
  |some x=>
   rw[q,Xa]at e;cases x with
   |ret a=>rw[XD]at e;cases e;exact absurd (XgS N 0 q) ab
   |nxt u=>rfl
 have w:=XgR hb.2 o N 0 aa z;refine⟨λi h0 q y=>?_,λi h0 q y=>?_⟩
 .obtain⟨j,rfl⟩:∃j:Nat,i=(j:Int):=⟨i.toNat,aa⟩
  have⟨k,s,_,A,B,g,D⟩:=w j aa aa;have r:=Xck (c:=h.c) g;have hb:=r.1.1 aa;by_cases v:j=k
  .simp_all
  have:=r.2 hb;by_cases f:h.p[k].k=2
  .rw[Wp f]at this;have:=(hb.k2 (by rw[Jn g];exact f)).2.2 ((j:Int)-k) aa (by rw[Jn g];omega);rw[show(k:Int)+((j:Int)-k)=j by omega]at this;exact absurd this.1 y
  grind
 obtain⟨j,rfl⟩:∃j:Nat,i=(j:Int):=⟨i.toNat,aa⟩
 have⟨k,s,_,A,B,g,D⟩:=w j aa aa;have r:=Xck (c:=h.c) g;have hb:=r.1.1 aa;have E:=r.2 hb;have G:=hb.kd;have v:j≠k:=by rintro rfl;omega
 by_cases f:h.p[k].k=2
 .rw[Wp f]at E;exact⟨k,aa,aa,hb,by rw[Jn g];exact f,by rw[Jn g];omega⟩
 grind
def SpanS(c:WV)(e f:List Wv):Prop:=f.length=e.length/\∀i(g:i<e.length)(h:i<f.length),Yb c f i f[i]=Yb c e i e[i]
def SpanS.refl(c:WV)(ps:List Wv):SpanS c ps ps:=⟨rfl,λ_ _ _=>rfl⟩
def SpanS.trans{c:WV}{a b d:List Wv}(e:SpanS c a b)(f:SpanS c b d):SpanS c a d:=⟨f.1.trans e.1,λi g h=>(f.2 i (by rw[e.1];omega) h).trans (e.2 i g (by rw[e.1];omega))⟩
def Xds{c:WV}{e qs:List Wv}(hN:OI c e)(p:qs.length=e.length)(h:∀i:Int,0<=i->i<e.length->((pg e i).k<=1/\(pg qs i).k=1/\(0<=(pg qs i).s/\(pg qs i).s<=1)/\(0<=(pg qs i).P/\(pg qs i).P<=2147483647)/\0<=(pg qs i).u/\(pg qs i).u<=c.W) \/
  ((pg qs i).k=(pg e i).k/\(pg qs i).u=(pg e i).u/\(pg qs i).P=(pg e i).P/\((pg qs i).s=(pg e i).s\/2<=(pg e i).k/\0<=(pg qs i).s/\(pg qs i).s<=1)))(ht:∀i m:Int,0<=i->(pg e i).k=2->1<=m->m<XF c (pg e i).u->i+m<e.length->(pg qs (i+m)).s=(pg qs i).s):SpanS c e qs:=by
 refine⟨p,λi q r=>?_⟩;have y:=Jn q;have z:=Jn r;have A:=Xck (c:=c) q;have B:=Xck (c:=c) r;by_cases D:(pg e i).k=3
 .have K:¬OO c e i:=λb=>by have:=b.kd;omega
  have L:¬OO c qs i:=λb=>by have:=b.kd;have:=h i aa aa;omega
  simp_all
 have b:=hN.hd i aa aa D;have hb:=b.kd;have b0:=b.k0;have M:=b.k1;have b2:=b.k2;have O:=b.sp;have R:=b.pn;have f:=h i aa aa;have E:OO c qs i:=by
  refine⟨aa,aa,λo=>?_,λo=>?_,λo=>?_,aa⟩
  .rcases f with g|⟨g1,g2,g3,g4⟩
   .omega
   have:=b0 aa;rw[this]at g1 g2 g3 g4;have g4:(pg qs i).s=0:=by rcases g4 with g|g;exact g;exact absurd g.1 ae
   have G:pg qs i=⟨(pg qs i).k,(pg qs i).s,(pg qs i).u,(pg qs i).P⟩:=rfl;rw[G,g1,g2,g3,g4];rfl
  .omega
  rcases f with g|⟨g1,g2,g3,g4⟩
  .omega
  have j:(pg e i).k=2:=aa;have⟨H,I,J⟩:=b2 j;rw[g2,p];refine⟨H,I,λm v w=>?_⟩;have⟨S,T,U,V⟩:=J m v w;have Y:=h (i+m) aa aa;refine⟨aa,ht i m aa j v w aa,aa,aa⟩
 rw[A.2 b,B.2 E];rw[y]at f hb;rw[z]at f;by_cases o:e[i].k=2
 .simp_all
 rw[Wk o,Wk aa]
def SpanS.proper(hN:NB N){h:Wo}(hb:HB h)(ep:Qac N h=some true){f:List Wv}(g:SpanS h.c h.p f){ws:List Int}(hw:ws.length=h.w.length){b:Int}(e:b = -1\/(0<=b/\b<f.length/\(pg f b).k=1)):Qac N ⟨h.c,ws,f,h.s,b⟩=some true:=
 Xb2 hN hb ep g.1 (λi j=>g.2 i j (by rw[g.1];omega)) hw e
end
section
variable {N:Nat}{h0:Wo}{l:List Int}
def Xcl{α:Type}{l:List α}{o n:Nat}{i:Int}(f:0<=i)(g:i<n)(e:o+i.toNat<l.length):KC l o n i=some (l[o+i.toNat]'e):=by unfold KC;simp_all
def Xew{c:WV}(f:Yk c=true){a:Int}(g:4096<=a/\a<4096+c.p*c.W):Qb2 N c a=some (pgi c a,pgo c a,0)/\wI (wI (pgi c a*c.W)+pgo c a)=a-4096:=by
 have⟨e,h,j,k,o⟩:=KG f g;have q:=X4 f (i:=pgi c a) h j;refine⟨?_,?_⟩
 .rw[XhP _ _ _ aa,JP,f,Wk ab,Wp g];rfl
 rw[Xd (n:=pgi c a*c.W) aa aa,Xd aa aa];unfold Xj at e;omega
def XsQ{c c':WV}(e:c=c')(f:Yk c=true)(hN:1000000<N){cp X n i u:Int}{ws q:List Int}{ps:List Wv}{β:Type}(j:Int->Int->Int->List Int->List Wv->List Int->Option β)(hw:(ws.length:Int)=c.p*c.W)(r:0<=X)(B:1<=n)(D:X+n<=ws.length)(g:0<=i)(o:i<c.p)(v:0<=u)(E:u+n<=c.W)(w:(ps.length:Int)=c.p)(G:q.length<=100000):
 FT N c' cp ws ps q X (X+n) j i u=j (Xj c i u) 0 (wI (cp+1)) ((ovr ws ((ws.drop X.toNat).take n.toNat) (ix (Xj c i u))).set X.toNat (wU (wU (4*Xj c i u)+2))) (ps.set i.toNat ⟨(pg ps i).k,(pg ps i).s,wI ((pg ps i).u+n),(pg ps i).P⟩) (q++[Xj c i u]):=by
 subst e;have H:=X4 f (i:=i) g o;have I:Xj c i u=4096+i*c.W+u:=rfl;have y:4096<=Xj c i u/\Xj c i u<4096+c.p*c.W:=aa;have⟨z,A⟩:=Xew (N:=N) f y;have eL:((X+n).toNat-X.toNat)=n.toNat:=aa;have eN:(n.toNat:Int)=n:=aa;have h:ovr ws ((ws.drop X.toNat).take n.toNat) (ix (Xj c i u))=(ws.take (Xj c i u-4096).toNat++(ws.drop X.toNat).take n.toNat)++ws.drop ((Xj c i u-4096).toNat+n.toNat):=by unfold ovr ix;rw[Wj,Wl,Of aa]
 rw[FT,VJ,KO,f,Wk ab,Wp ⟨g,o,v,aa⟩,Xa];rw[show((0:Int) != 0)=false from rfl,Wa,eL,eN,Xc aa,z,Xa];rw[show((0:Int) != 0)=false from rfl,Wa,Xc aa];rw[A,Xd (n:=(ws.length:Int)-(Xj c i u-4096)) aa aa,We (p:=n>_) aa,Wa];rw[Xd (n:=Xj c i u-4096+n) aa aa,Xc aa,XgQ hN aa aa,Xax,Wk aa,Xa];rw[show((0:Int) != 0)=false from rfl,Wa,Xc aa,←h,Xcl aa aa (by grind),Xa,XG g aa,Xa,Xc aa,Xa,Xc aa]
def Xru(w:WD)(a:Int)(lp:Nat->Int->List Wv->Option (List Wv))(h0:∀i e,lp 0 i e=none)(j:∀n i e,lp (n+1) i e=(grd (e.length<=140737488355328) <|
 bif (decide (i<(e.length:Int)))then(bnd (Xb e i) λg=>
  bif (g.k==3)then(bnd (Xb e i) λf=>
   lp n (wI (i+1)) (e.set i.toNat (Wv.mk f.k (wI (1-w.h.s)) f.u f.P)))
  else some e)
 else some e)):∀(n:Nat)(i:Int)(e:List Wv),lp n i e=QaR N w a n i e
 |0,i,e=>by rw[h0,QaR]
 |n+1,i,e=>by rw[j,QaR];have:=Xru w a lp h0 j n;simp_all
def Prm(w:WD)(i:Int):Prop:=(0<=i/\i<w.h.p.length)/\(pg w.h.p i).k=1/\(pg w.h.p i).s≠w.h.s/\i∉w.t
def XoE(hN:NB N){w:WD}{i:Int}(B:w.t.length<=100000)(hp:w.h.p.length<=100000)(A:0<=w.h.s/\w.h.s<=1)(g:∀i,0<=i->(pg w.h.p i).k=1->0<=(pg w.h.p i).s/\(pg w.h.p i).s<=1){β:Type}:
 ∃b,(b=true↔Prm w i)/\Qdq N w i=some b/\∀K:Bool->Option β,(jn K λj=>bif (decide (i<0))then j false
  else grd (w.h.p.length<=140737488355328) <|
  bif (decide (i>=(w.h.p.length:Int)))then j false
  else bnd (Xb w.h.p i) λf=>
  jn (λ(o:Bool)=>
   j o) λq=>
  bif (f.k==1)then(bif (f.s==(wI (1-w.h.s)))then(bnd (Qbj N w.t i) λr=>
      q (!r))
   else q false)
  else q false)=K b:=by
 have u:=hN;unfold NB at u;rw[Qdq];by_cases v:i<0
 .exact⟨false,⟨λh=>(by grind),λh=>by have:=h.1;omega⟩,by simp_all,λK=>by rw[Xz,Wd v,Wb]⟩
 by_cases z:i>=(w.h.p.length:Int)
 .exact⟨false,⟨λh=>(by grind),λh=>by have:=h.1;omega⟩,by simp_all,λK=>by rw[Xz,We v,Wa,Xc aa,Wd z,Wb]⟩
 rw[We v,Wa,We z,Wa,XG aa aa,Xa];by_cases e:(pg w.h.p i).k=1
 .have:=g i aa e;rw[XO e,Wb];by_cases y:(pg w.h.p i).s=w.h.s
  .exact⟨false,⟨λh=>(by grind),λh=>absurd y h.2.2.1⟩,by simp_all,λK=>by rw[Xz,Wa,Xc aa,Wa,Xa,Xz,XO e,Wb,Xd (n:=1-w.h.s) aa aa,Xf aa,Wa]⟩
  exact⟨!w.t.contains i,⟨λh=>⟨aa,e,y,by simp_all⟩,λh=>by simpa using h.2.2.2⟩,by rw[Xl y,Wb,Xkd _ _ aa aa,Xa],λK=>by rw[Xz,Wa,Xc aa,Wa,Xa,Xz,XO e,Wb,Xd (n:=1-w.h.s) aa aa,XO aa,Wb,Xkc _ _ aa aa,Xa]⟩
 exact⟨false,⟨λh=>(by grind),λh=>absurd h.2.1 e⟩,by grind,λK=>by rw[Xz,Wa,Xc aa,Wa,Xa,Xz,Xf e,Wa]⟩
def Xfq(hN:NB N){w:WD}{i:Int}(g:w.t.length<=100000)(hp:w.h.p.length<=100000)(e:0<=w.h.s/\w.h.s<=1)(f:∀i,0<=i->(pg w.h.p i).k=1->0<=(pg w.h.p i).s/\(pg w.h.p i).s<=1):
 ∃b,(b=true↔Prm w i)/\Qdq N w i=some b/\Qdr N w i=some b:=by have⟨b,j,o,q⟩:=XoE (β:=Bool) (i:=i) hN g hp e f;exact⟨b,j,o,q some⟩
end
section
variable {N:Nat}{h0:Wo}{l:List Int}
structure On(h0:Wo)(l:List Int)(w:WD):Prop where
 q:∀a∈w.q,okH (wd w.h.w a)=true
 old:∀a∈l,a∉w.q->VC (wd w.h.w a)=false->okH (wd w.h.w a)=true
 fw:∀a∈l,VC (wd w.h.w a)=true->YC .u64 (wd w.h.w a) 2≠0
 ws:∀x∈w.h.w,tU x
 ss:SpanS h0.c h0.p w.h.p
 k1:∀i,0<=i->(pg h0.p i).k=1->(pg w.h.p i).k=1
 pr:∀i,Prm w i->(pg h0.p i).k=1/\(pg w.h.p i).u=(pg h0.p i).u
 hw:∀b∈l,Prm w (pgi h0.c b)->wd w.h.w b=wd h0.w b
 bm:w.h.b=h0.b
 ol:w.o=Ki h0 l
def KeepW(w e:WD):Prop:=e=⟨⟨w.h.c,e.h.w,e.h.p,w.h.s,w.h.b⟩,w.o,e.t,e.q,w.d,⟨e.r.j,e.r.K,w.r.F,w.r.E,w.r.f,w.r.y⟩⟩
def XiZ(w:WD)(a:Int):∀(n:Nat)(i:Int)(f r:List Wv),0<=i->QaR N w a n i f=some r->∀j,0<=j->(((i<=j/\j<f.length/\∀x,i<=x->x<=j->(pg f x).k=3)/\pg r j=⟨3,wI (1-w.h.s),(pg f j).u,(pg f j).P⟩)\/(¬(i<=j/\j<f.length/\∀x,i<=x->x<=j->(pg f x).k=3)/\pg r j=pg f j))
 |0,i,f,r,_,e,_,_=>by simp_all[QaR]
 |n+1,i,f,r,h0,e,j,q=>by
  rw[QaR]at e;by_cases p:f.length<=140737488355328;rotate_left
  .unfold grd at e;rw[Wk p]at e;cases e
  rw[Xc p]at e;by_cases g:i<(f.length:Int);rotate_left
  .rw[We g,Wa]at e;cases e;exact .inr ⟨λh=>aa,rfl⟩
  rw[Wd g,Wb,XG h0 g,Xa,Xa]at e;by_cases o:(pg f i).k=3;rotate_left
  .rw[Xf o,Wa]at e;cases e;exact .inr ⟨λh=>o (h.2.2 i aa h.1),rfl⟩
  rw[XO o,Wb,Xd (n:=i+1) aa aa,o]at e;have y:=λx v=>ZT (ps:=f) (j:=x) ⟨3,wI (1-w.h.s),(pg f i).u,(pg f i).P⟩ h0 g v;have z:=XiZ w a n (i+1) _ r aa e j q;grind
def Xrv{v:Int}(h:0<=v):YC .u64 v 2=v / 4:=YG v 2 aa h
def Xqd{v:Int}(f:4096<=v)(g:v<4294967296):VC (wU (wU (4*v)+2))=true/\YC .u64 (wU (wU (4*v)+2)) 2=v/\tU (wU (wU (4*v)+2)):=by
 rw[XA (n:=4*v) aa aa,XA aa aa];have e:YC .u64 (4*v+2) 2=v:=by rw[Xrv aa];omega
 refine⟨?_,e,⟨aa,aa⟩⟩;unfold VC;grind
def XgT{ws:List Int}(h:∀x∈ws,tU x)(a:Int):tU (wd ws a):=by
 unfold wd;rw[Wq];cases e:ws[ix a]? with
 |none=>simp
 |some x=>grind
def XoF{v:Int}(e:tU v)(h:okH v=true):VC v=false:=by rw[Xl3 e]at h;unfold VC;grind
def On.push{w:WD}(f:On h0 l w){a:Int}(h:okH (wd w.h.w a)=true)(g:WP):On h0 l {w with q:=w.q++[a],r:=g}:=by
 refine⟨λb hb=>?_,λb hb j k=>f.old b hb (λe=>j (W4 _ e)) k,f.fw,f.ws,f.ss,f.k1,f.pr,f.hw,f.bm,f.ol⟩;rcases WG.1 hb with hb|hb
 .exact f.q b hb
 simp_all
structure OL(h0:Wo)(w:WD)(qs:List Wv)(tk:List Int):Prop where
 ss:SpanS h0.c w.h.p qs
 kd:∀i,0<=i->(pg w.h.p i).k=1->(pg qs i).k=1
 pr:∀i:Int,0<=i->i<qs.length->(pg qs i).k=1->i∉tk->pg qs i=pg w.h.p i/\i∉w.t
def Ow{w:WD}{e:List Wv}{tk:List Int}(g:OL h0 w e tk){w':WD}(j:w'.h.p=e)(k:w'.t=tk)(e3:w'.h.s=w.h.s){i:Int}(h:Prm w' i):Prm w i/\pg w'.h.p i=pg w.h.p i:=by have⟨⟨a,b⟩,c,d,f⟩:=h;rw[j]at b c d⊢;rw[k]at f;have⟨g1,g2⟩:=g.pr i a b c f;refine⟨⟨⟨a,by rw[←g.ss.1];omega⟩,by simp_all,by simp_all,g2⟩,g1⟩
def On.spn(hN:NB N)(hb:HB h0)(ep:Qac N h0=some true){w:WD}(e:On h0 l w):OI h0.c w.h.p:=by have h:=e.ss.proper hN hb ep (ws:=h0.w) rfl (b:=-1) (.inl rfl);exact Xmr hN (h:=⟨h0.c,h0.w,w.h.p,h0.s,-1⟩) ⟨hb.1,by rw[e.ss.1];exact hb.2⟩ h
def OI.sp{c:WV}{e:List Wv}(h:OI c e):∀i,0<=i->(pg e i).k=1->0<=(pg e i).s/\(pg e i).s<=1:=λi g f=>by
 by_cases j:i<e.length
 .exact(h.hd i g j aa).sp
 unfold pg at f;rw[Wq,WZ aa]at f;cases f
def Xrw{w:WD}(L:OI h0.c w.h.p)(O:0<=w.h.s/\w.h.s<=1){a i:Int}{n:Nat}{v:List Wv}(R:0<=i)(S:i<w.h.p.length)(I:(pg w.h.p i).k=2)(T:v.length=w.h.p.length)(e:QaR N w a n (i+1) (w.h.p.set i.toNat ⟨(pg w.h.p i).k,wI (1-w.h.s),(pg w.h.p i).u,(pg w.h.p i).P⟩)=some v):OL h0 w v w.t:=by
 have hw:wI (1-w.h.s)=1-w.h.s:=Xd aa aa;have M:=λx y=>ZT (ps:=w.h.p) (j:=x) ⟨(pg w.h.p i).k,wI (1-w.h.s),(pg w.h.p i).u,(pg w.h.p i).P⟩ R S y;have U:=λj D=>XiZ w a n (i+1) _ v aa e j D;have run:∀j,0<=j->(i<j/\j<w.h.p.length/\(∀x,i<x->x<=j->(pg w.h.p x).k=3)/\pg v j=⟨3,1-w.h.s,(pg w.h.p j).u,(pg w.h.p j).P⟩)\/(¬(i<j/\j<w.h.p.length/\∀x,i<x->x<=j->(pg w.h.p x).k=3)/\pg v j=if j=i then⟨2,1-w.h.s,(pg w.h.p i).u,(pg w.h.p i).P⟩else pg w.h.p j):=λj D=>by
  have h:=U j D;rw[WN,M j D,hw,I]at h;have eq:∀x,i<x->pg (w.h.p.set i.toNat ⟨2,1-w.h.s,(pg w.h.p i).u,(pg w.h.p i).P⟩) x=pg w.h.p x:=λx y=>by have:=M x aa;rw[I,hw]at this;rw[this,Wk aa]
  rcases h with⟨⟨E,J,z⟩,b⟩|⟨a,b⟩
  .rw[Wk (show¬j=i by omega)]at b;exact .inl ⟨aa,J,λx y o=>by rw[←eq x y];exact z x aa o,b⟩
  exact .inr ⟨λh=>a ⟨aa,h.2.1,λx y o=>by rw[eq x aa];exact h.2.2 x aa o⟩,b⟩
 refine⟨Xds L T (λj G H=>.inr ?_) λk m k0 kk V W Y=>?_,λj G H=>?_,λj G H jk jt=>?_⟩
 .rcases run j G with⟨E,J,z,b⟩|⟨a,b⟩
  .have:=z j E aa;rw[b,this];exact⟨rfl,rfl,rfl,.inr ⟨aa,by show 0<=1-w.h.s;omega,by show 1-w.h.s<=1;omega⟩⟩
  rw[b];by_cases q:j=i
  .rw[Wp q,q];exact⟨I.symm,rfl,rfl,.inr ⟨aa,by show 0<=1-w.h.s;omega,by show 1-w.h.s<=1;omega⟩⟩
  rw[Wk q];exact⟨rfl,rfl,rfl,.inl rfl⟩
 .have K:=L.hd k k0 aa aa;have r:=(K.k2 kk).2.2;by_cases A:k=i
  .subst A;have f:=run k k0;have g:=run (k+m) aa;have Z:∀x,k<x->x<=k+m->(pg w.h.p x).k=3:=λx y hxm=>by have:=(r (x-k) aa aa).1;rwa[show k+(x-k)=x by omega]at this
   rcases f with f|⟨_,f⟩
   .omega
   rcases g with g|⟨g,_⟩
   .rw[f,g.2.2.2,Wp rfl]
   exact absurd ⟨aa,Y,Z⟩ g
  have f:=run k k0;have g:=run (k+m) aa;have t:=r m V W;rcases f with f|⟨_,f⟩
  .have:=f.2.2.1 k f.1 aa;omega
  rw[Wk A]at f;rcases g with g|⟨_,g⟩
  .by_cases hlt:k<i
   .have:=(r (i-k) aa aa).1;rw[show k+(i-k)=i by omega]at this;omega
   have:=g.2.2.1 k aa aa;omega
  by_cases B:k+m=i
  .rw[B]at t;omega
  rw[Wk B]at g;rw[f,g];exact t.2.1
 .rcases run j G with⟨E,J,z,b⟩|⟨a,b⟩
  .have:=z j E aa;omega
  rw[b,Wk (λe=>by rw[e]at H;omega)];exact H
 grind
def XoG{w A:WD}(B:OI h0.c w.h.p)(E:0<=w.h.s/\w.h.s<=1)(D:∀j∈w.t,(pg w.h.p j).k=1){n at_ j u:Int}(R:0<=n)(o:Ox h0 w n A at_ j u):OL h0 w A.h.p A.t:=by
 have r:=o.rng;have t:=o.this;have f:=o.fit;have G:(pg w.h.p j).k=0\/(pg w.h.p j).k=1:=by rcases o.way with g|g;exact .inr (D j g.1);exact .inl g.1
 have hb:=B.hd j r.1 r.2 aa;have H:=hb.sp;have I:=hb.pn;refine⟨Xds B o.plen (λi v J=>?_) λi m v z K L S=>?_,λi v z=>?_,λi v J z y=>?_⟩
 .by_cases q:i=j
  .subst q;rcases o.sp with g|g<;>rw[g.1,g.2]<;>omega
  rw[o.other i v q];omega
 .have tl:=((B.hd i v aa aa).k2 z).2.2 m K L;have M:i≠j:=λe=>by rw[e]at z;omega
  have O:i+m≠j:=λe=>by rw[e]at tl;omega
  rw[o.other i v M,o.other (i+m) aa O];omega
 .by_cases q:i=j
  .simp_all
  rw[o.other i v q];omega
 have q:i≠j:=by
  rintro rfl;rcases o.way with g|g
  .rw[g.2.1]at y;exact y g.1
  rw[g.2.1]at y;simp at y
 refine⟨o.other i v q,λh=>y ?_⟩;rcases o.way with g|g<;>rw[g.2.1]
 .exact h
 simp_all
def On.pages{w:WD}(e:On h0 l w){f:List Wv}(h:OL h0 w f w.t):On h0 l {w with h:={w.h with p:=f}}:=
 ⟨e.q,e.old,e.fw,e.ws,e.ss.trans h.ss,λi g j=>h.kd i g (e.k1 i g j),λi hp=>by
  have:=Ow (w':={w with h:={w.h with p:=f}}) h rfl rfl rfl hp
  rw[this.2];exact e.pr i this.1,λb hb hp=>e.hw b hb (Ow (w':={w with h:={w.h with p:=f}}) h rfl rfl rfl hp).1,e.bm,e.ol⟩
def Xqe(hN:NB N)(R:Start N h0 l){w:WD}{O:Int->Prop}{s:Int->Int}(z:CI h0 l w)(D:Om h0 l w O s)(A:On h0 l w){a:Int}(ta:tU a):
 (∃r w2,Qa7 N w a=some r/\r.2.2≠0/\Qa4 N w a=some (0,r.2.2,w2)) \/
 ∃w' to,Qa7 N w a=some (w',to,0)/\OC h0 l w w' O s/\On h0 l w'/\tU to/\(a≠0->to≠0)/\KeepW w w'/\Qa4 N w a=some (to,0,w'):=by
 have hN':=hN;unfold NB at hN';have hb:=R.hb;have hql:=z.ql hb;have htl:=z.tl hb;have hwl:=z.wl hb;have hww:=z.wlen;have hpl:=z.plen;have hsl:=R.st.len;have hspc:=z.spc;have J:=z.conf;have hol:=z.old.length_le;have same:OC h0 l w w O s:=⟨z,⟨O,s,D,λ_ h=>⟨h,rfl⟩⟩,rfl,Uf _⟩
 have kp:KeepW w w:=rfl;have hlp:∀i ps,QbN N w a N i ps=QaR N w a N i ps:=λi ps=>Xru w a (λn i ps=>QbN N w a n i ps) (λi ps=>by rfl) (λn i ps=>by rfl) N i ps;rw[Qa4,Xz,Qa7];by_cases h1:a=0
 .rw[XO h1,Wb,Wb];grind
 rw[Xf h1,Wa,Wa,VN _ _ aa aa,YM a aa aa,Xa,Xa];cases h2:w.q.contains a with
 |true=>grind
 |false=>
 have hq:=Z9 h2;rw[Wa,Wa,VN _ _ aa aa,YM a aa aa,Xa,Xa];cases h3:w.o.contains a with
 |false=>simp
 |true=>
 have g:a∈l:=z.old.subset (Zm h3);have hne:l≠[]:=List.ne_nil_of_mem g;have hp:=R.prop hne;have hg:=R.good hne;have hat:=R.st.obj.at_ a g;have ep:Qac N h0=some true:=by obtain⟨r,Z,hr⟩:=Xd1 hN hb a;rw[R.st.obj.ev a g]at Z;obtain rfl:=WE Z;exact(hr rfl).2.1
 have L:=A.spn hN hb ep;have hwd0:=hp.words;have hpg0:=hp.pages;have hvc:=Xu.1 hp.conf;have M:=hat.rng;have hspr:=hp.space;have⟨_,q0,q1,_⟩:=KG hp.conf M;obtain⟨o1,o2⟩:Qb2 N w.h.c a=some (pgi h0.c a,pgo h0.c a,0)/\wI (wI (pgi h0.c a*w.h.c.W)+pgo h0.c a)=a-4096:=by rw[J];exact Xew (N:=N) hp.conf M
 have hin:inW w.h.w a:=by unfold inW;omega
 have hm4:h0.c.p*h0.c.W<=4096:=(X4 hp.conf (i:=0) aa aa).2.2;have tw:=XgT A.ws a;have gp:∀n:Nat,1<=n->KC w.h.w (a-4096).toNat n 0=some (wd w.h.w a):=by intro n hn;rw[Xcl aa aa aa];unfold wd ix;rw[Wq,Wc aa];simp
 have hof:Qc8 N w.h.c a=some (pgi h0.c a,pgo h0.c a,0):=by rw[JP,z.conf,hp.conf,Wk ab,Wp M];rfl
 rw[Wi,Wa,Wa,o1,Xa];rw[show((0:Int) != 0)=false from rfl,Wa,Xc aa,o2,Xd (n:=(w.h.w.length:Int)-(a-4096)) aa aa,We aa,Wa,Xd (n:=a-4096+1) aa aa,Xc aa,
  gp _ aa,Xa,Xdr aa tw,YO hwl,Xa,Wp hin,JO,Xa]
 rw[show w.h.w.getD (ix a) 0=wd w.h.w a from rfl,JO,Xa];cases h4:VC (wd w.h.w a)with
 |true=>refine .inr ⟨w,_,rfl,same,A,?_,λ_=>A.fw a g h4,kp,rfl⟩;simp[Xrv,tw]
 |false=>
 have hok:=A.old a g hq h4;rw[Wk ab,Wa,Wa,hof,Xa,Xa,Xc aa];rw[show((0:Int) != 0)=false from rfl,Wa,We (p:=pgi h0.c a>=_) aa,Wa,Wa];have⟨b,hbp,eb,hb'⟩:=Xfq (N:=N) (w:=w) (i:=pgi h0.c a) hN htl aa aa L.sp;simp only[Xc (p:=w.h.p.length<=140737488355328) aa];rw[hb',eb,Xa,Xa];cases b with
 |true=>simp only[Wb,Qeb,Xc (p:=w.q.length*8<=140737488355328) aa,Xc (p:=(w.q.length+1)*8<=140737488355328) aa,Xa];exact .inr ⟨_,a,rfl,z.push D (D.old a g).1 hq _,A.push hok _,ta,λh=>h,rfl,rfl⟩
 |false=>
 simp only[Wa,XG (ps:=w.h.p) q0 aa,Xa];by_cases S:(pg w.h.p (pgi h0.c a)).k=2
 .simp only[XO S,Wb,hlp,Xd (n:=pgi h0.c a+1) aa aa,Xc (p:=w.h.p.length*32<=140737488355328) aa];obtain⟨qs,eqs,hqs⟩:=XhA (N:=N) w a (ps:=w.h.p) aa N (pgi h0.c a+1) _ aa aa aa ((SameK.refl _).set q0 aa (wI (1-w.h.s)) (pg w.h.p (pgi h0.c a)).P);have hrc:=Xrw L aa q0 aa S hqs.1 eqs;simp only[eqs,Xa,Qeb,Xc (p:=w.q.length*8<=140737488355328) aa,Xc (p:=(w.q.length+1)*8<=140737488355328) aa];have q:=λrp=>(z.pages hqs).push (D.pages z hqs) (D.old a g).1 hq rp;refine .inr ⟨{w with h:={w.h with p:=qs},q:=w.q++[a],r:=⟨w.r.j,wI (w.r.K+1),w.r.F,w.r.E,w.r.f,w.r.y⟩},a,rfl,⟨(q _).ci,(q _).ob,(q w.r).sc,(q w.r).ql⟩,((A.pages hrc).push hok _),ta,λh=>h,rfl,rfl⟩
 have Y:∀x∈l,(pg h0.p (pgi h0.c x)).k=1\/(pg h0.p (pgi h0.c x)).k=2:=λx G=>(R.st.obj.at_ x G).kind;have hpr:∀x∈l,0<=pgi h0.c x:=λx G=>(KG hp.conf (R.st.obj.at_ x G).rng).2.1;have hk1:(pg h0.p (pgi h0.c a)).k=1:=by
  rcases Y a g with h|h
  .omega
  exact absurd (by rw[z.knd a g];omega) S
 have hsz:=hg.sz R.st g hk1;have hso:=(D.old a g).2;have hfit:=D.fit a (D.old a g).1;have I:=YW w.h.w a;have e1:XM (ZS (wd w.h.w a))=szA w.h.w a:=I.1;simp only[Xf S,Wa,Xdd (N:=N) aa tw,KN,Xa,hok,YS (N:=N) aa,X6,e1];rw[show((0:Int) != 0)=false from rfl,Wa,Xc aa,o2,Xd (n:=(w.h.w.length:Int)-(a-4096)) aa aa,We aa,Wa,Xd (n:=a-4096+szA w.h.w a) aa aa,Xc aa,Wi,Wa,Xc aa];have eL:(((a-4096+szA w.h.w a).toNat-(a-4096).toNat:Nat):Int)=szA w.h.w a:=aa;have⟨y,ey,hy⟩:=Xgg hN hb hp z (n:=szA w.h.w a) I.2.1 aa;rcases Xqa hN hb hp z (n:=szA w.h.w a) I.2.1 aa with⟨r,Z,er2,eg⟩|⟨j,u,ps,tk,rq,Z,eg⟩
 .simp[Z,Xa,er2,W0,Wb,eL,eg]
 have hft:=XsQ (N:=N) (c:=h0.c) (c':=w.h.c) J.symm hp.conf aa (cp:=w.r.j) (X:=a-4096) (n:=szA w.h.w a) (i:=j) (u:=u) (ws:=w.h.w) (q:=w.q) (ps:=ps) (λx34 x35 x36 x37 x38 x39=>some (x34,x35,(WD.mk (Wo.mk w.h.c x37 x38 w.h.s w.h.b) w.o tk x39 w.d (WP.mk x36 w.r.K w.r.F w.r.E w.r.f w.r.y)))) aa aa I.2.1 aa rq.rng.1 (by have:=rq.rng.2;have:=rq.len;omega) rq.fit.1 rq.fit.2 (by have:=rq.len;omega) hql;rw[FT,eL]at hft;rw[Z,Xa,eL,eg,Xa];rw[show((0:Int) != 0)=false from rfl,Wa,Xz];rw[Z]at ey;obtain rfl:=WE ey;have⟨j',u',pq⟩:=hy rfl;have T:=XoG L aa (λj hj=>(z.tk j hj).2.2.1) aa pq;have hcp:=λv hv rp=>XlK (n:=szA w.h.w a) hp Y hpr z D g rfl I.2.1 pq v hv rp;have⟨i1,i2,aw,fr,aw2,U⟩:=XlJ (n:=szA w.h.w a) hp z D g rfl I.2.1 pq (wU (wU (4*Xj h0.c j u)+2));have en:szA w.h.w a=(((szA w.h.w a).toNat:Nat):Int):=aa;have hmv:=Xiq (N:=N) hwl (Xj h0.c j u) a (szA w.h.w a).toNat aa aa;rw[←en,Wp ⟨i1,i2⟩]at hmv;have ol:=Xcc i1 i2;have hin2:inW (ovr w.h.w ((w.h.w.drop (ix a)).take (szA w.h.w a).toNat) (ix (Xj h0.c j u))) a:=by unfold inW;rw[ol];exact hin
 dsimp only at i1 i2 aw fr aw2 U;have hr1:4096<=Xj h0.c j u/\Xj h0.c j u<10000:=by unfold Yt at i2;omega
 have⟨f1,f2,f3⟩:=Xqd (v:=Xj h0.c j u) aa aa;have hOa:=(D.old a g).1;have off:∀b,O b->¬(Xj h0.c j u<=b/\b<Xj h0.c j u+szA w.h.w a):=λb hb=>by have:=aw2 b hb;have:=(D.fit b hb).2.1;omega
 have V:∀b,O b->b≠a->wd ((ovr w.h.w ((w.h.w.drop (ix a)).take (szA w.h.w a).toNat) (ix (Xj h0.c j u))).set (ix a) (wU (wU (4*Xj h0.c j u)+2))) b=wd w.h.w b:=λb hb H=>by rw[U b (D.fit b hb).1,Wk H,Wk (off b hb)]
 have wda:=U a (D.fit a hOa).1;have hna:Xj h0.c j u≠a:=λe=>fr (by grind);have wdt:=U (Xj h0.c j u) aa;simp only[Wi,Wa];rw[hmv,Xa,Xax,Xa,Wk aa,Jb (by grind) aa,Xa,Wp hin2,Xc aa,Xc aa];refine .inr ⟨_,Xj h0.c j u,rfl,(hcp _ (Xgh _ aa aa) _).2.2.2.2,⟨λb hb=>?_,λb hb hbq B=>?_,λb hb B=>?_,λx G=>?_,?_,λi hi hki=>?_,λi hi=>?_,λb hb hbp2=>?_,A.bm,A.ol⟩,⟨aa,aa⟩,λ_=>aa,rfl,hft⟩
 .show okH (wd _ b)=true;rcases WG.1 hb with hb|hb
  .rw[V b (D.queue b hb) (λe=>hq (e▸hb))];exact A.q b hb
  grind
 .have B:VC (wd _ b)=false:=B;show okH (wd _ b)=true;by_cases H:b=a
  .grind
  rw[V b (D.old b hb).1 H]at B⊢;exact A.old b hb (λe=>hbq (W4 _ e)) B
 .have B:VC (wd _ b)=true:=B;show YC .u64 (wd _ b) 2≠0;by_cases H:b=a
  .grind
  rw[V b (D.old b hb).1 H]at B⊢;exact A.fw b hb B
 .rcases Uy G with G|G
  .unfold ovr at G;rcases WG.1 G with G|G
   .rcases WG.1 G with G|G
    .exact A.ws x (WW G)
    exact A.ws x (WS (WW G))
   exact A.ws x (WS G)
  grind
 .exact A.ss.trans T.ss
 .exact T.kd i hi (A.k1 i hi hki)
 .have:=Ow (w':=⟨_,_,_,_,_,_⟩) T rfl rfl rfl hi;show _/\(pg (ps.set _ _) i).u=_;rw[this.2];exact A.pr i this.1
 have hpm:=(Ow (w':=⟨_,_,_,_,_,_⟩) T rfl rfl rfl hbp2).1;have H:b≠a:=λe=>by grind
 show wd _ b=_;rw[V b (D.old b hb).1 H];exact A.hw b hb hpm
end
section
variable {N:Nat}{h0:Wo}{l:List Int}
def KeepW.trans{a b c:WD}(e:KeepW a b)(f:KeepW b c):KeepW a c:=by unfold KeepW at *;grind
def QN(l:List Int)(w:WD):Prop:=l=[]->w.q=[]
def XoH(hN:NB N){w f:WD}{a g:Int}(h:w.o=[])(j:w.q=[])(e:Qa7 N w a=some (f,g,0)):f.q=[]:=by unfold NB at hN;rw[Qa7,h,j,YM a ab ah,Xa,Xa]at e;grind
def Xms(hN:NB N)(p:Start N h0 l){w:WD}{O:Int->Prop}{s:Int->Int}(k:CI h0 l w)(q:Om h0 l w O s)(u:On h0 l w)(v:QN l w){a:Int}(y:tU a):
 (∃r w2,Qa7 N w a=some r/\r.2.2≠0/\Qa4 N w a=some (0,r.2.2,w2)) \/
 ∃e f,Qa7 N w a=some (e,f,0)/\OC h0 l w e O s/\On h0 l e/\tU f/\(a≠0->f≠0)/\KeepW w e/\QN l e/\Qa4 N w a=some (f,0,e):=by
 rcases Xqe hN p k q u y with h|⟨e,f,o,z,g,A,B,j,eg⟩
 .simp_all
 exact .inr ⟨e,f,o,z,g,A,B,j,λh=>XoH hN (List.sublist_nil.1 (h▸k.old)) (v h) o,eg⟩
def NZ(rs out:List Int):Prop:=∀(i:Nat)(y:Int),out[i]? = some y->∀(x:Int),rs[i]? = some x->x≠0->y≠0
def NZ.push{rs out:List Int}(h:NZ rs out){y:Int}(j:∀x,rs[out.length]? = some x->x≠0->y≠0):NZ rs (out++[y]):=by
 intro i z e x f;by_cases g:i<out.length
 .rw[U0 g]at e;exact h i z e x f
 grind
def zWk:WD:=WD.mk zHp [] [] [] 0 (WP.mk 0 0 0 0 0 0)
def Xi0(hN:NB N)(R:Start N h0 l){rs:List Int}(U:rs.length<=1000000)(ht:∀x∈rs,tU x):∀(n k:Nat)(w:WD)(out:List Int),k<=rs.length->rs.length-k<n->CI h0 l w->On h0 l w->QN l w->out.length=k->NZ rs out ->
 (∃e,e≠0/\QeF N rs n k w.h.c.W w.h.c.p w.h.s w.h.b w.d w.r.j w.r.K w.r.F w.r.E w.r.f w.r.y w.h.w w.h.p w.o w.t w.q out=some (.ret (zWk,[],e)) /\
  Qbk N rs n k w.h.c.W w.h.c.p w.h.w w.h.p w.h.s w.h.b w.o w.t w.q w.d w.r.j w.r.K w.r.F w.r.E w.r.f w.r.y out=some (.ret (zWk,[],e))) \/
 ∃g u,CI h0 l g/\On h0 l g/\QN l g/\KeepW w g/\u.length=rs.length/\NZ rs u /\
  QeF N rs n k w.h.c.W w.h.c.p w.h.s w.h.b w.d w.r.j w.r.K w.r.F w.r.E w.r.f w.r.y w.h.w w.h.p w.o w.t w.q out=some (.nxt (g.h.c.W,g.h.c.p,g.h.s,g.h.b,g.d,g.r.j,g.r.K,g.r.F,g.r.E,g.r.f,g.r.y,g.h.w,g.h.p,g.o,g.t,g.q,u)) /\
  Qbk N rs n k w.h.c.W w.h.c.p w.h.w w.h.p w.h.s w.h.b w.o w.t w.q w.d w.r.j w.r.K w.r.F w.r.E w.r.f w.r.y out=some (.nxt (g.h.c.W,g.h.c.p,g.h.w,g.h.p,g.h.s,g.h.b,g.o,g.t,g.q,g.d,g.r.j,g.r.K,g.r.F,g.r.E,g.r.f,g.r.y,u))
 |0,k,w,out,_,V,_,_,_,_,_=>by omega
 |n+1,k,w,out,hk,V,B,S,v,Y,T=>by
  rw[QeF,Qbk];by_cases h:k<rs.length
  .have D:=ht _ (WL h);rw[Xn h,Wb,Wb,Xe,Wc h,Xa,Xa,Xg aa];have⟨O,s,G⟩:=B.obj;have eta:(⟨⟨⟨w.h.c.W,w.h.c.p⟩,w.h.w,w.h.p,w.h.s,w.h.b⟩,w.o,w.t,w.q,w.d,⟨w.r.j,w.r.K,w.r.F,w.r.E,w.r.f,w.r.y⟩⟩:WD)=w:=rfl;rcases Xms hN R B G S v D with⟨r,w2,H,I,eg⟩|⟨g,Z,H,hq,J,tt,tz,z,A,eg⟩
   .refine .inl ⟨r.2.2,I,?_,?_⟩
    .rw[eg,Xa,Xl I,Wb];rfl
    rw[H,Xa,Xl I,Wb];rfl
   rw[eg,H,Xa,Xa,show((0:Int) != 0)=false from rfl,Wa,Wa,Xc aa,Xc aa];rcases Xi0 hN R U ht n (k+1) g (out++[Z]) aa aa hq.ci J A (by simp_all) (T.push λx hx hx0=>tz (by simp_all))with h|⟨L,M,c1,c2,c6,c3,c4,c5,e1,e2⟩
   .simp_all
   exact .inr ⟨L,M,c1,c2,c6,z.trans c3,c4,c5,e1,e2⟩
  obtain rfl:k=rs.length:=aa;rw[XB,Wa,Wa];exact .inr ⟨w,out,B,S,v,rfl,Y,T,rfl,rfl⟩
def Xmt(hN:NB N)(p:Start N h0 l){w:WD}(q:CI h0 l w)(r:On h0 l w)(g:QN l w){rs:List Int}(s:rs.length<=1000000)(ht:∀x∈rs,tU x):
 (∃e,e≠0/\Qgs N w rs=some (zWk,[],e)/\Qec N w rs=some (zWk,[],e)) \/
 ∃f out,CI h0 l f/\On h0 l f/\QN l f/\KeepW w f/\out.length=rs.length/\NZ rs out/\Qgs N w rs=some (f,out,0)/\Qec N w rs=some (f,out,0):=by
 have h:=hN;unfold NB at h;rw[Qgs,Qec];simp only[Qab,Qaa,QaF,Xa];have o:=Xi0 hN p s ht N 0 w [] aa aa q r g rfl (λi y e=>by grind);rw[show((0:Nat):Int)=0 from rfl]at o;rcases o with⟨e,E,j,k⟩|⟨f,out,u,v,z,A,B,D,j,k⟩
 .simp_all[j,Xa,XD,k]
 exact .inr ⟨f,out,u,v,z,A,B,D,by rw[j,Xa,Xq],by rw[k,Xa,Xq]⟩
end
section
variable {N:Nat}{h0:Wo}{l:List Int}
def XoI{w:WD}{O:Int->Prop}{s:Int->Int}(g:Om h0 l w O s)(e:On h0 l w){p x:Int}(hp:O p)(z:p<x)(A:x<p+s p){v:Int}(B:tU v):
 On h0 l {w with h:={w.h with w:=w.h.w.set (ix x) v}}:=by
 have j:=g.fit p hp;have o:inW w.h.w x:=by unfold inW;omega
 have f:∀b,O b->wd (w.h.w.set (ix x) v) b=wd w.h.w b:=λb hb=>by
  have:b≠x:=by
   rintro rfl;by_cases r:b=p
   .omega
   have:=g.apart b p hb hp r;have:=g.fit b hb;omega
  rw[Xhz o (g.fit b hb).1,Wk this]
 refine⟨λb hb=>?_,λb hb u j=>?_,λb hb j=>?_,λy k=>?_,e.ss,e.k1,e.pr,λb hb j=>?_,e.bm,e.ol⟩
 .rw[f b (g.queue b hb)];exact e.q b hb
 .rw[f b (g.old b hb).1]at j⊢;exact e.old b hb u j
 .rw[f b (g.old b hb).1]at j⊢;exact e.fw b hb j
 .rcases Uy k with k|k
  .exact e.ws y k
  simp_all
 rw[f b (g.old b hb).1];exact e.hw b hb j
def XgU(hN:NB N)(A:Start N h0 l){p z u:Int}{ks:List Int}(J:ks.length<=255)(B:wI (wI (pgi h0.c p*h0.c.W)+u)=p-4096)(L:4096<=p)(M:1<=z)(R:z<=256)(hz:p-4096+z<=h0.w.length):
 ∀(n k:Nat)(w:WD)(O:Int->Prop)(s:Int->Int),k<=ks.length->ks.length-k<n->CI h0 l w->Om h0 l w O s->On h0 l w->QN l w->O p->(∀k∈ks,0<=k/\k<255/\k+1<s p/\k+1<z) ->
 (∃e,e≠0/\(∃t,QfS N h0.c.W z (pgi h0.c p,u,0) ks n k w.h.c.W w.h.c.p w.h.s w.h.b w.d w.r.j w.r.K w.r.F w.r.E w.r.f w.r.y w.h.w w.h.p w.o w.t w.q=some (.ret (e,t))) /\
  Qbz N p ks n k w.h.c.W w.h.c.p w.h.w w.h.p w.h.s w.h.b w.o w.t w.q w.d w.r.j w.r.K w.r.F w.r.E w.r.f w.r.y=some (.ret (zWk,false,e))) \/
 ∃g,CI h0 l g/\On h0 l g/\QN l g/\KeepW w g/\w.q.length<=g.q.length /\
  QfS N h0.c.W z (pgi h0.c p,u,0) ks n k w.h.c.W w.h.c.p w.h.s w.h.b w.d w.r.j w.r.K w.r.F w.r.E w.r.f w.r.y w.h.w w.h.p w.o w.t w.q=some (.nxt (g.h.c.W,g.h.c.p,g.h.s,g.h.b,g.d,g.r.j,g.r.K,g.r.F,g.r.E,g.r.f,g.r.y,g.h.w,g.h.p,g.o,g.t,g.q)) /\
  Qbz N p ks n k w.h.c.W w.h.c.p w.h.w w.h.p w.h.s w.h.b w.o w.t w.q w.d w.r.j w.r.K w.r.F w.r.E w.r.f w.r.y=some (.nxt (g.h.c.W,g.h.c.p,g.h.w,g.h.p,g.h.s,g.h.b,g.o,g.t,g.q,g.d,g.r.j,g.r.K,g.r.F,g.r.E,g.r.f,g.r.y))
 |0,k,w,O,s,_,hn,_,_,_,_,_,_=>by omega
 |n+1,k,w,O,s,hi,hn,I,ho,S,D,hp,hk=>by
  have T:=hN;unfold NB at T;have hb1:=A.hb.1;rw[QfS,Qbz];by_cases h:k<ks.length
  .have⟨k0,k1,k2,k3⟩:=hk _ (WL h);have U:=I.wlen;have eta:(⟨⟨⟨w.h.c.W,w.h.c.p⟩,w.h.w,w.h.p,w.h.s,w.h.b⟩,w.o,w.t,w.q,w.d,⟨w.r.j,w.r.K,w.r.F,w.r.E,w.r.f,w.r.y⟩⟩:WD)=w:=rfl;have ex:ix (p+1+ks[k])=(p-4096).toNat+(1+ks[k]).toNat:=by unfold ix;omega
   have gp:∀ws:List Int,ws.length=h0.w.length->KC ws (p-4096).toNat ((p-4096+z).toNat-(p-4096).toNat) (1+ks[k])=some (wd ws (p+1+ks[k])):=by intro ws hw;rw[Xcl aa aa aa];unfold wd;rw[ex,Wq,Wc aa];rfl
   rw[eta,Xn h,Wb,Wb,Xe,Wc h,Xa,Xa,Xg aa];rw[B,Xd (n:=p-4096+z) aa aa,Xd (n:=1+ks[k]) aa aa,gp _ U,Xa];rw[XA (n:=p+1) aa aa,XA (n:=ks[k]) aa aa,XA (n:=p+1+ks[k]) aa aa];rw[YO (I.wl A.hb),Xa,Wp (by unfold inW;omega)];rw[show w.h.w.getD (ix (p+1+ks[k])) 0=wd w.h.w (p+1+ks[k])from rfl];rcases Xms hN A I ho S D (XgT S.ws (p+1+ks[k]))with⟨r,w2,V,Y,eg⟩|⟨g,Z,V,q,hh',tt,tz,hkw,G,eg⟩
   .refine .inl ⟨r.2.2,Y,?_,?_⟩
    .simp[eg,Xa,Xl,Y,Wb]
    rw[V,Xa,Xl Y,Wb];rfl
   have⟨O',s',H,hx⟩:=q.ob;have⟨v,hs'⟩:=hx p hp;have st:=Xiz q.ci H v (x:=p+1+ks[k]) aa aa Z;have sh:=XoI H hh' v (x:=p+1+ks[k]) aa aa tt;rw[eg,V,Xa,Xa,show((0:Int) != 0)=false from rfl,Wa,Wa];rw[gp _ q.ci.wlen,Xa,Jb (q.ci.wl A.hb) aa,Xa,Wp st.1,←ex];rcases XgU hN A J B L M R hz n (k+1) {g with h:={g.h with w:=g.h.w.set (ix (p+1+ks[k])) Z}} O' s' aa aa st.2.1 st.2.2 sh G v (λk' hk'=>by simp_all)with h|⟨w'',c1,c2,c3,c4,c5,c6,c7⟩
   .grind
   exact .inr ⟨w'',c1,c2,c3,KeepW.trans (b:={g with h:={g.h with w:=g.h.w.set (ix (p+1+ks[k])) Z}}) (by unfold KeepW at hkw⊢;grind) c4,UO q.ql c5,c6,c7⟩
  obtain rfl:k=ks.length:=aa;rw[XB,Wa,Wa];exact .inr ⟨w,I,S,D,rfl,Uf _,rfl,rfl⟩
theorem Xrx(n:Int):wI n=if n % 18446744073709551616>=9223372036854775808 then n % 18446744073709551616-18446744073709551616 else n % 18446744073709551616:=by have e:IntKind.bits .i64=64:=rfl;have f:IntKind.signed .i64=true:=rfl;simp[wI,IntKind.wrap,e,f]
def Xry(a b:Int):wI (wI a+b)=wI (a+b):=by grind[Xrx]
def XsR(a b:Int):wI (a+wI b)=wI (a+b):=by rw[Int.add_comm a,Xry,Int.add_comm b]
def Xmu(hN:NB N)(L:Start N h0 l):∀(n:Nat)(w:WD),CI h0 l w->On h0 l w->QN l w->0<=w.d->w.d<=w.q.length->(100001-w.d).toNat<n ->
 (∃e,e≠0/\QfT N n w.h.c.W w.h.c.p w.h.s w.h.b w.d w.r.j w.r.K w.r.F w.r.E w.r.f w.r.y w.h.w w.h.p w.o w.t w.q=some (zWk,e) /\
  QbT N n w.h.c.W w.h.c.p w.h.w w.h.p w.h.s w.h.b w.o w.t w.q w.d w.r.j w.r.K w.r.F w.r.E w.r.f w.r.y=some (zWk,e)) \/
 ∃g,CI h0 l g/\On h0 l g/\QN l g /\
  QfT N n w.h.c.W w.h.c.p w.h.s w.h.b w.d w.r.j w.r.K w.r.F w.r.E w.r.f w.r.y w.h.w w.h.p w.o w.t w.q=some (g,0) /\
  QbT N n w.h.c.W w.h.c.p w.h.w w.h.p w.h.s w.h.b w.o w.t w.q w.d w.r.j w.r.K w.r.F w.r.E w.r.f w.r.y=some (g,0)
 |0,w,_,_,_,_,_,hn=>by omega
 |n+1,w,D,M,G,g0,g1,hn=>by
  have R:=hN;unfold NB at R;have hb:=L.hb;have hql:=D.ql hb;have S:=D.wl hb;have hww:=D.wlen;have hb1:=hb.1;have eta:(⟨⟨⟨w.h.c.W,w.h.c.p⟩,w.h.w,w.h.p,w.h.s,w.h.b⟩,w.o,w.t,w.q,w.d,⟨w.r.j,w.r.K,w.r.F,w.r.E,w.r.f,w.r.y⟩⟩:WD)=w:=rfl;have etc:(⟨w.h.c.W,w.h.c.p⟩:WV)=h0.c:=D.conf;rw[QfT,QbT,eta,Qgm,Xz,etc,We (p:=w.d<0) aa,Wa,Xc aa];by_cases T:w.d<w.q.length;rotate_left
  .rw[Wd (p:=w.d>=_) aa,Wb,Wb,Xa];exact .inr ⟨w,D,M,G,rfl,rfl⟩
  rw[We (p:=w.d>=_) aa,Wa,Wa,X0 g0 T,Xa,Xa];have B:w.q[w.d.toNat]'aa∈w.q:=WL _;generalize w.q[w.d.toNat]'aa=p at B⊢;have U:l≠[]:=λe=>by rw[G e]at B;grind
  have hp:=L.prop U;have hwd0:=hp.words;have⟨O,s,V⟩:=D.obj;have I:=V.queue p B;have hf:=V.fit p I;have Y:=M.q p B;have J:4096<=p/\p<4096+h0.c.p*h0.c.W:=aa;have⟨o1,Z⟩:=Xew (N:=N) hp.conf J;have tw:=XgT M.ws p;have H:=YW w.h.w p;have e1:XM (ZS (wd w.h.w p))=szA w.h.w p:=H.1;have gp:∀n:Nat,1<=n->KC w.h.w (p-4096).toNat n 0=some (wd w.h.w p):=by intro n hn;rw[Xcl aa aa aa];unfold wd ix;rw[Wq,Wc aa];simp
  rw[QeW,YO S,Xa,Wp (by unfold inW;omega),KN,Xa,Xa,Xf6 aa,Xa];rw[show w.h.w.getD (ix p) 0=wd w.h.w p from rfl];rw[o1,Xa];have ecp:w.h.c.W=h0.c.W:=by rw[D.conf]
  rw[ecp,show((0:Int) != 0)=false from rfl,Wa,Xc aa,Z,Xd (n:=(w.h.w.length:Int)-(p-4096)) aa aa,We aa,Wa,Xd (n:=p-4096+1) aa aa,Xc aa,
   gp _ aa,Xa,Xdd aa tw,Xa]
  rw[Y,YS aa,Xa,e1,Xa];dsimp only;rw[show((0:Int) != 0)=false from rfl,Wa,Z,Xd (n:=(w.h.w.length:Int)-(p-4096)) aa aa,We aa,Wa,Xd (n:=p-4096+szA w.h.w p) aa aa,Xc aa,Xc aa,Wi,Wa,Xei aa _ (Jc _),Xa];have hkl:=Xd7 (hdA w.h.w p);have hg:=XgU hN L (p:=p) (z:=szA w.h.w p) (u:=pgo h0.c p) (ks:=Zu (hdA w.h.w p)) hkl Z hf.1 H.2.1 H.2.2 aa N 0 w O s aa aa D V M G I λk hk=>by have h1:=Xd6 hk;have h2:szA w.h.w p=(hdA w.h.w p).n+1:=rfl;omega
  rw[show((0:Nat):Int)=0 from rfl,ecp]at hg;rcases hg with⟨e,e0,⟨t,e2⟩,e3⟩|⟨g,v,A,c3,c4,c5,e2,e3⟩
  .refine .inl ⟨e,e0,?_,?_⟩
   .rw[show ZS (wd w.h.w p)=hdA w.h.w p from rfl,e2,Xa,XD,Xl e0,Wb];rfl
   rw[show ZS (wd w.h.w p)=hdA w.h.w p from rfl,e3,Xa,XD,Xa,Xl e0,Wb];rfl
  rw[show ZS (wd w.h.w p)=hdA w.h.w p from rfl,e2,e3,Xa,Xa,Xq,Xq,Xa];have esc:g.d=w.d:=by unfold KeepW at c4;rw[c4]
  have ee:wI (g.d+1)=w.d+1:=by rw[esc,Xd aa aa]
  have est:wI (g.r.y+wI (1+(((Zu (hdA w.h.w p)).length:Nat):Int)))=wI (wI (g.r.y+1)+(((Zu (hdA w.h.w p)).length:Nat):Int)):=by rw[XsR,Xry,Int.add_assoc]
  rw[est];have c1':CI h0 l {g with d:=wI (g.d+1),r:={g.r with y:=wI (wI (g.r.y+1)+(((Zu (hdA w.h.w p)).length:Nat):Int))}}:=by refine⟨v.conf,v.wlen,v.plen,v.spc,v.old,v.tk,v.tnd,v.knd,v.qnd,?_⟩;obtain⟨O,s,h⟩:=v.obj;exact⟨O,s,⟨h.old,h.queue,h.fit,h.apart,h.taken,h.free⟩⟩
  exact Xmu hN L n _ c1' ⟨A.q,A.old,A.fw,A.ws,A.ss,A.k1,A.pr,A.hw,A.bm,A.ol⟩ c3 (by grind) (by grind) (by grind)
def Xqf(hN:NB N)(o:Start N h0 l){w:WD}(p:CI h0 l w)(r:On h0 l w)(g:QN l w)(s:0<=w.d)(g1:w.d<=w.q.length):
 (∃e,e≠0/\QgZ N w=some (zWk,e)/\Qfy N w=some (zWk,e)) \/
 ∃f,CI h0 l f/\On h0 l f/\QN l f/\QgZ N w=some (f,0)/\Qfy N w=some (f,0):=by
 have h:=hN;unfold NB at h;rw[QgZ,Qfy];simp only[Qab,Qaa,QaF,Xa];rcases Xmu hN o N w p r g s g1 aa with⟨e,z,j,k⟩|⟨f,u,v,y,j,k⟩
 .simp_all[j,Xa,k]
 exact .inr ⟨f,u,v,y,by rw[j,Xa],by rw[k,Xa]⟩
end
section
variable {N:Nat}{h0:Wo}{l:List Int}
def lpg(N:Nat)(h:Wo)(i:Nat):List Int:=match Qam N h (i:Int)with|some r=>r.1|none=>[]
def lps(N:Nat)(h:Wo)(k:Nat):Nat->List Int
 |0=>[]
 |m+1=>lpg N h k++lps N h (k+1) m
def Xex(hb:HB h0)(hp:∀i:Nat,i<h0.p.length->∃l,Qam N h0 (i:Int)=some (l,0)/\l.length<=64):∀(n k:Nat)(v:List Int),k<=h0.p.length->h0.p.length-k<n->v.length<=64*k->QaX N h0 n (k:Int) v=some (.nxt (v++lps N h0 k (h0.p.length-k)))
 |0,k,v,_,f,_=>by omega
 |n+1,k,v,j,f,o=>by
  have g:=hb.2;rw[QaX];by_cases h:k<h0.p.length
  .have⟨l,e,q⟩:=hp k h;rw[Xn h,Wb,e,Xa,show(((0:Int)) != 0)=false from rfl,Wa,Xc (by grind),Xg aa,Xex hb hp n (k+1) _ aa aa (by grind),UF,show h0.p.length-k=(h0.p.length-(k+1))+1 by omega,lps,lpg,e]
  obtain rfl:k=h0.p.length:=aa;simp[XB,Wa,IP,lps,Ia]
structure OP(N:Nat)(h:Wo)(L:List Int):Prop where
 ep:Qac N h=some true
 eg:QbO N h=some true
 st:Start N h L
 eL:L=lps N h 0 h.p.length
 pg:∀i:Nat,i<h.p.length->Qam N h (i:Int)=some (lpg N h i,0)/\PageL N h (i:Int) (lpg N h i)
 ob:QaK N h=some (Ki h L,0)
def Xqg(hN:NB N)(ht:HT h0)(eg:QbO N h0=some true):∃L,OP N h0 L:=by
 have o:=hN;unfold NB at o;have hb:=ht.hb;have⟨b,eb,q⟩:=Js hN hb;rw[eg]at eb;obtain rfl:=WE eb;have s:=q rfl;have hp:=s.prop;have ep:Qac N h0=some true:=by
  obtain⟨b,eb⟩:=ZY (N:=N) hN hb;cases b with
  |true=>exact eb
  |false=>rw[QbO,Qho,eb,Xa,W0,Wb,Xa]at eg;cases eg
 have f:∀i:Nat,i<h0.p.length->Qam N h0 (i:Int)=some (lpg N h0 i,0)/\PageL N h0 (i:Int) (lpg N h0 i)/\(lpg N h0 i).length<=64:=λi j=>by
  obtain⟨r,k,u,v⟩:=Qif hN hb hp (i:Int) aa aa;have y:=(s.small i aa aa r k).2;have e:lpg N h0 i=r.1:=by unfold lpg;rw[k]
  rw[e];refine⟨?_,u,v⟩;rw[k];congr 1;exact Prod.ext rfl y
 have z:=Xex hb (λi j=>⟨_,(f i j).1,(f i j).2.2⟩) N 0 [] aa (by have:=hb.2;omega) ab;have est:QcO N h0=some (lps N h0 0 h0.p.length,0):=by rw[QcO,ep,Xa,Wi,Wa,show(0:Int)=((0:Nat):Int)from rfl,z,Xa,Xq,Uh,Nat.sub_zero]
 have⟨r,k,g,_,_⟩:=VY hN hb;rw[est]at k;obtain rfl:=WE k;refine⟨_,ep,eg,⟨hb,λ_=>s,λ_=>hp,g⟩,rfl,λi j=>⟨(f i j).1,(f i j).2.1⟩,?_⟩;have w:(lps N h0 0 h0.p.length).length<=4096:=g.len;have:=Xbe (N:=N) (h:=h0) (lps N h0 0 h0.p.length,0) (by show(lps N h0 0 h0.p.length).length<=_;omega) g.obj.ev N 0 [] aa (by show(lps N h0 0 h0.p.length).length-0<_;omega) ab;rw[show((0:Nat):Int)=0 from rfl,WY,Uh]at this;simp[QaK,est,Xa,this]
def Xh2(e:List Int×Int)(o:List Int)(f:List Wv)(z:h0.p.length<=100000)(q:f.length=h0.p.length):∀(n k:Nat)(v:List Wv),k<=h0.p.length->h0.p.length-k<n->v.length=h0.p.length->(∀j:Nat,k<=j->pg v j=pg h0.p j) ->
 ∃r,Qcl N h0 e n (k:Int) v=some r/\Qb9 N h0 e o f n (k:Int) v=some r/\r.length=h0.p.length/\∀j:Nat,pg r j=if j<k\/¬((pg h0.p j).k=1/\(pg h0.p j).P>0)then pg v j else⟨1,wI (1-h0.s),(pg h0.p j).u,(pg h0.p j).P⟩
 |0,k,v,_,B,_,_=>by omega
 |n+1,k,v,K,B,g,w=>by
  rw[Qcl,Qb9,Xc aa,g,q];by_cases h:k<h0.p.length
  .rw[Xn h,Wb,Wb,XG (ps:=v) (i:=(k:Int)) aa aa,Xa,Xa,Xg aa];simp only[Xa,w k (Uf k)];by_cases L:(pg h0.p k).k=1/\(pg h0.p k).P>0
   .have D:=λx:Nat=>ZT (ps:=v) (i:=(k:Int)) (j:=(x:Int)) ⟨(pg h0.p k).k,wI (1-h0.s),(pg h0.p k).u,(pg h0.p k).P⟩ aa aa aa;obtain⟨r,E,G,H,I⟩:=Xh2 e o f z q n (k+1) (v.set (k:Int).toNat ⟨(pg h0.p k).k,wI (1-h0.s),(pg h0.p k).u,(pg h0.p k).P⟩) aa aa (by rw[WN];exact g) λj y=>by rw[D j,Wk aa];exact w j aa
    grind
   have⟨r,E,G,H,I⟩:=Xh2 e o f z q n (k+1) v aa aa g λj y=>w j aa;grind
  obtain rfl:k=h0.p.length:=aa;rw[XB,Wa,Wa];refine⟨v,rfl,rfl,g,λj=>?_⟩;by_cases J:j<h0.p.length\/¬((pg h0.p j).k=1/\(pg h0.p j).P>0)
  .simp_all
  exfalso;apply J;right;intro A;have:pg h0.p j=Je:=by unfold pg;rw[Wq,WZ aa];rfl
  rw[this]at A;exact absurd A.1 ae
def Xmv(hN:NB N)(ht:HT h0){L:List Int}(f:OP N h0 L):∃w,Qe9 N h0=some (w,0)/\QeV N h0=some (w,0)/\CI h0 L w/\On h0 L w/\QN L w/\w.d=0:=by
 have o:=hN;unfold NB at o;have hb:=ht.hb;have q:=hb.2;have ep:=f.ep;have hp:=Yq hN hb ep;have v:=f.st.st;have E:=hp.space;have hw:wI (1-h0.s)=1-h0.s:=Xd aa aa;have e:=Xmr hN hb ep;have⟨r,z,A,B,R⟩:=Xh2 (N:=N) (h0:=h0) (Ki h0 L,0) h0.w h0.p aa rfl N 0 h0.p aa aa rfl λ_ _=>rfl;rw[show((0:Nat):Int)=0 from rfl]at z A;have G:∀j,0<=j->((pg h0.p j).k=1/\(pg r j)=⟨1,1-h0.s,(pg h0.p j).u,(pg h0.p j).P⟩)\/pg r j=pg h0.p j:=λj H=>by
  obtain⟨m,rfl⟩:∃m:Nat,j=m:=⟨j.toNat,aa⟩
  grind
 have D:SameK h0.p r:=⟨B,λj H=>by grind⟩
 have ci:=Xgi hb hp v (w:=⟨⟨h0.c,h0.w,r,h0.s,h0.b⟩,Ki h0 L,[],[],0,⟨0,0,0,0,0,0⟩⟩) rfl rfl rfl D List.filter_sublist rfl rfl;refine⟨⟨⟨h0.c,h0.w,r,h0.s,h0.b⟩,Ki h0 L,[],[],0,⟨0,0,0,0,0,0⟩⟩,?_,?_,ci,⟨λa g=>(by grind),λa g _ _=>(v.obj.at_ a g).ok,λa g S=>?_,ht.tw,?_,λi y I=>by grind,λi y=>?_,λ_ _ _=>rfl,rfl,rfl⟩,λ_=>rfl,rfl⟩
 .rw[Qe9,Yd q aa,ep,Xa,Wi,Wa,Xbf hN ht,f.eg,Xa,Wi,Wa,KA hN ht,f.ob,Xa];simp only[Qab,Qaa,Xa];rw[show((0:Int) != 0)=false from rfl,Wa,Xc aa,A,Xa]
 .rw[QeV,ep,Xa,Wi,Wa,f.eg,Xa,Wi,Wa,f.ob,Xa,Xc aa,z,Xa]
 .have:=XoF (XgT ht.tw a) (v.obj.at_ a g).ok;simp_all
 .refine Xds e B (λi h J=>?_) λi m h K M O T=>?_
  .have hb:=e.hd i h J;rcases G i h with⟨a,b⟩|b
   .have:=(hb aa).k1 a;have:=(hb aa).pn;rw[b];exact .inl ⟨aa,rfl,⟨by show 0<=1-h0.s;omega,by show 1-h0.s<=1;omega⟩,ag,by dsimp only;omega,by dsimp only;omega⟩
   simp_all
  have tl:=((e.hd i h aa aa).k2 K).2.2 m M O;grind
 have:=D.2 i y.1.1;rw[show(pg r i).k=1 from y.2.1]at this;simp_all
end
section
variable {N:Nat}{h0:Wo}{l:List Int}
def Xqh(hN:NB N){h:Wo}(hb:HB h)(ep:Qac N h=some true){a:Int}(f:IQ h a):Qar N h a=some (hdA h.w a,0):=by
 have hp:=Yq hN hb ep;have j:=f.rng;have⟨_,o,s,v,y⟩:=KG hp.conf j;have q:=hp.pages;have hw:=hp.words;have e:=f.kind;have z:=f.used;have g:=YW h.w a;have A:=Xu.1 hp.conf;have r:XM (ZS (wd h.w a))=szA h.w a:=g.1;rw[Qar,ep,Xa,Wi,Wa,JP,hp.conf,Wk ab,Wp j,Xa];rw[show(a-4096) / h.c.W=pgi h.c a from rfl,show(a-4096) % h.c.W=pgo h.c a from rfl];rw[XG o aa,Xa,YO (by have:=hb.1;unfold BIG;omega),Xa,Wp (by unfold inW;omega),KN,Xa,Xz,X6,Xa];rw[show h.w.getD (ix a) 0=wd h.w a from rfl,f.ok,r,We (show¬pgo h.c a>=(pg h.p (pgi h.c a)).u by omega),Wi];rcases e with e|e
 .have:=f.small e;rw[show((pg h.p (pgi h.c a)).k != 1)=false by grind,Wa,XO e,Wb,Xd (n:=pgo h.c a+szA h.w a) aa aa,We aa,Wa,show((pg h.p (pgi h.c a)).k==2)=false by grind,Wa];rfl
 have:=f.large e;rw[show((pg h.p (pgi h.c a)).k != 1)=true by grind,Wb,show((pg h.p (pgi h.c a)).k != 2)=false by grind,Wa,Xf aa,Wa,XO e,Wb,this.1,this.2];simp;rfl
def IQ.same{h h2:Wo}(j:h2.c=h.c){a:Int}(e:IQ h a)(f:(pg h2.p (pgi h.c a)).k=(pg h.p (pgi h.c a)).k)(g:(pg h2.p (pgi h.c a)).u=(pg h.p (pgi h.c a)).u)(hw:wd h2.w a=wd h.w a):IQ h2 a:=by
 have o:szA h2.w a=szA h.w a:=by unfold szA hdA;rw[hw]
 refine⟨by rw[j];exact e.rng,?_,by rw[hw];exact e.ok,?_,λh=>?_,λh=>?_⟩<;>rw[j]at *
 .rw[f];exact e.kind
 .rw[g];exact e.used
 .rw[f]at h;rw[g,o];exact e.small h
 rw[f]at h;rw[g,o];exact e.large h
def Qq4{h j:Wo}(B:j.c=h.c){i:Int}{p s:Wv}(D:s.u=p.u)(E:s.k=p.k):∀(n:Nat)(o:Int)(v r:List Int),QaA N h i p n o v=some (.nxt r)->(∃t,r=v++t)/\((∀b∈r,Qar N j b=Qar N h b)->QaA N j i s n o v=some (.nxt r))
 |0,o,v,r,e=>by simp_all[QaA]
 |n+1,o,v,r,e=>by
  rw[QaA]at e;rw[QaA,D,E,B];cases H:decide (o<p.u)with
  |false=>simp_all
  |true=>
   rw[H,Wb]at e;rw[Wb];cases f:Qbv N h.c i o with
   |none=>simp_all[f,ZR]
   |some y=>
    rw[f,Xa]at e;rw[Xa];cases g:Qar N h y.1 with
    |none=>simp_all[g,ZR]
    |some z=>
     rw[g,Xa]at e;cases w:z.2 != 0 with
     |true=>simp_all
     |false=>
      rw[w,Wa]at e;by_cases A:(v.length+1)*8<=140737488355328;rotate_left
      .unfold grd at e;simp_all
      rw[Xc A]at e;have key:∀t,r=v++[y.1]++t->y.1∈r:=λt ht=>by simp_all
      cases G:p.k==2 with
      |true=>rw[G,Wb]at e;cases e;refine⟨⟨[y.1],rfl⟩,λhb=>?_⟩;rw[hb y.1 ab,g,Xa,w,Wa,Xc A,Wb]
      |false=>rw[G,Wa,X6,Xa]at e;have⟨⟨t,ht⟩,q⟩:=Qq4 B D E n _ _ r e;refine⟨⟨[y.1]++t,by rw[ht,UF]⟩,λhb=>?_⟩;rw[hb y.1 (key t ht),g,Xa,w,Wa,Xc A,Wa,X6,Xa];simp_all
def Qpl{h:Wo}{i:Int}{p:Wv}{a:List Int×Int}:∀(n:Nat)(o:Int)(v:List Int),QaA N h i p n o v=some (.ret a)->a.2=19
 |0,o,v,e=>by simp_all[QaA]
 |n+1,o,v,e=>by
  rw[QaA]at e;cases j:decide (o<p.u)with
  |false=>simp_all
  |true=>
   rw[j,Wb]at e;cases f:Qbv N h.c i o with
   |none=>simp_all[f,ZR]
   |some y=>
    rw[f,Xa]at e;cases g:Qar N h y.1 with
    |none=>simp_all[g,ZR]
    |some z=>
     rw[g,Xa]at e;cases q:z.2 != 0 with
     |true=>grind
     |false=>
      rw[q,Wa]at e;by_cases r:(v.length+1)*8<=140737488355328;rotate_left
      .unfold grd at e;simp_all
      rw[Xc r]at e;cases s:p.k==2 with
      |true=>simp_all
      |false=>rw[s,Wa,X6,Xa]at e;exact Qpl n _ _ e
def Qrb{h h2:Wo}(s:h2.c=h.c)(A:h2.p.length=h.p.length)(ep:Qac N h=some true)(g:Qac N h2=some true){i:Int}(o:0<=i)(w:i<h.p.length)(q:(pg h2.p i).k=(pg h.p i).k)(y:(pg h2.p i).u=(pg h.p i).u){r:List Int}(e:Qam N h i=some (r,0))(hb:∀b∈r,Qar N h2 b=Qar N h b):Qam N h2 i=some (r,0):=by
 rw[Qam,ep,Xa,Wi,Wa,We aa,Wa,We aa,Wa,XG o w,Xa]at e;rw[Qam,g,Xa,Wi,Wa,We aa,Wa,We aa,Wa,XG o aa,Xa,q];cases z:(pg h.p i).k==0 with
 |true=>simp_all
 |false=>
  cases j:(pg h.p i).k==3 with
  |true=>simp_all
  |false=>
   rw[z,Wa,j,Wa]at e;rw[Wa,Wa];cases f:QaA N h i (pg h.p i) N 0 []with
   |none=>simp_all[f,ZR]
   |some x=>
    rw[f,Xa]at e;cases x with
    |ret a=>rw[XD]at e;cases e;exact absurd (Qpl _ _ _ f) ab
    |nxt v=>rw[Xq]at e;cases e;rw[(Qq4 s y q N 0 [] r f).2 hb,Xa,Xq]
def Xqi{L:List Int}(f:Il N h0 L){a b:Int}(g:a∈L)(hb:b∈L)(h:a≠b):a+szA h0.w a<=b\/b+szA h0.w b<=a:=by have e:=f.obj.pw;rw[UI]at e;have⟨i,k,o⟩:=WJ g;have⟨j,p,q⟩:=WJ hb;grind
instance(w:WD)(i:Int):Decidable (Prm w i):=by unfold Prm;infer_instance
def Xbj(h0:Wo)(a:Int):Int:=(hdA h0.w a).n
def fwr(h0:Wo)(v:List Int)(a:Int):List Int:=ovr v ([Xaw ⟨0,Xbj h0 a,0⟩]++List.replicate (Xbj h0 a).toNat (0:Int)) (ix a)
def Kj(h0:Wo)(w:WD)(x:List Int×Int)(a:Int):List Int×Int:=if Prm w (pgi h0.c a)/\a∉w.q then(fwr h0 x.1 a,wI (x.2+1))else x
structure VI(h0:Wo)(v:List Int):Prop where
 len:v.length=h0.w.length
 tu:∀x∈v,tU x
def vf{d:Int}(h:0<=d/\d<=255):XL ⟨0,d,0⟩=true:=by unfold XL;simp_all
def Xh3(h0:Wo)(a:Int):0<=Xbj h0 a/\Xbj h0 a<=255/\szA h0.w a=Xbj h0 a+1:=by have:=XY (Jc (wd h0.w a));exact⟨this.2.2.1,this.2.2.2,rfl⟩
def Xh4(h0:Wo)(a x:Int):([x]++List.replicate (Xbj h0 a).toNat (0:Int)).length=(Xbj h0 a).toNat+1:=by simp
def XoJ(d:WC):tU (Xaw d):=by unfold Xaw;simp
def Xqj{v:List Int}(f:VI h0 v){a:Int}(o:4096<=a)(p:a+szA h0.w a<=4096+h0.w.length):VI h0 (fwr h0 v a)/\∀b,4096<=b->(b+1<=a\/a+szA h0.w a<=b)->wd (fwr h0 v a) b=wd v b:=by
 have q:=Xh3 h0 a;have h:=Xh4 h0 a (Xaw ⟨0,Xbj h0 a,0⟩);have g:=f.len;have j:ix a+([Xaw ⟨0,Xbj h0 a,0⟩]++List.replicate (Xbj h0 a).toNat (0:Int)).length<=v.length:=by rw[h];unfold ix;omega
 refine⟨⟨(Kr j).trans g,λx e=>?_⟩,λb hb k=>?_⟩
 .rcases WG.1 e with e|e
  .rcases WG.1 e with e|e
   .exact f.tu x (WW e)
   rcases WG.1 e with e|e
   .rw[UP.1 e];exact XoJ _
   simp_all
  exact f.tu x (WS e)
 unfold wd fwr;rw[XcL j,h,Wk (by unfold ix;omega)]
def Xmw(hN:NB N){h:Wo}(hb:HB h)(ep:Qac N h=some true){d a:Int}(hd:0<=d/\d<=255)(f:4096<=a)(g:a+(d+1)<=4096+h.w.length):Qcb N h a ⟨0,d,0⟩=some (⟨h.c,ovr h.w ([Xaw ⟨0,d,0⟩]++List.replicate d.toNat (0:Int)) (ix a),h.p,h.s,h.b⟩,0):=by have e:=hb.1;rw[Qcb,Jq,Wp (vf hd),ep,Xa,Xa,Wi,Wa];dsimp only;rw[show((0:Int) != 0)=false from rfl,Wa,Xc aa,Xc aa,Z8 (by unfold BIG;omega) (by unfold BIG;simp;omega) (by simp;unfold NB at hN;omega),Wp (by unfold Yt;simp;omega),Xa];rfl
def XaI{w:WD}{L:List Int}(hp:Ut h0)(f:Il N h0 L){x:List Int×Int}(k:VI h0 x.1){a:Int}(j:a∈L):VI h0 (Kj h0 w x a).1/\∀b∈L,b≠a->wd (Kj h0 w x a).1 b=wd x.1 b:=by
 have e:=f.obj.at_ a j;have o:=Vb hp e;unfold Kj;split
 .have⟨p,q⟩:=Xqj k e.rng.1 o;refine⟨p,λb hb g=>q b (f.obj.at_ b hb).rng.1 ?_⟩;have:=(YW h0.w b).2.1;rcases Xqi f hb j g with h|h<;>omega
 simp_all
def Xaa{w:WD}{L:List Int}(hp:Ut h0)(g:Il N h0 L)(q:Int->Bool):∀(m:List Int)(x:List Int×Int),(∀a∈m,a∈L)->VI h0 x.1->VI h0 (m.foldl (λx a=>if q a then Kj h0 w x a else x) x).1/\∀b∈L,b∉m->wd (m.foldl (λx a=>if q a then Kj h0 w x a else x) x).1 b=wd x.1 b
 |[],x,_,f=>⟨f,λ_ _ _=>rfl⟩
 |a::m,x,j,f=>by
  rw[Ix];have p:=XaI (w:=w) hp g f (j a ab);cases r:q a with
  |false=>obtain⟨k,o⟩:=Xaa hp g q m x (λb hb=>j b (by grind)) f;exact⟨k,λb hb e=>o b hb λh=>e (by grind)⟩
  |true=>obtain⟨k,o⟩:=Xaa hp g q m (Kj h0 w x a) (λb hb=>j b (by grind)) p.1;exact⟨k,λb hb e=>(o b hb λh=>e (by grind)).trans (p.2 b hb λh=>e (by grind))⟩
end
section
variable {N:Nat}{h0:Wo}{L:List Int}
def Xfr(hN:NB N)(hb:HB h0)(hp:Ut h0)(B:Il N h0 L){w:WD}(g:CI h0 L w)(V:On h0 L w)(u:OI h0.c w.h.p):∀(n k:Nat)(x:List Int×Int),k<=w.o.length->w.o.length-k<n->VI h0 x.1->(∀a∈w.o.drop k,Prm w (pgi h0.c a)->wd x.1 a=wd h0.w a) ->
 Qa1 N w n (k:Int) x.1 x.2=some ((w.o.drop k).foldl (Kj h0 w) x)
 |0,k,x,_,hn,_,_=>by omega
 |n+1,k,x,hk,hn,I,hw=>by
  have J:=hN;unfold NB at J;have hb1:=hb.1;have hql:=g.ql hb;have M:=g.tl hb;have hol:=g.old.length_le;have hsl:=B.len;have W:=g.spc;have hsp:=hp.space;rw[Qa1];by_cases h:k<w.o.length;rotate_left
  .grind
  have O:=Wu h;have A:w.o[k]∈L:=g.old.subset (WL h);have z:=(B.obj.pw.sublist g.old).drop (i:=k);rw[O]at hw z⊢;rw[IN]at z;rw[Xn h,Wb,Xe,Wc h,Xa,Xg aa,Ix];generalize w.o[k]=a at A hw z⊢;have D:=B.obj.at_ a A;have hr:=D.rng;have Y:=Vb hp D;have R:Qc8 N w.h.c a=some (pgi h0.c a,pgo h0.c a,0):=by rw[JP,g.conf,hp.conf,Wk ab,Wp hr];rfl
  have G:∀b∈w.o.drop (k+1),b∈L/\b≠a:=λb hb=>⟨g.old.subset (WS hb),λe=>by have:=z.1 b hb;have:=(YW h0.w a).2.1;omega⟩
  have hpl:=g.plen;have hb2:=hb.2;have⟨b,v,eb,_⟩:=Xfq (N:=N) (w:=⟨⟨w.h.c,x.1,w.h.p,w.h.s,w.h.b⟩,w.o,w.t,w.q,w.d,⟨w.r.j,w.r.K,x.2,w.r.E,w.r.f,w.r.y⟩⟩) (i:=pgi h0.c a) hN M (by simp_all) (by simp_all) u.sp;have v:b=true↔Prm w (pgi h0.c a):=v;rw[R,Xa];rw[eb,Xa];have nxt:¬(Prm w (pgi h0.c a)/\a∉w.q)->Qa1 N w n ((k+1:Nat):Int) x.1 x.2=some ((w.o.drop (k+1)).foldl (Kj h0 w) (Kj h0 w x a)):=λS=>by rw[show Kj h0 w x a=x from Wk S];exact Xfr hN hb hp B g V u n (k+1) x aa aa I λb hb=>hw b (by grind)
  cases T:b with
  |false=>simp_all
  |true=>
   rw[Wi,Wa,Xa,YM a aa aa,Xa];cases U:w.q.contains a with
   |true=>simp_all
   |false=>
    have S:=Z9 U;have H:=v.1 T;have ewd:=hw a ab H;have hf:=Xh3 h0 a;have hvl:=I.len;have eL:(ZS (wd x.1 a)).n=Xbj h0 a:=by rw[ewd];rfl
    rw[Wa,Xa,QeW,YO (by show x.1.length<=_;unfold BIG;omega),Xa,Wp (by show inW x.1 a;unfold inW;omega),KN,Xa,Xa];rw[show x.1.getD (ix a) 0=wd x.1 a from rfl,eL,Jq,Wp (vf aa),Xa,Xa,Xc aa,Xc aa,Z8 (by unfold BIG;omega) (by rw[Xh4];unfold BIG;omega) (by grind),Xh4,Wp (by unfold Yt;omega),Xa];have⟨Z,q2⟩:=XaI (w:=w) hp B I A;have ef:Kj h0 w x a=(fwr h0 x.1 a,wI (x.2+1)):=Wp ⟨H,S⟩;rw[ef]at Z q2⊢;exact Xfr hN hb hp B g V u n (k+1) _ aa aa Z λb hb v=>(q2 b (G b hb).1 (G b hb).2).trans (hw b (by grind) v)
def hpv(w:WD)(v:List Int):Wo:=⟨w.h.c,v,w.h.p,w.h.s,w.h.b⟩
def Xh5(hN:NB N)(hb:HB h0)(ep:Qac N h0=some true){w:WD}(e:CI h0 L w)(f:On h0 L w){v:List Int}(g:VI h0 v):Qac N (hpv w v)=some true/\HT (hpv w v):=by
 have hp:=Yq hN hb ep;have j:=e.plen;refine⟨?_,⟨?_,g.tu⟩⟩
 .have:=f.ss.proper hN hb ep (ws:=v) g.len (b:=w.h.b) (by
   rw[f.bm]
   rcases hp.bump with h|⟨a,b,c⟩
   .exact .inl h
   .exact .inr ⟨a,aa,f.k1 _ a c⟩)
  unfold hpv
  simp_all[e.conf,e.spc]
 have:=hb.1;have:=hb.2;have:=g.len;exact⟨by show v.length<=_;omega,by show w.h.p.length<=_;omega⟩
def Xmx(hN:NB N)(hb:HB h0)(ep:Qac N h0=some true)(o:Il N h0 L){w:WD}(h:CI h0 L w)(j:On h0 L w){v:List Int}(p:VI h0 v){a:Int}(q:a∈L)(e:Prm w (pgi h0.c a))(hw:wd v a=wd h0.w a):Qeo N (hpv w v) a=some (hdA h0.w a,0):=by have⟨r,k⟩:=Xh5 hN hb ep h j p;have f:=o.obj.at_ a q;have g:=j.pr _ e;have y:=f.rng;have hp:=Yq hN hb ep;have h2:IQ (hpv w v) a:=f.same (h2:=hpv w v) h.conf (by rw[g.1];exact e.2.1) g.2 hw;have s:=hp.words;have u:=hb.1;rw[XaC hN k (by unfold tU;omega),Xqh hN k.hb r h2];unfold hdA;rw[show(hpv w v).w=v from rfl,hw]
def Xdt(hN:NB N)(hb:HB h0)(ep:Qac N h0=some true)(j:Il N h0 L){w:WD}(v:CI h0 L w)(E:On h0 L w){i:Int}(y:Prm w i){m:List Int}(u:m.Sublist L)(o:∀a∈m,pgi h0.c a=i):∀(n k:Nat)(x:List Int×Int),k<=m.length->m.length-k<n->VI h0 x.1->(∀a∈m.drop k,wd x.1 a=wd h0.w a) ->
 QcK N w (m,0) i n (k:Int) w.h.c.W w.h.c.p x.1 w.h.p w.h.s w.h.b x.2=some (w.h.c.W,w.h.c.p,((m.drop k).foldl (λx a=>if Zp (fnd h0 a)then Kj h0 w x a else x) x).1,w.h.p,w.h.s,w.h.b,((m.drop k).foldl (λx a=>if Zp (fnd h0 a)then Kj h0 w x a else x) x).2)
 |0,k,x,_,T,_,_=>by omega
 |n+1,k,x,hk,T,z,hw=>by
  have G:=hN;unfold NB at G;have U:=hb.1;have V:=v.ql hb;have Y:=u.length_le;have Z:=j.len;have hp:=Yq hN hb ep;rw[QcK];by_cases h:k<m.length;rotate_left
  .grind
  have H:=Wu h;have f:m[k]∈L:=u.subset (WL h);have I:=o _ (WL h);have g:=(j.obj.pw.sublist u).drop (i:=k);rw[H]at hw g⊢;rw[IN]at g;rw[Xn h,Wb,Xe,Wc h,Xa,Xg aa,Ix];generalize m[k]=a at f hw g I⊢;have A:=j.obj.at_ a f;have hr:=A.rng;have K:=Vb hp A;have B:∀b∈m.drop (k+1),b∈L/\b≠a:=λb hb=>⟨u.subset (WS hb),λe=>by have:=g.1 b hb;have:=(YW h0.w a).2.1;omega⟩
  have ewd:=hw a ab;have eat:=Xmx hN hb ep j v E z f (by simp_all) ewd;unfold hpv at eat;rw[show(⟨w.h.c.W,w.h.c.p⟩:WV)=w.h.c from rfl,eat,Xa];have nxt:=Xdt hN hb ep j v E y u o n (k+1) x aa aa z λb hb=>hw b (by grind);have must0:Qak N 0=some ():=by rw[Qak];rfl
  rw[must0,Xa];by_cases r:(hdA h0.w a).k=0
  .have M:Zp (fnd h0 a)=false:=by unfold Zp fnd;rw[XO r];rfl
   simp_all
  have M:Zp (fnd h0 a)=true:=by unfold Zp fnd;rw[Xf r];rfl
  rw[Xf r,Wa,M,Wp rfl,VN _ _ aa aa,Xa];cases D:w.q.contains a with
  |true=>rw[Wb,show Kj h0 w x a=x from Wk λh=>h.2 (Zm D)];omega
  |false=>have hq:=Z9 D;have hf:=Xh3 h0 a;have hvl:=z.len;have J:=YW h0.w a;have⟨e1,O⟩:=Xh5 hN hb ep v E z;have ei:=Xmw hN O.hb e1 (d:=Xbj h0 a) (a:=a) aa hr.1 (by show _<=4096+(x.1.length:Int);omega);rw[Wa,YS aa,Xa,J.1,QiU,We (show¬szA h0.w a<1 by omega),Wa,We (show¬szA h0.w a>256 by omega),Wa,Xd (n:=szA h0.w a-1) aa aa,show szA h0.w a-1=Xbj h0 a by omega];have eg:=Xdn hN O.hb (a:=a) aa (d:=⟨0,Xbj h0 a,0⟩) ab;rw[ei]at eg;unfold hpv at eg;rw[eg,Xa,Xa];rw[must0,Xa];have⟨R,S⟩:=XaI (w:=w) hp j z f;have ef:Kj h0 w x a=(fwr h0 x.1 a,wI (x.2+1)):=Wp ⟨by simp_all,hq⟩;rw[ef]at R S⊢;exact Xdt hN hb ep j v E y u o n (k+1) _ aa aa R λb hb=>(S b (B b hb).1 (B b hb).2).trans (hw b (by grind))
def fF(h0:Wo)(w:WD)(x:List Int×Int)(a:Int):List Int×Int:=if Zp (fnd h0 a)then Kj h0 w x a else x
def Xi1{h:Wo}{a:Int}:∀(m k:Nat),a∈lps N h k m->∃i,k<=i/\i<k+m/\a∈lpg N h i
 |0,k,e=>by cases e
 |m+1,k,e=>by
  rcases WG.1 e with e|e
  .grind
  have⟨i,f,g,j⟩:=Xi1 m (k+1) e;grind
def Xi2{h:Wo}:∀(m k j:Nat),j<=m->(lps N h (k+j) (m-j)).Sublist (lps N h k m)
 |m,k,0,_=>List.Sublist.refl _
 |0,k,j+1,h=>by omega
 |m+1,k,j+1,e=>by have:(lps N h (k+1+j) (m-j)).Sublist (lps N h (k+1) m):=Xi2 m (k+1) j aa;rw[show k+1+j=k+(j+1) by omega,show m-j=m+1-(j+1) by omega]at this;simp_all[lps]
def Xi3{w:WD}:∀(m:List Int)(x:List Int×Int),(∀a∈m,¬Prm w (pgi h0.c a))->m.foldl (fF h0 w) x=x
 |[],x,_=>rfl
 |a::m,x,h=>by rw[Ix,show fF h0 w x a=x by unfold fF Kj;simp_all];exact Xi3 m x λb hb=>h b (by grind)
def Xdu(hN:NB N)(hb:HB h0)(v:OP N h0 L){w:WD}(g:CI h0 L w)(z:On h0 L w):∀(n k:Nat)(x:List Int×Int),k<=h0.p.length->h0.p.length-k<n->VI h0 x.1->(∀a∈lps N h0 k (h0.p.length-k),Prm w (pgi h0.c a)->wd x.1 a=wd h0.w a) ->
 QdM N w n (k:Int) w.h.c.W w.h.c.p x.1 w.h.p w.h.s w.h.b x.2=some (w.h.c.W,w.h.c.p,((lps N h0 k (h0.p.length-k)).foldl (fF h0 w) x).1,w.h.p,w.h.s,w.h.b,((lps N h0 k (h0.p.length-k)).foldl (fF h0 w) x).2)
 |0,k,x,_,hn,_,_=>by omega
 |n+1,k,x,hk,hn,H,hw=>by
  have S:=hN;unfold NB at S;have I:=g.plen;have hb2:=hb.2;have T:=g.tl hb;have ep:=v.ep;have hp:=Yq hN hb ep;have G:=v.st.st;have hsp:=hp.space;have Z:=g.spc;have J:=z.spn hN hb ep;rw[QdM,I];by_cases h:k<h0.p.length;rotate_left
  .obtain rfl:k=h0.p.length:=aa;simp[XB,Wa,IP,lps]
  rw[Xn h,Wb,Xg aa];have⟨b,A,_,eb⟩:=Xfq (N:=N) (w:=⟨⟨w.h.c,x.1,w.h.p,w.h.s,w.h.b⟩,w.o,w.t,w.q,w.d,⟨w.r.j,w.r.K,x.2,w.r.E,w.r.f,w.r.y⟩⟩) (i:=(k:Int)) hN T (by simp_all) (by simp_all) J.sp;have A:b=true↔Prm w (k:Int):=A;have U:QeQ N ⟨⟨w.h.c,x.1,w.h.p,w.h.s,w.h.b⟩,w.o,w.t,w.q,w.d,⟨w.r.j,w.r.K,x.2,w.r.E,w.r.f,w.r.y⟩⟩ (k:Int)=some b:=by rw[←eb,QeQ,Qdr];simp only[Xz,Xc (p:=w.h.p.length<=140737488355328) aa]
  rw[show(⟨w.h.c.W,w.h.c.p⟩:WV)=w.h.c from rfl,U,Xa];have esub:h0.p.length-k=(h0.p.length-(k+1))+1:=aa;have⟨g1,g2⟩:=v.pg k h;have V:∀a∈lpg N h0 k,pgi h0.c a=(k:Int):=λa e=>(g2.2.1 a e).2;have B:(lps N h0 k (h0.p.length-k)).Sublist L:=by have:=Xi2 (N:=N) (h:=h0) h0.p.length 0 k hk;rw[UC]at this;rw[v.eL];exact this
  rw[esub,lps]at hw B⊢;rw[List.foldl_append];have R:(lpg N h0 k).Sublist L:=(List.sublist_append_left _ _).trans B;cases Y:b with
  |false=>rw[W0,Wb,Xi3 (lpg N h0 k) x λa e=>by simp_all];exact Xdu hN hb v g z n (k+1) x aa aa H λa e=>hw a (Uc _ e)
  |true=>
   have D:=A.1 Y;have⟨e1,e2⟩:=Xh5 hN hb ep g z H;have M:=z.pr _ D;have O:∀a∈lpg N h0 k,wd x.1 a=wd h0.w a:=λa e=>hw a (W4 _ e) (by simp_all);have epg:QfG N (hpv w x.1) (k:Int)=some (lpg N h0 k,0):=by rw[Xdh hN e2];refine Qrb (h:=h0) (h2:=hpv w x.1) g.conf I ep e1 aa aa (by rw[M.1];exact D.2.1) M.2 g1 λa e=>?_;have u:=R.subset e;have:=Xmx hN hb ep G g z H u (by simp_all) (O a e);have hr:=(G.obj.at_ a u).rng;have hv2:=Xu.1 hp.conf;have hwl:=hp.words;have hb1:=hb.1;rw[XaC hN e2 (by unfold tU;omega)]at this;rw[this,G.obj.ev a u]
   unfold hpv at epg;have must0:Qak N 0=some ():=by rw[Qak];rfl
   have gl:=Xdt hN hb ep G g z D R V N 0 x aa (by have:=R.length_le;have:=G.len;omega) H λa e=>O a e;rw[show((0:Nat):Int)=0 from rfl,WY]at gl;rw[Wi,Wa,epg,Xa];rw[must0,Xa,gl,Xa];have⟨q1,q2⟩:=Xaa (w:=w) hp G (λa=>Zp (fnd h0 a)) (lpg N h0 k) x (λa e=>R.subset e) H;refine Xdu hN hb v g z n (k+1) _ aa aa q1 λa e hpa=>?_;have u:=B.subset (Uc _ e);rw[q2 a u λg=>?_]
   .simp_all
   have⟨i,i1,i2,i3⟩:=Xi1 _ _ e;have:=(g2.2.1 a g).2;have:=((v.pg i aa).2.2.1 a i3).2;omega
def XoK(hN:NB N)(hb:HB h0)(A:OP N h0 L){w:WD}(B:CI h0 L w)(u:On h0 L w):∃v c,VI h0 v/\Qfh N w=some ⟨⟨w.h.c,v,w.h.p,w.h.s,w.h.b⟩,w.o,w.t,w.q,w.d,⟨w.r.j,w.r.K,c,w.r.E,w.r.f,w.r.y⟩⟩ /\
 QfA N w=some ⟨⟨w.h.c,v,w.h.p,w.h.s,w.h.b⟩,w.o,w.t,w.q,w.d,⟨w.r.j,w.r.K,c,w.r.E,w.r.f,w.r.y⟩⟩:=by
 have H:=hN;unfold NB at H;have ep:=A.ep;have hp:=Yq hN hb ep;have I:=A.st.st;have M:=hb.2;have D:=u.spn hN hb ep;have J:VI h0 w.h.w:=⟨B.wlen,u.ws⟩
 have O:=B.old.length_le;have R:=I.len;have g:=Xdu hN hb A B u N 0 (w.h.w,w.r.F) aa aa J λa G z=>u.hw a (by rw[A.eL];exact G) z;have r:=Xfr hN hb hp I B u D N 0 (w.h.w,w.r.F) aa aa J λa G z=>u.hw a (B.old.subset G) z;have e:(w.o.drop 0).foldl (Kj h0 w) (w.h.w,w.r.F)=(lps N h0 0 (h0.p.length-0)).foldl (fF h0 w) (w.h.w,w.r.F):=by rw[WY,Nat.sub_zero,←A.eL,u.ol,Ki,List.foldl_filter];rfl
 rw[e]at r;rw[show((0:Nat):Int)=0 from rfl]at g r;have k:=Xaa (w:=w) hp I (λa=>Zp (fnd h0 a)) (lps N h0 0 (h0.p.length-0)) (w.h.w,w.r.F) (λa G=>by rw[A.eL];exact G) J;refine⟨((lps N h0 0 (h0.p.length-0)).foldl (fF h0 w) (w.h.w,w.r.F)).1,((lps N h0 0 (h0.p.length-0)).foldl (fF h0 w) (w.h.w,w.r.F)).2,k.1,?_,?_⟩
 .rw[Qfh,g,Xa]
 simp[QfA,r,Xa]
end
section
variable {N:Nat}{h0:Wo}{L:List Int}
def XoL(hN:NB N)(hb:HB h0)(hp:Ut h0)(o:Il N h0 L){w:WD}(g:CI h0 L w)(j:∀x∈w.h.w,tU x){a:Int}(p:a∈L):∃m,QgD N w a=some m/\Qed N w a=some m:=by
 have k:=hN;unfold NB at k;have r:=g.ql hb;have f:=o.obj.at_ a p;have⟨s,u⟩:=Xew (N:=N) hp.conf f.rng;have hw:=hp.words;have v:=g.wlen;have y:=f.rng;have must0:Qak N 0=some ():=by rw[Qak];rfl
 rw[QgD,Qed,VN _ _ aa aa,YM a aa aa,Xa,Xa];cases w.q.contains a with
 |true=>simp
 |false=>
  rw[Wa,Wa,g.conf,s,Xa];have e:Xb w.h.w (a-4096)=some (wd w.h.w a):=by rw[X0 aa aa];unfold wd ix;rw[Wq,Wc aa];rfl
  rw[must0,Xa,u,e,Xa,Xdr aa (XgT j a),YO (g.wl hb),Xa,Wp (by unfold inW;omega),show w.h.w.getD (ix a) 0=wd w.h.w a from rfl,JO,Xa];simp
def XgV(hN:NB N)(hb:HB h0)(hp:L≠[]->Ut h0)(A:Il N h0 L){w:WD}(e:CI h0 L w)(g:∀x∈w.h.w,tU x){ws:List Int}(G:ws.length<=1000000)(B:∀x∈ws,x=0\/x∈L)(D:WD×List Int×Int):∀(n k:Nat)(c:Int)(out:List Int),k<=ws.length->ws.length-k<n->out.length=k ->
 ∃o z,o.length=ws.length/\QcL N w ws n (k:Int) c out=some (o,z)/\Qbb N ws D (w,0) n (k:Int) c out=some (z,o)
 |0,k,c,out,_,H,_=>by omega
 |n+1,k,c,out,M,H,f=>by
  rw[QcL,Qbb];by_cases h:k<ws.length;rotate_left
  .grind
  rw[Xn h,Wb,Wb,Xe,Wc h,Xa,Xa,Xg aa,Xz,Xz];have nx:=λz x=>XgV hN hb hp A e g G B D n (k+1) z (out++[x]) aa aa (by simp_all);have p:=B _ (WL h);generalize ws[k]=a at p⊢;by_cases u:a=0
  .dsimp only;rw[Xc aa,Xc aa];simp_all
  rw[Xl u,Wb,Wb,Xa];have v:a∈L:=by rcases p with h|h;exact absurd h u;exact h
  have⟨m,I,J⟩:=XoL hN hb (hp (List.ne_nil_of_mem v)) A (w:=⟨w.h,w.o,w.t,w.q,w.d,⟨w.r.j,w.r.K,w.r.F,w.r.E,c,w.r.y⟩⟩) (by
   obtain⟨O,s,f⟩:=e.obj
   exact⟨e.conf,e.wlen,e.plen,e.spc,e.old,e.tk,e.tnd,e.knd,e.qnd,⟨O,s,⟨f.old,f.queue,f.fit,f.apart,f.taken,f.free⟩⟩⟩) g v
  rw[I,J,Xa,Xa,Xz,Xz];cases m==0 with
  |true=>rw[Wb,Wb];dsimp only;rw[Xc aa,Xc aa];simp_all
  |false=>rw[Wa,Wa];dsimp only;rw[Xc aa,Xc aa];simp_all
def Xey(o:Wv)(f:o.k=2):∀(n k:Nat)(e:List Wv),k<=e.length->e.length-k<n->e.length<=100000->∃r,Qfi N o n (k:Int) e=some r/\r.length=e.length/\∀j:Nat,((k<=j/\j<e.length/\∀x:Nat,k<=x->x<=j->(pg e x).k=3)/\pg r j=Je)\/(¬(k<=j/\j<e.length/\∀x:Nat,k<=x->x<=j->(pg e x).k=3)/\pg r j=pg e j)
 |0,k,e,_,y,_=>by omega
 |n+1,k,e,G,y,H=>by
  rw[Qfi,XO f,Wb,Xc aa];by_cases h:k<e.length;rotate_left
  .grind
  rw[Xn h,Wb,XG (ps:=e) (i:=(k:Int)) aa aa,Xa];by_cases v:(pg e k).k=3;rotate_left
  .grind
  rw[XO v,Wb,Xa,Xg aa];have z:=λx:Nat=>ZT (ps:=e) (i:=(k:Int)) (j:=(x:Int)) ⟨0,0,0,0⟩ aa aa aa;have eq:∀x:Nat,k+1<=x->pg (e.set (k:Int).toNat ⟨0,0,0,0⟩) x=pg e x:=λx A=>by grind
  have⟨r,B,w,p⟩:=Xey o f n (k+1) (e.set (k:Int).toNat ⟨0,0,0,0⟩) (by grind) (by grind) (by simp_all);rw[WN]at w p;refine⟨r,B,w,λj=>?_⟩;by_cases q:j=k
  .subst q;refine .inl ⟨⟨Uf _,h,λx a b=>by grind⟩,?_⟩;rcases p j with g|g
   .omega
   rw[g.2,z j,Wp rfl];rfl
  rcases p j with⟨⟨I,D,E⟩,b⟩|⟨a,b⟩
  .refine .inl ⟨⟨aa,D,λx A s=>?_⟩,b⟩;by_cases u:x=k
   .rw[u];exact v
   rw[←eq x aa];exact E x aa s
  grind
def Xi4{w:WD}(e:List Wv)(f:Wv)(i c:Int)(hp:Ut h0)(g:w.h.c=h0.c)(o:0<=i)(g1:i<h0.c.p):∀(n k:Nat)(v:List Int),(k:Int)<=h0.c.W->65-k<n->v.length=h0.w.length ->
 ∃r,QbA N w e f i c n (k:Int) v=some r/\r.length=v.length/\∀j,r.getD j 0=if(i*h0.c.W).toNat+k<=j/\j<((i+1)*h0.c.W).toNat then 0 else v.getD j 0
 |0,k,v,_,s,_=>by omega
 |n+1,k,v,k0,s,u=>by
  have y:=Xu.1 hp.conf;have z:=X4 hp.conf o g1;have hw:=hp.words;have A:(i+1)*h0.c.W=i*h0.c.W+h0.c.W:=by rw[IJ,I5]
  rw[QbA,g];by_cases q:(k:Int)<h0.c.W;rotate_left
  .rw[We q,Wa];exact⟨v,rfl,rfl,λj=>by rw[Wk aa]⟩
  rw[Wd q,Wb,Xg aa,Xd (n:=i*h0.c.W) aa aa,Xd (n:=i*h0.c.W+k) aa aa,X0 aa aa,Xa];have⟨r,B,D,E⟩:=Xi4 e f i c hp g o g1 n (k+1) (v.set (i*h0.c.W+k).toNat 0) aa aa (by rw[WN];exact u);grind
def frZ(e:List Wv)(sp:Int)(j:Nat):Prop:=(pg e j).k≠0/\(pg e j).s=sp
def frC(e:List Wv)(sp:Int)(k j:Nat):Prop:=∃i:Nat,i<k/\i<j/\j<e.length/\(pg e i).k=2/\(pg e i).s=sp/\∀x:Nat,i<x->x<=j->(pg e x).k=3
def Xqk{c:WV}{f:List Wv}(p:OI c f){sp:Int}{k j:Nat}(h:frC f sp k j):frZ f sp j:=by
 have⟨i,w,q,y,z,r,s⟩:=h;have g:=s j q (Uf j);have⟨o,A,B,u,v,D⟩:=p.tl j aa aa g;obtain⟨m,rfl⟩:∃m:Nat,o=m:=⟨o.toNat,aa⟩
 have tl:=(u.k2 v).2.2;have e:m=i:=by
  rcases Nat.lt_trichotomy m i with h|h|h
  .have:=(tl ((i:Int)-m) aa aa).1;grind
  .omega
  grind
 subst e;have:=(tl ((j:Int)-m) aa aa).2.1;rw[show(m:Int)+((j:Int)-m)=j by omega]at this;exact⟨aa,this.trans r⟩
def Xmy{a b:List Int}(e:a.length=b.length)(h:∀j,a.getD j 0=b.getD j 0):a=b:=by refine List.ext_getElem e λi f g=>?_;have:=h i;simp_all
def Xfs(hN:NB N)(hb:HB h0)(hp:Ut h0){w:WD}(O:w.h.c=h0.c)(A:w.h.p.length=h0.p.length)(H:OI h0.c w.h.p):∀(n k:Nat)(c:Int)(v:List Int)(q g:List Wv),k<=h0.p.length->h0.p.length-k<n->v.length=h0.w.length->q.length=h0.p.length->g.length=h0.p.length ->
 (∀j:Nat,(j<k/\frZ w.h.p w.h.s j->pg q j=Je)/\(¬(j<k/\frZ w.h.p w.h.s j)->pg q j=pg w.h.p j)) ->
 (∀j:Nat,((j<k/\frZ w.h.p w.h.s j)\/frC w.h.p w.h.s k j->pg g j=Je)/\(¬((j<k/\frZ w.h.p w.h.s j)\/frC w.h.p w.h.s k j)->pg g j=pg w.h.p j)) ->
 ∃I B r,B.length=h0.w.length/\r.length=h0.p.length/\Qa8 N w n (k:Int) c v q=some (I,B,r)/\QbL N w n (k:Int) g c v=some (B,r,I)
 |0,k,c,v,q,g,_,hn,_,_,_,_,_=>by omega
 |n+1,k,c,v,q,g,hk,hn,R,hq,J,D,o=>by
  have U:=hN;unfold NB at U;have hb2:=hb.2;have hpp:=hp.pages;have hw:=hp.words;have must0:Qak N 0=some ():=by rw[Qak];rfl
  rw[Qa8,QbL,Xc aa,hq,A];by_cases h:k<h0.p.length;rotate_left
  .obtain rfl:k=h0.p.length:=aa;rw[XB,Wa,Wa];have e:g=q:=by
    refine Xqb aa λj hj=>?_;obtain⟨m,rfl⟩:∃m:Nat,j=m:=⟨j.toNat,aa⟩
    by_cases hm:m<h0.p.length/\frZ w.h.p w.h.s m
    .simp_all
    rw[(D m).2 hm];refine(o m).2 λh=>?_;rcases h with h|h
    .simp_all
    have V:=Xqk H h;have⟨_,_,_,K,_⟩:=h;grind
   subst e;exact⟨c,v,g,R,J,rfl,rfl⟩
  have Y:pg q k=pg w.h.p k:=(D k).2 λh=>by omega
  rw[Xn h,Wb,Wb,XG (ps:=q) (i:=(k:Int)) aa aa,XG (ps:=w.h.p) (i:=(k:Int)) aa aa,Xa,Xa,Xa,Y,Xg aa];have skip:¬frZ w.h.p w.h.s k->∃I B r,B.length=h0.w.length/\r.length=h0.p.length/\Qa8 N w n ((k+1:Nat):Int) c v q=some (I,B,r)/\QbL N w n ((k+1:Nat):Int) g c v=some (B,r,I):=λV=>by
   have lt:∀j:Nat,j<k+1/\frZ w.h.p w.h.s j↔j<k/\frZ w.h.p w.h.s j:=λj=>⟨λh=>⟨by rcases Un j k with a|a;exact a;exact absurd (show j=k by omega▸h.2) (λ_=>V (by rw[show k=j by omega];exact h.2)),h.2⟩,λh=>⟨aa,h.2⟩⟩
   have fr:∀j:Nat,frC w.h.p w.h.s (k+1) j↔frC w.h.p w.h.s k j:=λj=>⟨λ⟨i,a,b,d,e,f,g⟩=>⟨i,by
    rcases Un i k with x|x
    .exact x
    .exfalso;rw[show i=k by omega]at e f;exact V ⟨aa,f⟩,b,d,e,f,g⟩,λ⟨i,a,b,d,e,f,g⟩=>⟨i,aa,b,d,e,f,g⟩⟩
   refine Xfs hN hb hp O A H n (k+1) c v q g aa aa R hq J (λj=>?_) λj=>?_
   .rw[lt j];exact D j
   grind
  by_cases S:(pg w.h.p k).k=0
  .rw[XO S,Wb,Wb];exact skip λh=>h.1 S
  rw[Xf S,Wa,Wa];by_cases G:(pg w.h.p k).s=w.h.s;rotate_left
  .rw[Xl G,Wb,Wb];exact skip λh=>G h.2
  have Z:frZ w.h.p w.h.s k:=⟨S,G⟩
  rw[show((pg w.h.p k).s != w.h.s)=false by simp_all,Wa,Wa];have hm:=X4 hp.conf (i:=(k:Int)) aa aa;have hvc:=Xu.1 hp.conf;have e1:((k:Int)+1)*h0.c.W=k*h0.c.W+h0.c.W:=by rw[IJ,I5]
  have e2:(((k+1:Nat):Int))*h0.c.W=(k:Int)*h0.c.W+h0.c.W:=by rw[←e1];congr 1
  obtain⟨u,u1,u2,u3⟩:=Xi4 (N:=N) (w:=w) q (pg w.h.p k) (k:Int) c hp O aa aa N 0 v aa aa R;rw[show((0:Nat):Int)=0 from rfl]at u1;rw[O,e2,Xd (n:=(k:Int)*h0.c.W) aa aa,Xd (n:=(k:Int)*h0.c.W+h0.c.W) aa aa,Xc aa,u1,Xa];have eu:((v.take ((k:Int)*h0.c.W).toNat)++(List.replicate (((k:Int)*h0.c.W+h0.c.W).toNat-((k:Int)*h0.c.W).toNat) (0:Int)))++(v.drop (((k:Int)*h0.c.W).toNat+(((k:Int)*h0.c.W+h0.c.W).toNat-((k:Int)*h0.c.W).toNat)))=u:=by
   refine Xmy ?_ λj=>?_
   .grind
   rw[XiV aa aa,u3 j,e1,IM]
  rw[eu];have hul:u.length=h0.w.length:=u2.trans R;have p2:=λx:Nat=>ZT (ps:=q) (i:=(k:Int)) (j:=(x:Int)) ⟨0,0,0,0⟩ aa aa aa;have hq':∀j:Nat,(j<k+1/\frZ w.h.p w.h.s j->pg (q.set (k:Int).toNat ⟨0,0,0,0⟩) j=Je)/\(¬(j<k+1/\frZ w.h.p w.h.s j)->pg (q.set (k:Int).toNat ⟨0,0,0,0⟩) j=pg w.h.p j):=λj=>by
   rw[p2 j];by_cases z:j=k
   .subst z;rw[Wp rfl];exact⟨λ_=>rfl,λh=>absurd ⟨aa,Z⟩ h⟩
   grind
  have fin:=λg' hg' M=>Xfs hN hb hp O A H n (k+1) (wI (c+1)) u (q.set (k:Int).toNat ⟨0,0,0,0⟩) g' aa aa hul (by simp_all) hg' hq' M;have frm:∀j,frC w.h.p w.h.s k j->frC w.h.p w.h.s (k+1) j:=λj ⟨i,a,b,d,e,f,g⟩=>⟨i,aa,b,d,e,f,g⟩
  have frk:∀j,frC w.h.p w.h.s (k+1) j->(pg w.h.p k).k≠2->frC w.h.p w.h.s k j:=λj ⟨i,a,b,d,e,f,g⟩ G=>⟨i,by
   grind,b,d,e,f,g⟩
  by_cases K:(pg w.h.p k).k=3
  .rw[show((pg w.h.p k).k != 3)=false by rw[K];rfl,Wa];refine fin g J λj=>?_;refine⟨λh=>?_,λh=>(o j).2 λa=>h (by rcases a with a|a;exact .inl ⟨aa,a.2⟩;exact .inr (frm j a))⟩;rcases h with⟨a,b⟩|a
   .by_cases z:j=k
    .subst z;have⟨k',t0,t1,t2,t3,t4⟩:=H.tl j aa aa K;obtain⟨m,rfl⟩:∃m:Nat,k'=m:=⟨k'.toNat,aa⟩
     have tl:=(t2.k2 t3).2.2;have tx:∀x:Nat,m<x->x<=j->(pg w.h.p x).k=3/\(pg w.h.p x).s=(pg w.h.p m).s:=λx a b=>by have:=tl ((x:Int)-m) aa aa;rw[show(m:Int)+((x:Int)-m)=x by omega]at this;exact⟨this.1,this.2.1⟩
     exact(o j).1 (.inr ⟨m,aa,aa,aa,t3,by rw[←(tx j aa (Uf _)).2];exact G,λx a b=>(tx x a b).1⟩)
    exact(o j).1 (.inl ⟨aa,b⟩)
   simp_all
  rw[Xl K,Wb];have hgk:pg g k=pg w.h.p k:=(o k).2 λh=>by
   rcases h with h|⟨i,a,b,d,e,f,x⟩
   .omega
   simp_all
  have g2:=λx:Nat=>ZT (ps:=g) (i:=(k:Int)) (j:=(x:Int)) ⟨0,0,0,0⟩ aa aa aa;have hkd:=(H.hd k aa aa K).kd;rw[QiV,We (show¬(k:Int)<0 by omega),Wa,We (show¬(k:Int)>=(g.length:Int) by omega),Wa,XG (ps:=g) (i:=(k:Int)) aa aa,Xa,Xz,hgk];have ej:∀x y:Option (List Wv×Int),(bif (pg w.h.p k).k != 1 then(bif (pg w.h.p k).k != 2 then x else y)else y)=y:=λx y=>by grind
  rw[ej];simp only[Qaa,Xa];rw[XG (ps:=g) (i:=(k:Int)) aa aa,Xa,Xg aa];rcases hkd with e|e|e
  .omega
  .obtain⟨n',rfl⟩:∃m,N=m+1:=⟨N-1,aa⟩
   rw[Qfi,Xf aa,Wa,Xa,Xa];rw[must0,Xa];refine fin _ (by rw[WN];exact J) λj=>?_;rw[g2 j];grind
  have⟨r,r1,r2,r3⟩:=Xey (N:=N) (pg w.h.p k) e N (k+1) (g.set (k:Int).toNat ⟨0,0,0,0⟩) (by grind) (by grind) (by simp_all);rw[WN]at r2 r3;rw[r1,Xa,Xa];rw[must0,Xa];have gx:∀x j:Nat,k<x->x<=j->j<h0.p.length->(∀y:Nat,k<y->y<=j->(pg w.h.p y).k=3)->pg g x=pg w.h.p x:=λx j a b d f=>(o x).2 λh=>by
   rcases h with h|⟨i,i1,i2,i3,i4,i5,i6⟩
   .omega
   grind
  have gy:∀x:Nat,(pg g x).k=3->pg g x=pg w.h.p x:=λx T=>(o x).2 λh=>by grind
  refine fin r aa λj=>?_;have run:(k+1<=j/\j<g.length/\∀x:Nat,k+1<=x->x<=j->(pg (g.set (k:Int).toNat ⟨0,0,0,0⟩) x).k=3)↔(k<j/\j<h0.p.length/\∀x:Nat,k<x->x<=j->(pg w.h.p x).k=3):=by
   rw[J];refine⟨λ⟨a,b,d⟩=>⟨a,b,λx T E=>?_⟩,λ⟨a,b,d⟩=>⟨a,b,λx T E=>?_⟩⟩
   .have:=d x T E;rw[g2 x,Wk aa]at this;grind
   rw[g2 x,Wk aa,gx x j T E b d];grind
  have ht:=r3 j;rw[run,g2 j]at ht;rcases ht with⟨a,b⟩|⟨a,b⟩
  .have:frC w.h.p w.h.s (k+1) j:=⟨k,aa,a.1,aa,e,G,a.2.2⟩
   grind
  rw[b];by_cases z:j=k
  .grind
  rw[Wk aa];refine⟨λh=>(o j).1 ?_,λh=>(o j).2 λq=>h ?_⟩
  .rcases h with h|⟨i,i1,i2,i3,i4,i5,i6⟩
   .exact .inl ⟨aa,h.2⟩
   refine .inr ⟨i,?_,i2,i3,i4,i5,i6⟩;rcases Un i k with x|x
   .exact x
   exfalso;obtain rfl:i=k:=aa;exact a ⟨i2,aa,i6⟩
  grind
def XoM(hN:NB N)(hb:HB h0)(hp:Ut h0){w:WD}(z:w.h.c=h0.c)(e:w.h.p.length=h0.p.length)(hw:w.h.w.length=h0.w.length)(A:OI h0.c w.h.p):∃c v r,v.length=h0.w.length/\r.length=h0.p.length/\Qfz N w=some ⟨⟨w.h.c,v,r,w.h.s,w.h.b⟩,w.o,w.t,w.q,w.d,⟨w.r.j,w.r.K,w.r.F,c,w.r.f,w.r.y⟩⟩/\Qfj N w=some ⟨⟨w.h.c,v,r,w.h.s,w.h.b⟩,w.o,w.t,w.q,w.d,⟨w.r.j,w.r.K,w.r.F,c,w.r.f,w.r.y⟩⟩:=by
 have g:=hN;unfold NB at g;have B:=hb.1;have D:=hb.2;obtain⟨c,v,r,G,H,k,u⟩:=Xfs hN hb hp z e A N 0 w.r.E w.h.w w.h.p w.h.p aa aa hw e e (λj=>⟨λh=>aa,λ_=>rfl⟩) (λj=>⟨λh=>by rcases h with h|⟨i,h,_⟩<;>omega,λ_=>rfl⟩);rw[show((0:Nat):Int)=0 from rfl]at k u;refine⟨c,v,r,G,H,?_,?_⟩
 .rw[Qfz,Xc aa,Xc aa,k,Xa]
 simp[Qfj,Qab,Xa,u]
end
section
variable {N:Nat}{h0:Wo}{L:List Int}
def CI.rep{w:WD}(e:CI h0 L w)(g:WP):CI h0 L {w with r:=g}:=by have⟨O,s,f⟩:=e.obj;exact⟨e.conf,e.wlen,e.plen,e.spc,e.old,e.tk,e.tnd,e.knd,e.qnd,⟨O,s,⟨f.old,f.queue,f.fit,f.apart,f.taken,f.free⟩⟩⟩
def On.rep{w:WD}(h:On h0 L w)(e:WP):On h0 L {w with r:=e}:=⟨h.q,h.old,h.fw,h.ws,h.ss,h.k1,h.pr,h.hw,h.bm,h.ol⟩
def RefB(h0:Wo)(L:List Int)(l:List Int):Prop:=(l.all λx=>x==0||(Ki h0 L).contains x)=true
def RefB.mem{l:List Int}(h:RefB h0 L l):∀x∈l,x=0\/x∈L:=λx e=>by
 have:=W9.1 h x e;simp only[Iw,beq_iff_eq]at this;rcases this with h|h
 .omega
 exact .inr (List.filter_sublist.subset (Zm h))
def Xh6(hN:NB N)(ht:HT h0)(g:OP N h0 L){rs ws:List Int}(R:rs.length+ws.length<=1000000)(S:∀x∈rs,tU x)(J:RefB h0 L rs)(B:RefB h0 L ws):∃r,Qes N h0 rs ws=some r/\QdR N h0 rs ws=some r/\(r.2.2.2.2=0->NZ rs r.2.1):=by
 have D:=hN;unfold NB at D;have hb:=ht.hb;have ep:=g.ep;have hp:=Yq hN hb ep;have G:=g.st;have⟨w,g1,T,U,V,W,H⟩:=Xmv hN ht g;have Y:QbS N h0 rs=some true:=by rw[ZZ hN ht aa g.eg g.ob];exact congrArg some J
 have Z:QbS N h0 ws=some true:=by rw[ZZ hN ht aa g.eg g.ob];exact congrArg some B
 have e3:Qeq N h0 (rs++ws)=some true:=by rw[Xen hN ht (by rw[WO];omega),ZZ hN ht (by rw[WO];omega) g.eg g.ob,List.all_append,show(rs.all λx=>x==0||(Ki h0 L).contains x)=true from J,show(ws.all λx=>x==0||(Ki h0 L).contains x)=true from B];rfl
 rw[Qes,QdR,g1,T,ep,Y,Z,Xa,Xa,Xz,Xa,Xa,Wi,Wa,Wa,Wa,Xa];rw[show((0:Int)==0)=true from rfl,Wb,XbF _ ab (by unfold XaB;unfold XaB;unfold XaB;omega) aa,Xa,show [rs,ws].flatten=rs++ws by simp,e3,Xa,Wb];rcases Xmt hN G U V W aa S with⟨e,k,u,z⟩|⟨w1,out,c1,h1,q1,k1,l1,z1,u,z⟩
 .rw[u,z,Xa,Xa,Xf k,Xl k,Wa,Wb];exact⟨_,rfl,rfl,λh=>absurd h k⟩
 rw[u,z,Xa,Xa];have esc:w1.d=0:=by unfold KeepW at k1;rw[k1];exact H
 rcases Xqf hN G c1 h1 q1 aa aa with⟨e,k,u,z⟩|⟨w2,A,I,q2,u,z⟩
 .rw[u,z,Xa,Xa,Xf k,Xl k,Wa,Wb];exact⟨_,rfl,rfl,λh=>absurd h k⟩
 rw[u,z,Xa,Xa];have⟨o,M,ol,O,b2⟩:=XgV hN hb (λ_=>hp) G.st A I.ws aa B.mem (w1,out,0) N 0 w2.r.f [] aa aa rfl;rw[show((0:Nat):Int)=0 from rfl]at O b2;rw[Qd9,O,b2,Xa,Xa,Xa];have⟨v,cf,vi,f1,f2⟩:=XoK hN hb g (A.rep ⟨w2.r.j,w2.r.K,w2.r.F,w2.r.E,M,w2.r.y⟩) (I.rep _);rw[f1,f2,Xa,Xa];have⟨cr,v',ps,y1,y2,y3,y4⟩:=XoM (w:=⟨⟨w2.h.c,v,w2.h.p,w2.h.s,w2.h.b⟩,w2.o,w2.t,w2.q,w2.d,⟨w2.r.j,w2.r.K,cf,w2.r.E,M,w2.r.y⟩⟩) hN hb hp A.conf A.plen vi.len (I.spn hN hb ep);have htl:=A.tl hb;rw[y3,y4,Xa,Xa];dsimp only;rw[Xc aa,Xz];by_cases hk:(w2.t.length:Int)>0
 .rw[Wd hk,Wb,Xd (n:=(w2.t.length:Int)-1) aa aa,X0 aa aa,Xa];exact⟨_,rfl,rfl,λ_=>z1⟩
 simp_all
end
section
variable {N:Nat}
def Xi5{rs:List Int}{c:Nat}(h:c<rs.length):Xb (rs.drop c) 0=some rs[c]:=by rw[show(0:Int)=((0:Nat):Int)from rfl,Xe,UL,Wc aa];rfl
def Xdv(t:Wr)(g:t.e.length<=1000000)(rs:List Int)(j:rs.length<=1000000):∀(n k c:Nat)(v:List WQ),k<=t.e.length->t.e.length-k<n->v.length=t.e.length->c+(XS (v.drop k)).length=rs.length ->
 ∃r,QeH N t n (rs.drop c) (k:Int) v=some r/\QbC N rs n (c:Int) (k:Int) v=some r
 |0,k,c,v,_,p,_,_=>by omega
 |n+1,k,c,v,q,p,o,f=>by
  rw[QeH,QbC,Xc aa,o];by_cases h:k<t.e.length;rotate_left
  .obtain rfl:k=t.e.length:=aa;simp
  have hd:=Wu (show k<v.length by omega);rw[hd]at f;rw[Xn h,Wb,Wb,Xe,Wc aa,Xa,Xa,Xg aa];cases s:v[k].V with
  |false=>exact Xdv t g rs j n (k+1) c v aa aa o (by rw[←f];unfold XS;grind)
  |true=>
   have u:c+1+(XS (v.drop (k+1))).length=rs.length:=by rw[←f];unfold XS;rw[Uw aa,Us,Uk];omega
   rw[Wb,Wb,Xi5 aa,Xa,Xe,Wc (show c<rs.length by omega),Xa,Xc (by grind),Xa,Xa,Oi,Xg aa];exact Xdv t g rs j n (k+1) (c+1) _ aa aa (by simp_all) (by rw[show(k:Int).toNat=k from rfl,IE aa];omega)
def XgW(hN:NB N){t:Wr}(ht:TB t)(g:YX t.e=true){rs:List Int}(h:(XS t.e).length=rs.length):∃r,Qhg N t rs=some (r,0)/\Qc3 N t rs=some (r,0):=by
 have f:1000000<N:=by unfold NB at hN;omega
 have o:=Jf g;have:=VZ t.e;have⟨r,j,k⟩:=Xdv (N:=N) t aa rs aa N 0 0 t.e aa aa rfl (by simp_all);rw[WY,show((0:Nat):Int)=0 from rfl]at j;rw[show((0:Nat):Int)=0 from rfl]at k;refine⟨⟨r⟩,?_,?_⟩
 .rw[Qhg,JU ht f,g,Xa,Wi,Wa,K0 ht f,g,Wb,Xa,h];simp only[bne_self_eq_false,Wa,Qe3,Qao,Xa];rw[Xc aa,show(Wr.mk t.e)=t from rfl,j,Xa]
 rw[Qc3,Zo ht f,g,Xa,Wi,Wa,Yr ht f,g,Wb,Xa,Xc aa,h];simp;rw[Xc aa,k,Xa]
def Xdw(a:Wm)(j:a.S.length<=1000000)(rs:List Int)(o:rs.length<=1000000)(f:∀x∈rs,x≠0):∀(n k c:Nat)(v:List UA),k<=a.S.length->a.S.length-k<n->v.length=a.S.length->c+(X7 (v.drop k)).length=rs.length ->
 ∃r,QeG N a n (rs.drop c) (k:Int) v=some r/\QbB N a rs n (c:Int) (k:Int) v=some (.nxt r)
 |0,k,c,v,_,q,_,_=>by omega
 |n+1,k,c,v,s,q,p,g=>by
  rw[QeG,QbB,Xc aa,p];by_cases h:k<a.S.length;rotate_left
  .obtain rfl:k=a.S.length:=aa;simp
  have hd:=Wu (show k<v.length by omega);rw[hd]at g;rw[Xn h,Wb,Wb,Xe,Wc aa,Xa,Xa,Xg aa];cases u:v[k].V with
  |false=>exact Xdw a j rs o f n (k+1) c v aa aa p (by rw[←g];unfold X7;grind)
  |true=>
   have w:c+1+(X7 (v.drop (k+1))).length=rs.length:=by rw[←g];unfold X7;rw[Uw aa,Us,Uk];omega
   have e:c<rs.length:=aa;rw[Wi,Wb,Wa,Xi5 e,Xa,Xe,Wc e,Xa,Xa,Xf (f _ (WL e)),Wa,Xa,Xa,Xc (by grind),Oi,Xg aa];exact Xdw a j rs o f n (k+1) (c+1) _ aa aa (by grind) (by rw[show(k:Int).toNat=k from rfl,IE aa];omega)
def Xmz(hN:NB N){a:Wm}(g:LBp a)(f:YY a=true){rs:List Int}(j:(X7 a.S).length=rs.length)(k:∀x∈rs,x≠0):∃r,QhX N a rs=some (r,0)/\QeR N a rs=some (r,0):=by
 have e:1000000<N:=by unfold NB at hN;omega
 have q:=(Y6.1 f).slots;have:=(Y6.1 f).iss;have:=Xbx a.S;have⟨r,o,p⟩:=Xdw (N:=N) a aa rs aa k N 0 0 a.S aa aa rfl (by simp_all);rw[WY,show((0:Nat):Int)=0 from rfl]at o;rw[show((0:Nat):Int)=0 from rfl]at p;have s:rs.contains 0=false:=by rw[Bool.eq_false_iff];intro h;exact k 0 (Zm h) rfl
 refine⟨⟨r,a.x,a.i⟩,?_,?_⟩
 .rw[QhX,Ji g e,f,Xa,Wi,Wa,XbE g e,f,Wb,Xa,j,VN _ _ aa e,s];simp only[bne_self_eq_false,Wa,QdB,Qas,Qan,QaF,Xa];rw[Xc aa,show(Wm.mk a.S a.x a.i)=a from rfl,o,Xa]
 rw[QeR,ZB g e,f,Xa,Wi,Wa,Zw g e,f,Wb,Xa,j];simp;rw[Xc aa,p,Xa,Xq]
def Xi6(x:WI)(G:x.P.length<=1000000)(p:Wo×List Int×List Int×WP×Int)(u:WI)(w:List Int×List Int)(y:Wm×Int)(f:List Int×List Int)(j o:Wr×Int)(q s:List Int)(z:Wm×Int)(A B:Wr×Int)(g:f.2.length=x.P.length)(D:∀k:Nat,k<x.P.length->Xb p.2.1 (wI (wI (wI ((x.R.length:Int)+(q.length:Int))+(s.length:Int))+k))=f.2[k]?):∀(n k:Nat)(v:List Uz),k<=x.P.length->x.P.length-k<n->v.length=k ->
 ∃r,Qfa N p u w y f j o n (k:Int) (v++x.P.drop k)=some r/\Qbc N x p q s z A B n (k:Int) v=some r
 |0,k,v,_,H,_=>by omega
 |n+1,k,v,J,H,E=>by
  rw[Qfa,Qbc,g];by_cases h:k<x.P.length;rotate_left
  .obtain rfl:k=x.P.length:=aa;simp
  have hd:=Wu h;have e:Xb (v++x.P.drop k) (k:Int)=some x.P[k]:=by rw[Xe,UW aa,E,IP,hd];rfl
  rw[Xn h,Wb,Wb,Xe,D k h,Wc aa,Xa,Xa,e,Xa,Xe,Wc h,Xa,Xc aa,Xg aa];have I:(v++x.P.drop k).set (k:Int).toNat ⟨f.2[k],x.P[k].M⟩=(v++[⟨f.2[k],x.P[k].M⟩])++x.P.drop (k+1):=by rw[show(k:Int).toNat=k from rfl,Ir _ _ aa,E,IP,hd,Im,UF];rfl
  rw[I];exact Xi6 x G p u w y f j o q s z A B g D n (k+1) _ aa aa (by simp_all)
structure OV(N:Nat)(x:WI)(L:List Int):Prop where
 beg:OP N x.h L
 ev:EV N x
 strong:RefB x.h L (Jk x)
 weak:RefB x.h L (XS x.v.e)
def Xh7(hN:NB N){x:WI}(ht:ET x)(e:QbH N x=some true):∃L,OV N x L:=by
 have f:1000000<N:=by unfold NB at hN;omega
 have h:=ht.eb;have u:=ZD h.loc;have w:=YA x.g.e;have y:=YA x.v.e;have q:=h.pins;have D:=h.roots;have⟨b,eb,hb⟩:=ZE hN h;rw[e]at eb;obtain rfl:=WE eb;have j:=hb rfl;have⟨b,eb,_⟩:=JR hN h.heap q;rw[QbH,eb,Xa]at e;cases b with
 |false=>grind
 |true=>
 have⟨eg,s,k⟩:=XaF hN ht.ht q eb;have⟨L,o⟩:=Xqg hN ht.ht eg;have z:Jk x=((x.R++X7 x.l.S)++XS x.g.e)++x.P.map (·.a):=by unfold Jk;rw[j.loc,j.glo];rfl
 simp only[Wi,Wa,ZB h.loc f,Zo h.glo f,Zo h.wea f,Yr h.glo f,Yr h.wea f,Zw h.loc f,Xa,j.loc,j.glo,j.wea,Wb]at e u w y;rw[YM 0 aa aa,Xa]at e;cases A:(XS x.g.e).contains 0 with
 |true=>simp_all
 |false=>
 rw[A,Wa,Xc aa,Xc aa,Xc aa,Xc aa,ZZ hN ht.ht (by grind) eg o.ob,Xa]at e;have e:=WE e;simp only[List.all_append,W7]at e;refine⟨L,o,j,?_,e.2⟩;unfold RefB;rw[z];simp only[List.all_append,W7];refine⟨⟨⟨e.1.1.1,e.1.1.2⟩,e.1.2⟩,?_⟩;rw[W9];intro r B;obtain⟨p,hp,rfl⟩:=UJ.1 B;rw[k _ o.ob p hp,Bool.or_true]
def XmA(hN:NB N){x:WI}(ht:ET x):∃r,Qhu N x=some r/\Qc4 N x=some r:=by
 have u:1000000<N:=by unfold NB at hN;omega
 have j:=ht.eb;have h1:=ZD j.loc;have h2:=YA x.g.e;have h5:=YA x.v.e;have h3:=j.pins;have h4:=j.roots;have⟨b,eb,_⟩:=ZE hN j;rw[Qhu,Qc4,X9 hN ht,eb,Xa,Xa];cases b with
 |false=>simp
 |true=>
 have⟨L,hV⟩:=Xh7 hN ht eb;have w:=hV.ev;have D:=hV.beg;rw[w.loc,Wb]at h1;rw[w.glo,Wb]at h2;rw[w.wea,Wb]at h5;have I:=w.mat.len;have J:Jk x=((x.R++X7 x.l.S)++XS x.g.e)++x.P.map (·.a):=by unfold Jk;rw[w.loc,w.glo];rfl
 have hll:(Jk x).length=x.R.length+(X7 x.l.S).length+(XS x.g.e).length+x.P.length:=by rw[J];simp only[WO,Ug]
 rw[Wi,Wa,Wa,Xdj hN j,XhT hN j,Xa,Xa,K0 j.wea u,Yr j.wea u,w.wea,Wb,Xa,Xa];have tr:∀y∈Jk x,tU y:=λy hy=>by
  rcases hV.strong.mem y hy with h|h
  .simp_all
  have hr:=(D.st.st.obj.at_ y h).rng;have hp:=Yq hN j.heap D.ep;have hw:=hp.words;have hb1:=j.heap.1;unfold tU;omega
 have⟨y,e1,K,A⟩:=Xh6 hN ht.ht D (rs:=Jk x) (ws:=XS x.v.e) aa tr hV.strong hV.weak;have⟨y',e3,M⟩:=QlT hN j.heap (rs:=Jk x) (ws:=XS x.v.e) aa aa;rw[K]at e3;obtain rfl:=WE e3;rw[e1,K,Xa,Xa];by_cases E:y.2.2.2.2=0;rotate_left
 .simp[Xl,E,Wb]
 have A:=A E;have⟨hl1,G⟩:=M.len E;rw[show(y.2.2.2.2 != 0)=false by simp_all,Wa,Wa];simp only[Qat,QgL,Qfs,Qff,Qab,Qaa,Qas,Qan,QaF,Qao,Qaq,Xa,Qet];generalize hs:y.2.1=s at *;have en:(x.R.length:Int).toNat=x.R.length:=rfl;rw[Xc aa,Xc aa,Xa,en,Xc (by grind),XbE j.loc u,Zw j.loc u,w.loc,Wb,Xa,Xa,Yr j.glo u,K0 j.glo u,w.glo,Wb,Xa];generalize O:X7 x.l.S=f at *;generalize hm:XS x.g.e=o at *;have ek:(f.length:Int).toNat=f.length:=rfl;have em:(o.length:Int).toNat=o.length:=rfl;have w1:wI ((x.R.length:Int)+(f.length:Int))=((x.R.length+f.length:Nat):Int):=by rw[Xd aa aa];omega
 have w2:wI (((x.R.length+f.length:Nat):Int)+(o.length:Int))=((x.R.length+f.length+o.length:Nat):Int):=by rw[Xd aa aa];omega
 have t1:((x.R.length+f.length:Nat):Int).toNat=x.R.length+f.length:=rfl;have t2:((x.R.length+f.length+o.length:Nat):Int).toNat=x.R.length+f.length+o.length:=rfl;have hz:∀v∈(s.drop x.R.length).take f.length,v≠0:=λv H=>by
  obtain⟨i,hi,T⟩:=WJ H;rw[Wj]at hi;rw[Ih,ID]at T;have B:i<f.length:=aa;have e4:(Jk x)[x.R.length+i]? = some f[i]:=by rw[J,UF,UF,UW aa,IF,U0 B,Wc B]
  refine A (x.R.length+i) v (by rw[Wc aa,T]) _ e4 ?_;have z:f[i]∈X7 x.l.S:=by rw[O];exact WL B
  unfold X7 at z;obtain⟨p,hp,ep⟩:=UJ.1 z;rw[←ep];have hp:=Ux.1 hp;obtain⟨q,M,eq⟩:=WJ hp.1;exact(Xd8 (Y6.1 w.loc).st (i:=q) (p:=p) (by simp_all)).2.2.2.1 hp.2
 have⟨U,a1,a2⟩:=Xmz hN j.loc w.loc (rs:=(s.drop x.R.length).take f.length) (by rw[O,Wj,Wl];omega) hz;have⟨V,b1,b2⟩:=XgW hN j.glo w.glo (rs:=(s.drop (x.R.length+f.length)).take o.length) (by rw[hm,Wj,Wl];omega);have⟨W,c1,c2⟩:=XgW hN j.wea w.wea (rs:=y.2.2.1) G.symm;have⟨r4,Y,Z⟩:=Xi6 (N:=N) x h3 y ⟨x.h,x.l,x.g,x.v,x.P,x.R⟩ (s.take x.R.length,s.drop x.R.length) (U,0) ((s.drop (x.R.length+f.length)).take o.length,s.drop (x.R.length+f.length+o.length)) (V,0) (W,0) f o (U,0) (V,0) (W,0) (by simp_all) (λk hkp=>by
  rw[hs,w1,w2,Xd aa aa,show((x.R.length+f.length+o.length:Nat):Int)+(k:Int)=((x.R.length+f.length+o.length+k:Nat):Int) by omega,Xe,UL]) N 0 [] aa aa rfl
 rw[show((0:Nat):Int)=0 from rfl,WY,Uh]at Y;rw[show((0:Nat):Int)=0 from rfl]at Z;rw[w1,w2,t1,t2,ek,Xc (by grind),Xc (by grind),Xa,a1,Xa,Xa];rw[em,Oi,Xc (by grind[Wl]),Xc (by grind[Wl]),Xa];dsimp only;rw[b1,Xa,c1,Xa,Oi,Y,Xa];rw[Xc aa,Xc aa,Xc aa,Xc aa,show x.R.length+f.length-x.R.length=f.length by omega,a2,Xa,Xc aa,show x.R.length+f.length+o.length-(x.R.length+f.length)=o.length by omega,b2,Xa,c2,Xa,Z,Xa];refine⟨_,?_,rfl⟩;rw[show(!(((0:Int)==0)&&(((0:Int)==0)&&((0:Int)==0))))=false from rfl,Wa,List.take_zero,Uh,Wj,UK aa,Ia]
end
section
variable {N:Nat}
def XoN{t:Ig}{m:Int}(h0:0<=t.at_)(o:t.at_<=m)(q:m<=1000000){a:Int}(s:a<=1000000000):Ok (Qai N t a) λr=>0<=r.1/\(1<=a->r.1<a)/\0<=r.2.at_/\r.2.at_<=m+1:=by
 refine Ws (λ_=>Wg ⟨ab,λh=>aa,h0,by grind⟩) λf=>?_;have f:=WM f;have rest:∀x:Int,Ok (grd (a≠0) <| grd (a≠0) <| some (((wI ((x.tmod a)+a)).tmod a),(Ig.mk t.L (wI (t.at_+1))))) λr=>0<=r.1/\(1<=a->r.1<a)/\0<=r.2.at_/\r.2.at_<=m+1:=by
  intro x;have u:=Int.tmod_lt_of_pos x (show 0<a by omega);have b2:-a<x.tmod a:=by have:=Int.tmod_lt_of_pos (-x) (show 0<a by omega);rw[Int.neg_tmod]at this;omega
  have e:=Xd (n:=x.tmod a+a) aa aa;have g:=Xd (n:=t.at_+1) aa aa;have j:=Int.tmod_lt_of_pos (x.tmod a+a) (show 0<a by omega);have k:=Int.tmod_nonneg a (show 0<=x.tmod a+a by omega);refine W8 aa (W8 aa (Wg ?_));simp only[e,g];exact⟨k,λ_=>j,aa,aa⟩
 refine Iu (Ws (λh=>Ok.get h0 (Wz h) λp _=>rest p) λ_=>rest _)
def TA(m:Int)(t:Ig):Prop:=0<=t.at_/\t.at_<=m
def nxp{t:Ig}{m a:Int}(h:TA m t)(g:m<=1000000)(e:1<=a)(j:a<=1000000000):Ok (Qai N t a) λr=>0<=r.1/\r.1<a/\TA (m+1) r.2:=(XoN h.1 h.2 g j).mono λr f=>⟨f.1,f.2.1 e,f.2.2⟩
def TA.le{t:Ig}{m n:Int}(h:TA m t)(e:m<=n):TA n t:=⟨h.1,by have:=h.2;omega⟩
def Xab{p:Ik}{t:Ig}{m:Int}(hw:1<=p.w.length)(D:p.w.length<=1000)(h:TA m t)(G:m+5<=1000000):Ok (QbX N p t) λr=>TA (m+3) r.2:=by
 have k2:∀(k:Ig)(o:Bool),TA (m+1) k->Ok (bif o then(bnd (Qai N k (p.w.length:Int)) λv=>bnd (Xb p.w v.1) λq=>some (q,v.2))else bnd (Qai N k (if 6<(p.w.length:Int)then 6 else(p.w.length:Int))) λg=>bnd (Xb p.w (wI ((wI ((p.w.length:Int)-1))-g.1))) λs=>some (s,g.2)) λr=>TA (m+3) r.2:=by
  intro k o A;refine Ws (λ_=>Uo (nxp A aa aa aa) λy e=>Ok.get e.1 e.2.1 λ_ _=>Wg (e.2.2.le aa)) λ_=>?_;refine Uo (nxp A aa aa aa) λy e=>?_;have H:y.1<(p.w.length:Int):=by have:=e.2.1;split at this<;>omega
  have h0:=e.1;rw[Xd (n:=(p.w.length:Int)-1) aa aa,Xd (n:=(p.w.length:Int)-1-y.1) aa aa];exact Ok.get aa aa λ_ _=>Wg (e.2.2.le aa)
 refine Uo (nxp h aa aa aa) λy e=>Ws (λ_=>Uo (nxp e.2.2 aa aa aa) λz f=>Ok.get f.1 f.2.1 λ_ _=>Wg (f.2.2.le aa)) λ_=>Ws (λ_=>?_) λ_=>?_
 .exact Uo (nxp e.2.2 aa aa aa) λz f=>Ok.get f.1 f.2.1 λ_ _=>Uo (nxp f.2.2 aa aa aa) λu E=>Wg (E.2.2.le aa)
 refine Oc (λo=>k2 _ o e.2.2) λI B=>Ui (B _) (Oc (λJ=>B _) λj h=>Ui (h _) (h _))
def XoO{p:Ik}{t:Ig}{m:Int}(hw:1<=p.w.length)(f:p.w.length<=1000)(h:TA m t)(S:m+30<=1000000):Ok (Qdk N p t) λr=>TA (m+20) r.2:=by
 refine Uo (nxp h aa aa aa) λT g=>Ok.get g.1 g.2.1 λB _=>Ws (λ_=>?_) λ_=>?_
 .refine Uo (nxp g.2.2 aa aa aa) λo A=>?_;have e:=XA A.1 aa;refine W8 aa ?_;have U:1<=ZP .i64 1 (wU o.1)/\ZP .i64 1 (wU o.1)<=1000:=by rw[e];have a:=A.1;have b:=A.2.1;have c:o.1=0\/o.1=1\/o.1=2\/o.1=3:=aa;rcases c with c|c|c|c<;>rw[c]<;>decide
  exact Uo (nxp A.2.2 aa aa aa) λV I=>Wg (I.2.2.le aa)
 refine Oc (λW=>Ws (λ_=>?_) λ_=>Ws (λ_=>?_) λ_=>?_) λj h=>Ui (h _) (h _)
 .exact Uo (nxp g.2.2 aa aa aa) λY J=>Uo (nxp J.2.2 aa aa aa) λZ H=>Ui (Uo (nxp H.2.2 aa aa aa) λy8 K=>Wg (K.2.2.le aa)) (Wg (H.2.2.le aa))
 .exact Uo (nxp g.2.2 aa aa aa) λy9 M=>Wg (M.2.2.le aa)
 refine Uo (Xab hw f g.2.2 aa) λq D=>Uo (nxp D aa aa aa) λE G=>Uo (nxp G.2.2 aa aa aa) λO s=>?_;have k:∀(l:List Int)(at_ c:Int),TA (m+12) ⟨l,at_⟩->Ok (bif (B==10)then(bnd (QbX N p (Ig.mk l at_)) λu=>
  some ((Ol.mk B q.1 u.1 c),u.2))
 else some ((Ol.mk B q.1 (wU E.1) c),(Ig.mk l at_))) λr=>TA (m+20) r.2:=λl at_ c ht=>
  Ui (Uo (Xab hw f ht aa) λy v=>Wg (v.le aa)) (Wg (ht.le aa))
 refine Iu (Ui (Uo (Xab hw f s.2.2 aa) λy v=>k _ _ _ (v.le aa)) (Uo (nxp s.2.2 aa aa aa) λR z=>Ui (Uo (Xab hw f z.2.2 aa) λy v=>k _ _ _ (v.le aa)) (k _ _ _ (z.2.2.le aa))))
structure PB(k:Nat)(p:Ik):Prop where
 env:EB p.N
 wor:WB k p.z
 ty:Xav p
 w1:1<=p.w.length
 w2:p.w.length<=k+1
def Xql(a b:WI)(op v e:Int):Ok (Qfo N a b op v e) λ_=>True:=by
 have k2:∀x y:Bool,Ok (bif (op==19)then(bif (e==0)then some (Oo.mk x y v)
  else some (Oo.mk x y 0))
  else some (Oo.mk x y 0)) λ_=>True:=λx y=>Ui (Ui (Wg trivial) (Wg trivial)) (Wg trivial)
 refine Oc (λx=>Oc (λy=>k2 x y) λj h=>Ui (h _) (h _)) λj h=>Ui (h _) (Ui (h _) (h _))
def Xrz(hN:NB N){k:Nat}{p:Ik}(hp:PB k p)(o:k+1<=900){d:Ol}(j:XeZ d):Ok (QbG N p d) λr=>PB (k+1) r.1:=by
 have ty:=λr (e:QbG N p d=some r)=>QlS (N:=N) hp.ty j r e;have main:Ok (QbG N p d) λr=>EB r.1.N/\WB (k+1) r.1.z/\1<=r.1.w.length/\r.1.w.length<=k+1+1:=by
  have w1:=hp.w1;have w2:=hp.w2;have up:=hp.wor.up o;rw[QbG];refine Ws (λ_=>?_) λ_=>?_
  .refine Uo (VE hN hp.env) λB v=>Iu (Ui (Uo (Xb0 hN hp.wor hp.ty.2.1) λD y=>Wg ⟨v,y.up o,w1,IC w2⟩) (Wg ⟨hp.env,up,w1,IC w2⟩))
  refine WH (Xgu hN hp.env _ _ _ _) λf A g=>Uo (Xql _ _ _ _ _) λq _=>Uo (XlZ hN hp.wor o hp.ty.2.1 d.Op j.1 j.2.1 j.2.2 q) λs u=>?_;have k2:∀w:WU,WB (k+1) w->Ok (α:=Ik×Int×Int) (bif (f.2.2==0)then(bif (f.2.1 != 0)then(grd (p.w.length*8<=140737488355328) <| grd ((p.w.length+1)*8<=140737488355328) <| some ((Ik.mk f.1 w (p.w++[f.2.1])),f.2.1,f.2.2))else some ((Ik.mk f.1 w p.w),f.2.1,f.2.2))else some ((Ik.mk p.N w p.w),f.2.1,f.2.2)) λr=>EB r.1.N/\WB (k+1) r.1.z/\1<=r.1.w.length/\r.1.w.length<=k+1+1:=by
   intro w hw;refine Ui (Ui (W8 aa (W8 aa (Wg ⟨g,hw,?_,?_⟩))) (Wg ⟨g,hw,w1,by grind⟩)) (Wg ⟨hp.env,hw,w1,by grind⟩)
   .simp
   simp_all
  exact Iu (Ui (k2 s.1 u) (k2 p.z up))
 have⟨r,e,h⟩:=main;exact⟨r,e,h.1,h.2.1,(ty r e).1,h.2.2.1,h.2.2.2⟩
end
section
variable {N:Nat}
def Xke{t:Ig}{m:Int}(h:TA m t)(g:m+5<=1000000):Ok (Qg7 N t) λr=>TA (m+2) r.2:=by exact Uo (nxp h aa aa aa) λy e=>Ok.get e.1 e.2.1 λ_ _=>Uo (nxp e.2.2 aa aa aa) λz f=>Ok.get f.1 f.2.1 λ_ _=>Wg (f.2.2.le aa)
def XmB(c:WV):Ok (QgU N c) λr=>EB r.1:=by
 rw[QgU,QhD,Zv,Xa];refine WH (Q:=λr:Wo×Int=>HB r.1) ?_ λy _ g=>Wg ⟨g,ZL,XcX,XcX,ab,ab⟩;refine Ws (λ_=>Wg Kh) λf=>?_;have f:Yk c=true:=by simpa using f
 have h:=Xu.1 f;have j:=X4 f (i:=0) aa aa;have e:=Xd (n:=c.p*c.W) aa aa;refine W8 aa (W8 aa (Wg ⟨?_,?_⟩))
 .rw[WT,e];omega
 grind
def XmC(c:WV):Ok (QgV N c) λr=>WB 0 r.1:=by
 rw[QgV,Zv,Xa];have z:∀c:WV,WB 0 ⟨c,[],zL,zT,zT,[],[]⟩:=λc=>⟨aa,ab,λx e=>by simp_all,ZL,by simp[zT],by simp[zT],ab,ab⟩
 exact Ui (Wg (z _)) (Wg (z _))
def XmD{t:Ig}{m:Int}(h:TA m t)(o:m+5<=1000000):Ok (Qca N t) λr=>PB 0 r.1/\TA (m+3) r.2:=by
 have main:Ok (Qca N t) λr=>EB r.1.N/\WB 0 r.1.z/\1<=r.1.w.length/\r.1.w.length<=1/\TA (m+3) r.2:=by rw[Qca];refine Uo (Xke h o) λq j=>Uo (XmB _) λs g=>Uo (XmC _) λu f=>Uo (nxp j aa aa aa) λv k=>Wg ⟨⟨g.heap,⟨g.loc.1,ab,g.loc.2.2⟩,g.glo,g.wea,g.pins,g.roots⟩,⟨f.kk,f.things,f.fields,⟨f.loc.1,ab,f.loc.2.2⟩,f.gloK,f.weaK,f.marksK,f.rootsK⟩,ab,ab,k.2.2.le aa⟩
 have⟨r,e,j,g,f,k,p⟩:=main;exact⟨r,e,⟨j,g,QjK r e,f,k⟩,p⟩
end
section
variable {N:Nat}
def VO{α β:Type}{L:Nat}{F:Nat->Int->Option (Ex α β)}{u:β}(g:∀n k,k<L->F (n+1) (k:Int)=F n ((k+1:Nat):Int))(f:∀n,F (n+1) (L:Int)=some (.nxt u)){n:Nat}(o:L<n):F n 0=some (.nxt u):=by have⟨e,q,_,e3⟩:=Jy (p:=λ_=>False) (Q:=λ_=>True) (u:=u) (λn k _ h=>h.elim) (λn k j _=>g n k j) f n 0 aa aa;simp_all
def Vf(n:Nat):((n:Int) != (n:Int))=false:=by simp
def Xqm{l:List Int}(f:l.length<=1300000)(hN:NB N):Qh3 N l l=some true:=by unfold NB at hN;rw[Qh3,Vf,Wa,VO (F:=QeO N l l) (L:=l.length) (u:=()) (λn k e=>by rw[QeO,Wd aa,Wb,Xe,Wc e,Xa,Xa,show(l[k] != l[k])=false by simp,Wa,Xg aa]) (λn=>by rw[QeO,We aa,Wa]) aa,Xa,Xq]
def Xqn{h:Wo}(hb:HB h)(hN:NB N):Qh0 N h h=some true:=by
 unfold NB at hN;have f:=hb.1;have g:=hb.2;have j:QfK N h.p h.p=some true:=by rw[QfK,Vf,Wa,VO (F:=Qce N h.p h.p) (L:=h.p.length) (u:=()) (λn k e=>by rw[Qce,Wd aa,Wb,Xe,Wc e,Xa,Xa];simp only[beq_self_eq_true,IS,Wi,Wa];rw[Xg aa]) (λn=>by rw[Qce,We aa,Wa]) aa,Xa,Xq]
 rw[Qh0];simp only[beq_self_eq_true,IS,Wi,Wa,bne_self_eq_false,j,Xa];rw[VO (F:=QeI N h h) (L:=h.w.length) (u:=()) (λn k e=>by rw[QeI,Wd aa,Wb,Xe,Wc e,Xa,Xa,show(h.w[k] != h.w[k])=false by simp,Wa,Xg aa]) (λn=>by rw[QeI,We aa,Wa]) aa,Xa,Xq]
end
end Go.Sx

namespace Go.Sx
section
variable {N:Nat}
def KL(h e:Wo):Prop:=e.w.length=h.w.length/\e.p.length=h.p.length
end
section
variable {N:Nat}
def KL.refl(h:Wo):KL h h:=⟨rfl,rfl⟩
def KL.trans{a b c:Wo}(h:KL a b)(k:KL b c):KL a c:=⟨k.1.trans h.1,k.2.trans h.2⟩
end
section
variable {N:Nat}
end
section
variable {N:Nat}
def Oz{α:Type}{P:α->Prop}{b:Bool}{x y:Option α}(e:b=true->PT x P)(f:b=false->PT y P):PT (bif b then x else y) P:=by grind
end
section
variable {N:Nat}{x:WI}
end
section
variable {N:Nat}{x:WI}
end
section
variable {N:Nat}{x:WI}
structure SM(x:WI):Prop where
 sc:x.l.x.length<=1000
 glo:x.g.e.length<=1000
 wea:x.v.e.length<=1000
 pins:x.P.length<=1000
 roots:x.R.length<=1000
def KE(x y:WI):Prop:=KL x.h y.h/\(SM x->SM y)
def KE.refl(x:WI):KE x x:=⟨KL.refl _,id⟩
def KE.trans{x y z:WI}(h:KE x y)(k:KE y z):KE x z:=⟨h.1.trans k.1,λs=>k.2 (h.2 s)⟩
def zz{e:Int}(h:(e != 0)=false):e=0:=by simp_all
end
section
variable {N:Nat}
def NE(h:Wo):Prop:=1<=h.w.length/\1<=h.p.length
def KL.ne{a b:Wo}(k:KL a b)(h:NE a):NE b:=⟨by rw[k.1];exact h.1,by rw[k.2];exact h.2⟩
end
section
variable {N:Nat}
def Xqo{a:Wm}(h:LBp a)(hN:1000000<N):Qh1 N a a=some true:=by have⟨f,g,j⟩:=h;rw[Qh1,Vf,Vf,Vf,Wa,Wa,Wa];rw[VO (F:=QeJ N a a) (L:=a.S.length) (u:=()) (λn k e=>by rw[QeJ,Xn e,Wb,Xe,Wc e,Xa,Xa,Xg aa];simp) (λn=>by rw[QeJ,XB,Wa]) aa,Xa,Xq];rw[VO (F:=QeK N a a) (L:=a.x.length) (u:=()) (λn k e=>by rw[QeK,Xn e,Wb,Xe,Wc e,Xa,Xa,Xg aa];simp) (λn=>by rw[QeK,XB,Wa]) aa,Xa,Xq];rw[VO (F:=QeL N a a) (L:=a.i.length) (u:=()) (λn k e=>by rw[QeL,Xn e,Wb,Xe,Wc e,Xa,Xa,Xg aa];simp) (λn=>by rw[QeL,XB,Wa]) aa,Xa,Xq]
def XmE{t:Wr}(h:TB t)(hN:1000000<N):Qhh N t t=some true:=by unfold TB at h;rw[Qhh,Vf,Wa,VO (F:=QeM N t t) (L:=t.e.length) (u:=()) (λn k f=>by rw[QeM,Xn f,Wb,Xe,Wc f,Xa,Xa,Xg aa];simp) (λn=>by rw[QeM,XB,Wa]) aa,Xa,Xq]
def Xqp{l:List Uz}(h:l.length<=1000000)(hN:1000000<N):Qh2 N l l=some true:=by rw[Qh2,Vf,Wa,VO (F:=QeN N l l) (L:=l.length) (u:=()) (λn k e=>by rw[QeN,Xn e,Wb,Xe,Wc e,Xa,Xa,Xg aa];simp) (λn=>by rw[QeN,XB,Wa]) aa,Xa,Xq]
def Xqq{x:WI}(f:EB x)(hN:NB N):Qh4 N x x=some true:=by
 have e:1000000<N:=by unfold NB at hN;omega
 have:=f.roots;rw[Qh4,Xqn f.heap hN,Xa,Wb,Xqo f.loc e,Xa,Wb,XmE f.glo e,Xa,Wb,XmE f.wea e,Xa,Wb,Xqp f.pins e,Xa,Wb,Xqm aa hN,Xa]
end
section
variable {N:Nat}
def XaJ(hN:NB N){x:WI}(ht:ET x){d:WC}(g:tW d.Map):∃r,Qg0 N x d=some r/\QeY N x d=some r/\EB r.1:=by
 have f:1000000<N:=by unfold NB at hN;omega
 have e:=ht.eb;have⟨r,j,p⟩:=Xec hN e d;refine⟨r,?_,j,p⟩;rw[←j,Qg0,QeY,X9 hN ht];have⟨b,eb,_⟩:=ZE hN e;rw[eb,Xa,Xa];cases b with
 |false=>rfl
 |true=>
 have⟨L,hV⟩:=Xh7 hN ht eb;rw[Wi,Wa,Wa,Jl f];simp only[Qat,QgL,Qfs,Qff,Qab,Qaa,Qas,Qan,QaF,Qao,Qaq,Xa];have⟨b,k,_⟩:=Xfa hN x.h.c d;rw[k,Xa];cases b with
 |false=>simp[W0,Wb,QcG,hV.beg.ep,Xa,Wi,Wa,k,Xz]
 |true=>
 rw[Wi,Wa,XiY hN e.heap g];have⟨y,q,w⟩:=Xfb hN e.heap d;rw[q,Xa,Xa,Xz];by_cases s:y.2.2=3
 .have⟨z,u,o⟩:=XmA hN ht;have⟨A,e3,v⟩:=VE hN e;rw[o]at e3;obtain rfl:=WE e3;rw[u,o,Xa,Xa];by_cases h0:z.2.2=0
  .rw[show(z.2.2 != 0)=false by rw[h0];rfl,Wa,Wa,XiY hN v.heap g]
  rw[Xl h0,Wb,Wb]
 simp[Xf,s,Wa]
end
section
variable {N:Nat}{h:Wo}{a i:Int}{x:WI}{L:List Int}
structure OA(N:Nat)(h:Wo)(a:Int):Prop where
 hb:HT h
 ep:Qac N h=some true
 pr:Ut h
 at_:IQ h a
 ev:Qar N h a=some (hdA h.w a,0)
 kd:(hdA h.w a).k≠0
 eg:QbO N h=some true
 g1:Qfv N h a=some true
 g2:Qd2 N h a=some true
def XrA(hN:NB N)(ht:HT h)(f:OP N h L)(g:(Ki h L).contains a=true):OA N h a:=by
 have j:=hN;unfold NB at j;have⟨y,e,p,q,r,s,u⟩:=Jz hN ht.hb;rw[f.ob]at e;obtain rfl:=WE e;have o:a∈Ki h L:=by simpa using g
 have p:(Ki h L).length<=4096:=p;have⟨k,v⟩:=XiW (N:=N) (Ki h L) a aa aa q;refine⟨ht,f.ep,f.st.prop (λe=>by simp_all[Ki]),r a o,s a o,u a o,f.eg,?_,?_⟩
 .rw[Qfv,KA hN ht,f.ob,Xa];simp;rw[v,Xa,g]
 rw[Qd2,f.ob,Xa,YM a aa aa,Xa,g]
def OA.ne(o:OA N h a):a≠0:=by have:=o.at_.rng;omega
def OA.tu(o:OA N h a):tU a:=o.at_.tu o.pr
def KP(hN:NB N)(o:OA N h a):Qc6 N h a=some (hdA h.w a,0)/\QcF N h a=some (hdA h.w a,0):=by have e:=hN;unfold NB at e;rw[Qc6,QcF,Yd o.hb.hb.2 aa,o.ep,XaC hN o.hb o.tu,o.ev];simp[Xa,Wi,Wa,Xf,o.ne,o.kd]
def XgX(hN:NB N)(o:OA N h a)(h0:0<=i)(f:i<(hdA h.w a).n):wU (wU (a+1)+wU i)=a+1+i/\a+1+i<=18446744073709551615/\inW h.w (a+1+i):=by have:=Vb o.pr o.at_;have:=o.at_.rng;have hb:=o.hb.hb.1;have e:szA h.w a=(hdA h.w a).n+1:=rfl;refine⟨?_,aa,by unfold inW;omega⟩;rw[XA (n:=a+1) aa aa,XA (n:=i) h0 aa,XA aa aa]
def JW(hN:NB N)(o:OA N h a)(h0:0<=i)(f:i<(hdA h.w a).n):∃v,Qga N h a i=some (v,0)/\Qef N h a i=some (v,0):=by
 have⟨e,g,e3⟩:=XgX hN o h0 f;have⟨g1,g2⟩:=KP hN o;have hb:=o.hb.hb.1;refine⟨h.w.getD (ix (a+1+i)) 0,?_,?_⟩
 .rw[Qga,Qf9,g1,Xa];simp only[show((0:Int) != 0)=false from rfl,Wa,We (show¬i<0 by omega),We (show¬i>=(hdA h.w a).n by omega),Xa,e];rw[Xde aa g,YO (by unfold BIG;omega),Wp e3,Xa]
 rw[Qef,g2,Xa];simp only[show((0:Int) != 0)=false from rfl,Wa,We (show¬i<0 by omega),We (show¬i>=(hdA h.w a).n by omega),Xa,e];rw[YO (by unfold BIG;omega),Wp e3,Xa]
def Xi7(hN:NB N)(o:OA N h a)(h0:0<=i)(f:i<(hdA h.w a).n)(v:Int):∃r,Qeu N h a i v=some (r,0)/\Qcm N h a i v=some (r,0):=by
 have e:=hN;unfold NB at e;have⟨g,j,e3⟩:=XgX hN o h0 f;have⟨g1,g2⟩:=KP hN o;have⟨w,_,k⟩:=JW hN o h0 f;have hb:=o.hb.hb.1;have q:∀b,Qhv N h.w (a+1+i) b=QcP N h.w (a+1+i) b:=λb=>by rw[Qhv,QcP,Xer hN hb ab j]
 refine⟨⟨h.c,h.w.set (ix (a+1+i)) v,h.p,h.s,h.b⟩,?_,?_⟩
 .rw[Qeu,Qf9,g1,Xa];simp only[show((0:Int) != 0)=false from rfl,Wa,We (show¬i<0 by omega),We (show¬i>=(hdA h.w a).n by omega),Xa,g];rw[q,Jb (by unfold BIG;omega) aa,Wp e3,Xa,Qe8,Qaa];simp only[show((0:Int) != 0)=false from rfl,Wa,Xa]
 rw[Qcm,k,Xa,g,Jb (by unfold BIG;omega) aa,Wp e3];simp only[show((0:Int) != 0)=false from rfl,Wa,Xa]
def XgY{l:List WQ}{i g:Int}(h:(YE l i g).2=0):(YE l i g).1∈XS l:=by have⟨_,_,p,hp,_,e,f⟩:=V1 h;rw[f];exact UJ.2 ⟨p,Ux.2 ⟨Ua hp,e⟩,rfl⟩
def Vg(hN:NB N)(ht:ET x)(hV:OV N x L)(ev:QbH N x=some true){v:Int}(s:tU v):∃r,Qav N x v=some r/\QaB N x v=some r/\(r.2=0->r.1≠0->OA N x.h r.1):=by
 have j:1000000<N:=by unfold NB at hN;omega
 have o:=ht.eb;have ob:∀l,RefB x.h L l->∀r∈l,r≠0->OA N x.h r:=λl q r u h0=>by have:=W9.1 q r u;rw[Xf h0,Ie]at this;exact XrA hN ht.ht hV.beg this
 have w:X7 x.l.S ⊆ Jk x:=by unfold Jk;rw[hV.ev.loc,Wb];intro z k;simp[k]
 have y:XS x.g.e ⊆ Jk x:=by unfold Jk;rw[hV.ev.glo,Wb];intro z k;simp[k]
 rw[Xme hN ht s,QaB,ev,Xa,Wi,Wa,VG s,Xa];by_cases k:v=0
 .simp_all
 rw[Xf k,Wa];cases hd:(Yx v).2 != 0 with
 |true=>simp
 |false=>
 simp only[Wa,Vc o.loc j,Ka o.glo j,Ka o.wea j,Xa];cases (Yx v).1.Tag==1 with
 |true=>refine⟨_,rfl,rfl,λh0 f=>?_⟩;have⟨_,_,p,hp,_,q,A⟩:=V0 h0;refine ob _ hV.strong _ (w ?_) f;simp only[A];exact UJ.2 ⟨p,Ux.2 ⟨Ua hp,q⟩,rfl⟩
 |false=>
 cases (Yx v).1.Tag==2 with
 |true=>exact⟨_,rfl,rfl,λh0 f=>ob _ hV.strong _ (y (XgY h0)) f⟩
 |false=>exact⟨_,rfl,rfl,λh0 f=>ob _ hV.weak _ (XgY h0) f⟩
end
section
variable {N:Nat}{h:Wo}{a:Int}{pins:List Uz}
def XsS(l:List Uz):Ex Bool (List Int)->Prop
 |.ret b=>b=false
 |.nxt _=>∀p∈l,1<=p.M/\p.M<=1000
def Xez(r:pins.length<=64)(y:List Int×Int):∀(n k:Nat)(v:List Int),k<=pins.length->PT (Qb0 N h pins y n (k:Int) v) (XsS (pins.drop k))
 |0,k,v,_=>IZ
 |n+1,k,v,z=>by
  refine Oz (λg=>?_) λg=>Wh λp hp=>?_
  .have f:k<pins.length:=by have:=Wz g;omega
   have s:Xb pins (k:Int)=some pins[k]:=by rw[Xe,Wc f]
   simp only[s,Xa];refine WR λA=>Wn (Wh rfl) (WR λB=>Wn (Wh rfl) (Oz (λ_=>Wh rfl) λj=>Oz (λ_=>Wh rfl) λo=>WR λu=>WR λ_=>WR λ_=>?_));have j:=WM j;have o:=WM o;rw[Xg aa];intro e w;have q:=Xez r y n (k+1) _ aa e w;cases e with
   |ret b=>exact q
   |nxt D=>
    intro p hp;rw[Wu f]at hp;rcases UY.1 hp with rfl|hp
    .omega
    exact q p hp
  grind
def XgZ(g:pins.length<=64)(j:Qbo N h pins=some true):∀p∈pins,1<=p.M/\p.M<=1000:=by
 have:PT (Qbo N h pins) λb=>b=true->∀p∈pins,1<=p.M/\p.M<=1000:=by
  refine WR λb=>Wn (Wh λh=>by grind) (Wn (Wh λh=>by grind) (WR λy=>W6 ?_));refine Wx (Xez g y N 0 _ aa) λe f=>?_;cases e with
  |ret b=>rw[XD];exact Wh λh=>by have:b=false:=f;grind
  |nxt v=>intro _ _ _;exact f
 exact this _ j rfl
def Xg0:∀(n:Nat)(c i:Int),Qds N h n c i=QbP N h a n c i
 |0,_,_=>rfl
 |n+1,c,i=>by
  rw[Qds,QbP];cases Xb h.p i with
  |none=>simp[ZR]
  |some p=>simp only[Xa,Xg0 n]
def XmF(hN:NB N)(o:OA N h a):∃b,Qe4 N h a=some b/\Qc5 N h a=some b:=by have⟨b,eb,_⟩:=Jg hN o.hb.hb a;refine⟨b,?_,eb⟩;have f:=hN;unfold NB at f;have k:=o.hb.hb.2;have⟨e,g,j⟩:=V3 (N:=N) o.pr o.at_;have⟨c,p,_⟩:=XaA (N:=N) o.hb.hb a N 0 0 aa aa aa;rw[←eb,Qe4,Qc5,Xbf hN o.hb,o.eg,o.g1,o.g2,(Xew (N:=N) o.pr.conf o.at_.rng).1,e];have hp:=(o.pr.pgs _ g j).pins.1;simp only[Xa,Wi,Wa,XG g j,Xg0 (a:=a),p];grind
def Xi8(o:OA N h a)(hb:h.p.length<=100000)(n:Int):∃r,QfJ N h a n=some r/\Qcj N h a n=some r:=by
 have⟨e,f,g⟩:=V3 (N:=N) o.pr o.at_;have eg:=XG f g;refine⟨⟨h.c,h.w,h.p.set (pgi h.c a).toNat ⟨(pg h.p (pgi h.c a)).k,(pg h.p (pgi h.c a)).s,(pg h.p (pgi h.c a)).u,wI ((pg h.p (pgi h.c a)).P+n)⟩,h.s,h.b⟩,?_,?_⟩
 .rw[QfJ,(Xew (N:=N) o.pr.conf o.at_.rng).1,Xa,Qab,Qaa];simp[Xa,eg]
 rw[Qcj,Xc aa,e,Xa,eg,Xa,Xa]
def Xkf(hN:NB N)(o:OA N h a):∃t,QgE N h a=some (wU (a+1),t,0):=by rw[QgE,(KP hN o).1,Xa];simp
end
section
variable {N:Nat}{h:Wo}{a:Int}{pins:List Uz}
def tk{α:Type}{A B:List α}{m:Nat}(h:m<=A.length):(A.take m++B).take m=A.take m:=by simp_all
def Xdx(l:List Uz)(a:Int):JT (λp=>p.a==a) l = -1\/∃j:Nat,∃f:j<l.length,JT (λp=>p.a==a) l=(j:Int)/\l[j].a=a:=by
 unfold JT;cases e:l.findIdx? λp=>p.a==a with
 |none=>simp
 |some j=>have:=UH.1 e;grind
def XmG(hN:NB N)(o:OA N h a)(u:pins.length<=64)(p:Qbo N h pins=some true):Qi4 N h pins a=Qge N h pins a:=by
 have f:1000000<N:=by unfold NB at hN;omega
 have v:=XgZ u p;have g:=o.hb.hb.2;have⟨b,w,y⟩:=XmF hN o;have⟨r,z,A⟩:=Xi8 o g 1;have⟨t,B⟩:=Xkf hN o;rw[Qi4,Qge,XbI hN o.hb aa,p,Xdi pins a aa f,XhS pins a aa f,o.g1,o.g2];simp only[Xa,Wi,Wa,Xf o.ne,w,y,B,z,A,Xz,Qaq,show((0:Int) != 0)=false from rfl];rcases Xdx pins a with k|⟨j,q,k,G⟩
 .rw[k];simp;by_cases D:pins.length=64
  .simp_all
  rw[We aa,Xf (show(pins.length:Int)≠64 by omega),Wa,Wa];cases b with
  |true=>rfl
  |false=>
  rw[Xc aa,Xc aa,Xc aa,Xc aa,X0 aa (by grind)];simp[Xa,show wI 1=1 from rfl]
 have s:Xb pins (j:Int)=some pins[j]:=by rw[Xe,Wc q]
 have E:=v _ (WL q);rw[k,s];simp only[Xl (show(j:Int)≠-1 by omega),Xf (show(j:Int)≠-1 by omega),Wd (show(j:Int)>=0 by omega),We (show¬(j:Int)<0 by omega),Wa,Wb,Xa,s];by_cases e:pins[j].M=1000
 .simp_all
 rw[We aa,Xf e,Wa,Wa];cases b with
 |true=>rfl
 |false=>
 rw[Xc aa]
def XmH(hN:NB N)(o:OA N h a)(w:pins.length<=64)(q:Qbo N h pins=some true):Qhw N h pins a=QdT N h pins a:=by
 have e:1000000<N:=by unfold NB at hN;omega
 have f:=o.hb.hb.2;obtain⟨r,s,u⟩:=Xi8 o f (-1);rw[Qhw,QdT,XbI hN o.hb aa,q,Xdi pins a aa e,XhS pins a aa e];simp only[Xa,Wi,Wa,Xf o.ne,s,u,Qaq];rcases Xdx pins a with g|⟨j,k,g,y⟩
 .simp_all
 have p:Xb pins (j:Int)=some pins[j]:=by rw[Xe,Wc k]
 rw[g,p];simp only[Xf (show(j:Int)≠-1 by omega),We (show¬(j:Int)<0 by omega),Wa,Xa,p,UT];rw[Xc (show pins.length*16<=140737488355328 by omega)];have v:Xb (pins.set j (Uz.mk pins[j].a (wI (pins[j].M-1)))) (j:Int)=some (Uz.mk pins[j].a (wI (pins[j].M-1))):=by rw[Xe];simp[k]
 rw[v,Xa,Xa];cases h0:(Uz.mk pins[j].a (wI (pins[j].M-1))).M==0 with
 |false=>rfl
 |true=>
 have z:wI ((j:Int)+1)=((j+1:Nat):Int):=Xg aa;repeat rw[Xc aa]
 grind
end
section
variable {N:Nat}{x:WI}{L:List Int}{a b c:Int}
def YB(x:WI):Qat N x=some x:=by simp[Qat,QgL,Qfs,Qff,Qab,Qaa,Qas,Qan,QaF,Qao,Qaq,Xa]
def Xcm:((0:Int) != 0)=false:=rfl
structure VX(N:Nat)(x:WI)(L:List Int):Prop where
 hN:NB N
 ht:ET x
 hV:OV N x L
 ev:QbH N x=some true
def VX.n6(v:VX N x L):1000000<N:=by have:=v.hN;unfold NB at this;omega
def VX.thing(v:VX N x L)(f:tU a):(∃r e,Qav N x a=some (r,e)/\QaB N x a=some (r,e)/\e≠0)\/(Qav N x a=some (0,0)/\QaB N x a=some (0,0))\/∃r,Qav N x a=some (r,0)/\QaB N x a=some (r,0)/\r≠0/\OA N x.h r:=by have⟨⟨r,e⟩,g,j,o⟩:=Vg v.hN v.ht v.hV v.ev f;grind
def fld(hN:NB N){r:Int}(o:OA N x.h r)(f:tU b):decide (b>=wU (hdA x.h.w r).n)=true\/(decide (b>=wU (hdA x.h.w r).n)=false/\wI b=b/\0<=b/\b<(hdA x.h.w r).n):=by
 have h:=(YW x.h.w r)
 have e:szA x.h.w r=(hdA x.h.w r).n+1:=rfl;rw[XA (n:=(hdA x.h.w r).n) aa aa];have⟨b0,_⟩:=f;by_cases hb:b>=(hdA x.h.w r).n
 .simp_all
 exact .inr ⟨We hb,Xd aa aa,b0,aa⟩
def XeA(e:1000000<N){l:Wm}(f:LBp l)(r:Int):QcJ N l r=some (Yp l r)/\Qej N l r=some (Yp l r)/\((Yp l r).2.2.2≠0\/(Yp l r).2.2.2=0/\∃w,Qba N ⟨1,(Yp l r).2.1,(Yp l r).2.2.1⟩=some (w,0)/\Qbd N ⟨1,(Yp l r).2.1,(Yp l r).2.2.1⟩=some (w,0)):=by
 refine⟨Xbg f e r,Jv f e r,?_⟩;by_cases h:(Yp l r).2.2.2=0
 .have⟨_,g,j,k,o⟩:=Xj7 h;exact .inr ⟨h,_,XgJ e aa aa g j k aa⟩
 omega
def gc7(v:VX N x L)(q:tU a)(s:tU b):Qdg N x a b c=Qae N x 7 a b c:=by
 rw[Qdg,Qae,X9 v.hN v.ht,v.ev];simp only[Xa,Wi,Wa,Wb,YB,Xz,simprocAttr,decide_false,decide_true,Qdv,QcU,QaN,Qad];rcases v.thing q with⟨r,e,f,g,u⟩|⟨f,g⟩|⟨r,f,g,z,o⟩
 .simp[f,g,Xa,Xl,u,Xf]
 .simp[f,g,Xa]
 have⟨g1,g2⟩:=KP v.hN o;simp only[f,g,Xa,Xcm,beq_self_eq_true,Wb,Wa,Xf z,g1,g2];rcases fld (x:=x) v.hN o s with h|⟨h,hb,h0,j⟩
 .simp[h,Xa]
 have⟨w,w1,w2⟩:=JW v.hN o h0 j;have⟨y,k,p⟩:=Xi7 v.hN o h0 j c;simp only[h,Wa,hb,w1,w2,k,p,Xa,VL (show 1000<N by have:=v.n6;omega),Kv];cases KF (hdA x.h.w r) b<;>simp[Xa,w1,w2,k,p]
def gc6(v:VX N x L)(j:tU a)(k:tU b):Qdf N x a b c=Qae N x 6 a b c:=by
 rw[Qdf,Qae,X9 v.hN v.ht,v.ev];simp only[Xa,Wi,Wa,Wb,YB,Xz,simprocAttr,decide_false,decide_true,Qdv,QcU,QaN,Qad];rcases v.thing j with⟨r,e,f,g,p⟩|⟨f,g⟩|⟨r,f,g,q,o⟩
 .simp[f,g,Xa,Xl,p,Xf]
 .simp[f,g,Xa]
 have⟨g1,g2⟩:=KP v.hN o;simp only[f,g,Xa,Xcm,beq_self_eq_true,Wb,Wa,Xf q,g1,g2];rcases fld (x:=x) v.hN o k with h|⟨h,hb,h0,s⟩
 .simp[h,Xa]
 have⟨w,w1,w2⟩:=JW v.hN o h0 s;simp only[h,Wa,hb,w1,w2,Xa,VL (show 1000<N by have:=v.n6;omega),Kv];cases KF (hdA x.h.w r) b<;>simp[Xa,w1,w2]
def gc8(v:VX N x L)(q:tU a)(s:tU b):Qdh N x a b c=Qae N x 8 a b c:=by
 rw[Qdh,Qae,X9 v.hN v.ht,v.ev];simp only[Xa,Wi,Wa,Wb,YB,Xz,simprocAttr,decide_false,decide_true,Qdv,QcU,QaN,Qad,Qbq];rcases v.thing q with⟨r,e,f,g,u⟩|⟨f,g⟩|⟨r,f,g,y,o⟩
 .simp[f,g,Xa,Xl,u,Xf]
 .simp[f,g,Xa]
 have⟨g1,g2⟩:=KP v.hN o;simp only[f,g,Xa,Xcm,beq_self_eq_true,Wb,Wa,Xf y,g1,g2];rcases fld (x:=x) v.hN o s with h|⟨h,hb,h0,A⟩
 .simp[h,Xa]
 have⟨w,w1,w2⟩:=JW v.hN o h0 A;have⟨k,p,j⟩:=XeA v.n6 v.ht.eb.loc w;simp only[h,Wa,hb,w1,w2,k,p,Xa,VL (show 1000<N by have:=v.n6;omega),Kv];cases KF (hdA x.h.w r) b with
 |false=>simp[Xa,w1,w2]
 |true=>
 by_cases hw:w=0
 .subst hw;simp[Xa,w1,w2]
 rcases j with j|⟨j,z,B,D⟩
 .simp[Xf hw,Xl j,Xa,w1,w2,k,p]
 simp[Xf,hw,j,B,D,Xa,w1,w2,k,p]
def gc9(v:VX N x L)(u:tU a)(z:tU b)(A:tU c):Qdi N x a b c=Qae N x 9 a b c:=by
 rw[Qdi,Qae,X9 v.hN v.ht,v.ev];simp only[Xa,Wi,Wa,Wb,YB,Xz,simprocAttr,decide_false,decide_true,Qdv,QcU,QaN,Qad];rcases v.thing u with⟨r,e,f,g,j⟩|⟨f,g⟩|⟨r,f,g,B,o⟩
 .simp[f,g,Xa,Xl,j,Xf]
 .simp[f,g,Xa]
 have⟨g1,g2⟩:=KP v.hN o;simp only[f,g,Xa,Xcm,beq_self_eq_true,Wb,Wa,Xf B,g1,g2];rcases fld (x:=x) v.hN o z with h|⟨h,hb,h0,k⟩
 .simp[h,Xa]
 have⟨w,w1,w2⟩:=JW v.hN o h0 k;simp only[h,Wa,hb,w1,w2,Xa,VL (show 1000<N by have:=v.n6;omega),Kv];cases KF (hdA x.h.w r) b with
 |false=>simp[Xa,w1,w2]
 |true=>
 have⟨⟨q,e⟩,p,s,_⟩:=Vg v.hN v.ht v.hV v.ev A;have⟨y,D,E⟩:=Xi7 v.hN o h0 k q;by_cases j:e=0
 .subst j;simp[p,s,D,E,Xa,w1,w2]
 simp[p,s,Xa,Xl,j,w1,w2]
def gc4(v:VX N x L)(j:tU a):Qdd N x a b c=Qae N x 4 a b c:=by
 rw[Qdd,Qae,X9 v.hN v.ht,v.ev];simp only[Xa,Wi,Wa,Wb,YB,Xz,simprocAttr,decide_false,decide_true,Qdw,QaN,Qad];rcases v.thing j with⟨r,e,f,g,k⟩|⟨f,g⟩|⟨r,f,g,p,o⟩
 .simp[f,g,Xa,Xl,k,Xf]
 .simp[f,g,Xa]
 have⟨g1,g2⟩:=KP v.hN o;simp[f,g,Xa,Xf,p,g1,g2]
def gc5(v:VX N x L)(j:tU a):Qde N x a b c=Qae N x 5 a b c:=by
 rw[Qde,Qae,X9 v.hN v.ht,v.ev];simp only[Xa,Wi,Wa,Wb,YB,Xz,simprocAttr,decide_false,decide_true,Qdw,QaN,Qad];rcases v.thing j with⟨r,e,f,g,k⟩|⟨f,g⟩|⟨r,f,g,p,o⟩
 .simp[f,g,Xa,Xl,k,Xf]
 .simp[f,g,Xa]
 have⟨g1,g2⟩:=KP v.hN o;simp[f,g,Xa,Xf,p,g1,g2]
def XsT(v:VX N x L)(u:tU a)(w:tU b):Qcu N x a b c=Qae N x 10 a b c:=by
 rw[Qcu,Qae,X9 v.hN v.ht,v.ev];simp only[Xa,Wi,Wa,Wb,YB,Xz,simprocAttr,decide_false,decide_true,Qdw,QaN,Qad];have⟨⟨q,e⟩,g,j,_⟩:=Vg v.hN v.ht v.hV v.ev u;have⟨⟨r,f⟩,k,o,_⟩:=Vg v.hN v.ht v.hV v.ev w;by_cases p:e=0
 .subst p;by_cases s:f=0
  .subst s;by_cases h:q=r
   .simp[g,j,k,o,Xa,h]
   simp[g,j,k,o,Xa,Xf h,Xl h]
  simp[g,j,k,o,Xa,Xl s]
 simp[g,j,Xa,Xl,p]
def XsU(v:VX N x L)(r:tU a):Qcv N x a b c=Qae N x 11 a b c:=by
 rw[Qcv,Qae,X9 v.hN v.ht,v.ev];simp only[Xa,Wi,Wa,Wb,YB,Xz,simprocAttr,decide_false,decide_true,Qdw,QaN,Qbq,Qad];have⟨⟨q,e⟩,g,j,_⟩:=Vg v.hN v.ht v.hV v.ev r;by_cases k:e=0
 .subst k;by_cases hw:q=0
  .subst hw;simp[g,j,Xa]
  have⟨o,p,f⟩:=XeA v.n6 v.ht.eb.loc q;rcases f with f|⟨f,z,s,u⟩
  .simp[g,j,Xf hw,Xl f,Xa,o,p]
  simp[g,j,Xf hw,f,s,u,Xa,o,p]
 simp[g,j,Xa,Xl,k]
def XsV(v:VX N x L)(u:tU a):QcC N x a b c=Qae N x 18 a b c:=by
 rw[QcC,Qae,X9 v.hN v.ht,v.ev];simp only[Xa,Wi,Wa,Wb,YB,Xz,simprocAttr,decide_false,decide_true,Qen,Qbq,Qad];have⟨⟨q,e⟩,f,g,_⟩:=Vg v.hN v.ht v.hV v.ev u;by_cases p:e=0
 .subst p;have k:=Xmh v.ht.eb.loc v.n6;have o:=Xcd v.ht.eb.loc v.n6;by_cases hp:(Kt x.l).2=0;case neg=>simp[f,g,k,o,Xa,Xl hp]
  by_cases hw:q=0
  .subst hw;simp[f,g,Xa,k,o,hp]
  have⟨r,s,j⟩:=XeA v.n6 (Xce v.ht.eb.loc) q;rcases j with j|⟨j,z,w,y⟩
  .simp[f,g,Xf hw,Xl j,Xa,r,s,k,o,hp]
  simp[f,g,Xf hw,j,w,y,Xa,r,s,k,o,hp]
 simp[f,g,Xa,Xl,p]
def XsW(v:VX N x L)(g:tU a):QcB N x a b c=Qae N x 17 a b c:=by
 rw[QcB,Qae,X9 v.hN v.ht,v.ev];simp only[Xa,Wi,Wa,Wb,YB,Xz,simprocAttr,decide_false,decide_true,Qen,Qad];cases decide (a>64)with
 |true=>simp[Xa]
 |false=>
 have e:=Xj6 v.ht.eb.loc v.n6 (wI a);have f:=Xa6 v.ht.eb.loc v.n6 (wI a);by_cases hp:(Jw x.l (wI a)).2=0
 .simp[e,f,Xa,hp]
 simp[e,f,Xa,Xl,hp,Xf]
def VX.pins(v:VX N x L):x.P.length<=64/\Qbo N x.h x.P=some true:=by
 have ev:=v.ev;have⟨b,eb,_⟩:=JR v.hN v.ht.eb.heap v.ht.eb.pins;rw[QbH,eb,Xa]at ev;cases b with
 |false=>simp_all
 |true=>exact⟨(XaF v.hN v.ht.ht v.ht.eb.pins eb).2.1,eb⟩
def XsX(v:VX N x L)(s:tU a):QcD N x a b c=Qae N x 19 a b c:=by
 rw[QcD,Qae,X9 v.hN v.ht,v.ev];simp only[Xa,Wi,Wa,Wb,YB,Xz,simprocAttr,decide_false,decide_true,QfC,QaN,Qad];rcases v.thing s with⟨r,e,f,j,k⟩|⟨f,j⟩|⟨r,f,j,p,o⟩
 .simp[f,j,Xa,Xl,k,Xf]
 .simp[f,j,Xa]
 have g:=XmG v.hN o v.pins.1 v.pins.2;have⟨⟨y,l,w,e⟩,q,_⟩:=Xeb v.hN v.ht.eb.heap v.ht.eb.pins r;by_cases k:e=0
 .simp[f,j,Xa,Xf p,g,q,k]
 simp[f,j,Xa,Xf,p,g,q,Xl,k]
def XsY(v:VX N x L)(s:tU a):QcE N x a b c=Qae N x 20 a b c:=by
 rw[QcE,Qae,X9 v.hN v.ht,v.ev];simp only[Xa,Wi,Wa,Wb,YB,Xz,simprocAttr,decide_false,decide_true,QfC,QaN,Qad];rcases v.thing s with⟨r,e,f,j,k⟩|⟨f,j⟩|⟨r,f,j,p,o⟩
 .simp[f,j,Xa,Xl,k,Xf]
 .simp[f,j,Xa]
 have g:=XmH v.hN o v.pins.1 v.pins.2;have⟨⟨y,l,e⟩,q,_⟩:=Xc0 v.hN v.ht.eb.heap v.ht.eb.pins r;by_cases k:e=0
 .simp[f,j,Xa,Xf p,g,q,k]
 simp[f,j,Xa,Xf,p,g,q,Xl,k]
def Xpn(e:1000000<N){t:Wr}(f:TB t){g:Int}(g1:1<=g)(g2:g<=3)(r:Int):Qg3 N t r=some (YI t r)/\QcH N t r=some (YI t r)/\((YI t r).2.2.2≠0\/(YI t r).2.2.2=0/\∃w,Qba N ⟨g,(YI t r).2.1,(YI t r).2.2.1⟩=some (w,0)/\Qbd N ⟨g,(YI t r).2.1,(YI t r).2.2.1⟩=some (w,0)):=by
 refine⟨Xmg f e r,Vd f e r,?_⟩;by_cases h:(YI t r).2.2.2=0
 .have⟨j,k,o,p⟩:=Xj8 h;exact .inr ⟨h,_,XgJ e g1 g2 j k o p⟩
 omega
def XsZ(v:VX N x L)(s:tU a):Qcx N x a b c=Qae N x 13 a b c:=by
 rw[Qcx,Qae,X9 v.hN v.ht,v.ev];simp only[Xa,Wi,Wa,Wb,YB,Xz,simprocAttr,decide_false,decide_true,QdS,QaN,Qad];rcases v.thing s with⟨r,e,f,g,u⟩|⟨f,g⟩|⟨r,f,g,k,o⟩
 .simp[f,g,Xa,Xl,u,Xf]
 .simp[f,g,Xa]
 have⟨p,q,j⟩:=Xpn v.n6 v.ht.eb.glo (show 1<=(2:Int) by omega) aa r;rcases j with j|⟨j,z,w,y⟩
 .simp[f,g,Xf k,Xl j,Xa,p,q]
 simp[f,g,Xf,k,j,w,y,Xa,p,q]
def Xs0(v:VX N x L)(s:tU a):Qcz N x a b c=Qae N x 15 a b c:=by
 rw[Qcz,Qae,X9 v.hN v.ht,v.ev];simp only[Xa,Wi,Wa,Wb,YB,Xz,simprocAttr,decide_false,decide_true,QdS,QaN,Qad];rcases v.thing s with⟨r,e,f,g,u⟩|⟨f,g⟩|⟨r,f,g,k,o⟩
 .simp[f,g,Xa,Xl,u,Xf]
 .simp[f,g,Xa]
 have⟨p,q,j⟩:=Xpn v.n6 v.ht.eb.wea (show 1<=(3:Int) by omega) aa r;rcases j with j|⟨j,z,w,y⟩
 .simp[f,g,Xf k,Xl j,Xa,p,q]
 simp[f,g,Xf,k,j,w,y,Xa,p,q]
def VX.del(v:VX N x L)(k:tU a)(o:a≠0){r:Int}(e:QaB N x a=some (r,0)):(Yx a).2=0/\((Yx a).1.Tag=1->(Ze x.l (Yx a).1.Index (Yx a).1.J).2=0)/\((Yx a).1.Tag=2->(YE x.g.e (Yx a).1.Index (Yx a).1.J).2=0)/\((Yx a).1.Tag=3->(YE x.v.e (Yx a).1.Index (Yx a).1.J).2=0):=by
 have f:=v.ht.eb;rw[QaB,v.ev,Xa,Wi,Wa,VG k,Xa,Xf o,Wa,Vc f.loc v.n6,Ka f.glo v.n6,Ka f.wea v.n6]at e;by_cases h:(Yx a).2=0
 .refine⟨h,λj=>?_,λj=>?_,λj=>?_⟩<;>(simp[h,j,Xa]at e;simp[e])
 grind
def Xs1(v:VX N x L)(g:tU a):Qcw N x a b c=Qae N x 12 a b c:=by
 rw[Qcw,Qae,X9 v.hN v.ht,v.ev];simp only[Xa,Wi,Wa,Wb,YB,Xz,simprocAttr,decide_false,decide_true,QdF,Qad];by_cases f:a=0
 .subst f;simp[Xa]
 have⟨⟨q,e⟩,k,j,_⟩:=Vg v.hN v.ht v.hV v.ev g;by_cases o:e=0
 .subst o;have h:=v.del g f j;have p:=Xci v.n6 g;have r:=VG (N:=N) g;by_cases ht:(Yx a).1.Tag=1
  .have g1:=Xmi v.ht.eb.loc v.n6 (Yx a).1.Index (Yx a).1.J;have g2:=Xe9 v.ht.eb.loc v.n6 (Yx a).1.Index (Yx a).1.J;have g3:=h.2.1 ht;unfold Xaz at g1 g2;simp[k,j,p,r,Xf f,h.1,ht,Xa,g1,g2,g3]
  simp[k,j,p,r,Xf f,h.1,Xl ht,Xa]
 simp[k,j,Xa,Xl,o,Xf,f]
def Xs2(v:VX N x L)(g:tU a):Qcy N x a b c=Qae N x 14 a b c:=by
 rw[Qcy,Qae,X9 v.hN v.ht,v.ev];simp only[Xa,Wi,Wa,Wb,YB,Xz,simprocAttr,decide_false,decide_true,QdF,Qad];by_cases f:a=0
 .subst f;simp[Xa]
 have⟨⟨q,e⟩,k,j,_⟩:=Vg v.hN v.ht v.hV v.ev g;by_cases o:e=0
 .subst o;have h:=v.del g f j;have p:=Xci v.n6 g;have r:=VG (N:=N) g;by_cases ht:(Yx a).1.Tag=2
  .have g1:=XgK v.ht.eb.glo v.n6 (Yx a).1.Index (Yx a).1.J;have g2:=V2 v.ht.eb.glo v.n6 (Yx a).1.Index (Yx a).1.J;have g3:=h.2.2.1 ht;unfold JB at g1 g2;simp[k,j,p,r,Xf f,h.1,ht,Xa,g1,g2,g3]
  simp[k,j,p,r,Xf f,h.1,Xl ht,Xa]
 simp[k,j,Xa,Xl,o,Xf,f]
def Xs3(v:VX N x L)(g:tU a):QcA N x a b c=Qae N x 16 a b c:=by
 rw[QcA,Qae,X9 v.hN v.ht,v.ev];simp only[Xa,Wi,Wa,Wb,YB,Xz,simprocAttr,decide_false,decide_true,QdF,Qad];by_cases f:a=0
 .subst f;simp[Xa]
 have⟨⟨q,e⟩,k,j,_⟩:=Vg v.hN v.ht v.hV v.ev g;by_cases o:e=0
 .subst o;have h:=v.del g f j;have p:=Xci v.n6 g;have r:=VG (N:=N) g;by_cases ht:(Yx a).1.Tag=3
  .have g1:=XgK v.ht.eb.wea v.n6 (Yx a).1.Index (Yx a).1.J;have g2:=V2 v.ht.eb.wea v.n6 (Yx a).1.Index (Yx a).1.J;have g3:=h.2.2.2 ht;unfold JB at g1 g2;simp[k,j,p,r,Xf f,h.1,ht,Xa,g1,g2,g3]
  simp[k,j,p,r,Xf f,h.1,Xl ht,Xa]
 simp[k,j,Xa,Xl,o,Xf,f]
end
section
variable {N:Nat}{x:WI}{L:List Int}{a b c:Int}
def YN(l:Wm):(Yp l 4096).2.2.2=(Yp l 1).2.2.2:=by unfold Yp;grind
def XmI(g:tU a)(h:a<=2147483647):wI (if 2147483647<a then 2147483647 else a)=a/\wI (Y2 .u64 a 2147483647)=a:=by have⟨f,j⟩:=g;have e:=Ys a 31 aa f j;rw[Wk aa,show(2147483647:Int)=2 ^ 31-1 from rfl,e,Int.emod_eq_of_lt f aa,Xd aa aa];omega
def XrB(f:tU b)(h:b<=4294967295):wW (if 4294967295<b then 4294967295 else b)=b/\wW b=b/\tW b:=by have⟨b0,_⟩:=f;have e:wW b=b:=Xlx b0 h;rw[Wk aa,e];exact⟨rfl,rfl,b0,h⟩
def gc1(v:VX N x L)(r:tU a)(s:tU b):Qda N x a b c=Qae N x 1 a b c:=by
 rw[Qda,Qae,X9 v.hN v.ht,v.ev];simp only[Xa,Wi,Wa,Wb,YB,Xz,simprocAttr,decide_false,decide_true,QdE,QbI,Qbq,Qad];have o:=Xbg v.ht.eb.loc v.n6 4096;have u:=Jv v.ht.eb.loc v.n6 1;have K:=v.ht.eb.pins;by_cases hp:(x.P.length:Int)>0
 .simp only[o,Xa,Wd hp,Wb];repeat rw[Xc aa]
  simp
 simp only[o,u,Xa,We hp,Wa];repeat rw[Xc aa]
 by_cases g:a<=2147483647;case neg=>simp[Xa,We,g]
 by_cases k:b<=4294967295;case neg=>simp[Xa,Wd,g,We,k]
 have⟨w,b2,A⟩:=XrB s k;have⟨B,D⟩:=XmI r g;have⟨y,E,G,H⟩:=XaJ v.hN v.ht (d:=⟨1,a,b⟩) A;simp only[Wd g,Wd k,Wb,Wi,Wa,B,D,w,b2,Jl v.n6,Xch (show 10<=N by have:=v.n6;omega),Xa,E,G];cases Xa9 x.h.c ⟨1,a,b⟩with
 |false=>simp[Xa]
 |true=>
 by_cases e:(Yp x.l 1).2.2.2=0;case neg=>simp[Xa,YN,Xl e]
 by_cases j:y.2.2=0;case neg=>simp[Xa,YN,e,Xl j]
 by_cases hw:y.2.1=0
 .simp[Xa,YN,e,j,hw]
 have⟨p,q,f⟩:=XeA v.n6 H.loc y.2.1;rcases f with f|⟨f,z,I,J⟩
 .simp[Xa,YN,e,j,Xf hw,p,q,Xl f]
 simp[Xa,YN,e,j,Xf,hw,p,q,f,I,J]
def gc2(v:VX N x L)(q:tU a)(G:tU b):Qdb N x a b c=Qae N x 2 a b c:=by
 rw[Qdb,Qae,X9 v.hN v.ht,v.ev];simp only[Xa,Wi,Wa,Wb,YB,Xz,simprocAttr,decide_false,decide_true,QdE,QbI,Qbq,Qad];have k:=Xbg v.ht.eb.loc v.n6 4096;have r:=Jv v.ht.eb.loc v.n6 1;have H:=v.ht.eb.pins;by_cases hp:(x.P.length:Int)>0
 .simp only[k,Xa,Wd hp,Wb];repeat rw[Xc aa]
 simp only[k,r,Xa,We hp,Wa];repeat rw[Xc aa]
 by_cases j:a<=2147483647;case neg=>simp[Xa,We,j]
 have⟨s,u⟩:=XmI q j;have⟨y,w,A,B⟩:=XaJ v.hN v.ht (d:=⟨2,a,0⟩) ⟨ab,ab⟩;simp only[Wd j,Wb,Wi,Wa,s,u,Jl v.n6,Xch (show 10<=N by have:=v.n6;omega),Xa,w,A];cases Xa9 x.h.c ⟨2,a,0⟩with
 |false=>simp[Xa]
 |true=>
 by_cases e:(Yp x.l 1).2.2.2=0;case neg=>simp[Xa,YN,Xl e]
 by_cases g:y.2.2=0;case neg=>simp[Xa,YN,e,Xl g]
 by_cases hw:y.2.1=0
 .simp[Xa,YN,e,g,hw]
 have⟨o,p,f⟩:=XeA v.n6 B.loc y.2.1;rcases f with f|⟨f,z,D,E⟩
 .simp[Xa,YN,e,g,Xf hw,o,p,Xl f]
 simp[Xa,YN,e,g,Xf,hw,o,p,f,D,E]
def gc3(v:VX N x L)(q:tU a)(G:tU b):Qdc N x a b c=Qae N x 3 a b c:=by
 rw[Qdc,Qae,X9 v.hN v.ht,v.ev];simp only[Xa,Wi,Wa,Wb,YB,Xz,simprocAttr,decide_false,decide_true,QdE,QbI,Qbq,Qad];have k:=Xbg v.ht.eb.loc v.n6 4096;have r:=Jv v.ht.eb.loc v.n6 1;have H:=v.ht.eb.pins;by_cases hp:(x.P.length:Int)>0
 .simp only[k,Xa,Wd hp,Wb];repeat rw[Xc aa]
 simp only[k,r,Xa,We hp,Wa];repeat rw[Xc aa]
 by_cases j:a<=2147483647;case neg=>simp[Xa,We,j]
 have⟨s,u⟩:=XmI q j;have⟨y,w,A,B⟩:=XaJ v.hN v.ht (d:=⟨3,a,0⟩) ⟨ab,ab⟩;simp only[Wd j,Wb,Wi,Wa,s,u,Jl v.n6,Xch (show 10<=N by have:=v.n6;omega),Xa,w,A];cases Xa9 x.h.c ⟨3,a,0⟩with
 |false=>simp[Xa]
 |true=>
 by_cases e:(Yp x.l 1).2.2.2=0;case neg=>simp[Xa,YN,Xl e]
 by_cases g:y.2.2=0;case neg=>simp[Xa,YN,e,Xl g]
 by_cases hw:y.2.1=0
 .simp[Xa,YN,e,g,hw]
 have⟨o,p,f⟩:=XeA v.n6 B.loc y.2.1;rcases f with f|⟨f,z,D,E⟩
 .simp[Xa,YN,e,g,Xf hw,o,p,Xl f]
 simp[Xa,YN,e,g,Xf,hw,o,p,f,D,E]
def XmJ(hN:NB N)(ht:ET x){op:Int}(f:tU a)(g:tU b)(o:tU c):Qc7 N x op a b c=Qae N x op a b c:=by
 have⟨t,j,_⟩:=ZE hN ht.eb;cases t with
 |false=>
  have e:Qae N x op a b c=some ((WI.mk zHp (Wm.mk [] [] []) (Wr.mk []) (Wr.mk []) [] []),0,19):=by rw[Qae,j,Xa,Qad];simp[Xa]
  simp[e,Qc7,Qda,Qdb,Qdc,Qdd,Qde,Qdf,Qdg,Qdh,Qdi,Qcu,Qcv,Qcw,Qcx,Qcy,Qcz,QcA,QcB,QcC,QcD,QcE,Qfg,X9,hN,ht,j,Xa,W0,Wb,Bool.cond_self]
 |true=>
 have⟨L,hV⟩:=Xh7 hN ht j;have v:VX N x L:=⟨hN,ht,hV,j⟩
 by_cases h:1<=op/\op<=20
 .have p:op=1\/op=2\/op=3\/op=4\/op=5\/op=6\/op=7\/op=8\/op=9\/op=10\/op=11\/op=12\/op=13\/op=14\/op=15\/op=16\/op=17\/op=18\/op=19\/op=20:=aa;rcases p with rfl|rfl|rfl|rfl|rfl|rfl|rfl|rfl|rfl|rfl|rfl|rfl|rfl|rfl|rfl|rfl|rfl|rfl|rfl|rfl
  .exact gc1 v f g
  .exact gc2 v f g
  .exact gc3 v f g
  .exact gc4 v f
  .exact gc5 v f
  .exact gc6 v f g
  .exact gc7 v f g
  .exact gc8 v f g
  .exact gc9 v f g o
  .exact XsT v f g
  .exact XsU v f
  .exact Xs1 v f
  .exact XsZ v f
  .exact Xs2 v f
  .exact Xs0 v f
  .exact Xs3 v f
  .exact XsW v f
  .exact XsV v f
  .exact XsX v f
  exact XsY v f
 rw[Qc7,Qfg,Qae,X9 hN ht,j];simp only[Xa,Wi,Wa,Xz,Qad];have e:∀k:Int,1<=k->k<=20->(op==k)=false:=λk q r=>Xf aa;simp only[e 1 aa aa,e 2 aa aa,e 3 aa aa,e 4 aa aa,e 5 aa aa,e 6 aa aa,e 7 aa aa,e 8 aa aa,e 9 aa aa,e 10 aa aa,e 11 aa aa,e 12 aa aa,e 13 aa aa,e 14 aa aa,e 15 aa aa,e 16 aa aa,e 17 aa aa,e 18 aa aa,e 19 aa aa,e 20 aa aa,Wa];grind
end
section
variable {N:Nat}
def Xft(m:Nat):Qij (m+5000)=some true:=ac
end
section
variable {N:Nat}
def Xqr{p:Ik}{d:Ol}(h0:(d.Op==0)=false){y:WI×Int×Int}(e:Qae N p.N d.Op d.A d.B d.C=some y):PT (QbG N p d) λr=>r.2.1=y.2.1/\r.2.2=y.2.2/\r.1.N=bif y.2.2==0 then y.1 else p.N:=by
 rw[QbG,h0,Wa,e,Xa];simp only[Xz];have k:∀w,PT (bif (y.2.2==0)then(bif (y.2.1 != 0)then(grd (p.w.length*8<=140737488355328) <| grd ((p.w.length+1)*8<=140737488355328) <| some ((Ik.mk y.1 w (p.w++[y.2.1])),y.2.1,y.2.2))else some ((Ik.mk y.1 w p.w),y.2.1,y.2.2))else some ((Ik.mk p.N w p.w),y.2.1,y.2.2)) λr=>r.2.1=y.2.1/\r.2.2=y.2.2/\r.1.N=bif y.2.2==0 then y.1 else p.N:=λw=>by refine Oz (λh=>?_) λh=>Wh ⟨rfl,rfl,by grind⟩;exact Wn (W6 (W6 (Wh ⟨rfl,rfl,by simp_all⟩))) (Wh ⟨rfl,rfl,by simp_all⟩)
 exact WR λf=>WR λg=>Wn (k _) (k _)
def Xdy(hN:NB N):∀(n i:Nat)(t:Ig)(p:Ik),i<=120->120-i<n->PB i p->TA (10+20*i) t ->
 Qbg N n (i:Int) t.L t.at_ p.N.h.c.W p.N.h.c.p p.N.h.w p.N.h.p p.N.h.s p.N.h.b p.N.l.S p.N.l.x p.N.l.i p.N.g.e p.N.v.e p.N.P p.N.R p.z.c.W p.z.c.p p.z.T p.z.l.S p.z.l.x p.z.l.i p.z.g.e p.z.v.e p.z.m p.z.R p.w p.N.h.c.W p.N.h.c.p p.N.h.w p.N.h.p p.N.h.s p.N.h.b p.N.l.S p.N.l.x p.N.l.i p.N.g.e p.N.v.e p.N.P p.N.R=some (.nxt ())
 |0,i,t,p,_,H,_,_=>by omega
 |n+1,i,t,p,M,H,hp,ht=>by
  rw[Qbg];cases o:decide ((i:Int)<120)with
  |false=>rfl
  |true=>
  have o:=Wz o;rw[Wb,Qf1,Xa];cases decide (t.at_>=(t.L.length:Int))with
  |true=>rfl
  |false=>
  rw[W0,Wb];have w1:=hp.w1;have w2:=hp.w2;have⟨y,r,I⟩:=XoO (N:=N) (p:=p) (t:=t) w1 aa ht aa;have f:=Qkf (N:=N) hp.ty y r;have⟨z,u,D⟩:=Xrz hN hp aa f;have E:ET p.N:=⟨hp.env,hp.ty.1.1⟩
  have next:=Xdy hN n (i+1) y.2 z.1 aa aa D (I.le aa)
  have k:=Xqq D.env hN;have eD:Qdk N p t=some y:=r;simp only[Xz];rw[eD,Xa];have eZ:QbG N p y.1=some z:=u;rw[eZ,Xa];cases h0:y.1.Op==0 with
  |true=>rw[Wb,k,Xa,Wi,Wa,Xg aa];omega
  |false=>
   have⟨q,eq,O⟩:=Xgu hN E.eb y.1.Op y.1.A y.1.B y.1.C;have⟨J,K,j⟩:=Xqr h0 eq z u;have eG:Qc7 N p.N y.1.Op y.1.A y.1.B y.1.C=some q:=by rw[XmJ hN E f.1 f.2.1 f.2.2,eq]
   rw[Wa,eG,Xa,J,K,show(q.2.2 != q.2.2)=false by simp,show(q.2.1 != q.2.1)=false by simp,Wa,Wa];cases G:q.2.2==0 with
   |true=>rw[G,Wb]at j;rw[Wb,←j,k,Xa,Wi,Wa,Xg aa];omega
   |false=>rw[G,Wa]at j;rw[Wa,←j,k,Xa,Wi,Wa,Xg aa];omega
def VP(hN:NB N)(tape:List Int):Qdt N tape=some true:=by
 have f:=hN;unfold NB at f;have⟨y,j,k,ht⟩:=XmD (N:=N) (t:=⟨tape,0⟩) (m:=0) ⟨ab,ab⟩ aa;obtain⟨m,rfl⟩:∃m,N=m+5000:=⟨N-5000,aa⟩
 have e:=Xdy hN (m+5000) 0 y.2 y.1 aa aa k (ht.le aa);have o:Qbg (m+5000) (m+5000) 0 y.2.L y.2.at_ y.1.N.h.c.W y.1.N.h.c.p y.1.N.h.w y.1.N.h.p y.1.N.h.s y.1.N.h.b y.1.N.l.S y.1.N.l.x y.1.N.l.i y.1.N.g.e y.1.N.v.e y.1.N.P y.1.N.R y.1.z.c.W y.1.z.c.p y.1.z.T y.1.z.l.S y.1.z.l.x y.1.z.l.i y.1.z.g.e y.1.z.v.e y.1.z.m y.1.z.R y.1.w y.1.N.h.c.W y.1.N.h.c.p y.1.N.h.w y.1.N.h.p y.1.N.h.s y.1.N.h.b y.1.N.l.S y.1.N.l.x y.1.N.l.i y.1.N.g.e y.1.N.v.e y.1.N.P y.1.N.R=some (.nxt ()):=e;simp[Qdt,j,Xa,o,Xq,Xft]
end
end Go.Sx
