import Derived.Test.YtgbmffljpneflaaGreatDoorBE
set_option linter.all false
namespace Go.Sx
section
variable {N:Nat}
def V0(l:List Int)(x:Int)(f:l.length<=1000000)(hN:1000000<N):Qai N l x=some (l.contains x):=by
 rw[Qai,Qb3];rw[JQ (p:=λy:Int=>(x==y)) f hN (λn j y e=>by
  have g:=XC e
  rw[QaI,Xm g,Wb,Xe,e,Xa,Xg aa]) (λn=>by rw[QaI,XA,Wa])]
 rw[Xa,Ky,List.contains_eq_any_beq]
def XkO(l:List Int)(x:Int)(f:l.length<=1000000)(hN:1000000<N):Qbm N l x=some (l.contains x):=by
 rw[Qbm,Qe3];rw[JQ (p:=λy:Int=>(x==y)) f hN (λn j y e=>by
  have g:=XC e
  rw[QbV,Xm g,Wb,Xe,e,Xa,Xg aa]) (λn=>by rw[QbV,XA,Wa])]
 rw[Xa,Ky,List.contains_eq_any_beq]
def XkP(w:WE)(i:Int)(g:w.t.length<=1000000)(hN:1000000<N):Qhw N w i=some (w.t.contains i):=by
 have h:∀(n k:Nat),k<=w.t.length->w.t.length-k<n->QdC N w i n (k:Int)=some (bif (w.t.drop k).contains i then .ret true else .nxt ()):=by
  intro n;induction n with
  |zero=>omega
  |succ n f=>
   intro k j l;by_cases h:k<w.t.length
   .rw[QdC,Xm h,Wb,Xe,Wc h,Xa,Xg aa,Wu h,List.contains_cons];by_cases e:w.t[k]=i
    .rw[XQ e,Wb,XQ e.symm,Bool.true_or,Wb]
    rw[Xf e,Wa,Xf (λh=>e h.symm),Ii];exact f (k+1) aa aa
   obtain rfl:k=w.t.length:=aa;rw[QdC,XA,Wa,UN (Uj _)];rfl
 have h:=h N 0 aa aa;rw[show((0:Nat):Int)=0 from rfl,W0]at h;rw[Qhw,h,Xa];cases w.t.contains i
 .rw[Wa,Xp]
 simp[Wb,XE]
def XdO(hN:1000000<N){v:Int}(p:tU v):QfC N v=Qc5 N v:=by
 obtain⟨m,rfl⟩:∃m,N=m+5:=⟨N-5,aa⟩
 have⟨f,q⟩:=p;have j:wI (0+1)=1:=Xd aa aa;have k:wI (1+1)=2:=Xd aa aa;have r:wI (64-2)=62:=Xd aa aa;have s:wI (62-32)=30:=Xd aa aa;have e:([(2:Int),32].length:Nat)=2:=rfl;have l:Xb [(2:Int),32] 0=some 2:=by unfold Xb;rfl
 have g1:Xb [(2:Int),32] 1=some 32:=by unfold Xb;rfl
 have u:QaD (m+5) v [2,32] (m+5) 64 0=some (.nxt ()):=by rw[QaD,e,l];simp only[Xa,j,r];rw[QaD,e,g1];simp only[Xa,k,s];rw[QaD,e];rfl
 have w:Qa4 (m+5) 2=some 3:=Y3 aa aa aa;have y:Qa4 (m+5) 32=some 4294967295:=Y3 aa aa aa;have o:YD .u64 v 2=v / 4:=YI v 2 aa f;have z:YD .u64 (v / 4) 32=v / 4 / 4294967296:=YI (v / 4) 32 aa aa;have A:Y4 .u64 v 3=v % 4:=Yv v 2 aa f q;have B:Y4 .u64 (v / 4) 4294967295=v / 4 % 4294967296:=Yv (v / 4) 32 aa aa aa;have D:QaE (m+5) [2,32] (m+5) v 0 []=some (v / 4 / 4294967296,[v % 4,v / 4 % 4294967296]):=by rw[QaE,e,l];rw[Wd aa,Wb,Xa,w,Xa,Xc ab,Xc aa,o,A,j];rw[QaE,e,g1];rw[Wd aa,Wb,Xa,y,Xa,Xc ab,Xc aa,z,B,k];rw[QaE,e];rw[Wh aa,Wa];rfl
 rw[QfC,QdL,u,Xa,Xp,D,Xa,Qc5,o,Is f];by_cases h:v / 4 / 4294967296=0
 .rw[h];by_cases g:v % 4=2
  .rw[g];have:v / 4 % 4294967296=v / 4:=aa;rw[this,Wh aa];rw[show((0:Int) != 0)=false from rfl,Wa,Xa];rw[show Xb [(2:Int),v / 4] 0=some 2 by unfold Xb;rfl,Xa,show Xb [(2:Int),v / 4] 1=some (v / 4) by unfold Xb;rfl,Xa];rfl
  rw[Xl g,Wb];rw[show((0:Int) != 0)=false from rfl,Wa,Xa];show bnd (Xb [v % 4,v / 4 % 4294967296] 0) _=_;rw[show Xb [v % 4,v / 4 % 4294967296] 0=some (v % 4) by unfold Xb;rfl,Xa,Xl g,Wb]
 rw[Xl h,Wb,Xa];grind
def Xhl(hN:1000000<N){a:Int}(g:0<=a)(A:a<4294967296):Qce N a=Qdh N a:=by
 rw[Qce,Y3 aa aa aa,Xa,Qdh,Wh (by show¬a>4294967295;omega),Wh aa,Wa,Wa];obtain⟨n,rfl⟩:∃n,N=n+5:=⟨N-5,aa⟩
 generalize f:[(UF.mk 2 2),(UF.mk 32 a)]=L;have e:L.length=2:=by rw[←f];rfl
 have h:Xb L 0=some (UF.mk 2 2):=by rw[←f];unfold Xb;rfl
 have g1:Xb L 1=some (UF.mk 32 a):=by rw[←f];unfold Xb;rfl
 have j:wI (0+1)=1:=Xd aa aa;have k:wI (1+1)=2:=Xd aa aa;have l:wI (64-2)=62:=Xd aa aa;have o:wI (62-32)=30:=Xd aa aa;have k2:wI (0+2)=2:=Xd aa aa;have p:wI (2+32)=34:=Xd aa aa;have q:Qbi (n+5) L (n+5) 64 0=some (.nxt ()):=by rw[Qbi,e,h];simp only[Xa,j,l];rw[Qbi,e,g1];simp only[Xa,k,o];rw[Qbi,e];rfl
 have r:Qcj (n+5) 2 2=some true:=Xb1 aa aa aa aa ae;have s:Qcj (n+5) a 32=some true:=Xb1 aa aa aa g (by show a<4294967296;omega);have u:ZN .u64 2 0=2:=by decide +kernel
 have v:ZN .u64 a 2=a*2 ^ 2:=by show wU (a*4)=a*4;exact Xw aa aa
 have w:bOr .u64 0 2=2:=by decide +kernel
 have y:bOr .u64 2 (a*2 ^ 2)=2+a*2 ^ 2:=XcE aa aa ae g aa;have z:QaO (n+5) L (n+5) 0 0 0=some (.nxt (2+a*2 ^ 2)):=by rw[QaO,e,h];simp only[Xa,r,j,k2,u,w];rw[Wd aa,Wb,Wi,Wa,Xc aa];rw[QaO,e,g1];simp only[Xa,s,k,p,v,y];rw[Wd aa,Wb,Wi,Wa,Xc aa];rw[QaO,e];rw[Wh aa,Wa]
 rw[QfP,q,Xa,Xp,z,Xa,Xp,Xa,Xw (n:=4*a) aa aa,Xw aa aa];grind
end
section
variable {N:Nat}{h0:Wm}{l:List Int}
structure OY(h0:Wm)(w:WE)(n j u:Int)(ps:List Wv):Prop where
 rng:0<=j/\j<ps.length
 len:ps.length=w.h.p.length
 fit:0<=u/\u+n<=h0.c.W
 used:(pg ps j).u=u
 sp:∀i,0<=i->pg ps i=pg w.h.p i\/(pg ps i).s=1-h0.s
def Xrd(hN:NB N)(hb:HB h0)(hp:Uv h0){w:WE}(G:CI h0 l w){n:Int}(hn:1<=n)(hn2:n<=h0.c.W){β:Type}(B:Int->Int->Int->List Wv->List Int->Option β):
 (∃r,Qc6 N w n=some r/\r.2.2=false/\GR N h0.c h0.s n w.h.p w.t B=B 0 0 3 w.h.p w.t) \/
 ∃j u ps tk,OY h0 w n j u ps/\Qc6 N w n=some (⟨⟨w.h.c,w.h.w,ps.set j.toNat ⟨(pg ps j).k,(pg ps j).s,wI ((pg ps j).u+n),(pg ps j).P⟩,w.h.s,w.h.b⟩,w.o,tk,w.q,w.d,w.r⟩,Xj h0.c j u,true) /\
  GR N h0.c h0.s n w.h.p w.t B=B j u 0 ps tk:=by
 have S:=hN;unfold NB at S;have hpl:=G.plen;have hv:=Xo.1 hp.conf;have htl:=G.tl hb;have hpp:=hp.pages;have hsp:=hp.space;have T:=G.spc;have V:∀j u:Int,0<=j->j<w.h.p.length->0<=u->u+n<=h0.c.W->wU (wI (wI (4096+wI (j*w.h.c.W))+u))=Xj h0.c j u:=by intro j u h1 h2 h3 h4;have hm:=XZ hp.conf (i:=j) h1 aa;rw[G.conf,Xd (n:=j*h0.c.W) aa aa,Xd (n:=4096+j*h0.c.W) aa aa,Xd aa aa,Xw aa aa];rfl
 rw[Qc6,GR];rw[Xc aa,Xc aa,Xv,Xv];have new:(∃r,(bnd (Qby N w.h.p 1) λv=>
  bif (decide (v<0))then some ((WE.mk zHp [] [] [] 0 (WQ.mk 0 0 0 0 0 0)),0,false)
  else bnd (QbR N w.h.p v (wI (1-w.h.s))) λD=>
  grd (w.t.length*8<=140737488355328) <|
  grd ((w.t.length+1)*8<=140737488355328) <|
  bnd (Xb D.1 v) λH=>
  bnd (Xb D.1 v) λI=>
  bnd (Xb D.1 v) λz=>
  some ((WE.mk (Wm.mk w.h.c w.h.w (D.1.set v.toNat (Wv.mk z.k z.s (wI (I.u+n)) z.P)) w.h.s w.h.b) w.o (w.t++[v]) w.q w.d w.r),(wU (wI ((wI (4096+(wI (v*w.h.c.W))))+H.u))),true))=some r/\r.2.2=false /\
   (bnd (Qer N w.h.p 1) λf=>
    bif (decide (f<0))then B 0 0 3 w.h.p w.t
    else bnd (Qeq N w.h.p f (wI (1-h0.s))) λA=>
    bif (A.2 != 0)then none
    else grd ((w.t.length+1)*8<=140737488355328) <|
    B f 0 0 A.1 (w.t++[f]))=B 0 0 3 w.h.p w.t) \/
  ∃j u ps tk,OY h0 w n j u ps/\(bnd (Qby N w.h.p 1) λv=>
  bif (decide (v<0))then some ((WE.mk zHp [] [] [] 0 (WQ.mk 0 0 0 0 0 0)),0,false)
  else bnd (QbR N w.h.p v (wI (1-w.h.s))) λD=>
  grd (w.t.length*8<=140737488355328) <|
  grd ((w.t.length+1)*8<=140737488355328) <|
  bnd (Xb D.1 v) λH=>
  bnd (Xb D.1 v) λI=>
  bnd (Xb D.1 v) λz=>
  some ((WE.mk (Wm.mk w.h.c w.h.w (D.1.set v.toNat (Wv.mk z.k z.s (wI (I.u+n)) z.P)) w.h.s w.h.b) w.o (w.t++[v]) w.q w.d w.r),(wU (wI ((wI (4096+(wI (v*w.h.c.W))))+H.u))),true))=some (⟨⟨w.h.c,w.h.w,ps.set j.toNat ⟨(pg ps j).k,(pg ps j).s,wI ((pg ps j).u+n),(pg ps j).P⟩,w.h.s,w.h.b⟩,w.o,tk,w.q,w.d,w.r⟩,Xj h0.c j u,true) /\
   (bnd (Qer N w.h.p 1) λf=>
    bif (decide (f<0))then B 0 0 3 w.h.p w.t
    else bnd (Qeq N w.h.p f (wI (1-h0.s))) λA=>
    bif (A.2 != 0)then none
    else grd ((w.t.length+1)*8<=140737488355328) <|
    B f 0 0 A.1 (w.t++[f]))=B j u 0 ps tk:=by
  obtain⟨j,ej,hj⟩:=Zl (N:=N) (ps:=w.h.p) 1 aa aa
  rw[Xb0 aa aa,ej,Xa,Xa]
  rcases hj with rfl|hr
  .exact .inl ⟨_,rfl,rfl,rfl⟩
  .refine .inr ?_
   obtain⟨y,ey,Y⟩:=Xc9 (N:=N) (ps:=w.h.p) j (1-h0.s) aa aa
   have J:=Y.2.2 hr aa aa
   have⟨M,q1,q2,Z⟩:=Y.1 J
   have K:j<y.1.length:=aa
   have g:pg y.1 j=⟨1,1-h0.s,0,0⟩:=by rw[Z j M,Wq rfl]
   rw[Xd (n:=1-h0.s) aa aa,XeP aa aa,T,Xd (n:=1-h0.s) aa aa,ey,Xa,Xa,Wh aa,Wa,Wa,Xc aa,Xc aa,XH M K,Xa,Xa,Xa,J,Xc aa]
   refine⟨j,0,y.1,w.t++[j],⟨⟨M,K⟩,aa,⟨aa,aa⟩,by rw[g],λi L=>?_⟩,?_,rfl⟩
   .by_cases e:i=j
    .subst e;rw[g];exact .inr rfl
    .rw[Z i L,Wk e,Wk aa];exact .inl rfl
   .rw[show(pg y.1 j).u=0 by rw[g],V j 0 M aa aa aa]
 by_cases ht:0<(w.t.length:Int)
 .rw[Wd aa,Wb,Wb,Xd (n:=(w.t.length:Int)-1) aa aa];have L:=X1 (l:=w.t) (i:=(w.t.length:Int)-1) aa aa;generalize w.t[((w.t.length:Int)-1).toNat]'aa=j at L;have⟨O,R,t2,t3,t4⟩:=G.tk j (YH L);rw[L,Xa,Xa,Xa,Xa,Xa,XH O R,Xa,Xa,Xa,Xa,Xa,Wd (p:=j>=0) O,Wb,Xc aa,Wd (p:=j<_) R,Wb,G.conf];have U:=Xd (n:=(pg w.h.p j).u+n) aa aa;have e2:=Xd (n:=h0.c.W-(pg w.h.p j).u) aa aa;by_cases E:(pg w.h.p j).u+n<=h0.c.W
  .rw[U,e2,Wd (p:=(pg w.h.p j).u+n<=h0.c.W) E,Wd (p:=n<=h0.c.W-(pg w.h.p j).u) aa,Wb,Wb];refine .inr ⟨j,(pg w.h.p j).u,w.h.p,w.t,⟨⟨O,R⟩,rfl,⟨t3,E⟩,rfl,λi _=>.inl rfl⟩,?_,rfl⟩;have:=V j (pg w.h.p j).u O R t3 E;rw[G.conf]at this;rw[this,U]
  rw[U,e2,Wh (p:=(pg w.h.p j).u+n<=h0.c.W) E,Wh (p:=n<=h0.c.W-(pg w.h.p j).u) aa,Wa,Wa];rw[G.conf]at new;exact new
 grind
def Xre(hN:NB N)(hb:HB h0)(hp:Uv h0){w:WE}(y:CI h0 l w){n:Int}(E:1<=n)(z:n<=h0.c.W):
 (∃r,Qc6 N w n=some r/\r.2.2=false/\QcJ N w n=some (0,0,3,w.h.p,w.t)) \/
 ∃j u f tk,OY h0 w n j u f/\Qc6 N w n=some (⟨⟨w.h.c,w.h.w,f.set j.toNat ⟨(pg f j).k,(pg f j).s,wI ((pg f j).u+n),(pg f j).P⟩,w.h.s,w.h.b⟩,w.o,tk,w.q,w.d,w.r⟩,Xj h0.c j u,true) /\
  QcJ N w n=some (j,u,0,f,tk):=by
 have h:=Xrd hN hb hp y E z λA B D g v=>some (A,B,D,g,v);have e:QcJ N w n=GR N h0.c h0.s n w.h.p w.t λA B D g v=>some (A,B,D,g,v):=by rw[←y.conf,←y.spc,QcJ,Xv];rfl
 simp_all
end
section
variable {N:Nat}
def JB{e:List Wv}{i:Nat}(h:i<e.length):pg e (i:Int)=e[i]:=by unfold pg;simp_all
def Xrf{ps e:List Wv}(f:e.length=ps.length)(h:∀i,0<=i->pg e i=pg ps i):e=ps:=by refine List.ext_getElem f λi g j=>?_;rw[←JB g,←JB j];simp_all
def Xrg{f:List Wv}(q:Wv->Bool){i k:Nat}(h:i+1+k<=f.length):((f.drop (i+1)).take k).all q=true↔∀m:Int,1<=m->m<=k->q (pg f (i+m))=true:=by
 rw[Ud];constructor
 .intro g m p r;have e:pg f (i+m)=((f.drop (i+1)).take k)[m.toNat-1]'(by rw[Wl,Wn];omega):=by rw[Ij,IH,←JB];congr 1;omega
  grind
 intro g x j;obtain⟨m,o,rfl⟩:=WM j;rw[Wl,Wn]at o;rw[Ij,IH,←JB];have:=g (m+1) aa aa;grind
structure OO(c:WW)(ps:List Wv)(i:Int):Prop where
 sp:0<=(pg ps i).s/\(pg ps i).s<=1
 pn:0<=(pg ps i).P/\(pg ps i).P<=2147483647
 k0:(pg ps i).k=0->pg ps i=Jr
 k1:(pg ps i).k=1->0<=(pg ps i).u/\(pg ps i).u<=c.W
 k2:(pg ps i).k=2->1<=XD c (pg ps i).u/\i+XD c (pg ps i).u<=ps.length/\∀m,1<=m->m<XD c (pg ps i).u->(pg ps (i+m)).k=3/\(pg ps (i+m)).s=(pg ps i).s/\(pg ps (i+m)).u=0/\(pg ps (i+m)).P=0
 kd:(pg ps i).k=0\/(pg ps i).k=1\/(pg ps i).k=2
def XeT{s:Int}{p:Wv}:Yc s p=true↔p.k=3/\p.s=s/\p.u=0/\p.P=0:=by unfold Yc Kh;grind
def XcF{c:WW}{g:List Wv}{i:Nat}(A:i<g.length):(Yb c g i g[i]≠0↔OO c g i)/\(OO c g i->Yb c g i g[i]=if g[i].k=2 then(XD c g[i].u).toNat else 1):=by
 have e:=JB A;generalize hp:g[i]=p at *;have tl:∀(h:i+XD c p.u<=g.length) (j:1<=XD c p.u),((g.drop (i+1)).take ((XD c p.u).toNat-1)).all (Yc p.s)=true↔∀m,1<=m->m<XD c p.u->(pg g (i+m)).k=3/\(pg g (i+m)).s=p.s/\(pg g (i+m)).u=0/\(pg g (i+m)).P=0:=λh j=>by rw[Xrg _ aa];exact⟨λq m a b=>XeT.1 (q m a aa),λq m a b=>XeT.2 (q m a aa)⟩
 unfold Yb;constructor
 .constructor
  .intro h;by_cases h0:p.k=0
   .rw[Wq h0]at h;by_cases j:p.s=0/\p.u=0/\p.P=0
    .obtain⟨a,b,d⟩:=j;refine⟨?_,?_,?_,?_,?_,?_⟩<;>rw[e]
     .omega
     .omega
     .intro _;obtain⟨k,s,u,q⟩:=p;simp_all[Jr]
     .intro h;omega
     .intro h;omega
     exact .inl h0
    rw[Wk j]at h;exact absurd rfl h
   rw[Wk h0]at h;by_cases j:(p.s=0\/p.s=1)/\0<=p.P/\p.P<=2147483647;rotate_left
   .rw[Wk j]at h;exact absurd rfl h
   rw[Wq j]at h;by_cases w:p.k=1
   .rw[Wq w]at h;by_cases o:0<=p.u/\p.u<=c.W
    .refine⟨?_,?_,?_,?_,?_,?_⟩<;>rw[e]
     .omega
     .omega
     .intro h;omega
     .exactλ_=>o
     .intro h;omega
     exact .inr (.inl w)
    rw[Wk o]at h;exact absurd rfl h
   rw[Wk w]at h;by_cases o:p.k=2;rotate_left
   .rw[Wk o]at h;exact absurd rfl h
   by_cases y:1<=XD c p.u/\(XD c p.u).toNat<=g.length-i/\((g.drop (i+1)).take ((XD c p.u).toNat-1)).all (Yc p.s)=true
   .refine⟨?_,?_,?_,?_,?_,?_⟩<;>rw[e]
    .omega
    .omega
    .omega
    .omega
    .exactλ_=>⟨y.1,aa,(tl aa y.1).1 y.2.2⟩
    exact .inr (.inr o)
   simp_all
  intro b;have f:=b.kd;have z:=b.sp;have r:=b.pn;have b0:=b.k0;have v:=b.k1;have b2:=b.k2;rw[e]at f z r b0 v b2;rcases f with f|f|f
  .rw[Wq f,b0 f,Wq ⟨rfl,rfl,rfl⟩];omega
  .rw[Wk aa,Wq ⟨aa,r⟩,Wq f,Wq (v f)];omega
  grind
 intro b;have f:=b.kd;have z:=b.sp;have r:=b.pn;have b0:=b.k0;have v:=b.k1;have b2:=b.k2;rw[e]at f z r b0 v b2;rcases f with f|f|f
 .rw[Wq f,b0 f,Wq ⟨rfl,rfl,rfl⟩];rfl
 .rw[Wk aa,Wq ⟨aa,r⟩,Wq f,Wq (v f),Wk aa]
 grind
structure OL(c:WW)(ps:List Wv):Prop where
 hd:∀i:Int,0<=i->i<ps.length->(pg ps i).k≠3->OO c ps i
 tl:∀i:Int,0<=i->i<ps.length->(pg ps i).k=3->∃k:Int,0<=k/\k<i/\OO c ps k/\(pg ps k).k=2/\i<k+XD c (pg ps k).u
def Xhm{h:Wm}(o:h.p.length<=100000)(hN:1000000<N):∀(n i:Nat),i<=h.p.length->Qag N h n (i:Int)=some (.nxt ())->∀j:Nat,i<=j->j<h.p.length->∃k s:Nat,i<=k/\k<=j/\j<k+s/\∃r:k<h.p.length,Yb h.c h.p k h.p[k]=s
 |0,i,_,e,_,_,_=>by simp_all[Qag]
 |n+1,i,u,e,j,v,q=>by
  have g:i<h.p.length:=aa;rw[Qag,Wd (show(i:Int)<_ by omega),Wb,KH o hN g,Xa]at e;have w:=Xdy (c:=h.c) g (p:=h.p[i]);generalize y:Yb h.c h.p i h.p[i]=s at *;by_cases h0:s=0
  .simp_all
  rw[show((s:Int)==0)=false by simp_all,Wa,Xd aa aa,show(i:Int)+(s:Int)=((i+s:Nat):Int) by omega]at e;by_cases z:j<i+s
  .grind
  have⟨k,t,a,b,d,f⟩:=Xhm o hN n (i+s) aa e j aa q;grind
def Xhn{h:Wm}:∀(n:Nat) (i:Int) {b:Bool},Qag N h n i=some (.ret b)->b=false
 |0,i,b,e=>by simp_all[Qag]
 |n+1,i,b,e=>by
  rw[Qag]at e;cases g:decide (i<(h.p.length:Int))with
  |false=>simp_all
  |true=>
   rw[g,Wb]at e;cases f:QhO N h.c h.p i with
   |none=>simp_all[f,ZV]
   |some y=>
    rw[f,Xa]at e;cases j:y==0 with
    |true=>simp_all
    |false=>rw[j,Wa]at e;exact Xhn n _ e
def Xm7(hN:NB N){h:Wm}(hb:HB h)(ep:Qac N h=some true):OL h.c h.p:=by
 have o:1000000<N:=by unfold NB at hN;omega
 have hp:=Yl hN hb ep;have e:=ep;rw[←Yd hb.2 o,JA hp.pre]at e;have z:Qag N h N 0=some (.nxt ()):=by
  cases q:Qag N h N 0 with
  |none=>simp_all[q,ZV]
  |some x=>
   rw[q,Xa]at e;cases x with
   |ret a=>rw[XE]at e;cases e;exact absurd (Xhn N 0 q) ab
   |nxt u=>rfl
 have w:=Xhm hb.2 o N 0 aa z;refine⟨λi h0 q y=>?_,λi h0 q y=>?_⟩
 .obtain⟨j,rfl⟩:∃j:Nat,i=(j:Int):=⟨i.toNat,aa⟩
  have⟨k,s,_,A,B,g,D⟩:=w j aa aa;have r:=XcF (c:=h.c) g;have hb:=r.1.1 aa;by_cases v:j=k
  .simp_all
  have:=r.2 hb;by_cases f:h.p[k].k=2
  .rw[Wq f]at this;have:=(hb.k2 (by rw[JB g];exact f)).2.2 ((j:Int)-k) aa (by rw[JB g];omega);rw[show(k:Int)+((j:Int)-k)=j by omega]at this;exact absurd this.1 y
  grind
 obtain⟨j,rfl⟩:∃j:Nat,i=(j:Int):=⟨i.toNat,aa⟩
 have⟨k,s,_,A,B,g,D⟩:=w j aa aa;have r:=XcF (c:=h.c) g;have hb:=r.1.1 aa;have E:=r.2 hb;have G:=hb.kd;have v:j≠k:=by rintro rfl;omega
 by_cases f:h.p[k].k=2
 .rw[Wq f]at E;exact⟨k,aa,aa,hb,by rw[JB g];exact f,by rw[JB g];omega⟩
 grind
def SpanS(c:WW)(e f:List Wv):Prop:=f.length=e.length/\∀i(g:i<e.length)(h:i<f.length),Yb c f i f[i]=Yb c e i e[i]
def SpanS.refl(c:WW)(ps:List Wv):SpanS c ps ps:=⟨rfl,λ_ _ _=>rfl⟩
def SpanS.trans{c:WW}{a b d:List Wv}(e:SpanS c a b)(f:SpanS c b d):SpanS c a d:=⟨f.1.trans e.1,λi g h=>(f.2 i (by rw[e.1];omega) h).trans (e.2 i g (by rw[e.1];omega))⟩
def XdP{c:WW}{e qs:List Wv}(hN:OL c e)(p:qs.length=e.length)(h:∀i:Int,0<=i->i<e.length->((pg e i).k<=1/\(pg qs i).k=1/\(0<=(pg qs i).s/\(pg qs i).s<=1)/\(0<=(pg qs i).P/\(pg qs i).P<=2147483647)/\0<=(pg qs i).u/\(pg qs i).u<=c.W) \/
  ((pg qs i).k=(pg e i).k/\(pg qs i).u=(pg e i).u/\(pg qs i).P=(pg e i).P/\((pg qs i).s=(pg e i).s\/2<=(pg e i).k/\0<=(pg qs i).s/\(pg qs i).s<=1)))(ht:∀i m:Int,0<=i->(pg e i).k=2->1<=m->m<XD c (pg e i).u->i+m<e.length->(pg qs (i+m)).s=(pg qs i).s):SpanS c e qs:=by
 refine⟨p,λi q r=>?_⟩;have y:=JB q;have z:=JB r;have A:=XcF (c:=c) q;have B:=XcF (c:=c) r;by_cases D:(pg e i).k=3
 .have K:¬OO c e i:=λb=>by have:=b.kd;omega
  have L:¬OO c qs i:=λb=>by have:=b.kd;have:=h i aa aa;omega
  simp_all
 have b:=hN.hd i aa aa D;have hb:=b.kd;have b0:=b.k0;have M:=b.k1;have b2:=b.k2;have O:=b.sp;have R:=b.pn;have f:=h i aa aa;have E:OO c qs i:=by
  refine⟨aa,aa,λo=>?_,λo=>?_,λo=>?_,aa⟩
  .rcases f with g|⟨g1,g2,g3,g4⟩
   .omega
   have:=b0 aa;rw[this]at g1 g2 g3 g4;have g4:(pg qs i).s=0:=by rcases g4 with g|g;exact g;exact absurd g.1 ae
   have G:pg qs i=⟨(pg qs i).k,(pg qs i).s,(pg qs i).u,(pg qs i).P⟩:=rfl;rw[G,g1,g2,g3,g4];rfl
  .omega
  rcases f with g|⟨g1,g2,g3,g4⟩
  .omega
  have j:(pg e i).k=2:=aa;have⟨H,I,J⟩:=b2 j;rw[g2,p];refine⟨H,I,λm v w=>?_⟩;have⟨S,T,U,V⟩:=J m v w;have Y:=h (i+m) aa aa;refine⟨aa,ht i m aa j v w aa,aa,aa⟩
 rw[A.2 b,B.2 E];rw[y]at f hb;rw[z]at f;by_cases o:e[i].k=2
 .simp_all
 rw[Wk o,Wk aa]
def SpanS.proper(hN:NB N){h:Wm}(hb:HB h)(ep:Qac N h=some true){f:List Wv}(g:SpanS h.c h.p f){ws:List Int}(hw:ws.length=h.w.length){b:Int}(e:b = -1\/(0<=b/\b<f.length/\(pg f b).k=1)):Qac N ⟨h.c,ws,f,h.s,b⟩=some true:=
 Xcl hN hb ep g.1 (λi j=>g.2 i j (by rw[g.1];omega)) hw e
end
section
variable {N:Nat}{h0:Wm}{l:List Int}
def XcG{α:Type}{l:List α}{o n:Nat}{i:Int}(f:0<=i)(g:i<n)(e:o+i.toNat<l.length):KM l o n i=some (l[o+i.toNat]'e):=by unfold KM;simp_all
def XeU{c:WW}(f:X8 c=true){a:Int}(g:4096<=a/\a<4096+c.p*c.W):Qcc N c a=some (pgi c a,pgo c a,0)/\wI (wI (pgi c a*c.W)+pgo c a)=a-4096:=by
 have⟨e,h,j,k,o⟩:=KP f g;have q:=XZ f (i:=pgi c a) h j;refine⟨?_,?_⟩
 .rw[Xio _ _ _ aa,J4,f,Wk ab,Wq g];rfl
 rw[Xd (n:=pgi c a*c.W) aa aa,Xd aa aa];unfold Xj at e;omega
def XuD{c c':WW}(e:c=c')(f:X8 c=true)(hN:1000000<N){cp X n i u:Int}{ws q:List Int}{ps:List Wv}{β:Type}(j:Int->Int->Int->List Int->List Wv->List Int->Option β)(hw:(ws.length:Int)=c.p*c.W)(r:0<=X)(B:1<=n)(D:X+n<=ws.length)(g:0<=i)(o:i<c.p)(v:0<=u)(E:u+n<=c.W)(w:(ps.length:Int)=c.p)(G:q.length<=100000):
 FT N c' cp ws ps q X (X+n) j i u=j (Xj c i u) 0 (wI (cp+1)) ((ovr ws ((ws.drop X.toNat).take n.toNat) (ix (Xj c i u))).set X.toNat (wU (wU (4*Xj c i u)+2))) (ps.set i.toNat ⟨(pg ps i).k,(pg ps i).s,wI ((pg ps i).u+n),(pg ps i).P⟩) (q++[Xj c i u]):=by
 subst e;have H:=XZ f (i:=i) g o;have I:Xj c i u=4096+i*c.W+u:=rfl;have y:4096<=Xj c i u/\Xj c i u<4096+c.p*c.W:=aa;have⟨z,A⟩:=XeU (N:=N) f y;have eL:((X+n).toNat-X.toNat)=n.toNat:=aa;have eN:(n.toNat:Int)=n:=aa;have h:ovr ws ((ws.drop X.toNat).take n.toNat) (ix (Xj c i u))=(ws.take (Xj c i u-4096).toNat++(ws.drop X.toNat).take n.toNat)++ws.drop ((Xj c i u-4096).toNat+n.toNat):=by unfold ovr ix;rw[Wl,Wn,Ol aa]
 rw[FT,VU,K1,f,Wk ab,Wq ⟨g,o,v,aa⟩,Xa];rw[show((0:Int) != 0)=false from rfl,Wa,eL,eN,Xc aa,z,Xa];rw[show((0:Int) != 0)=false from rfl,Wa,Xc aa];rw[A,Xd (n:=(ws.length:Int)-(Xj c i u-4096)) aa aa,Wh (p:=n>_) aa,Wa];rw[Xd (n:=Xj c i u-4096+n) aa aa,Xc aa,Xhl hN aa aa,XaI,Wk aa,Xa];rw[show((0:Int) != 0)=false from rfl,Wa,Xc aa,←h,XcG aa aa (by grind),Xa,XH g aa,Xa,Xc aa,Xa,Xc aa]
def XsJ(w:WE)(a:Int)(lp:Nat->Int->List Wv->Option (List Wv))(h0:∀i e,lp 0 i e=none)(j:∀n i e,lp (n+1) i e=(grd (e.length<=140737488355328) <|
 bif (decide (i<(e.length:Int)))then(bnd (Xb e i) λg=>
  bif (g.k==3)then(bnd (Xb e i) λf=>
   lp n (wI (i+1)) (e.set i.toNat (Wv.mk f.k (wI (1-w.h.s)) f.u f.P)))
  else some e)
 else some e)):∀(n:Nat) (i:Int) (e:List Wv),lp n i e=QaR N w a n i e
 |0,i,e=>by rw[h0,QaR]
 |n+1,i,e=>by rw[j,QaR];have:=XsJ w a lp h0 j n;simp_all
def Prm(w:WE)(i:Int):Prop:=(0<=i/\i<w.h.p.length)/\(pg w.h.p i).k=1/\(pg w.h.p i).s≠w.h.s/\i∉w.t
def Xpx(hN:NB N){w:WE}{i:Int}(B:w.t.length<=100000)(hp:w.h.p.length<=100000)(A:0<=w.h.s/\w.h.s<=1)(g:∀i,0<=i->(pg w.h.p i).k=1->0<=(pg w.h.p i).s/\(pg w.h.p i).s<=1){β:Type}:
 ∃b,(b=true↔Prm w i)/\QdD N w i=some b/\∀K:Bool->Option β,(jn K λj=>bif (decide (i<0))then j false
  else grd (w.h.p.length<=140737488355328) <|
  bif (decide (i>=(w.h.p.length:Int)))then j false
  else bnd (Xb w.h.p i) λf=>
  jn (λ(o:Bool)=>
   j o) λq=>
  bif (f.k==1)then(bif (f.s==(wI (1-w.h.s)))then(bnd (Qbm N w.t i) λr=>
      q (!r))
   else q false)
  else q false)=K b:=by
 have u:=hN;unfold NB at u;rw[QdD];by_cases v:i<0
 .exact⟨false,⟨λh=>(by grind),λh=>by have:=h.1;omega⟩,by simp_all,λK=>by rw[Xv,Wd v,Wb]⟩
 by_cases z:i>=(w.h.p.length:Int)
 .exact⟨false,⟨λh=>(by grind),λh=>by have:=h.1;omega⟩,by simp_all,λK=>by rw[Xv,Wh v,Wa,Xc aa,Wd z,Wb]⟩
 rw[Wh v,Wa,Wh z,Wa,XH aa aa,Xa];by_cases e:(pg w.h.p i).k=1
 .have:=g i aa e;rw[XQ e,Wb];by_cases y:(pg w.h.p i).s=w.h.s
  .exact⟨false,⟨λh=>(by grind),λh=>absurd y h.2.2.1⟩,by simp_all,λK=>by rw[Xv,Wa,Xc aa,Wa,Xa,Xv,XQ e,Wb,Xd (n:=1-w.h.s) aa aa,Xf aa,Wa]⟩
  exact⟨!w.t.contains i,⟨λh=>⟨aa,e,y,by simp_all⟩,λh=>by simpa using h.2.2.2⟩,by rw[Xl y,Wb,XkP _ _ aa aa,Xa],λK=>by rw[Xv,Wa,Xc aa,Wa,Xa,Xv,XQ e,Wb,Xd (n:=1-w.h.s) aa aa,XQ aa,Wb,XkO _ _ aa aa,Xa]⟩
 exact⟨false,⟨λh=>(by grind),λh=>absurd h.2.1 e⟩,by grind,λK=>by rw[Xv,Wa,Xc aa,Wa,Xa,Xv,Xf e,Wa]⟩
def XfL(hN:NB N){w:WE}{i:Int}(g:w.t.length<=100000)(hp:w.h.p.length<=100000)(e:0<=w.h.s/\w.h.s<=1)(f:∀i,0<=i->(pg w.h.p i).k=1->0<=(pg w.h.p i).s/\(pg w.h.p i).s<=1):
 ∃b,(b=true↔Prm w i)/\QdD N w i=some b/\QdF N w i=some b:=by have⟨b,j,o,q⟩:=Xpx (β:=Bool) (i:=i) hN g hp e f;exact⟨b,j,o,q some⟩
end
section
variable {N:Nat}{h0:Wm}{l:List Int}
structure Ou(h0:Wm)(l:List Int)(w:WE):Prop where
 q:∀a∈w.q,okH (wd w.h.w a)=true
 old:∀a∈l,a∉w.q->VN (wd w.h.w a)=false->okH (wd w.h.w a)=true
 fw:∀a∈l,VN (wd w.h.w a)=true->YD .u64 (wd w.h.w a) 2≠0
 ws:∀x∈w.h.w,tU x
 ss:SpanS h0.c h0.p w.h.p
 k1:∀i,0<=i->(pg h0.p i).k=1->(pg w.h.p i).k=1
 pr:∀i,Prm w i->(pg h0.p i).k=1/\(pg w.h.p i).u=(pg h0.p i).u
 hw:∀b∈l,Prm w (pgi h0.c b)->wd w.h.w b=wd h0.w b
 bm:w.h.b=h0.b
 ol:w.o=Kq h0 l
def KeepW(w e:WE):Prop:=e=⟨⟨w.h.c,e.h.w,e.h.p,w.h.s,w.h.b⟩,w.o,e.t,e.q,w.d,⟨e.r.j,e.r.K,w.r.F,w.r.E,w.r.f,w.r.y⟩⟩
def XjC(w:WE)(a:Int):∀(n:Nat) (i:Int) (f r:List Wv),0<=i->QaR N w a n i f=some r->∀j,0<=j->(((i<=j/\j<f.length/\∀x,i<=x->x<=j->(pg f x).k=3)/\pg r j=⟨3,wI (1-w.h.s),(pg f j).u,(pg f j).P⟩)\/(¬(i<=j/\j<f.length/\∀x,i<=x->x<=j->(pg f x).k=3)/\pg r j=pg f j))
 |0,i,f,r,_,e,_,_=>by simp_all[QaR]
 |n+1,i,f,r,h0,e,j,q=>by
  rw[QaR]at e;by_cases p:f.length<=140737488355328;rotate_left
  .unfold grd at e;rw[Wk p]at e;cases e
  rw[Xc p]at e;by_cases g:i<(f.length:Int);rotate_left
  .rw[Wh g,Wa]at e;cases e;exact .inr ⟨λh=>aa,rfl⟩
  rw[Wd g,Wb,XH h0 g,Xa,Xa]at e;by_cases o:(pg f i).k=3;rotate_left
  .rw[Xf o,Wa]at e;cases e;exact .inr ⟨λh=>o (h.2.2 i aa h.1),rfl⟩
  rw[XQ o,Wb,Xd (n:=i+1) aa aa,o]at e;have y:=λx v=>ZZ (ps:=f) (j:=x) ⟨3,wI (1-w.h.s),(pg f i).u,(pg f i).P⟩ h0 g v;have z:=XjC w a n (i+1) _ r aa e j q;grind
def XsK{v:Int}(h:0<=v):YD .u64 v 2=v / 4:=YI v 2 aa h
def Xrh{v:Int}(f:4096<=v)(g:v<4294967296):VN (wU (wU (4*v)+2))=true/\YD .u64 (wU (wU (4*v)+2)) 2=v/\tU (wU (wU (4*v)+2)):=by
 rw[Xw (n:=4*v) aa aa,Xw aa aa];have e:YD .u64 (4*v+2) 2=v:=by rw[XsK aa];omega
 refine⟨?_,e,⟨aa,aa⟩⟩;unfold VN;grind
def Xho{ws:List Int}(h:∀x∈ws,tU x)(a:Int):tU (wd ws a):=by
 unfold wd;rw[Wr];cases e:ws[ix a]? with
 |none=>simp
 |some x=>grind
def Xpy{v:Int}(e:tU v)(h:okH v=true):VN v=false:=by rw[XmK e]at h;unfold VN;grind
def Ou.push{w:WE}(f:Ou h0 l w){a:Int}(h:okH (wd w.h.w a)=true)(g:WQ):Ou h0 l {w with q:=w.q++[a],r:=g}:=by
 refine⟨λb hb=>?_,λb hb j k=>f.old b hb (λe=>j (W6 _ e)) k,f.fw,f.ws,f.ss,f.k1,f.pr,f.hw,f.bm,f.ol⟩;rcases WH.1 hb with hb|hb
 .exact f.q b hb
 simp_all
structure ON(h0:Wm)(w:WE)(qs:List Wv)(tk:List Int):Prop where
 ss:SpanS h0.c w.h.p qs
 kd:∀i,0<=i->(pg w.h.p i).k=1->(pg qs i).k=1
 pr:∀i:Int,0<=i->i<qs.length->(pg qs i).k=1->i∉tk->pg qs i=pg w.h.p i/\i∉w.t
def OA{w:WE}{e:List Wv}{tk:List Int}(g:ON h0 w e tk){w':WE}(j:w'.h.p=e)(k:w'.t=tk)(e3:w'.h.s=w.h.s){i:Int}(h:Prm w' i):Prm w i/\pg w'.h.p i=pg w.h.p i:=by have⟨⟨a,b⟩,c,d,f⟩:=h;rw[j]at b c d⊢;rw[k]at f;have⟨g1,g2⟩:=g.pr i a b c f;refine⟨⟨⟨a,by rw[←g.ss.1];omega⟩,by simp_all,by simp_all,g2⟩,g1⟩
def Ou.spn(hN:NB N)(hb:HB h0)(ep:Qac N h0=some true){w:WE}(e:Ou h0 l w):OL h0.c w.h.p:=by have h:=e.ss.proper hN hb ep (ws:=h0.w) rfl (b:=-1) (.inl rfl);exact Xm7 hN (h:=⟨h0.c,h0.w,w.h.p,h0.s,-1⟩) ⟨hb.1,by rw[e.ss.1];exact hb.2⟩ h
def OL.sp{c:WW}{e:List Wv}(h:OL c e):∀i,0<=i->(pg e i).k=1->0<=(pg e i).s/\(pg e i).s<=1:=λi g f=>by
 by_cases j:i<e.length
 .exact(h.hd i g j aa).sp
 unfold pg at f;rw[Wr,W3 aa]at f;cases f
def XsL{w:WE}(L:OL h0.c w.h.p)(O:0<=w.h.s/\w.h.s<=1){a i:Int}{n:Nat}{v:List Wv}(R:0<=i)(S:i<w.h.p.length)(I:(pg w.h.p i).k=2)(T:v.length=w.h.p.length)(e:QaR N w a n (i+1) (w.h.p.set i.toNat ⟨(pg w.h.p i).k,wI (1-w.h.s),(pg w.h.p i).u,(pg w.h.p i).P⟩)=some v):ON h0 w v w.t:=by
 have hw:wI (1-w.h.s)=1-w.h.s:=Xd aa aa;have M:=λx y=>ZZ (ps:=w.h.p) (j:=x) ⟨(pg w.h.p i).k,wI (1-w.h.s),(pg w.h.p i).u,(pg w.h.p i).P⟩ R S y;have U:=λj D=>XjC w a n (i+1) _ v aa e j D;have run:∀j,0<=j->(i<j/\j<w.h.p.length/\(∀x,i<x->x<=j->(pg w.h.p x).k=3)/\pg v j=⟨3,1-w.h.s,(pg w.h.p j).u,(pg w.h.p j).P⟩)\/(¬(i<j/\j<w.h.p.length/\∀x,i<x->x<=j->(pg w.h.p x).k=3)/\pg v j=if j=i then⟨2,1-w.h.s,(pg w.h.p i).u,(pg w.h.p i).P⟩else pg w.h.p j):=λj D=>by
  have h:=U j D;rw[WO,M j D,hw,I]at h;have eq:∀x,i<x->pg (w.h.p.set i.toNat ⟨2,1-w.h.s,(pg w.h.p i).u,(pg w.h.p i).P⟩) x=pg w.h.p x:=λx y=>by have:=M x aa;rw[I,hw]at this;rw[this,Wk aa]
  rcases h with⟨⟨E,J,z⟩,b⟩|⟨a,b⟩
  .rw[Wk (show¬j=i by omega)]at b;exact .inl ⟨aa,J,λx y o=>by rw[←eq x y];exact z x aa o,b⟩
  exact .inr ⟨λh=>a ⟨aa,h.2.1,λx y o=>by rw[eq x aa];exact h.2.2 x aa o⟩,b⟩
 refine⟨XdP L T (λj G H=>.inr ?_) λk m k0 kk V W Y=>?_,λj G H=>?_,λj G H jk jt=>?_⟩
 .rcases run j G with⟨E,J,z,b⟩|⟨a,b⟩
  .have:=z j E aa;rw[b,this];exact⟨rfl,rfl,rfl,.inr ⟨aa,by show 0<=1-w.h.s;omega,by show 1-w.h.s<=1;omega⟩⟩
  rw[b];by_cases q:j=i
  .rw[Wq q,q];exact⟨I.symm,rfl,rfl,.inr ⟨aa,by show 0<=1-w.h.s;omega,by show 1-w.h.s<=1;omega⟩⟩
  rw[Wk q];exact⟨rfl,rfl,rfl,.inl rfl⟩
 .have K:=L.hd k k0 aa aa;have r:=(K.k2 kk).2.2;by_cases A:k=i
  .subst A;have f:=run k k0;have g:=run (k+m) aa;have Z:∀x,k<x->x<=k+m->(pg w.h.p x).k=3:=λx y hxm=>by have:=(r (x-k) aa aa).1;rwa[show k+(x-k)=x by omega]at this
   rcases f with f|⟨_,f⟩
   .omega
   rcases g with g|⟨g,_⟩
   .rw[f,g.2.2.2,Wq rfl]
   exact absurd ⟨aa,Y,Z⟩ g
  have f:=run k k0;have g:=run (k+m) aa;have t:=r m V W;rcases f with f|⟨_,f⟩
  .have:=f.2.2.1 k f.1 aa;omega
  rw[Wk A]at f;rcases g with g|⟨_,g⟩
  .by_cases hlt:k<i
   .have:=(r (i-k) aa aa).1;rw[show k+(i-k)=i by omega]at this;omega
   have:=g.2.2.1 k aa aa;omega
  by_cases B:k+m=i
  .rw[B]at t;omega
  rw[Wk B]at g;rw[f,g];exact t.2.1
 .rcases run j G with⟨E,J,z,b⟩|⟨a,b⟩
  .have:=z j E aa;omega
  rw[b,Wk (λe=>by rw[e]at H;omega)];exact H
 grind
def Xpz{w A:WE}(B:OL h0.c w.h.p)(E:0<=w.h.s/\w.h.s<=1)(D:∀j∈w.t,(pg w.h.p j).k=1){n at_ j u:Int}(R:0<=n)(o:OB h0 w n A at_ j u):ON h0 w A.h.p A.t:=by
 have r:=o.rng;have t:=o.this;have f:=o.fit;have G:(pg w.h.p j).k=0\/(pg w.h.p j).k=1:=by rcases o.way with g|g;exact .inr (D j g.1);exact .inl g.1
 have hb:=B.hd j r.1 r.2 aa;have H:=hb.sp;have I:=hb.pn;refine⟨XdP B o.plen (λi v J=>?_) λi m v z K L S=>?_,λi v z=>?_,λi v J z y=>?_⟩
 .by_cases q:i=j
  .subst q;rcases o.sp with g|g<;>rw[g.1,g.2]<;>omega
  rw[o.other i v q];omega
 .have tl:=((B.hd i v aa aa).k2 z).2.2 m K L;have M:i≠j:=λe=>by rw[e]at z;omega
  have O:i+m≠j:=λe=>by rw[e]at tl;omega
  rw[o.other i v M,o.other (i+m) aa O];omega
 .by_cases q:i=j
  .simp_all
  rw[o.other i v q];omega
 have q:i≠j:=by
  rintro rfl;rcases o.way with g|g
  .rw[g.2.1]at y;exact y g.1
  rw[g.2.1]at y;simp at y
 refine⟨o.other i v q,λh=>y ?_⟩;rcases o.way with g|g<;>rw[g.2.1]
 .exact h
 simp_all
def Ou.pages{w:WE}(e:Ou h0 l w){f:List Wv}(h:ON h0 w f w.t):Ou h0 l {w with h:={w.h with p:=f}}:=
 ⟨e.q,e.old,e.fw,e.ws,e.ss.trans h.ss,λi g j=>h.kd i g (e.k1 i g j),λi hp=>by
  have:=OA (w':={w with h:={w.h with p:=f}}) h rfl rfl rfl hp
  rw[this.2];exact e.pr i this.1,λb hb hp=>e.hw b hb (OA (w':={w with h:={w.h with p:=f}}) h rfl rfl rfl hp).1,e.bm,e.ol⟩
def Xri(hN:NB N)(R:Start N h0 l){w:WE}{O:Int->Prop}{s:Int->Int}(z:CI h0 l w)(D:Ot h0 l w O s)(A:Ou h0 l w){a:Int}(ta:tU a):
 (∃r w2,Qbb N w a=some r/\r.2.2≠0/\Qa6 N w a=some (0,r.2.2,w2)) \/
 ∃w' to,Qbb N w a=some (w',to,0)/\OF h0 l w w' O s/\Ou h0 l w'/\tU to/\(a≠0->to≠0)/\KeepW w w'/\Qa6 N w a=some (to,0,w'):=by
 have hN':=hN;unfold NB at hN';have hb:=R.hb;have hql:=z.ql hb;have htl:=z.tl hb;have hwl:=z.wl hb;have hww:=z.wlen;have hpl:=z.plen;have hsl:=R.st.len;have hspc:=z.spc;have J:=z.conf;have hol:=z.old.length_le;have same:OF h0 l w w O s:=⟨z,⟨O,s,D,λ_ h=>⟨h,rfl⟩⟩,rfl,Uj _⟩
 have kp:KeepW w w:=rfl;have hlp:∀i ps,QbW N w a N i ps=QaR N w a N i ps:=λi ps=>XsJ w a (λn i ps=>QbW N w a n i ps) (λi ps=>by rfl) (λn i ps=>by rfl) N i ps;rw[Qa6,Xv,Qbb];by_cases h1:a=0
 .rw[XQ h1,Wb,Wb];grind
 rw[Xf h1,Wa,Wa,V0 _ _ aa aa,YQ a aa aa,Xa,Xa];cases h2:w.q.contains a with
 |true=>grind
 |false=>
 have hq:=Kf h2;rw[Wa,Wa,V0 _ _ aa aa,YQ a aa aa,Xa,Xa];cases h3:w.o.contains a with
 |false=>simp
 |true=>
 have g:a∈l:=z.old.subset (Zr h3);have hne:l≠[]:=List.ne_nil_of_mem g;have hp:=R.prop hne;have hg:=R.good hne;have hat:=R.st.obj.at_ a g;have ep:Qac N h0=some true:=by obtain⟨r,Z,hr⟩:=Xes hN hb a;rw[R.st.obj.ev a g]at Z;obtain rfl:=WG Z;exact(hr rfl).2.1
 have L:=A.spn hN hb ep;have hwd0:=hp.words;have hpg0:=hp.pages;have hvc:=Xo.1 hp.conf;have M:=hat.rng;have hspr:=hp.space;have⟨_,q0,q1,_⟩:=KP hp.conf M;obtain⟨o1,o2⟩:Qcc N w.h.c a=some (pgi h0.c a,pgo h0.c a,0)/\wI (wI (pgi h0.c a*w.h.c.W)+pgo h0.c a)=a-4096:=by rw[J];exact XeU (N:=N) hp.conf M
 have hin:inW w.h.w a:=by unfold inW;omega
 have hm4:h0.c.p*h0.c.W<=4096:=(XZ hp.conf (i:=0) aa aa).2.2;have tw:=Xho A.ws a;have gp:∀n:Nat,1<=n->KM w.h.w (a-4096).toNat n 0=some (wd w.h.w a):=by intro n hn;rw[XcG aa aa aa];unfold wd ix;rw[Wr,Wc aa];simp
 have hof:Qdl N w.h.c a=some (pgi h0.c a,pgo h0.c a,0):=by rw[J4,z.conf,hp.conf,Wk ab,Wq M];rfl
 rw[Wi,Wa,Wa,o1,Xa];rw[show((0:Int) != 0)=false from rfl,Wa,Xc aa,o2,Xd (n:=(w.h.w.length:Int)-(a-4096)) aa aa,Wh aa,Wa,Xd (n:=a-4096+1) aa aa,Xc aa,
  gp _ aa,Xa,XdO aa tw,YK hwl,Xa,Wq hin,J1,Xa]
 rw[show w.h.w.getD (ix a) 0=wd w.h.w a from rfl,J1,Xa];cases h4:VN (wd w.h.w a)with
 |true=>refine .inr ⟨w,_,rfl,same,A,?_,λ_=>A.fw a g h4,kp,rfl⟩;simp[XsK,tw]
 |false=>
 have hok:=A.old a g hq h4;rw[Wk ab,Wa,Wa,hof,Xa,Xa,Xc aa];rw[show((0:Int) != 0)=false from rfl,Wa,Wh (p:=pgi h0.c a>=_) aa,Wa,Wa];have⟨b,hbp,eb,hb'⟩:=XfL (N:=N) (w:=w) (i:=pgi h0.c a) hN htl aa aa L.sp;simp only[Xc (p:=w.h.p.length<=140737488355328) aa];rw[hb',eb,Xa,Xa];cases b with
 |true=>simp only[Wb,Qek,Xc (p:=w.q.length*8<=140737488355328) aa,Xc (p:=(w.q.length+1)*8<=140737488355328) aa,Xa];exact .inr ⟨_,a,rfl,z.push D (D.old a g).1 hq _,A.push hok _,ta,λh=>h,rfl,rfl⟩
 |false=>
 simp only[Wa,XH (ps:=w.h.p) q0 aa,Xa];by_cases S:(pg w.h.p (pgi h0.c a)).k=2
 .simp only[XQ S,Wb,hlp,Xd (n:=pgi h0.c a+1) aa aa,Xc (p:=w.h.p.length*32<=140737488355328) aa];obtain⟨qs,eqs,hqs⟩:=Xia (N:=N) w a (ps:=w.h.p) aa N (pgi h0.c a+1) _ aa aa aa ((SameK.refl _).set q0 aa (wI (1-w.h.s)) (pg w.h.p (pgi h0.c a)).P);have hrc:=XsL L aa q0 aa S hqs.1 eqs;simp only[eqs,Xa,Qek,Xc (p:=w.q.length*8<=140737488355328) aa,Xc (p:=(w.q.length+1)*8<=140737488355328) aa];have q:=λrp=>(z.pages hqs).push (D.pages z hqs) (D.old a g).1 hq rp;refine .inr ⟨{w with h:={w.h with p:=qs},q:=w.q++[a],r:=⟨w.r.j,wI (w.r.K+1),w.r.F,w.r.E,w.r.f,w.r.y⟩},a,rfl,⟨(q _).ci,(q _).ob,(q w.r).sc,(q w.r).ql⟩,((A.pages hrc).push hok _),ta,λh=>h,rfl,rfl⟩
 have Y:∀x∈l,(pg h0.p (pgi h0.c x)).k=1\/(pg h0.p (pgi h0.c x)).k=2:=λx G=>(R.st.obj.at_ x G).kind;have hpr:∀x∈l,0<=pgi h0.c x:=λx G=>(KP hp.conf (R.st.obj.at_ x G).rng).2.1;have hk1:(pg h0.p (pgi h0.c a)).k=1:=by
  rcases Y a g with h|h
  .omega
  exact absurd (by rw[z.knd a g];omega) S
 have hsz:=hg.sz R.st g hk1;have hso:=(D.old a g).2;have hfit:=D.fit a (D.old a g).1;have I:=YY w.h.w a;have e1:XF (ZX (wd w.h.w a))=szA w.h.w a:=I.1;simp only[Xf S,Wa,XdA (N:=N) aa tw,KY,Xa,hok,YV (N:=N) aa,X5,e1];rw[show((0:Int) != 0)=false from rfl,Wa,Xc aa,o2,Xd (n:=(w.h.w.length:Int)-(a-4096)) aa aa,Wh aa,Wa,Xd (n:=a-4096+szA w.h.w a) aa aa,Xc aa,Wi,Wa,Xc aa];have eL:(((a-4096+szA w.h.w a).toNat-(a-4096).toNat:Nat):Int)=szA w.h.w a:=aa;have⟨y,ey,hy⟩:=XgK hN hb hp z (n:=szA w.h.w a) I.2.1 aa;rcases Xre hN hb hp z (n:=szA w.h.w a) I.2.1 aa with⟨r,Z,er2,eg⟩|⟨j,u,ps,tk,rq,Z,eg⟩
 .simp[Z,Xa,er2,W7,Wb,eL,eg]
 have hft:=XuD (N:=N) (c:=h0.c) (c':=w.h.c) J.symm hp.conf aa (cp:=w.r.j) (X:=a-4096) (n:=szA w.h.w a) (i:=j) (u:=u) (ws:=w.h.w) (q:=w.q) (ps:=ps) (λx34 x35 x36 x37 x38 x39=>some (x34,x35,(WE.mk (Wm.mk w.h.c x37 x38 w.h.s w.h.b) w.o tk x39 w.d (WQ.mk x36 w.r.K w.r.F w.r.E w.r.f w.r.y)))) aa aa I.2.1 aa rq.rng.1 (by have:=rq.rng.2;have:=rq.len;omega) rq.fit.1 rq.fit.2 (by have:=rq.len;omega) hql;rw[FT,eL]at hft;rw[Z,Xa,eL,eg,Xa];rw[show((0:Int) != 0)=false from rfl,Wa,Xv];rw[Z]at ey;obtain rfl:=WG ey;have⟨j',u',pq⟩:=hy rfl;have T:=Xpz L aa (λj hj=>(z.tk j hj).2.2.1) aa pq;have hcp:=λv hv rp=>Xmr (n:=szA w.h.w a) hp Y hpr z D g rfl I.2.1 pq v hv rp;have⟨i1,i2,aw,fr,aw2,U⟩:=Xmq (n:=szA w.h.w a) hp z D g rfl I.2.1 pq (wU (wU (4*Xj h0.c j u)+2));have en:szA w.h.w a=(((szA w.h.w a).toNat:Nat):Int):=aa;have hmv:=Xi4 (N:=N) hwl (Xj h0.c j u) a (szA w.h.w a).toNat aa aa;rw[←en,Wq ⟨i1,i2⟩]at hmv;have ol:=Xcw i1 i2;have hin2:inW (ovr w.h.w ((w.h.w.drop (ix a)).take (szA w.h.w a).toNat) (ix (Xj h0.c j u))) a:=by unfold inW;rw[ol];exact hin
 dsimp only at i1 i2 aw fr aw2 U;have hr1:4096<=Xj h0.c j u/\Xj h0.c j u<10000:=by unfold Yp at i2;omega
 have⟨f1,f2,f3⟩:=Xrh (v:=Xj h0.c j u) aa aa;have hOa:=(D.old a g).1;have off:∀b,O b->¬(Xj h0.c j u<=b/\b<Xj h0.c j u+szA w.h.w a):=λb hb=>by have:=aw2 b hb;have:=(D.fit b hb).2.1;omega
 have V:∀b,O b->b≠a->wd ((ovr w.h.w ((w.h.w.drop (ix a)).take (szA w.h.w a).toNat) (ix (Xj h0.c j u))).set (ix a) (wU (wU (4*Xj h0.c j u)+2))) b=wd w.h.w b:=λb hb H=>by rw[U b (D.fit b hb).1,Wk H,Wk (off b hb)]
 have wda:=U a (D.fit a hOa).1;have hna:Xj h0.c j u≠a:=λe=>fr (by grind);have wdt:=U (Xj h0.c j u) aa;simp only[Wi,Wa];rw[hmv,Xa,XaI,Xa,Wk aa,KF (by grind) aa,Xa,Wq hin2,Xc aa,Xc aa];refine .inr ⟨_,Xj h0.c j u,rfl,(hcp _ (XgL _ aa aa) _).2.2.2.2,⟨λb hb=>?_,λb hb hbq B=>?_,λb hb B=>?_,λx G=>?_,?_,λi hi hki=>?_,λi hi=>?_,λb hb hbp2=>?_,A.bm,A.ol⟩,⟨aa,aa⟩,λ_=>aa,rfl,hft⟩
 .show okH (wd _ b)=true;rcases WH.1 hb with hb|hb
  .rw[V b (D.queue b hb) (λe=>hq (e▸hb))];exact A.q b hb
  grind
 .have B:VN (wd _ b)=false:=B;show okH (wd _ b)=true;by_cases H:b=a
  .grind
  rw[V b (D.old b hb).1 H]at B⊢;exact A.old b hb (λe=>hbq (W6 _ e)) B
 .have B:VN (wd _ b)=true:=B;show YD .u64 (wd _ b) 2≠0;by_cases H:b=a
  .grind
  rw[V b (D.old b hb).1 H]at B⊢;exact A.fw b hb B
 .rcases UC G with G|G
  .unfold ovr at G;rcases WH.1 G with G|G
   .rcases WH.1 G with G|G
    .exact A.ws x (WY G)
    exact A.ws x (WS (WY G))
   exact A.ws x (WS G)
  grind
 .exact A.ss.trans T.ss
 .exact T.kd i hi (A.k1 i hi hki)
 .have:=OA (w':=⟨_,_,_,_,_,_⟩) T rfl rfl rfl hi;show _/\(pg (ps.set _ _) i).u=_;rw[this.2];exact A.pr i this.1
 have hpm:=(OA (w':=⟨_,_,_,_,_,_⟩) T rfl rfl rfl hbp2).1;have H:b≠a:=λe=>by grind
 show wd _ b=_;rw[V b (D.old b hb).1 H];exact A.hw b hb hpm
end
section
variable {N:Nat}{h0:Wm}{l:List Int}
def KeepW.trans{a b c:WE}(e:KeepW a b)(f:KeepW b c):KeepW a c:=by unfold KeepW at *;grind
def QN(l:List Int)(w:WE):Prop:=l=[]->w.q=[]
def XpA(hN:NB N){w f:WE}{a g:Int}(h:w.o=[])(j:w.q=[])(e:Qbb N w a=some (f,g,0)):f.q=[]:=by unfold NB at hN;rw[Qbb,h,j,YQ a ab ah,Xa,Xa]at e;grind
def Xm8(hN:NB N)(p:Start N h0 l){w:WE}{O:Int->Prop}{s:Int->Int}(k:CI h0 l w)(q:Ot h0 l w O s)(u:Ou h0 l w)(v:QN l w){a:Int}(y:tU a):
 (∃r w2,Qbb N w a=some r/\r.2.2≠0/\Qa6 N w a=some (0,r.2.2,w2)) \/
 ∃e f,Qbb N w a=some (e,f,0)/\OF h0 l w e O s/\Ou h0 l e/\tU f/\(a≠0->f≠0)/\KeepW w e/\QN l e/\Qa6 N w a=some (f,0,e):=by
 rcases Xri hN p k q u y with h|⟨e,f,o,z,g,A,B,j,eg⟩
 .simp_all
 exact .inr ⟨e,f,o,z,g,A,B,j,λh=>XpA hN (List.sublist_nil.1 (h▸k.old)) (v h) o,eg⟩
def NZ(rs out:List Int):Prop:=∀(i:Nat) (y:Int),out[i]? = some y->∀(x:Int),rs[i]? = some x->x≠0->y≠0
def NZ.push{rs out:List Int}(h:NZ rs out){y:Int}(j:∀x,rs[out.length]? = some x->x≠0->y≠0):NZ rs (out++[y]):=by
 intro i z e x f;by_cases g:i<out.length
 .rw[U6 g]at e;exact h i z e x f
 grind
def zWk:WE:=WE.mk zHp [] [] [] 0 (WQ.mk 0 0 0 0 0 0)
def XjD(hN:NB N)(R:Start N h0 l){rs:List Int}(U:rs.length<=1000000)(ht:∀x∈rs,tU x):∀(n k:Nat) (w:WE) (out:List Int),k<=rs.length->rs.length-k<n->CI h0 l w->Ou h0 l w->QN l w->out.length=k->NZ rs out ->
 (∃e,e≠0/\QeN N rs n k w.h.c.W w.h.c.p w.h.s w.h.b w.d w.r.j w.r.K w.r.F w.r.E w.r.f w.r.y w.h.w w.h.p w.o w.t w.q out=some (.ret (zWk,[],e)) /\
  Qbn N rs n k w.h.c.W w.h.c.p w.h.w w.h.p w.h.s w.h.b w.o w.t w.q w.d w.r.j w.r.K w.r.F w.r.E w.r.f w.r.y out=some (.ret (zWk,[],e))) \/
 ∃g u,CI h0 l g/\Ou h0 l g/\QN l g/\KeepW w g/\u.length=rs.length/\NZ rs u /\
  QeN N rs n k w.h.c.W w.h.c.p w.h.s w.h.b w.d w.r.j w.r.K w.r.F w.r.E w.r.f w.r.y w.h.w w.h.p w.o w.t w.q out=some (.nxt (g.h.c.W,g.h.c.p,g.h.s,g.h.b,g.d,g.r.j,g.r.K,g.r.F,g.r.E,g.r.f,g.r.y,g.h.w,g.h.p,g.o,g.t,g.q,u)) /\
  Qbn N rs n k w.h.c.W w.h.c.p w.h.w w.h.p w.h.s w.h.b w.o w.t w.q w.d w.r.j w.r.K w.r.F w.r.E w.r.f w.r.y out=some (.nxt (g.h.c.W,g.h.c.p,g.h.w,g.h.p,g.h.s,g.h.b,g.o,g.t,g.q,g.d,g.r.j,g.r.K,g.r.F,g.r.E,g.r.f,g.r.y,u))
 |0,k,w,out,_,V,_,_,_,_,_=>by omega
 |n+1,k,w,out,hk,V,B,S,v,Y,T=>by
  rw[QeN,Qbn];by_cases h:k<rs.length
  .have D:=ht _ (WL h);rw[Xm h,Wb,Wb,Xe,Wc h,Xa,Xa,Xg aa];have⟨O,s,G⟩:=B.obj;have eta:(⟨⟨⟨w.h.c.W,w.h.c.p⟩,w.h.w,w.h.p,w.h.s,w.h.b⟩,w.o,w.t,w.q,w.d,⟨w.r.j,w.r.K,w.r.F,w.r.E,w.r.f,w.r.y⟩⟩:WE)=w:=rfl;rcases Xm8 hN R B G S v D with⟨r,w2,H,I,eg⟩|⟨g,Z,H,hq,J,tt,tz,z,A,eg⟩
   .refine .inl ⟨r.2.2,I,?_,?_⟩
    .rw[eg,Xa,Xl I,Wb];rfl
    rw[H,Xa,Xl I,Wb];rfl
   rw[eg,H,Xa,Xa,show((0:Int) != 0)=false from rfl,Wa,Wa,Xc aa,Xc aa];rcases XjD hN R U ht n (k+1) g (out++[Z]) aa aa hq.ci J A (by simp_all) (T.push λx hx hx0=>tz (by simp_all))with h|⟨L,M,c1,c2,c6,c3,c4,c5,e1,e2⟩
   .simp_all
   exact .inr ⟨L,M,c1,c2,c6,z.trans c3,c4,c5,e1,e2⟩
  obtain rfl:k=rs.length:=aa;rw[XA,Wa,Wa];exact .inr ⟨w,out,B,S,v,rfl,Y,T,rfl,rfl⟩
def Xm9(hN:NB N)(p:Start N h0 l){w:WE}(q:CI h0 l w)(r:Ou h0 l w)(g:QN l w){rs:List Int}(s:rs.length<=1000000)(ht:∀x∈rs,tU x):
 (∃e,e≠0/\Qgx N w rs=some (zWk,[],e)/\Qel N w rs=some (zWk,[],e)) \/
 ∃f out,CI h0 l f/\Ou h0 l f/\QN l f/\KeepW w f/\out.length=rs.length/\NZ rs out/\Qgx N w rs=some (f,out,0)/\Qel N w rs=some (f,out,0):=by
 have h:=hN;unfold NB at h;rw[Qgx,Qel];simp only[Qad,Qab,QaF,Xa];have o:=XjD hN p s ht N 0 w [] aa aa q r g rfl (λi y e=>by grind);rw[show((0:Nat):Int)=0 from rfl]at o;rcases o with⟨e,E,j,k⟩|⟨f,out,u,v,z,A,B,D,j,k⟩
 .simp_all[j,Xa,XE,k]
 exact .inr ⟨f,out,u,v,z,A,B,D,by rw[j,Xa,Xp],by rw[k,Xa,Xp]⟩
end
section
variable {N:Nat}{h0:Wm}{l:List Int}
def XpB{w:WE}{O:Int->Prop}{s:Int->Int}(g:Ot h0 l w O s)(e:Ou h0 l w){p x:Int}(hp:O p)(z:p<x)(A:x<p+s p){v:Int}(B:tU v):
 Ou h0 l {w with h:={w.h with w:=w.h.w.set (ix x) v}}:=by
 have j:=g.fit p hp;have o:inW w.h.w x:=by unfold inW;omega
 have f:∀b,O b->wd (w.h.w.set (ix x) v) b=wd w.h.w b:=λb hb=>by
  have:b≠x:=by
   rintro rfl;by_cases r:b=p
   .omega
   have:=g.apart b p hb hp r;have:=g.fit b hb;omega
  rw[Xh9 o (g.fit b hb).1,Wk this]
 refine⟨λb hb=>?_,λb hb u j=>?_,λb hb j=>?_,λy k=>?_,e.ss,e.k1,e.pr,λb hb j=>?_,e.bm,e.ol⟩
 .rw[f b (g.queue b hb)];exact e.q b hb
 .rw[f b (g.old b hb).1]at j⊢;exact e.old b hb u j
 .rw[f b (g.old b hb).1]at j⊢;exact e.fw b hb j
 .rcases UC k with k|k
  .exact e.ws y k
  simp_all
 rw[f b (g.old b hb).1];exact e.hw b hb j
def Xhp(hN:NB N)(A:Start N h0 l){p z u:Int}{ks:List Int}(J:ks.length<=255)(B:wI (wI (pgi h0.c p*h0.c.W)+u)=p-4096)(L:4096<=p)(M:1<=z)(R:z<=256)(hz:p-4096+z<=h0.w.length):
 ∀(n k:Nat) (w:WE) (O:Int->Prop) (s:Int->Int),k<=ks.length->ks.length-k<n->CI h0 l w->Ot h0 l w O s->Ou h0 l w->QN l w->O p->(∀k∈ks,0<=k/\k<255/\k+1<s p/\k+1<z) ->
 (∃e,e≠0/\(∃t,QfY N h0.c.W z (pgi h0.c p,u,0) ks n k w.h.c.W w.h.c.p w.h.s w.h.b w.d w.r.j w.r.K w.r.F w.r.E w.r.f w.r.y w.h.w w.h.p w.o w.t w.q=some (.ret (e,t))) /\
  QbJ N p ks n k w.h.c.W w.h.c.p w.h.w w.h.p w.h.s w.h.b w.o w.t w.q w.d w.r.j w.r.K w.r.F w.r.E w.r.f w.r.y=some (.ret (zWk,false,e))) \/
 ∃g,CI h0 l g/\Ou h0 l g/\QN l g/\KeepW w g/\w.q.length<=g.q.length /\
  QfY N h0.c.W z (pgi h0.c p,u,0) ks n k w.h.c.W w.h.c.p w.h.s w.h.b w.d w.r.j w.r.K w.r.F w.r.E w.r.f w.r.y w.h.w w.h.p w.o w.t w.q=some (.nxt (g.h.c.W,g.h.c.p,g.h.s,g.h.b,g.d,g.r.j,g.r.K,g.r.F,g.r.E,g.r.f,g.r.y,g.h.w,g.h.p,g.o,g.t,g.q)) /\
  QbJ N p ks n k w.h.c.W w.h.c.p w.h.w w.h.p w.h.s w.h.b w.o w.t w.q w.d w.r.j w.r.K w.r.F w.r.E w.r.f w.r.y=some (.nxt (g.h.c.W,g.h.c.p,g.h.w,g.h.p,g.h.s,g.h.b,g.o,g.t,g.q,g.d,g.r.j,g.r.K,g.r.F,g.r.E,g.r.f,g.r.y))
 |0,k,w,O,s,_,hn,_,_,_,_,_,_=>by omega
 |n+1,k,w,O,s,hi,hn,I,ho,S,D,hp,hk=>by
  have T:=hN;unfold NB at T;have hb1:=A.hb.1;rw[QfY,QbJ];by_cases h:k<ks.length
  .have⟨k0,k1,k2,k3⟩:=hk _ (WL h);have U:=I.wlen;have eta:(⟨⟨⟨w.h.c.W,w.h.c.p⟩,w.h.w,w.h.p,w.h.s,w.h.b⟩,w.o,w.t,w.q,w.d,⟨w.r.j,w.r.K,w.r.F,w.r.E,w.r.f,w.r.y⟩⟩:WE)=w:=rfl;have ex:ix (p+1+ks[k])=(p-4096).toNat+(1+ks[k]).toNat:=by unfold ix;omega
   have gp:∀ws:List Int,ws.length=h0.w.length->KM ws (p-4096).toNat ((p-4096+z).toNat-(p-4096).toNat) (1+ks[k])=some (wd ws (p+1+ks[k])):=by intro ws hw;rw[XcG aa aa aa];unfold wd;rw[ex,Wr,Wc aa];rfl
   rw[eta,Xm h,Wb,Wb,Xe,Wc h,Xa,Xa,Xg aa];rw[B,Xd (n:=p-4096+z) aa aa,Xd (n:=1+ks[k]) aa aa,gp _ U,Xa];rw[Xw (n:=p+1) aa aa,Xw (n:=ks[k]) aa aa,Xw (n:=p+1+ks[k]) aa aa];rw[YK (I.wl A.hb),Xa,Wq (by unfold inW;omega)];rw[show w.h.w.getD (ix (p+1+ks[k])) 0=wd w.h.w (p+1+ks[k])from rfl];rcases Xm8 hN A I ho S D (Xho S.ws (p+1+ks[k]))with⟨r,w2,V,Y,eg⟩|⟨g,Z,V,q,hh',tt,tz,hkw,G,eg⟩
   .refine .inl ⟨r.2.2,Y,?_,?_⟩
    .simp[eg,Xa,Xl,Y,Wb]
    rw[V,Xa,Xl Y,Wb];rfl
   have⟨O',s',H,hx⟩:=q.ob;have⟨v,hs'⟩:=hx p hp;have st:=Xjc q.ci H v (x:=p+1+ks[k]) aa aa Z;have sh:=XpB H hh' v (x:=p+1+ks[k]) aa aa tt;rw[eg,V,Xa,Xa,show((0:Int) != 0)=false from rfl,Wa,Wa];rw[gp _ q.ci.wlen,Xa,KF (q.ci.wl A.hb) aa,Xa,Wq st.1,←ex];rcases Xhp hN A J B L M R hz n (k+1) {g with h:={g.h with w:=g.h.w.set (ix (p+1+ks[k])) Z}} O' s' aa aa st.2.1 st.2.2 sh G v (λk' hk'=>by simp_all)with h|⟨w'',c1,c2,c3,c4,c5,c6,c7⟩
   .grind
   exact .inr ⟨w'',c1,c2,c3,KeepW.trans (b:={g with h:={g.h with w:=g.h.w.set (ix (p+1+ks[k])) Z}}) (by unfold KeepW at hkw⊢;grind) c4,Uq q.ql c5,c6,c7⟩
  obtain rfl:k=ks.length:=aa;rw[XA,Wa,Wa];exact .inr ⟨w,I,S,D,rfl,Uj _,rfl,rfl⟩
theorem XsM(n:Int):wI n=if n % 18446744073709551616>=9223372036854775808 then n % 18446744073709551616-18446744073709551616 else n % 18446744073709551616:=by have e:IntKind.bits .i64=64:=rfl;have f:IntKind.signed .i64=true:=rfl;simp[wI,IntKind.wrap,e,f]
def XsN(a b:Int):wI (wI a+b)=wI (a+b):=by grind[XsM]
def XuE(a b:Int):wI (a+wI b)=wI (a+b):=by rw[Int.add_comm a,XsN,Int.add_comm b]
def Xna(hN:NB N)(L:Start N h0 l):∀(n:Nat) (w:WE),CI h0 l w->Ou h0 l w->QN l w->0<=w.d->w.d<=w.q.length->(100001-w.d).toNat<n ->
 (∃e,e≠0/\QfZ N n w.h.c.W w.h.c.p w.h.s w.h.b w.d w.r.j w.r.K w.r.F w.r.E w.r.f w.r.y w.h.w w.h.p w.o w.t w.q=some (zWk,e) /\
  Qb1 N n w.h.c.W w.h.c.p w.h.w w.h.p w.h.s w.h.b w.o w.t w.q w.d w.r.j w.r.K w.r.F w.r.E w.r.f w.r.y=some (zWk,e)) \/
 ∃g,CI h0 l g/\Ou h0 l g/\QN l g /\
  QfZ N n w.h.c.W w.h.c.p w.h.s w.h.b w.d w.r.j w.r.K w.r.F w.r.E w.r.f w.r.y w.h.w w.h.p w.o w.t w.q=some (g,0) /\
  Qb1 N n w.h.c.W w.h.c.p w.h.w w.h.p w.h.s w.h.b w.o w.t w.q w.d w.r.j w.r.K w.r.F w.r.E w.r.f w.r.y=some (g,0)
 |0,w,_,_,_,_,_,hn=>by omega
 |n+1,w,D,M,G,g0,g1,hn=>by
  have R:=hN;unfold NB at R;have hb:=L.hb;have hql:=D.ql hb;have S:=D.wl hb;have hww:=D.wlen;have hb1:=hb.1;have eta:(⟨⟨⟨w.h.c.W,w.h.c.p⟩,w.h.w,w.h.p,w.h.s,w.h.b⟩,w.o,w.t,w.q,w.d,⟨w.r.j,w.r.K,w.r.F,w.r.E,w.r.f,w.r.y⟩⟩:WE)=w:=rfl;have etc:(⟨w.h.c.W,w.h.c.p⟩:WW)=h0.c:=D.conf;rw[QfZ,Qb1,eta,Qgr,Xv,etc,Wh (p:=w.d<0) aa,Wa,Xc aa];by_cases T:w.d<w.q.length;rotate_left
  .rw[Wd (p:=w.d>=_) aa,Wb,Wb,Xa];exact .inr ⟨w,D,M,G,rfl,rfl⟩
  rw[Wh (p:=w.d>=_) aa,Wa,Wa,X1 g0 T,Xa,Xa];have B:w.q[w.d.toNat]'aa∈w.q:=WL _;generalize w.q[w.d.toNat]'aa=p at B⊢;have U:l≠[]:=λe=>by rw[G e]at B;grind
  have hp:=L.prop U;have hwd0:=hp.words;have⟨O,s,V⟩:=D.obj;have I:=V.queue p B;have hf:=V.fit p I;have Y:=M.q p B;have J:4096<=p/\p<4096+h0.c.p*h0.c.W:=aa;have⟨o1,Z⟩:=XeU (N:=N) hp.conf J;have tw:=Xho M.ws p;have H:=YY w.h.w p;have e1:XF (ZX (wd w.h.w p))=szA w.h.w p:=H.1;have gp:∀n:Nat,1<=n->KM w.h.w (p-4096).toNat n 0=some (wd w.h.w p):=by intro n hn;rw[XcG aa aa aa];unfold wd ix;rw[Wr,Wc aa];simp
  rw[Qe4,YK S,Xa,Wq (by unfold inW;omega),KY,Xa,Xa,XgB aa,Xa];rw[show w.h.w.getD (ix p) 0=wd w.h.w p from rfl];rw[o1,Xa];have ecp:w.h.c.W=h0.c.W:=by rw[D.conf]
  rw[ecp,show((0:Int) != 0)=false from rfl,Wa,Xc aa,Z,Xd (n:=(w.h.w.length:Int)-(p-4096)) aa aa,Wh aa,Wa,Xd (n:=p-4096+1) aa aa,Xc aa,
   gp _ aa,Xa,XdA aa tw,Xa]
  rw[Y,YV aa,Xa,e1,Xa];dsimp only;rw[show((0:Int) != 0)=false from rfl,Wa,Z,Xd (n:=(w.h.w.length:Int)-(p-4096)) aa aa,Wh aa,Wa,Xd (n:=p-4096+szA w.h.w p) aa aa,Xc aa,Xc aa,Wi,Wa,XeI aa _ (ZY _),Xa];have hkl:=Xey (hdA w.h.w p);have hg:=Xhp hN L (p:=p) (z:=szA w.h.w p) (u:=pgo h0.c p) (ks:=ZA (hdA w.h.w p)) hkl Z hf.1 H.2.1 H.2.2 aa N 0 w O s aa aa D V M G I λk hk=>by have h1:=Xex hk;have h2:szA w.h.w p=(hdA w.h.w p).n+1:=rfl;omega
  rw[show((0:Nat):Int)=0 from rfl,ecp]at hg;rcases hg with⟨e,e0,⟨t,e2⟩,e3⟩|⟨g,v,A,c3,c4,c5,e2,e3⟩
  .refine .inl ⟨e,e0,?_,?_⟩
   .rw[show ZX (wd w.h.w p)=hdA w.h.w p from rfl,e2,Xa,XE,Xl e0,Wb];rfl
   rw[show ZX (wd w.h.w p)=hdA w.h.w p from rfl,e3,Xa,XE,Xa,Xl e0,Wb];rfl
  rw[show ZX (wd w.h.w p)=hdA w.h.w p from rfl,e2,e3,Xa,Xa,Xp,Xp,Xa];have esc:g.d=w.d:=by unfold KeepW at c4;rw[c4]
  have ee:wI (g.d+1)=w.d+1:=by rw[esc,Xd aa aa]
  have est:wI (g.r.y+wI (1+(((ZA (hdA w.h.w p)).length:Nat):Int)))=wI (wI (g.r.y+1)+(((ZA (hdA w.h.w p)).length:Nat):Int)):=by rw[XuE,XsN,Int.add_assoc]
  rw[est];have c1':CI h0 l {g with d:=wI (g.d+1),r:={g.r with y:=wI (wI (g.r.y+1)+(((ZA (hdA w.h.w p)).length:Nat):Int))}}:=by refine⟨v.conf,v.wlen,v.plen,v.spc,v.old,v.tk,v.tnd,v.knd,v.qnd,?_⟩;obtain⟨O,s,h⟩:=v.obj;exact⟨O,s,⟨h.old,h.queue,h.fit,h.apart,h.taken,h.free⟩⟩
  exact Xna hN L n _ c1' ⟨A.q,A.old,A.fw,A.ws,A.ss,A.k1,A.pr,A.hw,A.bm,A.ol⟩ c3 (by grind) (by grind) (by grind)
def Xrj(hN:NB N)(o:Start N h0 l){w:WE}(p:CI h0 l w)(r:Ou h0 l w)(g:QN l w)(s:0<=w.d)(g1:w.d<=w.q.length):
 (∃e,e≠0/\Qg6 N w=some (zWk,e)/\QfH N w=some (zWk,e)) \/
 ∃f,CI h0 l f/\Ou h0 l f/\QN l f/\Qg6 N w=some (f,0)/\QfH N w=some (f,0):=by
 have h:=hN;unfold NB at h;rw[Qg6,QfH];simp only[Qad,Qab,QaF,Xa];rcases Xna hN o N w p r g s g1 aa with⟨e,z,j,k⟩|⟨f,u,v,y,j,k⟩
 .simp_all[j,Xa,k]
 exact .inr ⟨f,u,v,y,by rw[j,Xa],by rw[k,Xa]⟩
end
section
variable {N:Nat}{h0:Wm}{l:List Int}
def lpg(N:Nat)(h:Wm)(i:Nat):List Int:=match Qan N h (i:Int)with|some r=>r.1|none=>[]
def lps(N:Nat)(h:Wm)(k:Nat):Nat->List Int
 |0=>[]
 |m+1=>lpg N h k++lps N h (k+1) m
def XeV(hb:HB h0)(hp:∀i:Nat,i<h0.p.length->∃l,Qan N h0 (i:Int)=some (l,0)/\l.length<=64):∀(n k:Nat) (v:List Int),k<=h0.p.length->h0.p.length-k<n->v.length<=64*k->QaY N h0 n (k:Int) v=some (.nxt (v++lps N h0 k (h0.p.length-k)))
 |0,k,v,_,f,_=>by omega
 |n+1,k,v,j,f,o=>by
  have g:=hb.2;rw[QaY];by_cases h:k<h0.p.length
  .have⟨l,e,q⟩:=hp k h;rw[Xm h,Wb,e,Xa,show(((0:Int)) != 0)=false from rfl,Wa,Xc (by grind),Xg aa,XeV hb hp n (k+1) _ aa aa (by grind),UI,show h0.p.length-k=(h0.p.length-(k+1))+1 by omega,lps,lpg,e]
  obtain rfl:k=h0.p.length:=aa;simp[XA,Wa,IU,lps,If]
structure OQ(N:Nat)(h:Wm)(L:List Int):Prop where
 ep:Qac N h=some true
 eg:Qbt N h=some true
 st:Start N h L
 eL:L=lps N h 0 h.p.length
 pg:∀i:Nat,i<h.p.length->Qan N h (i:Int)=some (lpg N h i,0)/\PageL N h (i:Int) (lpg N h i)
 ob:QaK N h=some (Kq h L,0)
def Xrk(hN:NB N)(ht:HT h0)(eg:Qbt N h0=some true):∃L,OQ N h0 L:=by
 have o:=hN;unfold NB at o;have hb:=ht.hb;have⟨b,eb,q⟩:=KA hN hb;rw[eg]at eb;obtain rfl:=WG eb;have s:=q rfl;have hp:=s.prop;have ep:Qac N h0=some true:=by
  obtain⟨b,eb⟩:=Zu (N:=N) hN hb;cases b with
  |true=>exact eb
  |false=>rw[Qbt,Qhv,eb,Xa,W7,Wb,Xa]at eg;cases eg
 have f:∀i:Nat,i<h0.p.length->Qan N h0 (i:Int)=some (lpg N h0 i,0)/\PageL N h0 (i:Int) (lpg N h0 i)/\(lpg N h0 i).length<=64:=λi j=>by
  obtain⟨r,k,u,v⟩:=Qin hN hb hp (i:Int) aa aa;have y:=(s.small i aa aa r k).2;have e:lpg N h0 i=r.1:=by unfold lpg;rw[k]
  rw[e];refine⟨?_,u,v⟩;rw[k];congr 1;exact Prod.ext rfl y
 have z:=XeV hb (λi j=>⟨_,(f i j).1,(f i j).2.2⟩) N 0 [] aa (by have:=hb.2;omega) ab;have est:Qc3 N h0=some (lps N h0 0 h0.p.length,0):=by rw[Qc3,ep,Xa,Wi,Wa,show(0:Int)=((0:Nat):Int)from rfl,z,Xa,Xp,Uk,Nat.sub_zero]
 have⟨r,k,g,_,_⟩:=V9 hN hb;rw[est]at k;obtain rfl:=WG k;refine⟨_,ep,eg,⟨hb,λ_=>s,λ_=>hp,g⟩,rfl,λi j=>⟨(f i j).1,(f i j).2.1⟩,?_⟩;have w:(lps N h0 0 h0.p.length).length<=4096:=g.len;have:=Xbs (N:=N) (h:=h0) (lps N h0 0 h0.p.length,0) (by show(lps N h0 0 h0.p.length).length<=_;omega) g.obj.ev N 0 [] aa (by show(lps N h0 0 h0.p.length).length-0<_;omega) ab;rw[show((0:Nat):Int)=0 from rfl,W0,Uk]at this;simp[QaK,est,Xa,this]
def Xiz(e:List Int×Int)(o:List Int)(f:List Wv)(z:h0.p.length<=100000)(q:f.length=h0.p.length):∀(n k:Nat) (v:List Wv),k<=h0.p.length->h0.p.length-k<n->v.length=h0.p.length->(∀j:Nat,k<=j->pg v j=pg h0.p j) ->
 ∃r,QcB N h0 e n (k:Int) v=some r/\Qck N h0 e o f n (k:Int) v=some r/\r.length=h0.p.length/\∀j:Nat,pg r j=if j<k\/¬((pg h0.p j).k=1/\(pg h0.p j).P>0)then pg v j else⟨1,wI (1-h0.s),(pg h0.p j).u,(pg h0.p j).P⟩
 |0,k,v,_,B,_,_=>by omega
 |n+1,k,v,K,B,g,w=>by
  rw[QcB,Qck,Xc aa,g,q];by_cases h:k<h0.p.length
  .rw[Xm h,Wb,Wb,XH (ps:=v) (i:=(k:Int)) aa aa,Xa,Xa,Xg aa];simp only[Xa,w k (Uj k)];by_cases L:(pg h0.p k).k=1/\(pg h0.p k).P>0
   .have D:=λx:Nat=>ZZ (ps:=v) (i:=(k:Int)) (j:=(x:Int)) ⟨(pg h0.p k).k,wI (1-h0.s),(pg h0.p k).u,(pg h0.p k).P⟩ aa aa aa;obtain⟨r,E,G,H,I⟩:=Xiz e o f z q n (k+1) (v.set (k:Int).toNat ⟨(pg h0.p k).k,wI (1-h0.s),(pg h0.p k).u,(pg h0.p k).P⟩) aa aa (by rw[WO];exact g) λj y=>by rw[D j,Wk aa];exact w j aa
    grind
   have⟨r,E,G,H,I⟩:=Xiz e o f z q n (k+1) v aa aa g λj y=>w j aa;grind
  obtain rfl:k=h0.p.length:=aa;rw[XA,Wa,Wa];refine⟨v,rfl,rfl,g,λj=>?_⟩;by_cases J:j<h0.p.length\/¬((pg h0.p j).k=1/\(pg h0.p j).P>0)
  .simp_all
  exfalso;apply J;right;intro A;have:pg h0.p j=Jr:=by unfold pg;rw[Wr,W3 aa];rfl
  rw[this]at A;exact absurd A.1 ae
def Xnb(hN:NB N)(ht:HT h0){L:List Int}(f:OQ N h0 L):∃w,Qfh N h0=some (w,0)/\QdI N h0=some (w,0)/\CI h0 L w/\Ou h0 L w/\QN L w/\w.d=0:=by
 have o:=hN;unfold NB at o;have hb:=ht.hb;have q:=hb.2;have ep:=f.ep;have hp:=Yl hN hb ep;have v:=f.st.st;have E:=hp.space;have hw:wI (1-h0.s)=1-h0.s:=Xd aa aa;have e:=Xm7 hN hb ep;have⟨r,z,A,B,R⟩:=Xiz (N:=N) (h0:=h0) (Kq h0 L,0) h0.w h0.p aa rfl N 0 h0.p aa aa rfl λ_ _=>rfl;rw[show((0:Nat):Int)=0 from rfl]at z A;have G:∀j,0<=j->((pg h0.p j).k=1/\(pg r j)=⟨1,1-h0.s,(pg h0.p j).u,(pg h0.p j).P⟩)\/pg r j=pg h0.p j:=λj H=>by
  obtain⟨m,rfl⟩:∃m:Nat,j=m:=⟨j.toNat,aa⟩
  grind
 have D:SameK h0.p r:=⟨B,λj H=>by grind⟩
 have ci:=Xdd hb hp v (w:=⟨⟨h0.c,h0.w,r,h0.s,h0.b⟩,Kq h0 L,[],[],0,⟨0,0,0,0,0,0⟩⟩) rfl rfl rfl D List.filter_sublist rfl rfl;refine⟨⟨⟨h0.c,h0.w,r,h0.s,h0.b⟩,Kq h0 L,[],[],0,⟨0,0,0,0,0,0⟩⟩,?_,?_,ci,⟨λa g=>(by grind),λa g _ _=>(v.obj.at_ a g).ok,λa g S=>?_,ht.tw,?_,λi y I=>by grind,λi y=>?_,λ_ _ _=>rfl,rfl,rfl⟩,λ_=>rfl,rfl⟩
 .rw[Qfh,Yd q aa,ep,Xa,Wi,Wa,Xbt hN ht,f.eg,Xa,Wi,Wa,KI hN ht,f.ob,Xa];simp only[Qad,Qab,Xa];rw[show((0:Int) != 0)=false from rfl,Wa,Xc aa,A,Xa]
 .rw[QdI,ep,Xa,Wi,Wa,f.eg,Xa,Wi,Wa,f.ob,Xa,Xc aa,z,Xa]
 .have:=Xpy (Xho ht.tw a) (v.obj.at_ a g).ok;simp_all
 .refine XdP e B (λi h J=>?_) λi m h K M O T=>?_
  .have hb:=e.hd i h J;rcases G i h with⟨a,b⟩|b
   .have:=(hb aa).k1 a;have:=(hb aa).pn;rw[b];exact .inl ⟨aa,rfl,⟨by show 0<=1-h0.s;omega,by show 1-h0.s<=1;omega⟩,ag,by dsimp only;omega,by dsimp only;omega⟩
   simp_all
  have tl:=((e.hd i h aa aa).k2 K).2.2 m M O;grind
 have:=D.2 i y.1.1;rw[show(pg r i).k=1 from y.2.1]at this;simp_all
end
section
variable {N:Nat}{h0:Wm}{l:List Int}
def Xrl(hN:NB N){h:Wm}(hb:HB h)(ep:Qac N h=some true){a:Int}(f:IW h a):Qam N h a=some (hdA h.w a,0):=by
 have hp:=Yl hN hb ep;have j:=f.rng;have⟨_,o,s,v,y⟩:=KP hp.conf j;have q:=hp.pages;have hw:=hp.words;have e:=f.kind;have z:=f.used;have g:=YY h.w a;have A:=Xo.1 hp.conf;have r:XF (ZX (wd h.w a))=szA h.w a:=g.1;rw[Qam,ep,Xa,Wi,Wa,J4,hp.conf,Wk ab,Wq j,Xa];rw[show(a-4096) / h.c.W=pgi h.c a from rfl,show(a-4096) % h.c.W=pgo h.c a from rfl];rw[XH o aa,Xa,YK (by have:=hb.1;unfold BIG;omega),Xa,Wq (by unfold inW;omega),KY,Xa,Xv,X5,Xa];rw[show h.w.getD (ix a) 0=wd h.w a from rfl,f.ok,r,Wh (show¬pgo h.c a>=(pg h.p (pgi h.c a)).u by omega),Wi];rcases e with e|e
 .have:=f.small e;rw[show((pg h.p (pgi h.c a)).k != 1)=false by grind,Wa,XQ e,Wb,Xd (n:=pgo h.c a+szA h.w a) aa aa,Wh aa,Wa,show((pg h.p (pgi h.c a)).k==2)=false by grind,Wa];rfl
 have:=f.large e;rw[show((pg h.p (pgi h.c a)).k != 1)=true by grind,Wb,show((pg h.p (pgi h.c a)).k != 2)=false by grind,Wa,Xf aa,Wa,XQ e,Wb,this.1,this.2];simp;rfl
def IW.same{h h2:Wm}(j:h2.c=h.c){a:Int}(e:IW h a)(f:(pg h2.p (pgi h.c a)).k=(pg h.p (pgi h.c a)).k)(g:(pg h2.p (pgi h.c a)).u=(pg h.p (pgi h.c a)).u)(hw:wd h2.w a=wd h.w a):IW h2 a:=by
 have o:szA h2.w a=szA h.w a:=by unfold szA hdA;rw[hw]
 refine⟨by rw[j];exact e.rng,?_,by rw[hw];exact e.ok,?_,λh=>?_,λh=>?_⟩<;>rw[j]at *
 .rw[f];exact e.kind
 .rw[g];exact e.used
 .rw[f]at h;rw[g,o];exact e.small h
 rw[f]at h;rw[g,o];exact e.large h
def Qrj{h j:Wm}(B:j.c=h.c){i:Int}{p s:Wv}(D:s.u=p.u)(E:s.k=p.k):∀(n:Nat) (o:Int) (v r:List Int),QaA N h i p n o v=some (.nxt r)->(∃t,r=v++t)/\((∀b∈r,Qam N j b=Qam N h b)->QaA N j i s n o v=some (.nxt r))
 |0,o,v,r,e=>by simp_all[QaA]
 |n+1,o,v,r,e=>by
  rw[QaA]at e;rw[QaA,D,E,B];cases H:decide (o<p.u)with
  |false=>simp_all
  |true=>
   rw[H,Wb]at e;rw[Wb];cases f:QbF N h.c i o with
   |none=>simp_all[f,ZV]
   |some y=>
    rw[f,Xa]at e;rw[Xa];cases g:Qam N h y.1 with
    |none=>simp_all[g,ZV]
    |some z=>
     rw[g,Xa]at e;cases w:z.2 != 0 with
     |true=>simp_all
     |false=>
      rw[w,Wa]at e;by_cases A:(v.length+1)*8<=140737488355328;rotate_left
      .unfold grd at e;simp_all
      rw[Xc A]at e;have key:∀t,r=v++[y.1]++t->y.1∈r:=λt ht=>by simp_all
      cases G:p.k==2 with
      |true=>rw[G,Wb]at e;cases e;refine⟨⟨[y.1],rfl⟩,λhb=>?_⟩;rw[hb y.1 ab,g,Xa,w,Wa,Xc A,Wb]
      |false=>rw[G,Wa,X5,Xa]at e;have⟨⟨t,ht⟩,q⟩:=Qrj B D E n _ _ r e;refine⟨⟨[y.1]++t,by rw[ht,UI]⟩,λhb=>?_⟩;rw[hb y.1 (key t ht),g,Xa,w,Wa,Xc A,Wa,X5,Xa];simp_all
def Qpz{h:Wm}{i:Int}{p:Wv}{a:List Int×Int}:∀(n:Nat) (o:Int) (v:List Int),QaA N h i p n o v=some (.ret a)->a.2=19
 |0,o,v,e=>by simp_all[QaA]
 |n+1,o,v,e=>by
  rw[QaA]at e;cases j:decide (o<p.u)with
  |false=>simp_all
  |true=>
   rw[j,Wb]at e;cases f:QbF N h.c i o with
   |none=>simp_all[f,ZV]
   |some y=>
    rw[f,Xa]at e;cases g:Qam N h y.1 with
    |none=>simp_all[g,ZV]
    |some z=>
     rw[g,Xa]at e;cases q:z.2 != 0 with
     |true=>grind
     |false=>
      rw[q,Wa]at e;by_cases r:(v.length+1)*8<=140737488355328;rotate_left
      .unfold grd at e;simp_all
      rw[Xc r]at e;cases s:p.k==2 with
      |true=>simp_all
      |false=>rw[s,Wa,X5,Xa]at e;exact Qpz n _ _ e
def Qrs{h h2:Wm}(s:h2.c=h.c)(A:h2.p.length=h.p.length)(ep:Qac N h=some true)(g:Qac N h2=some true){i:Int}(o:0<=i)(w:i<h.p.length)(q:(pg h2.p i).k=(pg h.p i).k)(y:(pg h2.p i).u=(pg h.p i).u){r:List Int}(e:Qan N h i=some (r,0))(hb:∀b∈r,Qam N h2 b=Qam N h b):Qan N h2 i=some (r,0):=by
 rw[Qan,ep,Xa,Wi,Wa,Wh aa,Wa,Wh aa,Wa,XH o w,Xa]at e;rw[Qan,g,Xa,Wi,Wa,Wh aa,Wa,Wh aa,Wa,XH o aa,Xa,q];cases z:(pg h.p i).k==0 with
 |true=>simp_all
 |false=>
  cases j:(pg h.p i).k==3 with
  |true=>simp_all
  |false=>
   rw[z,Wa,j,Wa]at e;rw[Wa,Wa];cases f:QaA N h i (pg h.p i) N 0 []with
   |none=>simp_all[f,ZV]
   |some x=>
    rw[f,Xa]at e;cases x with
    |ret a=>rw[XE]at e;cases e;exact absurd (Qpz _ _ _ f) ab
    |nxt v=>rw[Xp]at e;cases e;rw[(Qrj s y q N 0 [] r f).2 hb,Xa,Xp]
def Xrm{L:List Int}(f:Io N h0 L){a b:Int}(g:a∈L)(hb:b∈L)(h:a≠b):a+szA h0.w a<=b\/b+szA h0.w b<=a:=by have e:=f.obj.pw;rw[UL]at e;have⟨i,k,o⟩:=WM g;have⟨j,p,q⟩:=WM hb;grind
instance(w:WE)(i:Int):Decidable (Prm w i):=by unfold Prm;infer_instance
def Xbx(h0:Wm)(a:Int):Int:=(hdA h0.w a).n
def fwr(h0:Wm)(v:List Int)(a:Int):List Int:=ovr v ([Vx ⟨0,Xbx h0 a,0⟩]++List.replicate (Xbx h0 a).toNat (0:Int)) (ix a)
def Kr(h0:Wm)(w:WE)(x:List Int×Int)(a:Int):List Int×Int:=if Prm w (pgi h0.c a)/\a∉w.q then(fwr h0 x.1 a,wI (x.2+1))else x
structure VI(h0:Wm)(v:List Int):Prop where
 len:v.length=h0.w.length
 tu:∀x∈v,tU x
def vf{d:Int}(h:0<=d/\d<=255):XL ⟨0,d,0⟩=true:=by unfold XL;simp_all
def XiA(h0:Wm)(a:Int):0<=Xbx h0 a/\Xbx h0 a<=255/\szA h0.w a=Xbx h0 a+1:=by have:=XO (ZY (wd h0.w a));exact⟨this.2.2.1,this.2.2.2,rfl⟩
def XiB(h0:Wm)(a x:Int):([x]++List.replicate (Xbx h0 a).toNat (0:Int)).length=(Xbx h0 a).toNat+1:=by simp
def XpC(d:WC):tU (Vx d):=by unfold Vx;simp
def Xrn{v:List Int}(f:VI h0 v){a:Int}(o:4096<=a)(p:a+szA h0.w a<=4096+h0.w.length):VI h0 (fwr h0 v a)/\∀b,4096<=b->(b+1<=a\/a+szA h0.w a<=b)->wd (fwr h0 v a) b=wd v b:=by
 have q:=XiA h0 a;have h:=XiB h0 a (Vx ⟨0,Xbx h0 a,0⟩);have g:=f.len;have j:ix a+([Vx ⟨0,Xbx h0 a,0⟩]++List.replicate (Xbx h0 a).toNat (0:Int)).length<=v.length:=by rw[h];unfold ix;omega
 refine⟨⟨(ZW j).trans g,λx e=>?_⟩,λb hb k=>?_⟩
 .rcases WH.1 e with e|e
  .rcases WH.1 e with e|e
   .exact f.tu x (WY e)
   rcases WH.1 e with e|e
   .rw[US.1 e];exact XpC _
   simp_all
  exact f.tu x (WS e)
 unfold wd fwr;rw[Xc7 j,h,Wk (by unfold ix;omega)]
def Xnc(hN:NB N){h:Wm}(hb:HB h)(ep:Qac N h=some true){d a:Int}(hd:0<=d/\d<=255)(f:4096<=a)(g:a+(d+1)<=4096+h.w.length):Qbw N h a ⟨0,d,0⟩=some (⟨h.c,ovr h.w ([Vx ⟨0,d,0⟩]++List.replicate d.toNat (0:Int)) (ix a),h.p,h.s,h.b⟩,0):=by have e:=hb.1;rw[Qbw,KX,Wq (vf hd),ep,Xa,Xa,Wi,Wa];dsimp only;rw[show((0:Int) != 0)=false from rfl,Wa,Xc aa,Xc aa,ZQ (by unfold BIG;omega) (by unfold BIG;simp;omega) (by simp;unfold NB at hN;omega),Wq (by unfold Yp;simp;omega),Xa];rfl
def XaT{w:WE}{L:List Int}(hp:Uv h0)(f:Io N h0 L){x:List Int×Int}(k:VI h0 x.1){a:Int}(j:a∈L):VI h0 (Kr h0 w x a).1/\∀b∈L,b≠a->wd (Kr h0 w x a).1 b=wd x.1 b:=by
 have e:=f.obj.at_ a j;have o:=K2 hp e;unfold Kr;split
 .have⟨p,q⟩:=Xrn k e.rng.1 o;refine⟨p,λb hb g=>q b (f.obj.at_ b hb).rng.1 ?_⟩;have:=(YY h0.w b).2.1;rcases Xrm f hb j g with h|h<;>omega
 simp_all
def Xak{w:WE}{L:List Int}(hp:Uv h0)(g:Io N h0 L)(q:Int->Bool):∀(m:List Int) (x:List Int×Int),(∀a∈m,a∈L)->VI h0 x.1->VI h0 (m.foldl (λx a=>if q a then Kr h0 w x a else x) x).1/\∀b∈L,b∉m->wd (m.foldl (λx a=>if q a then Kr h0 w x a else x) x).1 b=wd x.1 b
 |[],x,_,f=>⟨f,λ_ _ _=>rfl⟩
 |a::m,x,j,f=>by
  rw[Iy];have p:=XaT (w:=w) hp g f (j a ab);cases r:q a with
  |false=>obtain⟨k,o⟩:=Xak hp g q m x (λb hb=>j b (by grind)) f;exact⟨k,λb hb e=>o b hb λh=>e (by grind)⟩
  |true=>obtain⟨k,o⟩:=Xak hp g q m (Kr h0 w x a) (λb hb=>j b (by grind)) p.1;exact⟨k,λb hb e=>(o b hb λh=>e (by grind)).trans (p.2 b hb λh=>e (by grind))⟩
end
section
variable {N:Nat}{h0:Wm}{L:List Int}
def XfM(hN:NB N)(hb:HB h0)(hp:Uv h0)(B:Io N h0 L){w:WE}(g:CI h0 L w)(V:Ou h0 L w)(u:OL h0.c w.h.p):∀(n k:Nat) (x:List Int×Int),k<=w.o.length->w.o.length-k<n->VI h0 x.1->(∀a∈w.o.drop k,Prm w (pgi h0.c a)->wd x.1 a=wd h0.w a) ->
 Qa2 N w n (k:Int) x.1 x.2=some ((w.o.drop k).foldl (Kr h0 w) x)
 |0,k,x,_,hn,_,_=>by omega
 |n+1,k,x,hk,hn,I,hw=>by
  have J:=hN;unfold NB at J;have hb1:=hb.1;have hql:=g.ql hb;have M:=g.tl hb;have hol:=g.old.length_le;have hsl:=B.len;have W:=g.spc;have hsp:=hp.space;rw[Qa2];by_cases h:k<w.o.length;rotate_left
  .grind
  have O:=Wu h;have A:w.o[k]∈L:=g.old.subset (WL h);have z:=(B.obj.pw.sublist g.old).drop (i:=k);rw[O]at hw z⊢;rw[IS]at z;rw[Xm h,Wb,Xe,Wc h,Xa,Xg aa,Iy];generalize w.o[k]=a at A hw z⊢;have D:=B.obj.at_ a A;have hr:=D.rng;have Y:=K2 hp D;have R:Qdl N w.h.c a=some (pgi h0.c a,pgo h0.c a,0):=by rw[J4,g.conf,hp.conf,Wk ab,Wq hr];rfl
  have G:∀b∈w.o.drop (k+1),b∈L/\b≠a:=λb hb=>⟨g.old.subset (WS hb),λe=>by have:=z.1 b hb;have:=(YY h0.w a).2.1;omega⟩
  have hpl:=g.plen;have hb2:=hb.2;have⟨b,v,eb,_⟩:=XfL (N:=N) (w:=⟨⟨w.h.c,x.1,w.h.p,w.h.s,w.h.b⟩,w.o,w.t,w.q,w.d,⟨w.r.j,w.r.K,x.2,w.r.E,w.r.f,w.r.y⟩⟩) (i:=pgi h0.c a) hN M (by simp_all) (by simp_all) u.sp;have v:b=true↔Prm w (pgi h0.c a):=v;rw[R,Xa];rw[eb,Xa];have nxt:¬(Prm w (pgi h0.c a)/\a∉w.q)->Qa2 N w n ((k+1:Nat):Int) x.1 x.2=some ((w.o.drop (k+1)).foldl (Kr h0 w) (Kr h0 w x a)):=λS=>by rw[show Kr h0 w x a=x from Wk S];exact XfM hN hb hp B g V u n (k+1) x aa aa I λb hb=>hw b (by grind)
  cases T:b with
  |false=>simp_all
  |true=>
   rw[Wi,Wa,Xa,YQ a aa aa,Xa];cases U:w.q.contains a with
   |true=>simp_all
   |false=>
    have S:=Kf U;have H:=v.1 T;have ewd:=hw a ab H;have hf:=XiA h0 a;have hvl:=I.len;have eL:(ZX (wd x.1 a)).n=Xbx h0 a:=by rw[ewd];rfl
    rw[Wa,Xa,Qe4,YK (by show x.1.length<=_;unfold BIG;omega),Xa,Wq (by show inW x.1 a;unfold inW;omega),KY,Xa,Xa];rw[show x.1.getD (ix a) 0=wd x.1 a from rfl,eL,KX,Wq (vf aa),Xa,Xa,Xc aa,Xc aa,ZQ (by unfold BIG;omega) (by rw[XiB];unfold BIG;omega) (by grind),XiB,Wq (by unfold Yp;omega),Xa];have⟨Z,q2⟩:=XaT (w:=w) hp B I A;have ef:Kr h0 w x a=(fwr h0 x.1 a,wI (x.2+1)):=Wq ⟨H,S⟩;rw[ef]at Z q2⊢;exact XfM hN hb hp B g V u n (k+1) _ aa aa Z λb hb v=>(q2 b (G b hb).1 (G b hb).2).trans (hw b (by grind) v)
def hpv(w:WE)(v:List Int):Wm:=⟨w.h.c,v,w.h.p,w.h.s,w.h.b⟩
def XiC(hN:NB N)(hb:HB h0)(ep:Qac N h0=some true){w:WE}(e:CI h0 L w)(f:Ou h0 L w){v:List Int}(g:VI h0 v):Qac N (hpv w v)=some true/\HT (hpv w v):=by
 have hp:=Yl hN hb ep;have j:=e.plen;refine⟨?_,⟨?_,g.tu⟩⟩
 .have:=f.ss.proper hN hb ep (ws:=v) g.len (b:=w.h.b) (by
   rw[f.bm]
   rcases hp.bump with h|⟨a,b,c⟩
   .exact .inl h
   .exact .inr ⟨a,aa,f.k1 _ a c⟩)
  unfold hpv
  simp_all[e.conf,e.spc]
 have:=hb.1;have:=hb.2;have:=g.len;exact⟨by show v.length<=_;omega,by show w.h.p.length<=_;omega⟩
def Xnd(hN:NB N)(hb:HB h0)(ep:Qac N h0=some true)(o:Io N h0 L){w:WE}(h:CI h0 L w)(j:Ou h0 L w){v:List Int}(p:VI h0 v){a:Int}(q:a∈L)(e:Prm w (pgi h0.c a))(hw:wd v a=wd h0.w a):Qew N (hpv w v) a=some (hdA h0.w a,0):=by have⟨r,k⟩:=XiC hN hb ep h j p;have f:=o.obj.at_ a q;have g:=j.pr _ e;have y:=f.rng;have hp:=Yl hN hb ep;have h2:IW (hpv w v) a:=f.same (h2:=hpv w v) h.conf (by rw[g.1];exact e.2.1) g.2 hw;have s:=hp.words;have u:=hb.1;rw[XaN hN k (by unfold tU;omega),Xrl hN k.hb r h2];unfold hdA;rw[show(hpv w v).w=v from rfl,hw]
def XdQ(hN:NB N)(hb:HB h0)(ep:Qac N h0=some true)(j:Io N h0 L){w:WE}(v:CI h0 L w)(E:Ou h0 L w){i:Int}(y:Prm w i){m:List Int}(u:m.Sublist L)(o:∀a∈m,pgi h0.c a=i):∀(n k:Nat) (x:List Int×Int),k<=m.length->m.length-k<n->VI h0 x.1->(∀a∈m.drop k,wd x.1 a=wd h0.w a) ->
 QcY N w (m,0) i n (k:Int) w.h.c.W w.h.c.p x.1 w.h.p w.h.s w.h.b x.2=some (w.h.c.W,w.h.c.p,((m.drop k).foldl (λx a=>if Zw (fnd h0 a)then Kr h0 w x a else x) x).1,w.h.p,w.h.s,w.h.b,((m.drop k).foldl (λx a=>if Zw (fnd h0 a)then Kr h0 w x a else x) x).2)
 |0,k,x,_,T,_,_=>by omega
 |n+1,k,x,hk,T,z,hw=>by
  have G:=hN;unfold NB at G;have U:=hb.1;have V:=v.ql hb;have Y:=u.length_le;have Z:=j.len;have hp:=Yl hN hb ep;rw[QcY];by_cases h:k<m.length;rotate_left
  .grind
  have H:=Wu h;have f:m[k]∈L:=u.subset (WL h);have I:=o _ (WL h);have g:=(j.obj.pw.sublist u).drop (i:=k);rw[H]at hw g⊢;rw[IS]at g;rw[Xm h,Wb,Xe,Wc h,Xa,Xg aa,Iy];generalize m[k]=a at f hw g I⊢;have A:=j.obj.at_ a f;have hr:=A.rng;have K:=K2 hp A;have B:∀b∈m.drop (k+1),b∈L/\b≠a:=λb hb=>⟨u.subset (WS hb),λe=>by have:=g.1 b hb;have:=(YY h0.w a).2.1;omega⟩
  have ewd:=hw a ab;have eat:=Xnd hN hb ep j v E z f (by simp_all) ewd;unfold hpv at eat;rw[show(⟨w.h.c.W,w.h.c.p⟩:WW)=w.h.c from rfl,eat,Xa];have nxt:=XdQ hN hb ep j v E y u o n (k+1) x aa aa z λb hb=>hw b (by grind);have must0:Qak N 0=some ():=by rw[Qak];rfl
  rw[must0,Xa];by_cases r:(hdA h0.w a).k=0
  .have M:Zw (fnd h0 a)=false:=by unfold Zw fnd;rw[XQ r];rfl
   simp_all
  have M:Zw (fnd h0 a)=true:=by unfold Zw fnd;rw[Xf r];rfl
  rw[Xf r,Wa,M,Wq rfl,V0 _ _ aa aa,Xa];cases D:w.q.contains a with
  |true=>rw[Wb,show Kr h0 w x a=x from Wk λh=>h.2 (Zr D)];omega
  |false=>have hq:=Kf D;have hf:=XiA h0 a;have hvl:=z.len;have J:=YY h0.w a;have⟨e1,O⟩:=XiC hN hb ep v E z;have ei:=Xnc hN O.hb e1 (d:=Xbx h0 a) (a:=a) aa hr.1 (by show _<=4096+(x.1.length:Int);omega);rw[Wa,YV aa,Xa,J.1,Qi5,Wh (show¬szA h0.w a<1 by omega),Wa,Wh (show¬szA h0.w a>256 by omega),Wa,Xd (n:=szA h0.w a-1) aa aa,show szA h0.w a-1=Xbx h0 a by omega];have eg:=XdK hN O.hb (a:=a) aa (d:=⟨0,Xbx h0 a,0⟩) ab;rw[ei]at eg;unfold hpv at eg;rw[eg,Xa,Xa];rw[must0,Xa];have⟨R,S⟩:=XaT (w:=w) hp j z f;have ef:Kr h0 w x a=(fwr h0 x.1 a,wI (x.2+1)):=Wq ⟨by simp_all,hq⟩;rw[ef]at R S⊢;exact XdQ hN hb ep j v E y u o n (k+1) _ aa aa R λb hb=>(S b (B b hb).1 (B b hb).2).trans (hw b (by grind))
def fF(h0:Wm)(w:WE)(x:List Int×Int)(a:Int):List Int×Int:=if Zw (fnd h0 a)then Kr h0 w x a else x
def XjE{h:Wm}{a:Int}:∀(m k:Nat),a∈lps N h k m->∃i,k<=i/\i<k+m/\a∈lpg N h i
 |0,k,e=>by cases e
 |m+1,k,e=>by
  rcases WH.1 e with e|e
  .grind
  have⟨i,f,g,j⟩:=XjE m (k+1) e;grind
def XjF{h:Wm}:∀(m k j:Nat),j<=m->(lps N h (k+j) (m-j)).Sublist (lps N h k m)
 |m,k,0,_=>List.Sublist.refl _
 |0,k,j+1,h=>by omega
 |m+1,k,j+1,e=>by have:(lps N h (k+1+j) (m-j)).Sublist (lps N h (k+1) m):=XjF m (k+1) j aa;rw[show k+1+j=k+(j+1) by omega,show m-j=m+1-(j+1) by omega]at this;simp_all[lps]
def XjG{w:WE}:∀(m:List Int) (x:List Int×Int),(∀a∈m,¬Prm w (pgi h0.c a))->m.foldl (fF h0 w) x=x
 |[],x,_=>rfl
 |a::m,x,h=>by rw[Iy,show fF h0 w x a=x by unfold fF Kr;simp_all];exact XjG m x λb hb=>h b (by grind)
def XdR(hN:NB N)(hb:HB h0)(v:OQ N h0 L){w:WE}(g:CI h0 L w)(z:Ou h0 L w):∀(n k:Nat) (x:List Int×Int),k<=h0.p.length->h0.p.length-k<n->VI h0 x.1->(∀a∈lps N h0 k (h0.p.length-k),Prm w (pgi h0.c a)->wd x.1 a=wd h0.w a) ->
 QdW N w n (k:Int) w.h.c.W w.h.c.p x.1 w.h.p w.h.s w.h.b x.2=some (w.h.c.W,w.h.c.p,((lps N h0 k (h0.p.length-k)).foldl (fF h0 w) x).1,w.h.p,w.h.s,w.h.b,((lps N h0 k (h0.p.length-k)).foldl (fF h0 w) x).2)
 |0,k,x,_,hn,_,_=>by omega
 |n+1,k,x,hk,hn,H,hw=>by
  have S:=hN;unfold NB at S;have I:=g.plen;have hb2:=hb.2;have T:=g.tl hb;have ep:=v.ep;have hp:=Yl hN hb ep;have G:=v.st.st;have hsp:=hp.space;have Z:=g.spc;have J:=z.spn hN hb ep;rw[QdW,I];by_cases h:k<h0.p.length;rotate_left
  .obtain rfl:k=h0.p.length:=aa;simp[XA,Wa,IU,lps]
  rw[Xm h,Wb,Xg aa];have⟨b,A,_,eb⟩:=XfL (N:=N) (w:=⟨⟨w.h.c,x.1,w.h.p,w.h.s,w.h.b⟩,w.o,w.t,w.q,w.d,⟨w.r.j,w.r.K,x.2,w.r.E,w.r.f,w.r.y⟩⟩) (i:=(k:Int)) hN T (by simp_all) (by simp_all) J.sp;have A:b=true↔Prm w (k:Int):=A;have U:QeY N ⟨⟨w.h.c,x.1,w.h.p,w.h.s,w.h.b⟩,w.o,w.t,w.q,w.d,⟨w.r.j,w.r.K,x.2,w.r.E,w.r.f,w.r.y⟩⟩ (k:Int)=some b:=by rw[←eb,QeY,QdF];simp only[Xv,Xc (p:=w.h.p.length<=140737488355328) aa]
  rw[show(⟨w.h.c.W,w.h.c.p⟩:WW)=w.h.c from rfl,U,Xa];have esub:h0.p.length-k=(h0.p.length-(k+1))+1:=aa;have⟨g1,g2⟩:=v.pg k h;have V:∀a∈lpg N h0 k,pgi h0.c a=(k:Int):=λa e=>(g2.2.1 a e).2;have B:(lps N h0 k (h0.p.length-k)).Sublist L:=by have:=XjF (N:=N) (h:=h0) h0.p.length 0 k hk;rw[UG]at this;rw[v.eL];exact this
  rw[esub,lps]at hw B⊢;rw[List.foldl_append];have R:(lpg N h0 k).Sublist L:=(List.sublist_append_left _ _).trans B;cases Y:b with
  |false=>rw[W7,Wb,XjG (lpg N h0 k) x λa e=>by simp_all];exact XdR hN hb v g z n (k+1) x aa aa H λa e=>hw a (Ug _ e)
  |true=>
   have D:=A.1 Y;have⟨e1,e2⟩:=XiC hN hb ep g z H;have M:=z.pr _ D;have O:∀a∈lpg N h0 k,wd x.1 a=wd h0.w a:=λa e=>hw a (W6 _ e) (by simp_all);have epg:QfN N (hpv w x.1) (k:Int)=some (lpg N h0 k,0):=by rw[XdE hN e2];refine Qrs (h:=h0) (h2:=hpv w x.1) g.conf I ep e1 aa aa (by rw[M.1];exact D.2.1) M.2 g1 λa e=>?_;have u:=R.subset e;have:=Xnd hN hb ep G g z H u (by simp_all) (O a e);have hr:=(G.obj.at_ a u).rng;have hv2:=Xo.1 hp.conf;have hwl:=hp.words;have hb1:=hb.1;rw[XaN hN e2 (by unfold tU;omega)]at this;rw[this,G.obj.ev a u]
   unfold hpv at epg;have must0:Qak N 0=some ():=by rw[Qak];rfl
   have gl:=XdQ hN hb ep G g z D R V N 0 x aa (by have:=R.length_le;have:=G.len;omega) H λa e=>O a e;rw[show((0:Nat):Int)=0 from rfl,W0]at gl;rw[Wi,Wa,epg,Xa];rw[must0,Xa,gl,Xa];have⟨q1,q2⟩:=Xak (w:=w) hp G (λa=>Zw (fnd h0 a)) (lpg N h0 k) x (λa e=>R.subset e) H;refine XdR hN hb v g z n (k+1) _ aa aa q1 λa e hpa=>?_;have u:=B.subset (Ug _ e);rw[q2 a u λg=>?_]
   .simp_all
   have⟨i,i1,i2,i3⟩:=XjE _ _ e;have:=(g2.2.1 a g).2;have:=((v.pg i aa).2.2.1 a i3).2;omega
def XpD(hN:NB N)(hb:HB h0)(A:OQ N h0 L){w:WE}(B:CI h0 L w)(u:Ou h0 L w):∃v c,VI h0 v/\Qfp N w=some ⟨⟨w.h.c,v,w.h.p,w.h.s,w.h.b⟩,w.o,w.t,w.q,w.d,⟨w.r.j,w.r.K,c,w.r.E,w.r.f,w.r.y⟩⟩ /\
 QfI N w=some ⟨⟨w.h.c,v,w.h.p,w.h.s,w.h.b⟩,w.o,w.t,w.q,w.d,⟨w.r.j,w.r.K,c,w.r.E,w.r.f,w.r.y⟩⟩:=by
 have H:=hN;unfold NB at H;have ep:=A.ep;have hp:=Yl hN hb ep;have I:=A.st.st;have M:=hb.2;have D:=u.spn hN hb ep;have J:VI h0 w.h.w:=⟨B.wlen,u.ws⟩
 have O:=B.old.length_le;have R:=I.len;have g:=XdR hN hb A B u N 0 (w.h.w,w.r.F) aa aa J λa G z=>u.hw a (by rw[A.eL];exact G) z;have r:=XfM hN hb hp I B u D N 0 (w.h.w,w.r.F) aa aa J λa G z=>u.hw a (B.old.subset G) z;have e:(w.o.drop 0).foldl (Kr h0 w) (w.h.w,w.r.F)=(lps N h0 0 (h0.p.length-0)).foldl (fF h0 w) (w.h.w,w.r.F):=by rw[W0,Nat.sub_zero,←A.eL,u.ol,Kq,List.foldl_filter];rfl
 rw[e]at r;rw[show((0:Nat):Int)=0 from rfl]at g r;have k:=Xak (w:=w) hp I (λa=>Zw (fnd h0 a)) (lps N h0 0 (h0.p.length-0)) (w.h.w,w.r.F) (λa G=>by rw[A.eL];exact G) J;refine⟨((lps N h0 0 (h0.p.length-0)).foldl (fF h0 w) (w.h.w,w.r.F)).1,((lps N h0 0 (h0.p.length-0)).foldl (fF h0 w) (w.h.w,w.r.F)).2,k.1,?_,?_⟩
 .rw[Qfp,g,Xa]
 simp[QfI,r,Xa]
end
section
variable {N:Nat}{h0:Wm}{L:List Int}
def XpE(hN:NB N)(hb:HB h0)(hp:Uv h0)(o:Io N h0 L){w:WE}(g:CI h0 L w)(j:∀x∈w.h.w,tU x){a:Int}(p:a∈L):∃m,QgI N w a=some m/\Qem N w a=some m:=by
 have k:=hN;unfold NB at k;have r:=g.ql hb;have f:=o.obj.at_ a p;have⟨s,u⟩:=XeU (N:=N) hp.conf f.rng;have hw:=hp.words;have v:=g.wlen;have y:=f.rng;have must0:Qak N 0=some ():=by rw[Qak];rfl
 rw[QgI,Qem,V0 _ _ aa aa,YQ a aa aa,Xa,Xa];cases w.q.contains a with
 |true=>simp
 |false=>
  rw[Wa,Wa,g.conf,s,Xa];have e:Xb w.h.w (a-4096)=some (wd w.h.w a):=by rw[X1 aa aa];unfold wd ix;rw[Wr,Wc aa];rfl
  rw[must0,Xa,u,e,Xa,XdO aa (Xho j a),YK (g.wl hb),Xa,Wq (by unfold inW;omega),show w.h.w.getD (ix a) 0=wd w.h.w a from rfl,J1,Xa];simp
def Xhq(hN:NB N)(hb:HB h0)(hp:L≠[]->Uv h0)(A:Io N h0 L){w:WE}(e:CI h0 L w)(g:∀x∈w.h.w,tU x){ws:List Int}(G:ws.length<=1000000)(B:∀x∈ws,x=0\/x∈L)(D:WE×List Int×Int):∀(n k:Nat) (c:Int) (out:List Int),k<=ws.length->ws.length-k<n->out.length=k ->
 ∃o z,o.length=ws.length/\Qc0 N w ws n (k:Int) c out=some (o,z)/\Qbf N ws D (w,0) n (k:Int) c out=some (z,o)
 |0,k,c,out,_,H,_=>by omega
 |n+1,k,c,out,M,H,f=>by
  rw[Qc0,Qbf];by_cases h:k<ws.length;rotate_left
  .grind
  rw[Xm h,Wb,Wb,Xe,Wc h,Xa,Xa,Xg aa,Xv,Xv];have nx:=λz x=>Xhq hN hb hp A e g G B D n (k+1) z (out++[x]) aa aa (by simp_all);have p:=B _ (WL h);generalize ws[k]=a at p⊢;by_cases u:a=0
  .dsimp only;rw[Xc aa,Xc aa];simp_all
  rw[Xl u,Wb,Wb,Xa];have v:a∈L:=by rcases p with h|h;exact absurd h u;exact h
  have⟨m,I,J⟩:=XpE hN hb (hp (List.ne_nil_of_mem v)) A (w:=⟨w.h,w.o,w.t,w.q,w.d,⟨w.r.j,w.r.K,w.r.F,w.r.E,c,w.r.y⟩⟩) (by
   obtain⟨O,s,f⟩:=e.obj
   exact⟨e.conf,e.wlen,e.plen,e.spc,e.old,e.tk,e.tnd,e.knd,e.qnd,⟨O,s,⟨f.old,f.queue,f.fit,f.apart,f.taken,f.free⟩⟩⟩) g v
  rw[I,J,Xa,Xa,Xv,Xv];cases m==0 with
  |true=>rw[Wb,Wb];dsimp only;rw[Xc aa,Xc aa];simp_all
  |false=>rw[Wa,Wa];dsimp only;rw[Xc aa,Xc aa];simp_all
def XeW(o:Wv)(f:o.k=2):∀(n k:Nat) (e:List Wv),k<=e.length->e.length-k<n->e.length<=100000->∃r,Qfq N o n (k:Int) e=some r/\r.length=e.length/\∀j:Nat,((k<=j/\j<e.length/\∀x:Nat,k<=x->x<=j->(pg e x).k=3)/\pg r j=Jr)\/(¬(k<=j/\j<e.length/\∀x:Nat,k<=x->x<=j->(pg e x).k=3)/\pg r j=pg e j)
 |0,k,e,_,y,_=>by omega
 |n+1,k,e,G,y,H=>by
  rw[Qfq,XQ f,Wb,Xc aa];by_cases h:k<e.length;rotate_left
  .grind
  rw[Xm h,Wb,XH (ps:=e) (i:=(k:Int)) aa aa,Xa];by_cases v:(pg e k).k=3;rotate_left
  .grind
  rw[XQ v,Wb,Xa,Xg aa];have z:=λx:Nat=>ZZ (ps:=e) (i:=(k:Int)) (j:=(x:Int)) ⟨0,0,0,0⟩ aa aa aa;have eq:∀x:Nat,k+1<=x->pg (e.set (k:Int).toNat ⟨0,0,0,0⟩) x=pg e x:=λx A=>by grind
  have⟨r,B,w,p⟩:=XeW o f n (k+1) (e.set (k:Int).toNat ⟨0,0,0,0⟩) (by grind) (by grind) (by simp_all);rw[WO]at w p;refine⟨r,B,w,λj=>?_⟩;by_cases q:j=k
  .subst q;refine .inl ⟨⟨Uj _,h,λx a b=>by grind⟩,?_⟩;rcases p j with g|g
   .omega
   rw[g.2,z j,Wq rfl];rfl
  rcases p j with⟨⟨I,D,E⟩,b⟩|⟨a,b⟩
  .refine .inl ⟨⟨aa,D,λx A s=>?_⟩,b⟩;by_cases u:x=k
   .rw[u];exact v
   rw[←eq x aa];exact E x aa s
  grind
def XjH{w:WE}(e:List Wv)(f:Wv)(i c:Int)(hp:Uv h0)(g:w.h.c=h0.c)(o:0<=i)(g1:i<h0.c.p):∀(n k:Nat) (v:List Int),(k:Int)<=h0.c.W->65-k<n->v.length=h0.w.length ->
 ∃r,QbK N w e f i c n (k:Int) v=some r/\r.length=v.length/\∀j,r.getD j 0=if(i*h0.c.W).toNat+k<=j/\j<((i+1)*h0.c.W).toNat then 0 else v.getD j 0
 |0,k,v,_,s,_=>by omega
 |n+1,k,v,k0,s,u=>by
  have y:=Xo.1 hp.conf;have z:=XZ hp.conf o g1;have hw:=hp.words;have A:(i+1)*h0.c.W=i*h0.c.W+h0.c.W:=by rw[IF,I9]
  rw[QbK,g];by_cases q:(k:Int)<h0.c.W;rotate_left
  .rw[Wh q,Wa];exact⟨v,rfl,rfl,λj=>by rw[Wk aa]⟩
  rw[Wd q,Wb,Xg aa,Xd (n:=i*h0.c.W) aa aa,Xd (n:=i*h0.c.W+k) aa aa,X1 aa aa,Xa];have⟨r,B,D,E⟩:=XjH e f i c hp g o g1 n (k+1) (v.set (i*h0.c.W+k).toNat 0) aa aa (by rw[WO];exact u);grind
def frZ(e:List Wv)(sp:Int)(j:Nat):Prop:=(pg e j).k≠0/\(pg e j).s=sp
def frC(e:List Wv)(sp:Int)(k j:Nat):Prop:=∃i:Nat,i<k/\i<j/\j<e.length/\(pg e i).k=2/\(pg e i).s=sp/\∀x:Nat,i<x->x<=j->(pg e x).k=3
def Xro{c:WW}{f:List Wv}(p:OL c f){sp:Int}{k j:Nat}(h:frC f sp k j):frZ f sp j:=by
 have⟨i,w,q,y,z,r,s⟩:=h;have g:=s j q (Uj j);have⟨o,A,B,u,v,D⟩:=p.tl j aa aa g;obtain⟨m,rfl⟩:∃m:Nat,o=m:=⟨o.toNat,aa⟩
 have tl:=(u.k2 v).2.2;have e:m=i:=by
  rcases Nat.lt_trichotomy m i with h|h|h
  .have:=(tl ((i:Int)-m) aa aa).1;grind
  .omega
  grind
 subst e;have:=(tl ((j:Int)-m) aa aa).2.1;rw[show(m:Int)+((j:Int)-m)=j by omega]at this;exact⟨aa,this.trans r⟩
def Xne{a b:List Int}(e:a.length=b.length)(h:∀j,a.getD j 0=b.getD j 0):a=b:=by refine List.ext_getElem e λi f g=>?_;have:=h i;simp_all
def XfN(hN:NB N)(hb:HB h0)(hp:Uv h0){w:WE}(O:w.h.c=h0.c)(A:w.h.p.length=h0.p.length)(H:OL h0.c w.h.p):∀(n k:Nat) (c:Int) (v:List Int) (q g:List Wv),k<=h0.p.length->h0.p.length-k<n->v.length=h0.w.length->q.length=h0.p.length->g.length=h0.p.length ->
 (∀j:Nat,(j<k/\frZ w.h.p w.h.s j->pg q j=Jr)/\(¬(j<k/\frZ w.h.p w.h.s j)->pg q j=pg w.h.p j)) ->
 (∀j:Nat,((j<k/\frZ w.h.p w.h.s j)\/frC w.h.p w.h.s k j->pg g j=Jr)/\(¬((j<k/\frZ w.h.p w.h.s j)\/frC w.h.p w.h.s k j)->pg g j=pg w.h.p j)) ->
 ∃I B r,B.length=h0.w.length/\r.length=h0.p.length/\Qbc N w n (k:Int) c v q=some (I,B,r)/\QbT N w n (k:Int) g c v=some (B,r,I)
 |0,k,c,v,q,g,_,hn,_,_,_,_,_=>by omega
 |n+1,k,c,v,q,g,hk,hn,R,hq,J,D,o=>by
  have U:=hN;unfold NB at U;have hb2:=hb.2;have hpp:=hp.pages;have hw:=hp.words;have must0:Qak N 0=some ():=by rw[Qak];rfl
  rw[Qbc,QbT,Xc aa,hq,A];by_cases h:k<h0.p.length;rotate_left
  .obtain rfl:k=h0.p.length:=aa;rw[XA,Wa,Wa];have e:g=q:=by
    refine Xrf aa λj hj=>?_;obtain⟨m,rfl⟩:∃m:Nat,j=m:=⟨j.toNat,aa⟩
    by_cases hm:m<h0.p.length/\frZ w.h.p w.h.s m
    .simp_all
    rw[(D m).2 hm];refine(o m).2 λh=>?_;rcases h with h|h
    .simp_all
    have V:=Xro H h;have⟨_,_,_,K,_⟩:=h;grind
   subst e;exact⟨c,v,g,R,J,rfl,rfl⟩
  have Y:pg q k=pg w.h.p k:=(D k).2 λh=>by omega
  rw[Xm h,Wb,Wb,XH (ps:=q) (i:=(k:Int)) aa aa,XH (ps:=w.h.p) (i:=(k:Int)) aa aa,Xa,Xa,Xa,Y,Xg aa];have skip:¬frZ w.h.p w.h.s k->∃I B r,B.length=h0.w.length/\r.length=h0.p.length/\Qbc N w n ((k+1:Nat):Int) c v q=some (I,B,r)/\QbT N w n ((k+1:Nat):Int) g c v=some (B,r,I):=λV=>by
   have lt:∀j:Nat,j<k+1/\frZ w.h.p w.h.s j↔j<k/\frZ w.h.p w.h.s j:=λj=>⟨λh=>⟨by rcases Ur j k with a|a;exact a;exact absurd (show j=k by omega▸h.2) (λ_=>V (by rw[show k=j by omega];exact h.2)),h.2⟩,λh=>⟨aa,h.2⟩⟩
   have fr:∀j:Nat,frC w.h.p w.h.s (k+1) j↔frC w.h.p w.h.s k j:=λj=>⟨λ⟨i,a,b,d,e,f,g⟩=>⟨i,by
    rcases Ur i k with x|x
    .exact x
    .exfalso;rw[show i=k by omega]at e f;exact V ⟨aa,f⟩,b,d,e,f,g⟩,λ⟨i,a,b,d,e,f,g⟩=>⟨i,aa,b,d,e,f,g⟩⟩
   refine XfN hN hb hp O A H n (k+1) c v q g aa aa R hq J (λj=>?_) λj=>?_
   .rw[lt j];exact D j
   grind
  by_cases S:(pg w.h.p k).k=0
  .rw[XQ S,Wb,Wb];exact skip λh=>h.1 S
  rw[Xf S,Wa,Wa];by_cases G:(pg w.h.p k).s=w.h.s;rotate_left
  .rw[Xl G,Wb,Wb];exact skip λh=>G h.2
  have Z:frZ w.h.p w.h.s k:=⟨S,G⟩
  rw[show((pg w.h.p k).s != w.h.s)=false by simp_all,Wa,Wa];have hm:=XZ hp.conf (i:=(k:Int)) aa aa;have hvc:=Xo.1 hp.conf;have e1:((k:Int)+1)*h0.c.W=k*h0.c.W+h0.c.W:=by rw[IF,I9]
  have e2:(((k+1:Nat):Int))*h0.c.W=(k:Int)*h0.c.W+h0.c.W:=by rw[←e1];congr 1
  obtain⟨u,u1,u2,u3⟩:=XjH (N:=N) (w:=w) q (pg w.h.p k) (k:Int) c hp O aa aa N 0 v aa aa R;rw[show((0:Nat):Int)=0 from rfl]at u1;rw[O,e2,Xd (n:=(k:Int)*h0.c.W) aa aa,Xd (n:=(k:Int)*h0.c.W+h0.c.W) aa aa,Xc aa,u1,Xa];have eu:((v.take ((k:Int)*h0.c.W).toNat)++(List.replicate (((k:Int)*h0.c.W+h0.c.W).toNat-((k:Int)*h0.c.W).toNat) (0:Int)))++(v.drop (((k:Int)*h0.c.W).toNat+(((k:Int)*h0.c.W+h0.c.W).toNat-((k:Int)*h0.c.W).toNat)))=u:=by
   refine Xne ?_ λj=>?_
   .grind
   rw[Xjy aa aa,u3 j,e1,IR]
  rw[eu];have hul:u.length=h0.w.length:=u2.trans R;have p2:=λx:Nat=>ZZ (ps:=q) (i:=(k:Int)) (j:=(x:Int)) ⟨0,0,0,0⟩ aa aa aa;have hq':∀j:Nat,(j<k+1/\frZ w.h.p w.h.s j->pg (q.set (k:Int).toNat ⟨0,0,0,0⟩) j=Jr)/\(¬(j<k+1/\frZ w.h.p w.h.s j)->pg (q.set (k:Int).toNat ⟨0,0,0,0⟩) j=pg w.h.p j):=λj=>by
   rw[p2 j];by_cases z:j=k
   .subst z;rw[Wq rfl];exact⟨λ_=>rfl,λh=>absurd ⟨aa,Z⟩ h⟩
   grind
  have fin:=λg' hg' M=>XfN hN hb hp O A H n (k+1) (wI (c+1)) u (q.set (k:Int).toNat ⟨0,0,0,0⟩) g' aa aa hul (by simp_all) hg' hq' M;have frm:∀j,frC w.h.p w.h.s k j->frC w.h.p w.h.s (k+1) j:=λj ⟨i,a,b,d,e,f,g⟩=>⟨i,aa,b,d,e,f,g⟩
  have frk:∀j,frC w.h.p w.h.s (k+1) j->(pg w.h.p k).k≠2->frC w.h.p w.h.s k j:=λj ⟨i,a,b,d,e,f,g⟩ G=>⟨i,by
   grind,b,d,e,f,g⟩
  by_cases K:(pg w.h.p k).k=3
  .rw[show((pg w.h.p k).k != 3)=false by rw[K];rfl,Wa];refine fin g J λj=>?_;refine⟨λh=>?_,λh=>(o j).2 λa=>h (by rcases a with a|a;exact .inl ⟨aa,a.2⟩;exact .inr (frm j a))⟩;rcases h with⟨a,b⟩|a
   .by_cases z:j=k
    .subst z;have⟨k',t0,t1,t2,t3,t4⟩:=H.tl j aa aa K;obtain⟨m,rfl⟩:∃m:Nat,k'=m:=⟨k'.toNat,aa⟩
     have tl:=(t2.k2 t3).2.2;have tx:∀x:Nat,m<x->x<=j->(pg w.h.p x).k=3/\(pg w.h.p x).s=(pg w.h.p m).s:=λx a b=>by have:=tl ((x:Int)-m) aa aa;rw[show(m:Int)+((x:Int)-m)=x by omega]at this;exact⟨this.1,this.2.1⟩
     exact(o j).1 (.inr ⟨m,aa,aa,aa,t3,by rw[←(tx j aa (Uj _)).2];exact G,λx a b=>(tx x a b).1⟩)
    exact(o j).1 (.inl ⟨aa,b⟩)
   simp_all
  rw[Xl K,Wb];have hgk:pg g k=pg w.h.p k:=(o k).2 λh=>by
   rcases h with h|⟨i,a,b,d,e,f,x⟩
   .omega
   simp_all
  have g2:=λx:Nat=>ZZ (ps:=g) (i:=(k:Int)) (j:=(x:Int)) ⟨0,0,0,0⟩ aa aa aa;have hkd:=(H.hd k aa aa K).kd;rw[Qi6,Wh (show¬(k:Int)<0 by omega),Wa,Wh (show¬(k:Int)>=(g.length:Int) by omega),Wa,XH (ps:=g) (i:=(k:Int)) aa aa,Xa,Xv,hgk];have ej:∀x y:Option (List Wv×Int),(bif (pg w.h.p k).k != 1 then(bif (pg w.h.p k).k != 2 then x else y)else y)=y:=λx y=>by grind
  rw[ej];simp only[Qab,Xa];rw[XH (ps:=g) (i:=(k:Int)) aa aa,Xa,Xg aa];rcases hkd with e|e|e
  .omega
  .obtain⟨n',rfl⟩:∃m,N=m+1:=⟨N-1,aa⟩
   rw[Qfq,Xf aa,Wa,Xa,Xa];rw[must0,Xa];refine fin _ (by rw[WO];exact J) λj=>?_;rw[g2 j];grind
  have⟨r,r1,r2,r3⟩:=XeW (N:=N) (pg w.h.p k) e N (k+1) (g.set (k:Int).toNat ⟨0,0,0,0⟩) (by grind) (by grind) (by simp_all);rw[WO]at r2 r3;rw[r1,Xa,Xa];rw[must0,Xa];have gx:∀x j:Nat,k<x->x<=j->j<h0.p.length->(∀y:Nat,k<y->y<=j->(pg w.h.p y).k=3)->pg g x=pg w.h.p x:=λx j a b d f=>(o x).2 λh=>by
   rcases h with h|⟨i,i1,i2,i3,i4,i5,i6⟩
   .omega
   grind
  have gy:∀x:Nat,(pg g x).k=3->pg g x=pg w.h.p x:=λx T=>(o x).2 λh=>by grind
  refine fin r aa λj=>?_;have run:(k+1<=j/\j<g.length/\∀x:Nat,k+1<=x->x<=j->(pg (g.set (k:Int).toNat ⟨0,0,0,0⟩) x).k=3)↔(k<j/\j<h0.p.length/\∀x:Nat,k<x->x<=j->(pg w.h.p x).k=3):=by
   rw[J];refine⟨λ⟨a,b,d⟩=>⟨a,b,λx T E=>?_⟩,λ⟨a,b,d⟩=>⟨a,b,λx T E=>?_⟩⟩
   .have:=d x T E;rw[g2 x,Wk aa]at this;grind
   rw[g2 x,Wk aa,gx x j T E b d];grind
  have ht:=r3 j;rw[run,g2 j]at ht;rcases ht with⟨a,b⟩|⟨a,b⟩
  .have:frC w.h.p w.h.s (k+1) j:=⟨k,aa,a.1,aa,e,G,a.2.2⟩
   grind
  rw[b];by_cases z:j=k
  .grind
  rw[Wk aa];refine⟨λh=>(o j).1 ?_,λh=>(o j).2 λq=>h ?_⟩
  .rcases h with h|⟨i,i1,i2,i3,i4,i5,i6⟩
   .exact .inl ⟨aa,h.2⟩
   refine .inr ⟨i,?_,i2,i3,i4,i5,i6⟩;rcases Ur i k with x|x
   .exact x
   exfalso;obtain rfl:i=k:=aa;exact a ⟨i2,aa,i6⟩
  grind
def XpF(hN:NB N)(hb:HB h0)(hp:Uv h0){w:WE}(z:w.h.c=h0.c)(e:w.h.p.length=h0.p.length)(hw:w.h.w.length=h0.w.length)(A:OL h0.c w.h.p):∃c v r,v.length=h0.w.length/\r.length=h0.p.length/\QeZ N w=some ⟨⟨w.h.c,v,r,w.h.s,w.h.b⟩,w.o,w.t,w.q,w.d,⟨w.r.j,w.r.K,w.r.F,c,w.r.f,w.r.y⟩⟩/\Qfr N w=some ⟨⟨w.h.c,v,r,w.h.s,w.h.b⟩,w.o,w.t,w.q,w.d,⟨w.r.j,w.r.K,w.r.F,c,w.r.f,w.r.y⟩⟩:=by
 have g:=hN;unfold NB at g;have B:=hb.1;have D:=hb.2;obtain⟨c,v,r,G,H,k,u⟩:=XfN hN hb hp z e A N 0 w.r.E w.h.w w.h.p w.h.p aa aa hw e e (λj=>⟨λh=>aa,λ_=>rfl⟩) (λj=>⟨λh=>by rcases h with h|⟨i,h,_⟩<;>omega,λ_=>rfl⟩);rw[show((0:Nat):Int)=0 from rfl]at k u;refine⟨c,v,r,G,H,?_,?_⟩
 .rw[QeZ,Xc aa,Xc aa,k,Xa]
 simp[Qfr,Qad,Xa,u]
end
section
variable {N:Nat}{h0:Wm}{L:List Int}
def CI.rep{w:WE}(e:CI h0 L w)(g:WQ):CI h0 L {w with r:=g}:=by have⟨O,s,f⟩:=e.obj;exact⟨e.conf,e.wlen,e.plen,e.spc,e.old,e.tk,e.tnd,e.knd,e.qnd,⟨O,s,⟨f.old,f.queue,f.fit,f.apart,f.taken,f.free⟩⟩⟩
def Ou.rep{w:WE}(h:Ou h0 L w)(e:WQ):Ou h0 L {w with r:=e}:=⟨h.q,h.old,h.fw,h.ws,h.ss,h.k1,h.pr,h.hw,h.bm,h.ol⟩
def RefB(h0:Wm)(L l:List Int):Prop:=(l.all λx=>x==0||(Kq h0 L).contains x)=true
def RefB.mem{l:List Int}(h:RefB h0 L l):∀x∈l,x=0\/x∈L:=λx e=>by
 have:=Ud.1 h x e;simp only[Ix,beq_iff_eq]at this;rcases this with h|h
 .omega
 exact .inr (List.filter_sublist.subset (Zr h))
def XiD(hN:NB N)(ht:HT h0)(g:OQ N h0 L){rs ws:List Int}(R:rs.length+ws.length<=1000000)(S:∀x∈rs,tU x)(J:RefB h0 L rs)(B:RefB h0 L ws):∃r,QeA N h0 rs ws=some r/\Qdi N h0 rs ws=some r/\(r.2.2.2.2=0->NZ rs r.2.1):=by
 have D:=hN;unfold NB at D;have hb:=ht.hb;have ep:=g.ep;have hp:=Yl hN hb ep;have G:=g.st;have⟨w,g1,T,U,V,W,H⟩:=Xnb hN ht g;have Y:Qbu N h0 rs=some true:=by rw[Z7 hN ht aa g.eg g.ob];exact congrArg some J
 have Z:Qbu N h0 ws=some true:=by rw[Z7 hN ht aa g.eg g.ob];exact congrArg some B
 have e3:Qey N h0 (rs++ws)=some true:=by rw[XeN hN ht (by rw[WR];omega),Z7 hN ht (by rw[WR];omega) g.eg g.ob,List.all_append,show(rs.all λx=>x==0||(Kq h0 L).contains x)=true from J,show(ws.all λx=>x==0||(Kq h0 L).contains x)=true from B];rfl
 rw[QeA,Qdi,g1,T,ep,Y,Z,Xa,Xa,Xv,Xa,Xa,Wi,Wa,Wa,Wa,Xa];rw[show((0:Int)==0)=true from rfl,Wb,XbV _ ab (by unfold XaM;unfold XaM;unfold XaM;omega) aa,Xa,show [rs,ws].flatten=rs++ws by simp,e3,Xa,Wb];rcases Xm9 hN G U V W aa S with⟨e,k,u,z⟩|⟨w1,out,c1,h1,q1,k1,l1,z1,u,z⟩
 .rw[u,z,Xa,Xa,Xf k,Xl k,Wa,Wb];exact⟨_,rfl,rfl,λh=>absurd h k⟩
 rw[u,z,Xa,Xa];have esc:w1.d=0:=by unfold KeepW at k1;rw[k1];exact H
 rcases Xrj hN G c1 h1 q1 aa aa with⟨e,k,u,z⟩|⟨w2,A,I,q2,u,z⟩
 .rw[u,z,Xa,Xa,Xf k,Xl k,Wa,Wb];exact⟨_,rfl,rfl,λh=>absurd h k⟩
 rw[u,z,Xa,Xa];have⟨o,M,ol,O,b2⟩:=Xhq hN hb (λ_=>hp) G.st A I.ws aa B.mem (w1,out,0) N 0 w2.r.f [] aa aa rfl;rw[show((0:Nat):Int)=0 from rfl]at O b2;rw[Qei,O,b2,Xa,Xa,Xa];have⟨v,cf,vi,f1,f2⟩:=XpD hN hb g (A.rep ⟨w2.r.j,w2.r.K,w2.r.F,w2.r.E,M,w2.r.y⟩) (I.rep _);rw[f1,f2,Xa,Xa];have⟨cr,v',ps,y1,y2,y3,y4⟩:=XpF (w:=⟨⟨w2.h.c,v,w2.h.p,w2.h.s,w2.h.b⟩,w2.o,w2.t,w2.q,w2.d,⟨w2.r.j,w2.r.K,cf,w2.r.E,M,w2.r.y⟩⟩) hN hb hp A.conf A.plen vi.len (I.spn hN hb ep);have htl:=A.tl hb;rw[y3,y4,Xa,Xa];dsimp only;rw[Xc aa,Xv];by_cases hk:(w2.t.length:Int)>0
 .rw[Wd hk,Wb,Xd (n:=(w2.t.length:Int)-1) aa aa,X1 aa aa,Xa];exact⟨_,rfl,rfl,λ_=>z1⟩
 simp_all
end
section
variable {N:Nat}
def XjI{rs:List Int}{c:Nat}(h:c<rs.length):Xb (rs.drop c) 0=some rs[c]:=by rw[show(0:Int)=((0:Nat):Int)from rfl,Xe,UO,Wc aa];rfl
def XdS(t:Ws)(g:t.e.length<=1000000)(rs:List Int)(j:rs.length<=1000000):∀(n k c:Nat) (v:List WT),k<=t.e.length->t.e.length-k<n->v.length=t.e.length->c+(XT (v.drop k)).length=rs.length ->
 ∃r,QeP N t n (rs.drop c) (k:Int) v=some r/\Qbp N rs n (c:Int) (k:Int) v=some r
 |0,k,c,v,_,p,_,_=>by omega
 |n+1,k,c,v,q,p,o,f=>by
  rw[QeP,Qbp,Xc aa,o];by_cases h:k<t.e.length;rotate_left
  .obtain rfl:k=t.e.length:=aa;simp
  have hd:=Wu (show k<v.length by omega);rw[hd]at f;rw[Xm h,Wb,Wb,Xe,Wc aa,Xa,Xa,Xg aa];cases s:v[k].V with
  |false=>exact XdS t g rs j n (k+1) c v aa aa o (by rw[←f];unfold XT;grind)
  |true=>
   have u:c+1+(XT (v.drop (k+1))).length=rs.length:=by rw[←f];unfold XT;rw[UA aa,Ub,Um];omega
   rw[Wb,Wb,XjI aa,Xa,Xe,Wc (show c<rs.length by omega),Xa,Xc (by grind),Xa,Xa,Oo,Xg aa];exact XdS t g rs j n (k+1) (c+1) _ aa aa (by simp_all) (by rw[show(k:Int).toNat=k from rfl,IL aa];omega)
def Xhr(hN:NB N){t:Ws}(ht:TB t)(g:YZ t.e=true){rs:List Int}(h:(XT t.e).length=rs.length):∃r,Qhn N t rs=some (r,0)/\QcC N t rs=some (r,0):=by
 have f:1000000<N:=by unfold NB at hN;omega
 have o:=Js g;have:=Xaa t.e;have⟨r,j,k⟩:=XdS (N:=N) t aa rs aa N 0 0 t.e aa aa rfl (by simp_all);rw[W0,show((0:Nat):Int)=0 from rfl]at j;rw[show((0:Nat):Int)=0 from rfl]at k;refine⟨⟨r⟩,?_,?_⟩
 .rw[Qhn,J9 ht f,g,Xa,Wi,Wa,Jg ht f,g,Wb,Xa,h];simp only[bne_self_eq_false,Wa,Qfb,Qap,Xa];rw[Xc aa,show(Ws.mk t.e)=t from rfl,j,Xa]
 rw[QcC,Zv ht f,g,Xa,Wi,Wa,Yt ht f,g,Wb,Xa,Xc aa,h];simp;rw[Xc aa,k,Xa]
def XdT(a:Wo)(j:a.S.length<=1000000)(rs:List Int)(o:rs.length<=1000000)(f:∀x∈rs,x≠0):∀(n k c:Nat) (v:List UE),k<=a.S.length->a.S.length-k<n->v.length=a.S.length->c+(X9 (v.drop k)).length=rs.length ->
 ∃r,QeO N a n (rs.drop c) (k:Int) v=some r/\Qbo N a rs n (c:Int) (k:Int) v=some (.nxt r)
 |0,k,c,v,_,q,_,_=>by omega
 |n+1,k,c,v,s,q,p,g=>by
  rw[QeO,Qbo,Xc aa,p];by_cases h:k<a.S.length;rotate_left
  .obtain rfl:k=a.S.length:=aa;simp
  have hd:=Wu (show k<v.length by omega);rw[hd]at g;rw[Xm h,Wb,Wb,Xe,Wc aa,Xa,Xa,Xg aa];cases u:v[k].V with
  |false=>exact XdT a j rs o f n (k+1) c v aa aa p (by rw[←g];unfold X9;grind)
  |true=>
   have w:c+1+(X9 (v.drop (k+1))).length=rs.length:=by rw[←g];unfold X9;rw[UA aa,Ub,Um];omega
   have e:c<rs.length:=aa;rw[Wi,Wb,Wa,XjI e,Xa,Xe,Wc e,Xa,Xa,Xf (f _ (WL e)),Wa,Xa,Xa,Xc (by grind),Oo,Xg aa];exact XdT a j rs o f n (k+1) (c+1) _ aa aa (by grind) (by rw[show(k:Int).toNat=k from rfl,IL aa];omega)
def Xnf(hN:NB N){a:Wo}(g:LBp a)(f:Y0 a=true){rs:List Int}(j:(X9 a.S).length=rs.length)(k:∀x∈rs,x≠0):∃r,Qh4 N a rs=some (r,0)/\Qen N a rs=some (r,0):=by
 have e:1000000<N:=by unfold NB at hN;omega
 have q:=(YW.1 f).slots;have:=(YW.1 f).iss;have:=XbM a.S;have⟨r,o,p⟩:=XdT (N:=N) a aa rs aa k N 0 0 a.S aa aa rfl (by simp_all);rw[W0,show((0:Nat):Int)=0 from rfl]at o;rw[show((0:Nat):Int)=0 from rfl]at p;have s:rs.contains 0=false:=by rw[Bool.eq_false_iff];intro h;exact k 0 (Zr h) rfl
 refine⟨⟨r,a.x,a.i⟩,?_,?_⟩
 .rw[Qh4,Jw g e,f,Xa,Wi,Wa,XbU g e,f,Wb,Xa,j,V0 _ _ aa e,s];simp only[bne_self_eq_false,Wa,QdN,Qas,Qao,QaF,Xa];rw[Xc aa,show(Wo.mk a.S a.x a.i)=a from rfl,o,Xa]
 rw[Qen,ZI g e,f,Xa,Wi,Wa,ZB g e,f,Wb,Xa,j];simp;rw[Xc aa,p,Xa,Xp]
def XjJ(x:WJ)(G:x.P.length<=1000000)(p:Wm×List Int×List Int×WQ×Int)(u:WJ)(w:List Int×List Int)(y:Wo×Int)(f:List Int×List Int)(j o:Ws×Int)(q s:List Int)(z:Wo×Int)(A B:Ws×Int)(g:f.2.length=x.P.length)(D:∀k:Nat,k<x.P.length->Xb p.2.1 (wI (wI (wI ((x.R.length:Int)+(q.length:Int))+(s.length:Int))+k))=f.2[k]?):∀(n k:Nat) (v:List Ux),k<=x.P.length->x.P.length-k<n->v.length=k ->
 ∃r,Qfi N p u w y f j o n (k:Int) (v++x.P.drop k)=some r/\Qa3 N x p q s z A B n (k:Int) v=some r
 |0,k,v,_,H,_=>by omega
 |n+1,k,v,J,H,E=>by
  rw[Qfi,Qa3,g];by_cases h:k<x.P.length;rotate_left
  .obtain rfl:k=x.P.length:=aa;simp
  have hd:=Wu h;have e:Xb (v++x.P.drop k) (k:Int)=some x.P[k]:=by rw[Xe,U3 aa,E,IU,hd];rfl
  rw[Xm h,Wb,Wb,Xe,D k h,Wc aa,Xa,Xa,e,Xa,Xe,Wc h,Xa,Xc aa,Xg aa];have I:(v++x.P.drop k).set (k:Int).toNat ⟨f.2[k],x.P[k].M⟩=(v++[⟨f.2[k],x.P[k].M⟩])++x.P.drop (k+1):=by rw[show(k:Int).toNat=k from rfl,Iv _ _ aa,E,IU,hd,Ip,UI];rfl
  rw[I];exact XjJ x G p u w y f j o q s z A B g D n (k+1) _ aa aa (by simp_all)
structure OX(N:Nat)(x:WJ)(L:List Int):Prop where
 beg:OQ N x.h L
 ev:EV N x
 strong:RefB x.h L (Jy x)
 weak:RefB x.h L (XT x.v.e)
def XiE(hN:NB N){x:WJ}(ht:ET x)(e:QbP N x=some true):∃L,OX N x L:=by
 have f:1000000<N:=by unfold NB at hN;omega
 have h:=ht.eb;have u:=Zs h.loc;have w:=Yu x.g.e;have y:=Yu x.v.e;have q:=h.pins;have D:=h.roots;have⟨b,eb,hb⟩:=Zt hN h;rw[e]at eb;obtain rfl:=WG eb;have j:=hb rfl;have⟨b,eb,_⟩:=Jt hN h.heap q;rw[QbP,eb,Xa]at e;cases b with
 |false=>grind
 |true=>
 have⟨eg,s,k⟩:=XaQ hN ht.ht q eb;have⟨L,o⟩:=Xrk hN ht.ht eg;have z:Jy x=((x.R++X9 x.l.S)++XT x.g.e)++x.P.map (·.a):=by unfold Jy;rw[j.loc,j.glo];rfl
 simp only[Wi,Wa,ZI h.loc f,Zv h.glo f,Zv h.wea f,Yt h.glo f,Yt h.wea f,ZB h.loc f,Xa,j.loc,j.glo,j.wea,Wb]at e u w y;rw[YQ 0 aa aa,Xa]at e;cases A:(XT x.g.e).contains 0 with
 |true=>simp_all
 |false=>
 rw[A,Wa,Xc aa,Xc aa,Xc aa,Xc aa,Z7 hN ht.ht (by grind) eg o.ob,Xa]at e;have e:=WG e;simp only[List.all_append,W9]at e;refine⟨L,o,j,?_,e.2⟩;unfold RefB;rw[z];simp only[List.all_append,W9];refine⟨⟨⟨e.1.1.1,e.1.1.2⟩,e.1.2⟩,?_⟩;rw[Ud];intro r B;obtain⟨p,hp,rfl⟩:=UM.1 B;rw[k _ o.ob p hp,Bool.or_true]
def Xng(hN:NB N){x:WJ}(ht:ET x):∃r,QhB N x=some r/\Qbq N x=some r:=by
 have u:1000000<N:=by unfold NB at hN;omega
 have j:=ht.eb;have h1:=Zs j.loc;have h2:=Yu x.g.e;have h5:=Yu x.v.e;have h3:=j.pins;have h4:=j.roots;have⟨b,eb,_⟩:=Zt hN j;rw[QhB,Qbq,Ya hN ht,eb,Xa,Xa];cases b with
 |false=>simp
 |true=>
 have⟨L,hV⟩:=XiE hN ht eb;have w:=hV.ev;have D:=hV.beg;rw[w.loc,Wb]at h1;rw[w.glo,Wb]at h2;rw[w.wea,Wb]at h5;have I:=w.mat.len;have J:Jy x=((x.R++X9 x.l.S)++XT x.g.e)++x.P.map (·.a):=by unfold Jy;rw[w.loc,w.glo];rfl
 have hll:(Jy x).length=x.R.length+(X9 x.l.S).length+(XT x.g.e).length+x.P.length:=by rw[J];simp only[WR,W4]
 rw[Wi,Wa,Wa,XdG hN j,Xis hN j,Xa,Xa,Jg j.wea u,Yt j.wea u,w.wea,Wb,Xa,Xa];have tr:∀y∈Jy x,tU y:=λy hy=>by
  rcases hV.strong.mem y hy with h|h
  .simp_all
  have hr:=(D.st.st.obj.at_ y h).rng;have hp:=Yl hN j.heap D.ep;have hw:=hp.words;have hb1:=j.heap.1;unfold tU;omega
 have⟨y,e1,K,A⟩:=XiD hN ht.ht D (rs:=Jy x) (ws:=XT x.v.e) aa tr hV.strong hV.weak;have⟨y',e3,M⟩:=Ql5 hN j.heap (rs:=Jy x) (ws:=XT x.v.e) aa aa;rw[K]at e3;obtain rfl:=WG e3;rw[e1,K,Xa,Xa];by_cases E:y.2.2.2.2=0;rotate_left
 .simp[Xl,E,Wb]
 have A:=A E;have⟨hl1,G⟩:=M.len E;rw[show(y.2.2.2.2 != 0)=false by simp_all,Wa,Wa];simp only[Qat,QgQ,QfA,Qfn,Qad,Qab,Qas,Qao,QaF,Qap,Qar,Xa,QeB];generalize hs:y.2.1=s at *;have en:(x.R.length:Int).toNat=x.R.length:=rfl;rw[Xc aa,Xc aa,Xa,en,Xc (by grind),XbU j.loc u,ZB j.loc u,w.loc,Wb,Xa,Xa,Yt j.glo u,Jg j.glo u,w.glo,Wb,Xa];generalize O:X9 x.l.S=f at *;generalize hm:XT x.g.e=o at *;have ek:(f.length:Int).toNat=f.length:=rfl;have em:(o.length:Int).toNat=o.length:=rfl;have w1:wI ((x.R.length:Int)+(f.length:Int))=((x.R.length+f.length:Nat):Int):=by rw[Xd aa aa];omega
 have w2:wI (((x.R.length+f.length:Nat):Int)+(o.length:Int))=((x.R.length+f.length+o.length:Nat):Int):=by rw[Xd aa aa];omega
 have t1:((x.R.length+f.length:Nat):Int).toNat=x.R.length+f.length:=rfl;have t2:((x.R.length+f.length+o.length:Nat):Int).toNat=x.R.length+f.length+o.length:=rfl;have hz:∀v∈(s.drop x.R.length).take f.length,v≠0:=λv H=>by
  obtain⟨i,hi,T⟩:=WM H;rw[Wl]at hi;rw[Ij,IH]at T;have B:i<f.length:=aa;have e4:(Jy x)[x.R.length+i]? = some f[i]:=by rw[J,UI,UI,U3 aa,IN,U6 B,Wc B]
  refine A (x.R.length+i) v (by rw[Wc aa,T]) _ e4 ?_;have z:f[i]∈X9 x.l.S:=by rw[O];exact WL B
  unfold X9 at z;obtain⟨p,hp,ep⟩:=UM.1 z;rw[←ep];have hp:=UB.1 hp;obtain⟨q,M,eq⟩:=WM hp.1;exact(Xez (YW.1 w.loc).st (i:=q) (p:=p) (by simp_all)).2.2.2.1 hp.2
 have⟨U,a1,a2⟩:=Xnf hN j.loc w.loc (rs:=(s.drop x.R.length).take f.length) (by rw[O,Wl,Wn];omega) hz;have⟨V,b1,b2⟩:=Xhr hN j.glo w.glo (rs:=(s.drop (x.R.length+f.length)).take o.length) (by rw[hm,Wl,Wn];omega);have⟨W,c1,c2⟩:=Xhr hN j.wea w.wea (rs:=y.2.2.1) G.symm;have⟨r4,Y,Z⟩:=XjJ (N:=N) x h3 y ⟨x.h,x.l,x.g,x.v,x.P,x.R⟩ (s.take x.R.length,s.drop x.R.length) (U,0) ((s.drop (x.R.length+f.length)).take o.length,s.drop (x.R.length+f.length+o.length)) (V,0) (W,0) f o (U,0) (V,0) (W,0) (by simp_all) (λk hkp=>by
  rw[hs,w1,w2,Xd aa aa,show((x.R.length+f.length+o.length:Nat):Int)+(k:Int)=((x.R.length+f.length+o.length+k:Nat):Int) by omega,Xe,UO]) N 0 [] aa aa rfl
 rw[show((0:Nat):Int)=0 from rfl,W0,Uk]at Y;rw[show((0:Nat):Int)=0 from rfl]at Z;rw[w1,w2,t1,t2,ek,Xc (by grind),Xc (by grind),Xa,a1,Xa,Xa];rw[em,Oo,Xc (by grind[Wn]),Xc (by grind[Wn]),Xa];dsimp only;rw[b1,Xa,c1,Xa,Oo,Y,Xa];rw[Xc aa,Xc aa,Xc aa,Xc aa,show x.R.length+f.length-x.R.length=f.length by omega,a2,Xa,Xc aa,show x.R.length+f.length+o.length-(x.R.length+f.length)=o.length by omega,b2,Xa,c2,Xa,Z,Xa];refine⟨_,?_,rfl⟩;rw[show(!(((0:Int)==0)&&(((0:Int)==0)&&((0:Int)==0))))=false from rfl,Wa,List.take_zero,Uk,Wl,UN aa,If]
end
section
variable {N:Nat}
def XpG{t:U0}{m:Int}(h0:0<=t.at_)(o:t.at_<=m)(q:m<=1000000){a:Int}(s:a<=1000000000):Ok (Qaa N t a) λr=>0<=r.1/\(1<=a->r.1<a)/\0<=r.2.at_/\r.2.at_<=m+1:=by
 refine Wp (λ_=>Wg ⟨ab,λh=>aa,h0,by grind⟩) λf=>?_;have f:=WP f;have rest:∀x:Int,Ok (grd (a≠0) <| grd (a≠0) <| some (((wI ((x.tmod a)+a)).tmod a),(U0.mk t.L (wI (t.at_+1))))) λr=>0<=r.1/\(1<=a->r.1<a)/\0<=r.2.at_/\r.2.at_<=m+1:=by
  intro x;have u:=IV x (show 0<a by omega);have b2:-a<x.tmod a:=by have:=IV (-x) (show 0<a by omega);rw[Int.neg_tmod]at this;omega
  have e:=Xd (n:=x.tmod a+a) aa aa;have g:=Xd (n:=t.at_+1) aa aa;have j:=IV (x.tmod a+a) (show 0<a by omega);have k:=Oi a (show 0<=x.tmod a+a by omega);refine WU aa (WU aa (Wg ?_));simp only[e,g];exact⟨k,λ_=>j,aa,aa⟩
 refine Il (Wp (λh=>Ok.get h0 (Ww h) λp _=>rest p) λ_=>rest _)
def TA(m:Int)(t:U0):Prop:=0<=t.at_/\t.at_<=m
def nxp{t:U0}{m a:Int}(h:TA m t)(g:m<=1000000)(e:1<=a)(j:a<=1000000000):Ok (Qaa N t a) λr=>0<=r.1/\r.1<a/\TA (m+1) r.2:=(XpG h.1 h.2 g j).mono λr f=>⟨f.1,f.2.1 e,f.2.2⟩
def TA.le{t:U0}{m n:Int}(h:TA m t)(e:m<=n):TA n t:=⟨h.1,by have:=h.2;omega⟩
def Xal{p:Iz}{t:U0}{m:Int}(hw:1<=p.w.length)(D:p.w.length<=1000)(h:TA m t)(G:m+5<=1000000):Ok (Qb5 N p t) λr=>TA (m+3) r.2:=by
 have k2:∀(k:U0) (o:Bool),TA (m+1) k->Ok (bif o then(bnd (Qaa N k (p.w.length:Int)) λv=>bnd (Xb p.w v.1) λq=>some (q,v.2))else bnd (Qaa N k (if 6<(p.w.length:Int)then 6 else(p.w.length:Int))) λg=>bnd (Xb p.w (wI ((wI ((p.w.length:Int)-1))-g.1))) λs=>some (s,g.2)) λr=>TA (m+3) r.2:=by
  intro k o A;refine Wp (λ_=>Uc (nxp A aa aa aa) λy e=>Ok.get e.1 e.2.1 λ_ _=>Wg (e.2.2.le aa)) λ_=>?_;refine Uc (nxp A aa aa aa) λy e=>?_;have H:y.1<(p.w.length:Int):=by have:=e.2.1;split at this<;>omega
  have h0:=e.1;rw[Xd (n:=(p.w.length:Int)-1) aa aa,Xd (n:=(p.w.length:Int)-1-y.1) aa aa];exact Ok.get aa aa λ_ _=>Wg (e.2.2.le aa)
 refine Uc (nxp h aa aa aa) λy e=>Wp (λ_=>Uc (nxp e.2.2 aa aa aa) λz f=>Ok.get f.1 f.2.1 λ_ _=>Wg (f.2.2.le aa)) λ_=>Wp (λ_=>?_) λ_=>?_
 .exact Uc (nxp e.2.2 aa aa aa) λz f=>Ok.get f.1 f.2.1 λ_ _=>Uc (nxp f.2.2 aa aa aa) λu E=>Wg (E.2.2.le aa)
 refine Og (λo=>k2 _ o e.2.2) λI B=>Ua (B _) (Og (λJ=>B _) λj h=>Ua (h _) (h _))
def XjK{p:Iz}{t:U0}{m:Int}(hw:1<=p.w.length)(f:p.w.length<=1000)(h:TA m t)(S:m+30<=1000000):Ok (Qdx N p t) λr=>TA (m+20) r.2:=by
 refine Uc (nxp h aa aa aa) λT g=>Ok.get g.1 g.2.1 λB _=>Wp (λ_=>?_) λ_=>?_
 .refine Uc (nxp g.2.2 aa aa aa) λo A=>?_;have e:=Xw A.1 aa;refine WU aa ?_;have U:1<=ZN .i64 1 (wU o.1)/\ZN .i64 1 (wU o.1)<=1000:=by rw[e];have a:=A.1;have b:=A.2.1;have c:o.1=0\/o.1=1\/o.1=2\/o.1=3:=aa;rcases c with c|c|c|c<;>rw[c]<;>decide
  exact Uc (nxp A.2.2 aa aa aa) λV I=>Wg (I.2.2.le aa)
 refine Og (λW=>Wp (λ_=>?_) λ_=>Wp (λ_=>?_) λ_=>?_) λj h=>Ua (h _) (h _)
 .exact Uc (nxp g.2.2 aa aa aa) λY J=>Uc (nxp J.2.2 aa aa aa) λZ H=>Ua (Uc (nxp H.2.2 aa aa aa) λy8 K=>Wg (K.2.2.le aa)) (Wg (H.2.2.le aa))
 .exact Uc (nxp g.2.2 aa aa aa) λy9 M=>Wg (M.2.2.le aa)
 refine Uc (Xal hw f g.2.2 aa) λq D=>Uc (nxp D aa aa aa) λE G=>Uc (nxp G.2.2 aa aa aa) λO s=>?_;have k:∀(l:List Int) (at_ c:Int),TA (m+12) ⟨l,at_⟩->Ok (bif (B==10)then(bnd (Qb5 N p (U0.mk l at_)) λu=>
  some ((IJ.mk B q.1 u.1 c),u.2))
 else some ((IJ.mk B q.1 (wU E.1) c),(U0.mk l at_))) λr=>TA (m+20) r.2:=λl at_ c ht=>
  Ua (Uc (Xal hw f ht aa) λy v=>Wg (v.le aa)) (Wg (ht.le aa))
 refine Il (Ua (Uc (Xal hw f s.2.2 aa) λy v=>k _ _ _ (v.le aa)) (Uc (nxp s.2.2 aa aa aa) λR z=>Ua (Uc (Xal hw f z.2.2 aa) λy v=>k _ _ _ (v.le aa)) (k _ _ _ (z.2.2.le aa))))
structure PB(k:Nat)(p:Iz):Prop where
 env:EB p.N
 wor:WB k p.z
 ty:XaH p
 w1:1<=p.w.length
 w2:p.w.length<=k+1
def Xrp(a b:WJ)(op v e:Int):Ok (Qfw N a b op v e) λ_=>True:=by
 have k2:∀x y:Bool,Ok (bif (op==19)then(bif (e==0)then some (Ov.mk x y v)
  else some (Ov.mk x y 0))
  else some (Ov.mk x y 0)) λ_=>True:=λx y=>Ua (Ua (Wg trivial) (Wg trivial)) (Wg trivial)
 refine Og (λx=>Og (λy=>k2 x y) λj h=>Ua (h _) (h _)) λj h=>Ua (h _) (Ua (h _) (h _))
def XsO(hN:NB N){k:Nat}{p:Iz}(hp:PB k p)(o:k+1<=900){d:IJ}(j:JN d):Ok (Qco N p d) λr=>PB (k+1) r.1:=by
 have ty:=λr (e:Qco N p d=some r)=>Ql4 (N:=N) hp.ty j r e;have main:Ok (Qco N p d) λr=>EB r.1.N/\WB (k+1) r.1.z/\1<=r.1.w.length/\r.1.w.length<=k+1+1:=by
  have w1:=hp.w1;have w2:=hp.w2;have up:=hp.wor.up o;rw[Qco];refine Wp (λ_=>?_) λ_=>?_
  .refine Uc (JH hN hp.env) λB v=>Il (Ua (Uc (Xcj hN hp.wor hp.ty.2.1) λD y=>Wg ⟨v,y.up o,w1,IG w2⟩) (Wg ⟨hp.env,up,w1,IG w2⟩))
  refine WI (XgX hN hp.env _ _ _ _) λf A g=>Uc (Xrp _ _ _ _ _) λq _=>Uc (XmG hN hp.wor o hp.ty.2.1 d.Op j.1 j.2.1 j.2.2 q) λs u=>?_;have k2:∀w:WX,WB (k+1) w->Ok (α:=Iz×Int×Int) (bif (f.2.2==0)then(bif (f.2.1 != 0)then(grd (p.w.length*8<=140737488355328) <| grd ((p.w.length+1)*8<=140737488355328) <| some ((Iz.mk f.1 w (p.w++[f.2.1])),f.2.1,f.2.2))else some ((Iz.mk f.1 w p.w),f.2.1,f.2.2))else some ((Iz.mk p.N w p.w),f.2.1,f.2.2)) λr=>EB r.1.N/\WB (k+1) r.1.z/\1<=r.1.w.length/\r.1.w.length<=k+1+1:=by
   intro w hw;refine Ua (Ua (WU aa (WU aa (Wg ⟨g,hw,?_,?_⟩))) (Wg ⟨g,hw,w1,by grind⟩)) (Wg ⟨hp.env,hw,w1,by grind⟩)
   .simp
   simp_all
  exact Il (Ua (k2 s.1 u) (k2 p.z up))
 have⟨r,e,h⟩:=main;exact⟨r,e,h.1,h.2.1,(ty r e).1,h.2.2.1,h.2.2.2⟩
end
section
variable {N:Nat}
def XkQ{t:U0}{m:Int}(h:TA m t)(g:m+5<=1000000):Ok (Qf7 N t) λr=>TA (m+2) r.2:=by exact Uc (nxp h aa aa aa) λy e=>Ok.get e.1 e.2.1 λ_ _=>Uc (nxp e.2.2 aa aa aa) λz f=>Ok.get f.1 f.2.1 λ_ _=>Wg (f.2.2.le aa)
def Xnh(c:WW):Ok (QfF N c) λr=>EB r.1:=by
 rw[QfF,QgZ,Zk,Xa];refine WI (Q:=λr:Wm×Int=>HB r.1) ?_ λy _ g=>Wg ⟨g,ZR,Xdi,Xdi,ab,ab⟩;refine Wp (λ_=>Wg Ko) λf=>?_;have f:X8 c=true:=by simpa using f
 have h:=Xo.1 f;have j:=XZ f (i:=0) aa aa;have e:=Xd (n:=c.p*c.W) aa aa;refine WU aa (WU aa (Wg ⟨?_,?_⟩))
 .rw[WV,e];omega
 grind
def Xni(c:WW):Ok (Qg0 N c) λr=>WB 0 r.1:=by
 rw[Qg0,Zk,Xa];have z:∀c:WW,WB 0 ⟨c,[],zL,zT,zT,[],[]⟩:=λc=>⟨aa,ab,λx e=>by simp_all,ZR,by simp[zT],by simp[zT],ab,ab⟩
 exact Ua (Wg (z _)) (Wg (z _))
def Xnj{t:U0}{m:Int}(h:TA m t)(o:m+5<=1000000):Ok (Qcl N t) λr=>PB 0 r.1/\TA (m+3) r.2:=by
 have main:Ok (Qcl N t) λr=>EB r.1.N/\WB 0 r.1.z/\1<=r.1.w.length/\r.1.w.length<=1/\TA (m+3) r.2:=by rw[Qcl];refine Uc (XkQ h o) λq j=>Uc (Xnh _) λs g=>Uc (Xni _) λu f=>Uc (nxp j aa aa aa) λv k=>Wg ⟨⟨g.heap,⟨g.loc.1,ab,g.loc.2.2⟩,g.glo,g.wea,g.pins,g.roots⟩,⟨f.kk,f.things,f.fields,⟨f.loc.1,ab,f.loc.2.2⟩,f.gloK,f.weaK,f.marksK,f.rootsK⟩,ab,ab,k.2.2.le aa⟩
 have⟨r,e,j,g,f,k,p⟩:=main;exact⟨r,e,⟨j,g,QjW r e,f,k⟩,p⟩
end
section
variable {N:Nat}
def JR{α β:Type}{L:Nat}{F:Nat->Int->Option (Ex α β)}{u:β}(g:∀n k,k<L->F (n+1) (k:Int)=F n ((k+1:Nat):Int))(f:∀n,F (n+1) (L:Int)=some (.nxt u)){n:Nat}(o:L<n):F n 0=some (.nxt u):=by have⟨e,q,_,e3⟩:=JJ (p:=λ_=>False) (Q:=λ_=>True) (u:=u) (λn k _ h=>h.elim) (λn k j _=>g n k j) f n 0 aa aa;simp_all
def Vp(n:Nat):((n:Int) != (n:Int))=false:=by simp
def Xrq{l:List Int}(f:l.length<=1300000)(hN:NB N):Qia N l l=some true:=by unfold NB at hN;rw[Qia,Vp,Wa,JR (F:=QeW N l l) (L:=l.length) (u:=()) (λn k e=>by rw[QeW,Wd aa,Wb,Xe,Wc e,Xa,Xa,show(l[k] != l[k])=false by simp,Wa,Xg aa]) (λn=>by rw[QeW,Wh aa,Wa]) aa,Xa,Xp]
def Xrr{h:Wm}(hb:HB h)(hN:NB N):Qh7 N h h=some true:=by
 unfold NB at hN;have f:=hb.1;have g:=hb.2;have j:QfR N h.p h.p=some true:=by rw[QfR,Vp,Wa,JR (F:=Qcr N h.p h.p) (L:=h.p.length) (u:=()) (λn k e=>by rw[Qcr,Wd aa,Wb,Xe,Wc e,Xa,Xa];simp only[beq_self_eq_true,II,Wi,Wa];rw[Xg aa]) (λn=>by rw[Qcr,Wh aa,Wa]) aa,Xa,Xp]
 rw[Qh7];simp only[beq_self_eq_true,II,Wi,Wa,bne_self_eq_false,j,Xa];rw[JR (F:=QeQ N h h) (L:=h.w.length) (u:=()) (λn k e=>by rw[QeQ,Wd aa,Wb,Xe,Wc e,Xa,Xa,show(h.w[k] != h.w[k])=false by simp,Wa,Xg aa]) (λn=>by rw[QeQ,Wh aa,Wa]) aa,Xa,Xp]
def XkR(x:WJ):Ok (QhH N x) λb=>b=true->EB x:=by
 refine WI (Q:=λb=>b=true->HB x.h) ?_ λy _ f=>?_
 .refine Wp (λh=>Wg λe=>?_) λ_=>Wg λh=>by grind
  have a:=Ww h;have b:=Ww e;exact⟨aa,aa⟩
 refine Wp (λh0=>Wp (λg=>Wp (λe=>Wp (λj=>Wp (λk=>Wp (λo=>Wp (λp=>Wg λq=>?_) λ_=>Wg λh=>by grind) λ_=>Wg λh=>by grind) λ_=>Wg λh=>by grind) λ_=>Wg λh=>by grind) λ_=>Wg λh=>by grind) λ_=>Wg λh=>by grind) λ_=>Wg λh=>by grind
 have r:=Ww g;have s:=Ww e;have u:=Ww j;have v:=Ww k;have w:=Ww o;have z:=Ww p;have A:=Ww q;exact⟨f h0,⟨aa,aa,aa⟩,by unfold TB;omega,by unfold TB;omega,aa,aa⟩
end
end Go.Sx

namespace Go.Sx
section
variable {N:Nat}
def KL(h e:Wm):Prop:=e.w.length=h.w.length/\e.p.length=h.p.length
def Xnk(hN:NB N){h:Wm}(hb:HB h)(a:Int)(d:WC):Ok (Qbw N h a d) λr=>r.2=0->KL h r.1:=by
 have g:=hN;unfold NB at g;rw[Qbw,KX];have⟨b,eb⟩:=Zu (N:=N) hN hb;rw[Xa,eb,Xa];refine Wp (λ_=>Wg λe=>aa) λ_=>Wp (λ_=>Wg λe=>aa) λp=>?_;have j:XL d=true:=by
  cases j:XL d with
  |true=>rfl
  |false=>simp_all
 have hd:=XO j;refine WU aa (WU aa ?_);rw[ZQ (by unfold BIG;have:=hb.1;omega) (by unfold BIG;grind) (by grind),Xa];have k:(if XL d=true then(Vx d,(0:Int))else(0,1))=(Vx d,0):=Wq j;rw[k];by_cases f:Yp h.w a ([(Vx d,(0:Int)).fst]++List.replicate d.n.toNat (0:Int)).length
 .rw[Wq f];refine Wp (λo=>absurd o ab) λ_=>Wg λ_=>⟨?_,rfl⟩
  unfold Yp at f;exact ZW (by unfold ix;omega)
 rw[Wk f];exact Wp (λ_=>Wg λe=>aa) λo=>absurd o ab
def XjL(hN:NB N){h:Wm}(hb:HB h){d:WC}(tm:tW d.Map):Ok (Qch N h d) λr=>r.2.2=0->KL h r.1:=by
 have A:1000000<N:=by unfold NB at hN;omega
 have hl:=hb.2;have⟨r,g,hr⟩:=Xcz hN hb d;refine⟨r,g,λh0=>?_⟩;have bad:∀{x y e:_},some ((x,y,e):Wm×Int×Int)=some r->e≠0->False:=λh he=>by grind
 rw[Qch]at g;have⟨b,eb⟩:=Zu (N:=N) hN hb;rw[eb,Xa]at g;cases b with
 |false=>grind
 |true=>
 rw[Wi,Wa,Xbw A,Xa]at g;cases J:XL d with
 |false=>grind
 |true=>
 cases K:(d.k != 0)with
 |false=>grind
 |true=>
 have hp:=Yl hN hb eb;have hcv:=Xo.1 hp.conf;have hvb:=XO J;have hpages:=hp.pages;have hs:XF d=d.n+1:=by unfold XF;rw[Wq J]
 have hnr:=K0 h.c (XF d);by_cases M:XD h.c (XF d) = -1
 .grind
 have⟨k,z⟩:∃k:Nat,XD h.c (XF d)=(k:Int):=⟨(XD h.c (XF d)).toNat,aa⟩
 have⟨u,V,hu⟩:=VO (N:=N) (ps:=h.p) aa aa;have⟨f1,B,_⟩:=Zl (N:=N) (ps:=h.p) 1 aa aa;have e1:(XD h.c (XF d) != -1)=true:=by simpa using M
 rw[J,K,e1]at g;simp only[II,Wi,Wa,X5,Xa,ZG (show 10<=N by omega),Xb3 hN hb hp (n:=XF d) ⟨aa,aa⟩ V B,Xv]at g;have fin:∀(q:Wm) (a:Int),HB q->Qac N q=some true->Yp q.w a (d.n.toNat+1)->KL h q->(bnd (Qbw N q a d) λO=>some (O.1,a,0))=some r->KL h r.1:=by intro q a D s R E e;obtain⟨S,Y⟩:=Xb2 hN D s J R;have k2:=(Xnk hN D a d).get_eq Y rfl;rw[Y,Xa]at e;cases e;exact⟨k2.1.trans E.1,k2.2.trans E.2⟩
 by_cases T:k=0
 .subst T;rw[z]at g;have hn:1<=XF d/\XF d<=h.c.W:=by
   have G:1<=XF d:=aa;refine⟨G,?_⟩;unfold XD at z;rw[Wq ⟨hp.conf,G⟩]at z;by_cases hle:XF d<=h.c.W / 4
   .omega
   omega
  cases H:Xhh N h (XF d) u f1 with
  |none=>grind
  |some ja=>have⟨j,a⟩:=ja;rw[H]at g;have⟨q1,q2,q3,q4⟩:=Xm3 hN hb eb hn B H;have hm:=XZ hp.conf (i:=(j:Int)) aa aa;have hw:=hp.words;refine fin (JL h (XF d) j a) (Xj h.c (j:Int) a) (XdL hb _ j a) q4 ?_ ⟨rfl,by show(h.p.set j _).length=_;rw[WO]⟩ g;unfold Yp Xj;show _/\_<=4096+(h.w.length:Int);omega
 have v:=Xfp hp.conf (w:=XF d) aa;have⟨f,ef,hf⟩:=Zl (N:=N) (ps:=h.p) (k:Int) aa aa;rw[z]at g v;rw[Wd (show(k:Int)>0 by omega),Wb,Qe6,ef,Xa]at g;by_cases G:f<0
 .rw[Wd G,Wb,Xa]at g;exact(bad g ae).elim
 rw[Wh G,Wa,V,XbL]at g;simp only[Xa]at g;rw[Xd (n:=u+(k:Int)) aa aa]at g;by_cases S:u+(k:Int)>KZ h.c
 .rw[Wd S,Wb,Xa]at g;exact(bad g ae).elim
 have o:RunOK h.p f (k:Int):=by
  rcases hf with q|q
  .omega
  exact q
 obtain⟨j,rfl⟩:∃j:Nat,f=(j:Int):=⟨f.toNat,aa⟩
 have Z:=o.2.2.1;rw[Wh S,Wa,Xhj A hl hp aa aa z o]at g;simp only[Xa]at g;have s:=XdN hN hb eb aa o z;have U:=Xhk hb (XF d) (j:=j) (k:=k) aa aa;have hm:=XZ hp.conf (i:=(j:Int)) aa aa;have hw:=hp.words;have I:((j:Int)+(k:Int))*h.c.W<=h.c.p*h.c.W:=Ut aa aa;rw[IF]at I;have ea:wU (wI (4096+wI ((j:Int)*h.c.W)))=Xj h.c (j:Int) 0:=by unfold Xj;rw[Xd (n:=(j:Int)*h.c.W) aa aa,Xd (n:=4096+(j:Int)*h.c.W) aa aa,Xw aa aa];omega
 rw[ea]at g;refine fin (Xb4 h (XF d) j k) (Xj h.c (j:Int) 0) U s ?_ ⟨rfl,by
  exact VZ ah⟩ g
 unfold Yp Xj;show _/\_<=4096+(h.w.length:Int);omega
end
section
variable {N:Nat}
def KL.refl(h:Wm):KL h h:=⟨rfl,rfl⟩
def KL.trans{a b c:Wm}(h:KL a b)(k:KL b c):KL a c:=⟨k.1.trans h.1,k.2.trans h.2⟩
def Xhs(hN:NB N){h:Wm}(hb:HB h){a i v:Int}{r:Int×Int}(j:Qbz N h a i=some r)(h0:r.2=0):∃h',Qbr N h a i v=some (h',0)/\KL h h':=by
 have g:=hN;unfold NB at g;have⟨hp,e,o,p⟩:=(Xda hN hb a i).get_eq j h0;have q:=e.rng;have f:=K2 hp e;have s:=XZ hp.conf (i:=0) aa (by have:=Xo.1 hp.conf;omega);have hw:=hp.words;unfold szA at f;have k:wU (wU (a+1)+wU i)=a+1+i:=by rw[Xw (n:=a+1) aa aa,Xw (n:=i) aa aa,Xw aa aa]
 rw[Qbr,j,Xa,show(r.2 != 0)=false by simp_all,Wa,k,KF (by unfold BIG;omega) aa,Wq (by unfold inW;omega),Xa];exact⟨_,rfl,ab,rfl⟩
end
section
variable {N:Nat}
def Xht(hN:NB N){h:Wm}(hb:HB h){l:List Int}(e:Qbu N h l=some true):Qbt N h=some true:=by have⟨g,eg,_⟩:=KA hN hb;rw[Qbu,eg,Xa]at e;grind
def XiF(hN:NB N){h:Wm}(hb:HB h)(ep:Qac N h=some true)(eg:Qbt N h=some true):Ok (QdI N h) λr=>∃l,OP N h l r.1:=by have e:=hN;unfold NB at e;have j:=hb.2;have hp:=Yl hN hb ep;have k:=(KA hN hb).get_eq eg rfl;rw[QdI,ep,Xa,eg,Xa,Wi,Wa,Wa];refine WI (Z0 hN hb) λy _ g=>WU aa ?_;refine WI (Xbg h y aa N 0 h.p aa aa aa (SameK.refl _)) λo _ f=>Wg ?_;exact⟨y.1,⟨hb,λ_=>k,λ_=>hp,g.1⟩,Xdd hb hp g.1 rfl rfl rfl f (.refl _) rfl rfl,rfl,.inl hp⟩
def XpH(hN:NB N){h0:Wm}{w:WE}(hb:HB h0)(hp:Uv h0\/h0.p=[])(j:w.h.c=h0.c)(hw:w.h.w.length=h0.w.length)(e:w.h.p.length=h0.p.length):Ok (QeZ N w) λr=>KL h0 r.h/\r.t=w.t:=by have f:=hN;unfold NB at f;have k:=hb.1;have o:=hb.2;exact WU aa (WU aa (WI (Xcx hN hb hp j N 0 _ _ _ aa aa aa hw e) λr _ g=>Wg ⟨⟨g.1,g.2⟩,rfl⟩))
def Qrl(hN:NB N){h:Wm}(hb:HB h){rs ws:List Int}(S:rs.length<=1000000)(hw:ws.length<=1000000):Ok (Qdi N h rs ws) λr=>r.2.2.2.2=0->KL h r.1:=by
 have A:=hN;unfold NB at A;have bad:∀(a:Wm) (b c:List Int) (d:WQ) (e:Int),e≠0->(a,b,c,d,e).2.2.2.2=0->KL h (a,b,c,d,e).1:=λ_ _ _ _ e u U=>absurd U u;refine WI (YM (N:=N) aa hb.1 hb.2) λb ep _=>Wp (λ_=>Wg (bad _ _ _ _ 1 ae)) λB=>Il ?_;have D:b=true:=by simpa using B
 subst D;refine WI (J5 hN hb S) λb2 V _=>Wp (λ_=>Wg (bad _ _ _ _ 19 ae)) λG=>?_;have v:b2=true:=by simpa using G
 subst v;have eg:=Xht hN hb V;refine WI (J5 hN hb hw) λb _ _=>Wp (λ_=>Wg (bad _ _ _ _ 19 ae)) λ_=>?_;refine WI (XiF hN hb ep eg) λy4 _ H=>?_;have⟨l,z⟩:=H;have w:=z.st;refine WI (XgN hN w S z.ci) λW _ I=>Wp (λu=>Wg (bad _ _ _ _ _ (by simp_all))) λu=>?_;have⟨Y,c2,c3⟩:=I (by simp_all);have Z:=z.sc;refine WI (Xmv hN w Y aa aa) λf _ J=>Wp (λu=>Wg (bad _ _ _ _ _ (by simp_all))) λu=>?_;have g:=J (by simp_all);refine WI (Xfu hN w ws hw W f g N 0 _ [] aa aa aa rfl) λM _ T=>?_;have d2:CI h l (WE.mk f.1.h f.1.o f.1.t f.1.q f.1.d (WQ.mk f.1.r.j f.1.r.K f.1.r.F f.1.r.E M.1 f.1.r.y)):=by obtain⟨O,s,k⟩:=g.obj;exact⟨g.conf,g.wlen,g.plen,g.spc,g.old,g.tk,g.tnd,g.knd,g.qnd,⟨O,s,⟨k.old,k.queue,k.fit,k.apart,k.taken,k.free⟩⟩⟩
 refine WI (Xje hN w d2) λy17 _ ⟨f1,f2,f3,f4,f5⟩=>?_;refine WI (XpH hN (h0:=h) w.hb z.pr f1 f2 f4) λR _ ⟨g1,g2⟩=>?_;refine Il (Wp (λht=>?_) λ_=>Wg λ_=>g1);have ht:0<(R.t.length:Int):=Ww ht;rw[g2]at ht⊢;rw[Xd aa aa];exact Ok.get aa aa λp _=>Wg λ_=>g1
end
section
variable {N:Nat}
def XdU{h:Wm}{a d:Int}:PT (Qcb N h a d) (KL h):=by exact WK (WD λ_=>WD λ_=>WD λ_=>We ⟨rfl,ab⟩)
def XiG{h:Wm}{pins:List Ux}{a:Int}:PT (QbL N h pins a) λr=>r.2.2=0->KL h r.1:=by
 refine WD λg=>Wj (We λe=>by grind) (Wj (We λe=>by grind) (WD λj=>Wj (We λe=>by grind) (WK (WD λk=>WD λo=>WD λp=>Wj ?_ ?_))))
 .exact WK (WK (WK (Wx XdU λy f=>We λ_=>f)))
 exact Wx XdU λy f=>We λ_=>f
def UH{α:Type}{P:α->Prop}{b:Bool}{x y:Option α}(e:b=true->PT x P)(f:b=false->PT y P):PT (bif b then x else y) P:=by grind
def XkS{h:Wm}{pins:List Ux}{a:Int}:PT (QdE N h pins a) λr=>r.2.2.2=0->KL h r.1:=by
 rw[QdE];simp only[Xv]
 repeat' first
  |(refine We λe=>?_;first|assumption|(exfalso;revert e;decide))
  |refine Wx XdU λy f=>?_
  |refine Wj ?_ ?_
  |refine WK ?_
  |refine WD λ_=>?_
end
section
variable {N:Nat}{x:WJ}
def Xhu{α:Type}{o:Option α}{P:α->Prop}(h:Ok o P):PT o P:=λr e=>h.get_eq e
def Xcm(hN:NB N)(f:EB x):PT (Qbq N x) λr=>r.2.2=0->KL x.h r.1.h:=by
 have j:=hN;unfold NB at j;have w:=f.roots;have y:=Zs f.loc;have z:=Yu x.g.e;have A:=Yu x.v.e;refine Wx (Xhu (Zt hN f)) λb k=>UH (λ_=>We λe=>?_) λhb=>?_
 .simp_all
 have k:=k (by simp_all);have o:=k.mat.len;refine Wx (Xhu (Xdp hN f)) λB D=>?_;rw[Yt f.wea aa,Xa];refine Wx (Xhu (Qrl hN f.heap aa aa)) λp q=>UH (λs=>We λe=>?_) λs=>?_
 .simp_all
 have u:KL x.h p.1:=q (by simp_all)
 repeat' first
  |exact We λ_=>u
  |refine WK ?_
  |refine WD λ_=>?_
end
section
variable {N:Nat}{x:WJ}
def XkT(hN:NB N)(g:EB x){d:WC}(j:tW d.Map):PT (Qca N x d) λr=>r.2.2=0->KL x.h r.1.h:=by
 rw[Qca];simp only[Xv];refine WD λb=>UH (λ_=>We λe=>?_) λ_=>?_
 .simp_all
 refine Wx (Xhu (XjL hN g.heap j)) λo u=>UH (λ_=>?_) λ_=>?_
 .refine Wx (Q:=λy:WJ×WQ×Int=>EB y.1/\(y.2.2=0->KL x.h y.1.h)) (λr e=>⟨(JH hN g).get_eq e,Xcm hN g r e⟩) λv k=>UH (λf=>We λe=>?_) λf=>?_
  .simp_all
  have p:=k.2 (by simp_all);refine Wx (Xhu (XjL hN k.1.heap j)) λw q=>UH (λf=>We λe=>?_) λf=>We λ_=>?_
  .simp_all
  exact p.trans (q (by simp_all))
 refine UH (λf=>We λe=>?_) λf=>We λ_=>?_
 .have s:o.2.2=0:=e;rw[s]at f;cases f
 simp_all
end
section
variable {N:Nat}{x:WJ}
structure SM(x:WJ):Prop where
 sc:x.l.x.length<=1000
 glo:x.g.e.length<=1000
 wea:x.v.e.length<=1000
 pins:x.P.length<=1000
 roots:x.R.length<=1000
def KE(x y:WJ):Prop:=KL x.h y.h/\(SM x->SM y)
def KE.refl(x:WJ):KE x x:=⟨KL.refl _,id⟩
def KE.trans{x y z:WJ}(h:KE x y)(k:KE y z):KE x z:=⟨h.1.trans k.1,λs=>k.2 (h.2 s)⟩
def KQ(x:WJ)(r:WJ×Int×Int):Prop:=r.2.2=0->KE x r.1
def YU{e:Int}(h:(e != 0)=true):PT (bnd (Qae N e) λy=>some (y.1,y.2.1,y.2.2)) (KQ x):=by rw[Qae,Xa];exact We λf=>by simp_all
def Xby{o:Option (WJ×Int×Int)}(h:PT o (KQ x)):PT (bnd o λy=>some (y.1,y.2.1,y.2.2)) (KQ x):=Wx h λy e=>We e
def XiH{a b:Int}:KQ x (x,a,b):=λ_=>KE.refl _
def zz{e:Int}(h:(e != 0)=false):e=0:=by simp_all
def OW{α:Type}{P:α->Prop}{p:Prop}[Decidable p]{o:Option α}(k:p->PT o P):PT (Sx.grd p o) P:=by
 unfold Sx.grd;split
 .simp_all
 exact IM
def Xrs(a:Wo)(v:Int):(Yn a v).1.x.length<=a.x.length:=by unfold Yn;grind[zL]
def Xrt(a:Wo)(i g:Int):(Vn a i g).1.x.length<=a.x.length:=by unfold Vn;grind[zL]
def XpI(a:Wo)(c:Int):(KB a c).1.x.length<=1000:=by
 unfold KB;cases e:Y0 a
 .simp[zL]
 have:=(YW.1 e).sc;grind[zL]
def Xru(a:Wo):(ZC a).1.x.length<=a.x.length:=by unfold ZC;grind[zL]
def Xnl(t:Ws)(i g:Int):(KR t i g).1.e.length<=t.e.length:=by unfold KR;grind[zT]
def Xnm{t:Ws}(v:Int)(h:t.e.length<=1000):(YG t v).1.e.length<=1000:=Xdk (k:=0) h v
def XfO(hN:NB N)(f:EB x){v:Int}:PT (Qa7 N x v) (KQ x):=by have e:=hN;unfold NB at e;rw[Qa7,K3 f.loc aa,Xa];exact UH (λ_=>We XiH) λ_=>UH (λh=>YU h) λ_=>WD λ_=>We λ_=>⟨KL.refl _,λs=>⟨Uq (Xrs _ _) s.sc,s.glo,s.wea,s.pins,s.roots⟩⟩
def XfP(rs:List Int):∀(n:Nat) (c k:Int) (v:List WT),PT (Qbp N rs n c k v) λr=>r.length=v.length
 |0,c,k,v=>IM
 |n+1,c,k,v=>by refine WK (Wj (WD λ_=>Wj (WD λ_=>WD λ_=>?_) (XfP rs n _ _ v)) (We rfl));exactλr e=>(XfP rs n _ _ _ r e).trans (WO ..)
def XjM{t:Ws}{rs:List Int}:PT (QcC N t rs) λr=>r.1.e.length<=t.e.length:=by exact WD λ_=>Wj (We (UP _)) (WD λ_=>WK (Wj (We (UP _)) (WK (Wx (XfP rs N _ _ _) λy f=>We (Nat.le_of_eq f)))))
def XfQ(a:Wo)(rs:List Int):∀(n:Nat) (c k:Int) (v:List UE),PT (Qbo N a rs n c k v) (tE (λr=>r.1.x.length<=a.x.length) λ_=>True)
 |0,c,k,v=>IM
 |n+1,c,k,v=>by exact WK (Wj (WD λ_=>Wj (XfQ a rs n _ _ _) (WD λ_=>Wj (We (UP _)) (WD λ_=>WD λ_=>XfQ a rs n _ _ _))) (We trivial))
def XpJ{a:Wo}{rs:List Int}:PT (Qen N a rs) λr=>r.1.x.length<=a.x.length:=by exact WD λ_=>Wj (We (UP _)) (WD λ_=>Wj (We (UP _)) (WK (Oy (XfQ a rs N _ _ _) (λr e=>We e) λv _=>We (Uj _))))
def Xnn(x:WJ)(e:Wm×List Int×List Int×WQ×Int)(f g:List Int)(h:Wo×Int)(j o:Ws×Int)(hp:x.P.length<=1000000):∀(n:Nat) (k:Int) (v:List Ux),k=v.length->k<=x.P.length->PT (Qa3 N x e f g h j o n k v) λr=>r.length<=x.P.length
 |0,k,v,_,_=>IM
 |n+1,k,v,s,q=>by refine UH (λp=>WD λ_=>WD λ_=>WK ?_) λ_=>We aa;have p:=Ww p;rw[Xd (n:=k+1) aa aa];exact Xnn x e f g h j o hp n _ _ (by simp_all) aa
def Xhv(hN:NB N)(g:EB x):PT (Qbq N x) λr=>r.2.2=0->KE x r.1:=by
 have main:PT (Qbq N x) λr=>SM x->SM r.1:=by
  have z:SM x->SM ⟨zHp,⟨[],[],[]⟩,⟨[]⟩,⟨[]⟩,[],[]⟩:=λ_=>⟨ab,ab,ab,ab,ab⟩
  rw[Qbq];refine WD λb=>Wj (We z) (WD λA=>WD λB=>WD λh=>Wj (We z) (WD λj=>WD λk=>WK (WK (WK (WK (Wx XpJ λo p=>WK (Wx XjM λq u=>Wx XjM λv w=>Wx (Xnn x h j k o q v g.pins N 0 [] rfl aa) λy f=>We λs=>⟨Uq p s.sc,Uq u s.glo,Uq w s.wea,Uq f s.pins,?_⟩)))))));have:=s.roots;show(List.take _ _).length<=_;rw[Wl];omega
 exactλr e h0=>⟨Xcm hN g r e h0,main r e⟩
def Xrv(hN:NB N)(g:EB x){d:WC}(j:tW d.Map):PT (Qca N x d) λr=>r.2.2=0->KE x r.1:=by
 have main:PT (Qca N x d) λr=>SM x->SM r.1:=by
  have z:SM x->SM ⟨zHp,⟨[],[],[]⟩,⟨[]⟩,⟨[]⟩,[],[]⟩:=λ_=>⟨ab,ab,ab,ab,ab⟩
  rw[Qca];simp only[Xv];refine WD λb=>Wj (We z) (WD λo=>Wj (Wx (Xhv hN g) λp k=>UH (λ_=>We z) λh=>WD λq=>Wj (We z) (We λs=>?_)) (Wj (We z) (We λs=>⟨s.sc,s.glo,s.wea,s.pins,s.roots⟩)));have f:=(k (zz h)).2 s;exact⟨f.sc,f.glo,f.wea,f.pins,f.roots⟩
 exactλr e h0=>⟨XkT hN g j r e h0,main r e⟩
def XeX(hN:NB N){h:Wm}(hb:HB h){l:List Ux}(g:l.length<=1000000):PT (Qbk N h l) λb=>b=true->l.length<=64:=λb e f=>((Jt hN hb g).get_eq e f).len
def Xno(hN:NB N)(f:EB x){a:Int}:PT (QbL N x.h x.P a) λr=>r.2.2=0->KL x.h r.1/\r.2.1.length<=1000:=by
 have main:PT (QbL N x.h x.P a) λr=>r.2.1.length<=1000:=by
  rw[QbL];refine Wx (XeX hN f.heap f.pins) λb hb=>UH (λ_=>We (UP _)) λg=>?_;have j:=hb (by simp_all);refine Wj (We (UP _)) (WD λk=>Wj (We (UP _)) (WK (WD λ_=>WD λ_=>WD λ_=>Wj (WK (WK (OW λo=>WD λ_=>We ?_))) (WD λ_=>We ?_))))
  .grind
  grind
 exactλr e h0=>⟨XiG r e h0,main r e⟩
def XuF(hN:NB N)(f:EB x){a:Int}:PT (QdE N x.h x.P a) λr=>r.2.2.2=0->KL x.h r.1/\r.2.1.length<=1000:=by
 have main:PT (QdE N x.h x.P a) λr=>r.2.1.length<=1000:=by
  rw[QdE];simp only[Xv];refine Wx (XeX hN f.heap f.pins) λb hb=>UH (λ_=>We (UP _)) λg=>?_;have j:=hb (by simp_all);have k:∀i p,(x.P.set i p).length<=1000:=λi p=>by grind
  have o:∀p,(x.P++[p]).length<=1000:=λp=>by grind
  repeat' first
   |exact We (UP _)
   |exact We (k _ _)
   |exact We (o _)
   |refine Wj ?_ ?_
   |refine WK ?_
   |refine WD λ_=>?_
 exactλr e h0=>⟨XkS r e h0,main r e⟩
def XpK(N:Nat)(h:Wm)(a:Int):PT (Qam N h a) λr=>r.2≠0->r.1.n=0:=by
 rw[Qam];simp only[Xv]
 repeat' first
  |(refine We λe=>?_;first|rfl|(exact absurd rfl e))
  |refine Wj ?_ ?_
  |refine WK ?_
  |refine WD λ_=>?_
def Xnp(N:Nat)(h:Wm)(a:Int):PT (QbU N h a) λr=>r.2≠0->r.1.n=0:=by refine WD λb=>Wj (We λ_=>rfl) (Wj (We λ_=>rfl) (Wx (XpK N h a) λy e=>Wj (Wj (We λ_=>rfl) (We e)) (We e)))
def Xrw(hN:NB N){h:Wm}(hb:HB h){a i:Int}{y:WC×Int}(g:QbU N h a=some y)(h0:y.2=0)(k:0<=i)(o:i<y.1.n):∃v,Qbz N h a i=some (v,0):=by
 have p:=hN;have⟨hp,_,e,j,_⟩:=(XaJ hN hb a).get_eq g h0;rw[j]at o;have r:=e.rng;have f:=K2 hp e;have s:=XZ hp.conf (i:=0) aa (by have:=Xo.1 hp.conf;omega);have hd:=XO (ZY (wd h.w a));unfold szA at f;unfold hdA at *;have q:wU (wU (a+1)+wU i)=a+1+i:=by rw[Xw (n:=a+1) aa aa,Xw (n:=i) aa aa,Xw aa aa]
 rw[Qbz,g,Xa,show(y.2 != 0)=false by simpa using h0,Wa,Wh aa,Wa,j,Wh aa,Wa,q,YK (by unfold BIG;have:=hb.1;omega),Xa,Wq (by unfold inW;omega)];simp
def Xhw(hN:NB N)(hb:HB x.h){a b:Int}(p:tU b){c:Bool}:PT (Qcw N x a b c) λr=>r.2.2=0->∃v,Qbz N x.h r.1 r.2.1=some (v,0):=by
 refine WD λf=>UH (λu=>We λe=>?_) λ_=>?_
 .simp_all
 refine Wx (Q:=λy=>QbU N x.h f.1=some y) (λr e=>e) λg o=>UH (λ_=>We λe=>absurd e ae) λj=>WD λ_=>Wj (We λe=>absurd e ae) (We λ_=>?_);have j:=WP j;have⟨q,z⟩:=p;have k:g.2=0:=by
  by_cases k:g.2=0
  .omega
  have:=Xnp N _ _ _ o k;rw[this,Xw aa aa]at j;omega
 have⟨_,_,_,s,_⟩:=(XaJ hN hb f.1).get_eq o k;have hd:=XO (ZY (wd x.h.w f.1));have A:0<=g.1.n/\g.1.n<=255:=by rw[s];unfold hdA;omega
 rw[Xw aa aa]at j;show∃v,Qbz N x.h f.1 (wI b)=some (v,0);rw[Xd aa aa];exact Xrw hN hb o k q aa
def Xnq(hN:NB N)(f:EB x){op a b c:Int}(p:tU b):PT (Qcx N x op a b c) (KQ x):=by
 rw[Qcx];simp only[Xv];have main:∀y:Int×Int×Int,(y.2.2=0->∃v,Qbz N x.h y.1 y.2.1=some (v,0))->∀j,y.2.2=0->PT (α:=WJ×Int×Int) (bnd (Qbr N x.h y.1 y.2.1 j) λo=>some ((WJ.mk o.1 x.l x.g x.v x.P x.R),0,0)) (KQ x):=by intro y e j h0;obtain⟨v,ev⟩:=e h0;obtain⟨r,q,k⟩:=Xhs hN f.heap (v:=j) ev rfl;rw[q,Xa];exact We λ_=>⟨k,λs=>⟨s.sc,s.glo,s.wea,s.pins,s.roots⟩⟩
 refine UH (λ_=>Wx (Xhw hN f.heap p) λy e=>?_) λ_=>Wx (Xhw hN f.heap p) λy e=>?_<;>
 exact UH (λh=>YU h) λh0=>WD λu=>UH (λ_=>We XiH) λ_=>UH (λ_=>Xby (XfO hN f)) λ_=>UH (λ_=>WD λw=>UH (λh=>YU h) λ_=>main y e _ (zz h0)) λ_=>main y e _ (zz h0)
def XkU(hN:NB N)(f:EB x){op a b:Int}(j:tU a)(hb:tU b):PT (Qcm N x op a b) (KQ x):=by rw[Qcm];simp only[Xv];refine UH (λ_=>YU ae) λ_=>Wx (Qik j hb) λp k=>UH (λ_=>YU ae) λ_=>WD λq=>UH (λ_=>YU ae) λ_=>WD λs=>UH (λh=>YU h) λ_=>Wx (Q:=λy:WJ×Int×Int=>EB y.1/\(y.2.2=0->KE x y.1)) (λr e=>⟨(XbO hN f _).get_eq e,Xrv hN f k r e⟩) λu g=>UH (λh=>YU h) λh=>Wx (XfO hN g.1) λv o=>We λe=>(g.2 (zz h)).trans (o e)
def Xnr(hN:NB N)(e:EB x){op a b:Int}:PT (Qcy N x op a b) (KQ x):=by
 rw[Qcy];simp only[Xv]
 repeat' first
  |exact We XiH
  |exact Xby (XfO hN e)
  |(refine YU ?_;assumption)
  |(refine UH (λh=>?_) λ_=>?_)
  |refine WD λ_=>?_
def XiI(hN:NB N)(k:EB x){op a:Int}:PT (Qcz N x op a) (KQ x):=by
 have j:=hN;unfold NB at j;rw[Qcz];simp only[Xv];have eW:=K4 (N:=N) (t:=⟨x.v.e⟩) k.wea aa;have eG:=K4 (N:=N) (t:=⟨x.g.e⟩) k.glo aa;refine WD λo=>UH (λh=>YU h) λ_=>UH (λf=>?_) λf=>?_
 .rw[eW,Xa,f];exact UH (λh=>YU h) λ_=>WD λ_=>We λ_=>⟨KL.refl _,λs=>⟨s.sc,s.glo,Xnm _ s.wea,s.pins,s.roots⟩⟩
 rw[eG,Xa,f];exact UH (λh=>YU h) λ_=>WD λ_=>We λ_=>⟨KL.refl _,λs=>⟨s.sc,Xnm _ s.glo,s.wea,s.pins,s.roots⟩⟩
def XkV(hN:NB N)(e:EB x){op a:Int}:PT (Qcn N x op a) (KQ x):=by
 have f:=hN;unfold NB at f;rw[Qcn];simp only[Xv,Xcy e.loc (show 1000000<N by omega),JG e.glo (show 1000000<N by omega),JG e.wea (show 1000000<N by omega),Xa]
 repeat' first
  |exact We λ_=>⟨KL.refl _,λs=>⟨Uq (Xrt _ _ _) s.sc,s.glo,s.wea,s.pins,s.roots⟩⟩
  |exact We λ_=>⟨KL.refl _,λs=>⟨s.sc,Uq (Xnl _ _ _) s.glo,s.wea,s.pins,s.roots⟩⟩
  |exact We λ_=>⟨KL.refl _,λs=>⟨s.sc,s.glo,Uq (Xnl _ _ _) s.wea,s.pins,s.roots⟩⟩
  |(refine YU ?_;first|assumption|decide)
  |(refine UH (λh=>?_) λ_=>?_)
  |refine WD λ_=>?_
def XkW(hN:NB N)(f:EB x){op a:Int}:PT (Qda N x op a) (KQ x):=by have j:=hN;unfold NB at j;rw[Qda,VQ f.loc aa,Xbj f.loc aa];simp only[Xa];refine UH (λ_=>UH (λ_=>YU ae) λ_=>UH (λh=>YU h) λ_=>We λ_=>⟨KL.refl _,λs=>⟨XpI _ _,s.glo,s.wea,s.pins,s.roots⟩⟩) λ_=>WD λo=>UH (λh=>YU h) λ_=>UH (λh=>YU h) λ_=>Wx (XfO hN (x:=⟨x.h,(ZC x.l).1,x.g,x.v,x.P,x.R⟩) ⟨f.heap,Xbk f.loc,f.glo,f.wea,f.pins,f.roots⟩) λy k=>We λe=>?_;exact KE.trans (y:=⟨x.h,(ZC x.l).1,x.g,x.v,x.P,x.R⟩) ⟨KL.refl _,λs=>⟨Uq (Xru _) s.sc,s.glo,s.wea,s.pins,s.roots⟩⟩ (k e)
def XpL(hN:NB N)(e:EB x){op a:Int}:PT (Qe1 N x op a) (KQ x):=by refine WD λj=>UH (λh=>YU h) λ_=>UH (λ_=>Wx (Xno hN e) λk f=>UH (λh=>YU h) λh=>We λ_=>⟨(f (zz h)).1,λs=>⟨s.sc,s.glo,s.wea,(f (zz h)).2,s.roots⟩⟩) λ_=>Wx (XuF hN e) λo g=>UH (λh=>YU h) λh=>We λ_=>⟨(g (zz h)).1,λs=>⟨s.sc,s.glo,s.wea,(g (zz h)).2,s.roots⟩⟩
def XpM(hN:NB N)(e:EB x){op a b c:Int}(f:tU a)(hb:tU b):PT (Qaf N x op a b c) (KQ x):=by
 rw[Qaf];simp only[Xv];refine WD λg=>UH (λ_=>YU ae) λ_=>?_
 repeat' first
  |exact YU ae
  |exact Xby (XkU hN e f hb)
  |exact Xby (Xnq hN e hb)
  |exact Xby (Xnr hN e)
  |exact Xby (XiI hN e)
  |exact Xby (XkV hN e)
  |exact Xby (XkW hN e)
  |exact Xby (XpL hN e)
  |refine Wj ?_ ?_
def XsP(hN:NB N){p:Iz}(g:EB p.N){d:IJ}(j:JN d):PT (Qco N p d) λr=>KE p.N r.1.N:=by
 rw[Qco];simp only[Xv];refine UH (λ_=>Wx (Xhv hN g) λq k=>UH (λh=>WD λs=>We (k (by simp_all))) λ_=>We (KE.refl _)) λ_=>?_;refine Wx (XpM hN g j.1 j.2.1) λe f=>WD λ_=>WD λo=>?_
 repeat' first
  |exact We (KE.refl _)
  |exact We (f (by simpa using ‹(e.2.2==0)=true›))
  |(refine UH (λh=>?_) λ_=>?_)
  |refine WK ?_
end
section
variable {N:Nat}
def NE(h:Wm):Prop:=1<=h.w.length/\1<=h.p.length
def KL.ne{a b:Wm}(k:KL a b)(h:NE a):NE b:=⟨by rw[k.1];exact h.1,by rw[k.2];exact h.2⟩
def Xrx{t:U0}:PT (Qf7 N t) λr=>X8 r.1=true:=by refine WD λg=>Wx (Q:=λp=>p∈([16,16,20,32]:List Int)) (λr e=>YH e) λp hp=>WD λh=>Wx (Q:=λp=>p∈([8,12,16,20,24]:List Int)) (λr e=>YH e) λq f=>We ?_;simp at hp f;rcases hp with rfl|rfl|rfl|rfl<;>rcases f with rfl|rfl|rfl|rfl|rfl<;>(show X8 ⟨_,_⟩=true;decide)
def Xns{c:WW}(f:X8 c=true):PT (QfF N c) λr=>NE r.1.h/\SM r.1:=by
 rw[QfF,QgZ,Zk,Xa,f,Wi,Wa];have g:=Xo.1 f;have k:=XZ f (i:=0) aa aa;have e:=Xd (n:=c.p*c.W) aa aa;refine Wx (Q:=λr:Wm×Int=>NE r.1) (WK (WK (We ⟨?_,?_⟩))) λy j=>We ⟨j,ab,ab,ab,ab,ab⟩
 .rw[WV,e];omega
 grind
def Xnt{t:U0}:PT (Qcl N t) λr=>NE r.1.N.h/\SM r.1.N:=by exact Wx Xrx λg f=>Wx (Xns f) λj e=>WD λk=>WD λo=>We ⟨e.1,ab,e.2.glo,e.2.wea,e.2.pins,e.2.roots⟩
def XjN(hN:NB N):∀(n:Nat) (i:Int) (t:U0) (p:Iz) (k:Nat),0<=i->i<=60->(60-i).toNat<n->(k:Int)=i->PB k p->NE p.N.h/\SM p.N->TA (10+20*i) t ->
 Ok (Qg3 N 60 n i t.L t.at_ p.N.h.c.W p.N.h.c.p p.N.h.w p.N.h.p p.N.h.s p.N.h.b p.N.l.S p.N.l.x p.N.l.i p.N.g.e p.N.v.e p.N.P p.N.R p.z.c.W p.z.c.p p.z.T p.z.l.S p.z.l.x p.z.l.i p.z.g.e p.z.v.e p.z.m p.z.R p.w) λr=>∃(f:Iz) (o:Nat),o<=60/\PB o f/\(NE f.N.h/\SM f.N)/\r=(f.N.h.c.W,f.N.h.c.p,f.N.h.w,f.N.h.p,f.N.h.s,f.N.h.b,f.N.l.S,f.N.l.x,f.N.l.i,f.N.g.e,f.N.v.e,f.N.P,f.N.R,f.z.c.W,f.z.c.p,f.z.T,f.z.l.S,f.z.l.x,f.z.l.i,f.z.g.e,f.z.v.e,f.z.m,f.z.R,f.w)
 |0,i,t,p,k,_,_,A,_,_,_,_=>by omega
 |n+1,i,t,p,k,h0,G,A,H,hp,j,ht=>by refine Wp (λq=>?_) λ_=>Wg ⟨p,k,aa,hp,j,rfl⟩;have q:i<60:=Ww q;rw[Qhe,Xa];refine Wp (λ_=>?_) λ_=>Wg ⟨p,k,aa,hp,j,rfl⟩;have w1:=hp.w1;have w2:=hp.w2;have dty:=λr (e:Qdx N p t=some r)=>Qiy (N:=N) hp.ty r e;rw[Xd (n:=i+1) aa aa];refine WI (XjK (p:=p) (t:=t) w1 aa ht aa) λy e B=>?_;refine WI (XsO hN hp aa (dty y e)) λz D E=>?_;have u:=XsP hN hp.env (dty y e) z D;exact XjN hN n (i+1) y.2 z.1 (k+1) aa aa aa aa E ⟨u.1.ne j.1,u.2 j.2⟩ (B.le aa)
def XkX(hN:NB N)(l:List Int):Ok (Qir N l 60) λp=>∃k,k<=60/\PB k p/\NE p.N.h/\SM p.N:=by have e:=hN;unfold NB at e;refine WI (Xnj (m:=0) ⟨ab,ab⟩ aa) λy g f=>Uc (XjN hN N 0 y.2 y.1 0 aa aa aa rfl f.1 (Xnt y g) (f.2.le aa)) λz j=>Wg ?_;obtain⟨u,o,q,r,s,rfl⟩:=j;exact⟨o,q,r,s⟩
def XdV(hN:NB N)(w:Ik)(y:Int×U0):∀(n:Nat) (k:Int) (v:List Wv),0<=k->k<=v.length->(v.length-k).toNat<n->v.length<=100000->Ok (QcZ N w y n k v) λr=>r.length<=100000
 |0,k,v,_,_,g,_=>by omega
 |n+1,k,v,h0,h,g,f=>by refine WU aa (Wp (λe=>?_) λ_=>Wg f);have e:k<v.length:=Ww e;rw[Xd (n:=k+1) aa aa];refine Ok.get h0 e λp _=>Wp (λ_=>Ok.get h0 e λp _=>?_) λ_=>XdV hN w y n _ v aa aa aa f;exact XdV hN w y n _ _ aa (by grind) (by grind) (by simp_all)
def Xnu(hN:NB N){h:Wm}(hb:HB h)(u:NE h){t:U0}(ht:TA 10 t):Ok (QbY N ⟨h,[],[]⟩ t) λr=>HB r.1.h:=by
 have y:=hN;unfold NB at y;have⟨g,b2⟩:=hb;have⟨R,S⟩:=u;have B:∀(c:WW) (i:Nat) (v s b:Int),HB ⟨c,h.w.set i v,h.p,s,b⟩:=λc i v s b=>⟨by simp_all,b2⟩
 have sp:∀(c:WW) (i:Nat) (v:Wv) (s b:Int),HB ⟨c,h.w,h.p.set i v,s,b⟩:=λc i v s b=>⟨g,by simp_all⟩
 have o:∀(c:WW) (s b:Int),HB ⟨c,h.w,h.p,s,b⟩:=λc s b=>⟨g,b2⟩
 rw[QbY];dsimp only;refine WU aa (WU aa (WU aa ?_));refine Uc (nxp ht aa aa aa) λH z=>WU aa (Uc (nxp z.2.2 aa aa aa) λI A=>Uc (nxp A.2.2 aa aa aa) λD J=>?_);have next:∀{a:Int},1<=a->a<=1000000000->Ok (Qaa N D.2 a) λr=>0<=r.1/\r.1<a:=λK M=>(nxp J.2.2 aa K M).mono λr q=>⟨q.1,q.2.1⟩
 have gw:∀{β:Type} {P:β->Prop} {f:Int->Option β},(∀p,Ok (f p) P)->Ok (bnd (Xb h.w H.1) f) P:=λk=>Ok.get z.1 z.2.1 λp _=>k p;have e:∀{β:Type} {P:β->Prop} {f:Wv->Option β},(∀p,Ok (f p) P)->Ok (bnd (Xb h.p I.1) f) P:=λk=>Ok.get A.1 A.2.1 λp _=>k p;refine Og (λT=>?_) λj E=>Ua (E _) (E _);refine Ua (Uc (next aa aa) λU G=>Ok.get G.1 G.2 λ_ _=>gw λ_=>Wg (B _ _ _ _ _)) ?_;refine Ua (gw λ_=>Uc (next aa aa) λV O=>WU (by rw[Xw O.1 aa];omega) (gw λ_=>Wg (B _ _ _ _ _))) ?_;refine Ua (Uc (next aa aa) λ_ _=>e λ_=>Wg (sp _ _ _ _ _)) ?_;refine Ua (Uc (next aa aa) λ_ _=>e λ_=>Wg (sp _ _ _ _ _)) ?_;refine Ua (e λ_=>Uc (next aa aa) λ_ _=>e λ_=>Wg (sp _ _ _ _ _)) ?_;refine Ua (Uc (next aa aa) λ_ _=>e λ_=>Wg (sp _ _ _ _ _)) ?_;refine Ua (Uc (next aa aa) λ_ _=>Wg (o _ _ _)) ?_;refine Ua (WU aa ?_) ?_
 .rw[Xd (n:=(h.p.length:Int)+2) aa aa];exact Uc (next aa aa) λ_ _=>Wg (o _ _ _)
 refine Ua (Wg (o _ _ _)) ?_;refine Ua (WU aa (Wg ⟨g,by grind⟩)) ?_;exact Ua (Uc (XdV hN _ D N 0 h.p aa aa aa b2) λr q=>Wg ⟨g,q⟩) (Wg (o _ _ _))
def XdW{α:Type}{l:List α}{a:α}{m:Nat}(h:l.length<=1000)(e:1001<=m):(l++[a]).length<=m:=by grind
def XpN(hN:NB N){x:WJ}(e:EB x)(o:NE x.h)(w:SM x)(l:List Int):Ok (Qg4 N x ⟨l,0⟩) λr=>EB r.1:=by
 have z:=hN;have⟨A,B,s3,s4,D⟩:=w;have⟨E,G,s⟩:=e.loc;refine Uc (nxp (m:=0) ⟨ab,ab⟩ aa aa aa) λH u=>?_;have f:∀{a:Int},1<=a->a<=1000000000->Ok (Qaa N H.2 a) λr=>0<=r.1/\r.1<a/\TA 2 r.2:=λp q=>(nxp u.2.2 aa p q).mono λr g=>⟨g.1,g.2.1,g.2.2.le aa⟩
 have j:∀{t:U0} {a:Int},TA 2 t->1<=a->a<=1000000000->Ok (Qaa N t a) λr=>True:=λht p q=>(nxp ht aa p q).mono λr g=>trivial;refine Ua (Uc (Xnu hN e.heap o (u.2.2.le aa)) λr g=>Wg ⟨g,e.loc,e.glo,e.wea,e.pins,e.roots⟩) ?_;refine Ua (WU aa (Uc (f aa aa) λ_ _=>WU aa (Wg ⟨e.heap,e.loc,e.glo,e.wea,e.pins,XdW D aa⟩))) ?_;refine Ua (Wp (λv=>?_) λ_=>Wg e) ?_
 .have v:=Ww v;exact WU aa (Uc (f aa aa) λI k=>Ok.get k.1 k.2.1 λ_ _=>Uc (j k.2.2 aa aa) λ_ _=>Ok.get k.1 k.2.1 λ_ _=>Wg ⟨e.heap,⟨by simp_all,G,s⟩,e.glo,e.wea,e.pins,e.roots⟩)
 refine Ua (WU aa (Uc (f aa aa) λy h=>Uc (j h.2.2 aa aa) λ_ _=>WU aa (Wg ⟨e.heap,e.loc,XdW B aa,e.wea,e.pins,e.roots⟩))) ?_;refine Ua (WU aa (Uc (f aa aa) λy h=>Uc (j h.2.2 aa aa) λ_ _=>WU aa (Wg ⟨e.heap,e.loc,e.glo,XdW s3 aa,e.pins,e.roots⟩))) ?_;refine Ua (WU aa (Uc (f aa aa) λy h=>Uc (j h.2.2 aa aa) λ_ _=>WU aa (Wg ⟨e.heap,e.loc,e.glo,e.wea,XdW s4 aa,e.roots⟩))) ?_;refine Ua (WU aa (Uc (f aa aa) λy h=>Uc (j h.2.2 aa aa) λ_ _=>WU aa (Wg ⟨e.heap,⟨E,XdW A aa,s⟩,e.glo,e.wea,e.pins,e.roots⟩))) ?_;exact Wg ⟨e.heap,e.loc,e.glo,e.wea,ab,e.roots⟩
end
section
variable {N:Nat}
def Xry{a:Wo}(h:LBp a)(hN:1000000<N):Qh8 N a a=some true:=by have⟨f,g,j⟩:=h;rw[Qh8,Vp,Vp,Vp,Wa,Wa,Wa];rw[JR (F:=QeR N a a) (L:=a.S.length) (u:=()) (λn k e=>by rw[QeR,Xm e,Wb,Xe,Wc e,Xa,Xa,Xg aa];simp) (λn=>by rw[QeR,XA,Wa]) aa,Xa,Xp];rw[JR (F:=QeS N a a) (L:=a.x.length) (u:=()) (λn k e=>by rw[QeS,Xm e,Wb,Xe,Wc e,Xa,Xa,Xg aa];simp) (λn=>by rw[QeS,XA,Wa]) aa,Xa,Xp];rw[JR (F:=QeT N a a) (L:=a.i.length) (u:=()) (λn k e=>by rw[QeT,Xm e,Wb,Xe,Wc e,Xa,Xa,Xg aa];simp) (λn=>by rw[QeT,XA,Wa]) aa,Xa,Xp]
def Xnv{t:Ws}(h:TB t)(hN:1000000<N):Qho N t t=some true:=by unfold TB at h;rw[Qho,Vp,Wa,JR (F:=QeU N t t) (L:=t.e.length) (u:=()) (λn k f=>by rw[QeU,Xm f,Wb,Xe,Wc f,Xa,Xa,Xg aa];simp) (λn=>by rw[QeU,XA,Wa]) aa,Xa,Xp]
def Xrz{l:List Ux}(h:l.length<=1000000)(hN:1000000<N):Qh9 N l l=some true:=by rw[Qh9,Vp,Wa,JR (F:=QeV N l l) (L:=l.length) (u:=()) (λn k e=>by rw[QeV,Xm e,Wb,Xe,Wc e,Xa,Xa,Xg aa];simp) (λn=>by rw[QeV,XA,Wa]) aa,Xa,Xp]
def XrA{x:WJ}(f:EB x)(hN:NB N):Qib N x x=some true:=by
 have e:1000000<N:=by unfold NB at hN;omega
 have:=f.roots;rw[Qib,Xrr f.heap hN,Xa,Wb,Xry f.loc e,Xa,Wb,Xnv f.glo e,Xa,Wb,Xnv f.wea e,Xa,Wb,Xrz f.pins e,Xa,Wb,Xrq aa hN,Xa]
end
section
variable {N:Nat}
def XaU(hN:NB N){x:WJ}(ht:ET x){d:WC}(g:tW d.Map):∃r,Qg7 N x d=some r/\Qca N x d=some r/\EB r.1:=by
 have f:1000000<N:=by unfold NB at hN;omega
 have e:=ht.eb;have⟨r,j,p⟩:=XbO hN e d;refine⟨r,?_,j,p⟩;rw[←j,Qg7,Qca,Ya hN ht];have⟨b,eb,_⟩:=Zt hN e;rw[eb,Xa,Xa];cases b with
 |false=>rfl
 |true=>
 have⟨L,hV⟩:=XiE hN ht eb;rw[Wi,Wa,Wa,Jz f];simp only[Qat,QgQ,QfA,Qfn,Qad,Qab,Qas,Qao,QaF,Qap,Qar,Xa];have⟨b,k,_⟩:=Xfw hN x.h.c d;rw[k,Xa];cases b with
 |false=>simp[W7,Wb,Qch,hV.beg.ep,Xa,Wi,Wa,k,Xv]
 |true=>
 rw[Wi,Wa,XjB hN e.heap g];have⟨y,q,w⟩:=Xcz hN e.heap d;rw[q,Xa,Xa,Xv];by_cases s:y.2.2=3
 .have⟨z,u,o⟩:=Xng hN ht;have⟨A,e3,v⟩:=JH hN e;rw[o]at e3;obtain rfl:=WG e3;rw[u,o,Xa,Xa];by_cases h0:z.2.2=0
  .rw[show(z.2.2 != 0)=false by rw[h0];rfl,Wa,Wa,XjB hN v.heap g]
  rw[Xl h0,Wb,Wb]
 simp[Xf,s,Wa]
end
section
variable {N:Nat}{h:Wm}{a i:Int}{x:WJ}{L:List Int}
structure OD(N:Nat)(h:Wm)(a:Int):Prop where
 hb:HT h
 ep:Qac N h=some true
 pr:Uv h
 at_:IW h a
 ev:Qam N h a=some (hdA h.w a,0)
 kd:(hdA h.w a).k≠0
 eg:Qbt N h=some true
 g1:QfD N h a=some true
 g2:Qeb N h a=some true
def XsQ(hN:NB N)(ht:HT h)(f:OQ N h L)(g:(Kq h L).contains a=true):OD N h a:=by
 have j:=hN;unfold NB at j;have⟨y,e,p,q,r,s,u⟩:=JK hN ht.hb;rw[f.ob]at e;obtain rfl:=WG e;have o:a∈Kq h L:=by simpa using g
 have p:(Kq h L).length<=4096:=p;have⟨k,v⟩:=Xjz (N:=N) (Kq h L) a aa aa q;refine⟨ht,f.ep,f.st.prop (λe=>by simp_all[Kq]),r a o,s a o,u a o,f.eg,?_,?_⟩
 .rw[QfD,KI hN ht,f.ob,Xa];simp;rw[v,Xa,g]
 rw[Qeb,f.ob,Xa,YQ a aa aa,Xa,g]
def OD.ne(o:OD N h a):a≠0:=by have:=o.at_.rng;omega
def OD.tu(o:OD N h a):tU a:=o.at_.tu o.pr
def K5(hN:NB N)(o:OD N h a):Qdk N h a=some (hdA h.w a,0)/\QbU N h a=some (hdA h.w a,0):=by have e:=hN;unfold NB at e;rw[Qdk,QbU,Yd o.hb.hb.2 aa,o.ep,XaN hN o.hb o.tu,o.ev];simp[Xa,Wi,Wa,Xf,o.ne,o.kd]
def Xhx(hN:NB N)(o:OD N h a)(h0:0<=i)(f:i<(hdA h.w a).n):wU (wU (a+1)+wU i)=a+1+i/\a+1+i<=18446744073709551615/\inW h.w (a+1+i):=by have:=K2 o.pr o.at_;have:=o.at_.rng;have hb:=o.hb.hb.1;have e:szA h.w a=(hdA h.w a).n+1:=rfl;refine⟨?_,aa,by unfold inW;omega⟩;rw[Xw (n:=a+1) aa aa,Xw (n:=i) h0 aa,Xw aa aa]
def Va(hN:NB N)(o:OD N h a)(h0:0<=i)(f:i<(hdA h.w a).n):∃v,Qgg N h a i=some (v,0)/\Qbz N h a i=some (v,0):=by
 have⟨e,g,e3⟩:=Xhx hN o h0 f;have⟨g1,g2⟩:=K5 hN o;have hb:=o.hb.hb.1;refine⟨h.w.getD (ix (a+1+i)) 0,?_,?_⟩
 .rw[Qgg,Qgf,g1,Xa];simp only[show((0:Int) != 0)=false from rfl,Wa,Wh (show¬i<0 by omega),Wh (show¬i>=(hdA h.w a).n by omega),Xa,e];rw[XdB aa g,YK (by unfold BIG;omega),Wq e3,Xa]
 rw[Qbz,g2,Xa];simp only[show((0:Int) != 0)=false from rfl,Wa,Wh (show¬i<0 by omega),Wh (show¬i>=(hdA h.w a).n by omega),Xa,e];rw[YK (by unfold BIG;omega),Wq e3,Xa]
def XjO(hN:NB N)(o:OD N h a)(h0:0<=i)(f:i<(hdA h.w a).n)(v:Int):∃r,QeC N h a i v=some (r,0)/\Qbr N h a i v=some (r,0):=by
 have e:=hN;unfold NB at e;have⟨g,j,e3⟩:=Xhx hN o h0 f;have⟨g1,g2⟩:=K5 hN o;have⟨w,_,k⟩:=Va hN o h0 f;have hb:=o.hb.hb.1;have q:∀b,QhC N h.w (a+1+i) b=Qc4 N h.w (a+1+i) b:=λb=>by rw[QhC,Qc4,XeR hN hb ab j]
 refine⟨⟨h.c,h.w.set (ix (a+1+i)) v,h.p,h.s,h.b⟩,?_,?_⟩
 .rw[QeC,Qgf,g1,Xa];simp only[show((0:Int) != 0)=false from rfl,Wa,Wh (show¬i<0 by omega),Wh (show¬i>=(hdA h.w a).n by omega),Xa,g];rw[q,KF (by unfold BIG;omega) aa,Wq e3,Xa,Qfg,Qab];simp only[show((0:Int) != 0)=false from rfl,Wa,Xa]
 rw[Qbr,k,Xa,g,KF (by unfold BIG;omega) aa,Wq e3];simp only[show((0:Int) != 0)=false from rfl,Wa,Xa]
def Xhy{l:List WT}{i g:Int}(h:(YF l i g).2=0):(YF l i g).1∈XT l:=by have⟨_,_,p,hp,_,e,f⟩:=Xac h;rw[f];exact UM.2 ⟨p,UB.2 ⟨Ue hp,e⟩,rfl⟩
def Vq(hN:NB N)(ht:ET x)(hV:OX N x L)(ev:QbP N x=some true){v:Int}(s:tU v):∃r,Qav N x v=some r/\QaB N x v=some r/\(r.2=0->r.1≠0->OD N x.h r.1):=by
 have j:1000000<N:=by unfold NB at hN;omega
 have o:=ht.eb;have ob:∀l,RefB x.h L l->∀r∈l,r≠0->OD N x.h r:=λl q r u h0=>by have:=Ud.1 q r u;rw[Xf h0,Ii]at this;exact XsQ hN ht.ht hV.beg this
 have w:X9 x.l.S ⊆ Jy x:=by unfold Jy;rw[hV.ev.loc,Wb];intro z k;simp[k]
 have y:XT x.g.e ⊆ Jy x:=by unfold Jy;rw[hV.ev.glo,Wb];intro z k;simp[k]
 rw[XmV hN ht s,QaB,ev,Xa,Wi,Wa,VS s,Xa];by_cases k:v=0
 .simp_all
 rw[Xf k,Wa];cases hd:(Yz v).2 != 0 with
 |true=>simp
 |false=>
 simp only[Wa,Vm o.loc j,Kg o.glo j,Kg o.wea j,Xa];cases (Yz v).1.Tag==1 with
 |true=>refine⟨_,rfl,rfl,λh0 f=>?_⟩;have⟨_,_,p,hp,_,q,A⟩:=Xab h0;refine ob _ hV.strong _ (w ?_) f;simp only[A];exact UM.2 ⟨p,UB.2 ⟨Ue hp,q⟩,rfl⟩
 |false=>
 cases (Yz v).1.Tag==2 with
 |true=>exact⟨_,rfl,rfl,λh0 f=>ob _ hV.strong _ (y (Xhy h0)) f⟩
 |false=>exact⟨_,rfl,rfl,λh0 f=>ob _ hV.weak _ (Xhy h0) f⟩
end
section
variable {N:Nat}{h:Wm}{a:Int}{pins:List Ux}
def XuG(l:List Ux):Ex Bool (List Int)->Prop
 |.ret b=>b=false
 |.nxt _=>∀p∈l,1<=p.M/\p.M<=1000
def XeY(r:pins.length<=64)(y:List Int×Int):∀(n k:Nat) (v:List Int),k<=pins.length->PT (Qb8 N h pins y n (k:Int) v) (XuG (pins.drop k))
 |0,k,v,_=>IM
 |n+1,k,v,z=>by
  refine UH (λg=>?_) λg=>We λp hp=>?_
  .have f:k<pins.length:=by have:=Ww g;omega
   have s:Xb pins (k:Int)=some pins[k]:=by rw[Xe,Wc f]
   simp only[s,Xa];refine WD λA=>Wj (We rfl) (WD λB=>Wj (We rfl) (UH (λ_=>We rfl) λj=>UH (λ_=>We rfl) λo=>WD λu=>WD λ_=>WD λ_=>?_));have j:=WP j;have o:=WP o;rw[Xg aa];intro e w;have q:=XeY r y n (k+1) _ aa e w;cases e with
   |ret b=>exact q
   |nxt D=>
    intro p hp;rw[Wu f]at hp;rcases UT.1 hp with rfl|hp
    .omega
    exact q p hp
  grind
def Xhz(g:pins.length<=64)(j:Qbk N h pins=some true):∀p∈pins,1<=p.M/\p.M<=1000:=by
 have:PT (Qbk N h pins) λb=>b=true->∀p∈pins,1<=p.M/\p.M<=1000:=by
  refine WD λb=>Wj (We λh=>by grind) (Wj (We λh=>by grind) (WD λy=>WK ?_));refine Wx (XeY g y N 0 _ aa) λe f=>?_;cases e with
  |ret b=>rw[XE];exact We λh=>by have:b=false:=f;grind
  |nxt v=>intro _ _ _;exact f
 exact this _ j rfl
def XhA:∀(n:Nat) (c i:Int),QdG N h n c i=QbX N h a n c i
 |0,_,_=>rfl
 |n+1,c,i=>by
  rw[QdG,QbX];cases Xb h.p i with
  |none=>simp[ZV]
  |some p=>simp only[Xa,XhA n]
def Xnw(hN:NB N)(o:OD N h a):∃b,Qfc N h a=some b/\Qdj N h a=some b:=by have⟨b,eb,_⟩:=Ju hN o.hb.hb a;refine⟨b,?_,eb⟩;have f:=hN;unfold NB at f;have k:=o.hb.hb.2;have⟨e,g,j⟩:=Xad (N:=N) o.pr o.at_;have⟨c,p,_⟩:=XaL (N:=N) o.hb.hb a N 0 0 aa aa aa;rw[←eb,Qfc,Qdj,Xbt hN o.hb,o.eg,o.g1,o.g2,(XeU (N:=N) o.pr.conf o.at_.rng).1,e];have hp:=(o.pr.pgs _ g j).pins.1;simp only[Xa,Wi,Wa,XH g j,XhA (a:=a),p];grind
def XjP(o:OD N h a)(hb:h.p.length<=100000)(n:Int):∃r,QfQ N h a n=some r/\Qcb N h a n=some r:=by
 have⟨e,f,g⟩:=Xad (N:=N) o.pr o.at_;have eg:=XH f g;refine⟨⟨h.c,h.w,h.p.set (pgi h.c a).toNat ⟨(pg h.p (pgi h.c a)).k,(pg h.p (pgi h.c a)).s,(pg h.p (pgi h.c a)).u,wI ((pg h.p (pgi h.c a)).P+n)⟩,h.s,h.b⟩,?_,?_⟩
 .rw[QfQ,(XeU (N:=N) o.pr.conf o.at_.rng).1,Xa,Qad,Qab];simp[Xa,eg]
 rw[Qcb,Xc aa,e,Xa,eg,Xa,Xa]
def XkY(hN:NB N)(o:OD N h a):∃t,QgJ N h a=some (wU (a+1),t,0):=by rw[QgJ,(K5 hN o).1,Xa];simp
end
section
variable {N:Nat}{h:Wm}{a:Int}{pins:List Ux}
def tk{α:Type}{A B:List α}{m:Nat}(h:m<=A.length):(A.take m++B).take m=A.take m:=by simp_all
def XdX(l:List Ux)(a:Int):J8 (λp=>p.a==a) l = -1\/∃j:Nat,∃f:j<l.length,J8 (λp=>p.a==a) l=(j:Int)/\l[j].a=a:=by
 unfold J8;cases e:l.findIdx? λp=>p.a==a with
 |none=>simp
 |some j=>have:=UK.1 e;grind
def Xnx(hN:NB N)(o:OD N h a)(u:pins.length<=64)(p:Qbk N h pins=some true):Qjf N h pins a=QdE N h pins a:=by
 have f:1000000<N:=by unfold NB at hN;omega
 have v:=Xhz u p;have g:=o.hb.hb.2;have⟨b,w,y⟩:=Xnw hN o;have⟨r,z,A⟩:=XjP o g 1;have⟨t,B⟩:=XkY hN o;rw[Qjf,QdE,XbY hN o.hb aa,p,XdF pins a aa f,Xir pins a aa f,o.g1,o.g2];simp only[Xa,Wi,Wa,Xf o.ne,w,y,B,z,A,Xv,Qar,show((0:Int) != 0)=false from rfl];rcases XdX pins a with k|⟨j,q,k,G⟩
 .rw[k];simp;by_cases D:pins.length=64
  .simp_all
  rw[Wh aa,Xf (show(pins.length:Int)≠64 by omega),Wa,Wa];cases b with
  |true=>rfl
  |false=>
  rw[Xc aa,Xc aa,Xc aa,Xc aa,X1 aa (by grind)];simp[Xa,show wI 1=1 from rfl]
 have s:Xb pins (j:Int)=some pins[j]:=by rw[Xe,Wc q]
 have E:=v _ (WL q);rw[k,s];simp only[Xl (show(j:Int)≠-1 by omega),Xf (show(j:Int)≠-1 by omega),Wd (show(j:Int)>=0 by omega),Wh (show¬(j:Int)<0 by omega),Wa,Wb,Xa,s];by_cases e:pins[j].M=1000
 .simp_all
 rw[Wh aa,Xf e,Wa,Wa];cases b with
 |true=>rfl
 |false=>
 rw[Xc aa]
def Xny(hN:NB N)(o:OD N h a)(w:pins.length<=64)(q:Qbk N h pins=some true):QhD N h pins a=QbL N h pins a:=by
 have e:1000000<N:=by unfold NB at hN;omega
 have f:=o.hb.hb.2;obtain⟨r,s,u⟩:=XjP o f (-1);rw[QhD,QbL,XbY hN o.hb aa,q,XdF pins a aa e,Xir pins a aa e];simp only[Xa,Wi,Wa,Xf o.ne,s,u,Qar];rcases XdX pins a with g|⟨j,k,g,y⟩
 .simp_all
 have p:Xb pins (j:Int)=some pins[j]:=by rw[Xe,Wc k]
 rw[g,p];simp only[Xf (show(j:Int)≠-1 by omega),Wh (show¬(j:Int)<0 by omega),Wa,Xa,p,UX];rw[Xc (show pins.length*16<=140737488355328 by omega)];have v:Xb (pins.set j (Ux.mk pins[j].a (wI (pins[j].M-1)))) (j:Int)=some (Ux.mk pins[j].a (wI (pins[j].M-1))):=by rw[Xe];simp[k]
 rw[v,Xa,Xa];cases h0:(Ux.mk pins[j].a (wI (pins[j].M-1))).M==0 with
 |false=>rfl
 |true=>
 have z:wI ((j:Int)+1)=((j+1:Nat):Int):=Xg aa;repeat rw[Xc aa]
 grind
end
section
variable {N:Nat}{x:WJ}{L:List Int}{a b c:Int}
def YC(x:WJ):Qat N x=some x:=by simp[Qat,QgQ,QfA,Qfn,Qad,Qab,Qas,Qao,QaF,Qap,Qar,Xa]
def XcH:((0:Int) != 0)=false:=rfl
structure VX(N:Nat)(x:WJ)(L:List Int):Prop where
 hN:NB N
 ht:ET x
 hV:OX N x L
 ev:QbP N x=some true
def VX.n6(v:VX N x L):1000000<N:=by have:=v.hN;unfold NB at this;omega
def VX.thing(v:VX N x L)(f:tU a):(∃r e,Qav N x a=some (r,e)/\QaB N x a=some (r,e)/\e≠0)\/(Qav N x a=some (0,0)/\QaB N x a=some (0,0))\/∃r,Qav N x a=some (r,0)/\QaB N x a=some (r,0)/\r≠0/\OD N x.h r:=by have⟨⟨r,e⟩,g,j,o⟩:=Vq v.hN v.ht v.hV v.ev f;grind
def fld(hN:NB N){r:Int}(o:OD N x.h r)(f:tU b):decide (b>=wU (hdA x.h.w r).n)=true\/(decide (b>=wU (hdA x.h.w r).n)=false/\wI b=b/\0<=b/\b<(hdA x.h.w r).n):=by
 have h:=(YY x.h.w r)
 have e:szA x.h.w r=(hdA x.h.w r).n+1:=rfl;rw[Xw (n:=(hdA x.h.w r).n) aa aa];have⟨b0,_⟩:=f;by_cases hb:b>=(hdA x.h.w r).n
 .simp_all
 exact .inr ⟨Wh hb,Xd aa aa,b0,aa⟩
def XeZ(e:1000000<N){l:Wo}(f:LBp l)(r:Int):QcX N l r=some (Yn l r)/\Qes N l r=some (Yn l r)/\((Yn l r).2.2.2≠0\/(Yn l r).2.2.2=0/\∃w,Qbe N ⟨1,(Yn l r).2.1,(Yn l r).2.2.1⟩=some (w,0)/\Qbg N ⟨1,(Yn l r).2.1,(Yn l r).2.2.1⟩=some (w,0)):=by
 refine⟨Xbu f e r,K3 f e r,?_⟩;by_cases h:(Yn l r).2.2.2=0
 .have⟨_,g,j,k,o⟩:=XkJ h;exact .inr ⟨h,_,Xhc e aa aa g j k aa⟩
 omega
def gc7(v:VX N x L)(q:tU a)(s:tU b):Qdt N x a b c=Qaf N x 7 a b c:=by
 rw[Qdt,Qaf,Ya v.hN v.ht,v.ev];simp only[Xa,Wi,Wa,Wb,YC,Xv,simprocAttr,decide_false,decide_true,Qcx,Qcw,QaN,Qae];rcases v.thing q with⟨r,e,f,g,u⟩|⟨f,g⟩|⟨r,f,g,z,o⟩
 .simp[f,g,Xa,Xl,u,Xf]
 .simp[f,g,Xa]
 have⟨g1,g2⟩:=K5 v.hN o;simp only[f,g,Xa,XcH,beq_self_eq_true,Wb,Wa,Xf z,g1,g2];rcases fld (x:=x) v.hN o s with h|⟨h,hb,h0,j⟩
 .simp[h,Xa]
 have⟨w,w1,w2⟩:=Va v.hN o h0 j;have⟨y,k,p⟩:=XjO v.hN o h0 j c;simp only[h,Wa,hb,w1,w2,k,p,Xa,VW (show 1000<N by have:=v.n6;omega),Kz];cases KO (hdA x.h.w r) b<;>simp[Xa,w1,w2,k,p]
def gc6(v:VX N x L)(j:tU a)(k:tU b):Qds N x a b c=Qaf N x 6 a b c:=by
 rw[Qds,Qaf,Ya v.hN v.ht,v.ev];simp only[Xa,Wi,Wa,Wb,YC,Xv,simprocAttr,decide_false,decide_true,Qcx,Qcw,QaN,Qae];rcases v.thing j with⟨r,e,f,g,p⟩|⟨f,g⟩|⟨r,f,g,q,o⟩
 .simp[f,g,Xa,Xl,p,Xf]
 .simp[f,g,Xa]
 have⟨g1,g2⟩:=K5 v.hN o;simp only[f,g,Xa,XcH,beq_self_eq_true,Wb,Wa,Xf q,g1,g2];rcases fld (x:=x) v.hN o k with h|⟨h,hb,h0,s⟩
 .simp[h,Xa]
 have⟨w,w1,w2⟩:=Va v.hN o h0 s;simp only[h,Wa,hb,w1,w2,Xa,VW (show 1000<N by have:=v.n6;omega),Kz];cases KO (hdA x.h.w r) b<;>simp[Xa,w1,w2]
def gc8(v:VX N x L)(q:tU a)(s:tU b):Qdu N x a b c=Qaf N x 8 a b c:=by
 rw[Qdu,Qaf,Ya v.hN v.ht,v.ev];simp only[Xa,Wi,Wa,Wb,YC,Xv,simprocAttr,decide_false,decide_true,Qcx,Qcw,QaN,Qae,Qa7];rcases v.thing q with⟨r,e,f,g,u⟩|⟨f,g⟩|⟨r,f,g,y,o⟩
 .simp[f,g,Xa,Xl,u,Xf]
 .simp[f,g,Xa]
 have⟨g1,g2⟩:=K5 v.hN o;simp only[f,g,Xa,XcH,beq_self_eq_true,Wb,Wa,Xf y,g1,g2];rcases fld (x:=x) v.hN o s with h|⟨h,hb,h0,A⟩
 .simp[h,Xa]
 have⟨w,w1,w2⟩:=Va v.hN o h0 A;have⟨k,p,j⟩:=XeZ v.n6 v.ht.eb.loc w;simp only[h,Wa,hb,w1,w2,k,p,Xa,VW (show 1000<N by have:=v.n6;omega),Kz];cases KO (hdA x.h.w r) b with
 |false=>simp[Xa,w1,w2]
 |true=>
 by_cases hw:w=0
 .subst hw;simp[Xa,w1,w2]
 rcases j with j|⟨j,z,B,D⟩
 .simp[Xf hw,Xl j,Xa,w1,w2,k,p]
 simp[Xf,hw,j,B,D,Xa,w1,w2,k,p]
def gc9(v:VX N x L)(u:tU a)(z:tU b)(A:tU c):Qdv N x a b c=Qaf N x 9 a b c:=by
 rw[Qdv,Qaf,Ya v.hN v.ht,v.ev];simp only[Xa,Wi,Wa,Wb,YC,Xv,simprocAttr,decide_false,decide_true,Qcx,Qcw,QaN,Qae];rcases v.thing u with⟨r,e,f,g,j⟩|⟨f,g⟩|⟨r,f,g,B,o⟩
 .simp[f,g,Xa,Xl,j,Xf]
 .simp[f,g,Xa]
 have⟨g1,g2⟩:=K5 v.hN o;simp only[f,g,Xa,XcH,beq_self_eq_true,Wb,Wa,Xf B,g1,g2];rcases fld (x:=x) v.hN o z with h|⟨h,hb,h0,k⟩
 .simp[h,Xa]
 have⟨w,w1,w2⟩:=Va v.hN o h0 k;simp only[h,Wa,hb,w1,w2,Xa,VW (show 1000<N by have:=v.n6;omega),Kz];cases KO (hdA x.h.w r) b with
 |false=>simp[Xa,w1,w2]
 |true=>
 have⟨⟨q,e⟩,p,s,_⟩:=Vq v.hN v.ht v.hV v.ev A;have⟨y,D,E⟩:=XjO v.hN o h0 k q;by_cases j:e=0
 .subst j;simp[p,s,D,E,Xa,w1,w2]
 simp[p,s,Xa,Xl,j,w1,w2]
def gc4(v:VX N x L)(j:tU a):Qdq N x a b c=Qaf N x 4 a b c:=by
 rw[Qdq,Qaf,Ya v.hN v.ht,v.ev];simp only[Xa,Wi,Wa,Wb,YC,Xv,simprocAttr,decide_false,decide_true,Qcy,QaN,Qae];rcases v.thing j with⟨r,e,f,g,k⟩|⟨f,g⟩|⟨r,f,g,p,o⟩
 .simp[f,g,Xa,Xl,k,Xf]
 .simp[f,g,Xa]
 have⟨g1,g2⟩:=K5 v.hN o;simp[f,g,Xa,Xf,p,g1,g2]
def gc5(v:VX N x L)(j:tU a):Qdr N x a b c=Qaf N x 5 a b c:=by
 rw[Qdr,Qaf,Ya v.hN v.ht,v.ev];simp only[Xa,Wi,Wa,Wb,YC,Xv,simprocAttr,decide_false,decide_true,Qcy,QaN,Qae];rcases v.thing j with⟨r,e,f,g,k⟩|⟨f,g⟩|⟨r,f,g,p,o⟩
 .simp[f,g,Xa,Xl,k,Xf]
 .simp[f,g,Xa]
 have⟨g1,g2⟩:=K5 v.hN o;simp[f,g,Xa,Xf,p,g1,g2]
def XuH(v:VX N x L)(u:tU a)(w:tU b):QcK N x a b c=Qaf N x 10 a b c:=by
 rw[QcK,Qaf,Ya v.hN v.ht,v.ev];simp only[Xa,Wi,Wa,Wb,YC,Xv,simprocAttr,decide_false,decide_true,Qcy,QaN,Qae];have⟨⟨q,e⟩,g,j,_⟩:=Vq v.hN v.ht v.hV v.ev u;have⟨⟨r,f⟩,k,o,_⟩:=Vq v.hN v.ht v.hV v.ev w;by_cases p:e=0
 .subst p;by_cases s:f=0
  .subst s;by_cases h:q=r
   .simp[g,j,k,o,Xa,h]
   simp[g,j,k,o,Xa,Xf h,Xl h]
  simp[g,j,k,o,Xa,Xl s]
 simp[g,j,Xa,Xl,p]
def XuI(v:VX N x L)(r:tU a):QcL N x a b c=Qaf N x 11 a b c:=by
 rw[QcL,Qaf,Ya v.hN v.ht,v.ev];simp only[Xa,Wi,Wa,Wb,YC,Xv,simprocAttr,decide_false,decide_true,Qcy,QaN,Qa7,Qae];have⟨⟨q,e⟩,g,j,_⟩:=Vq v.hN v.ht v.hV v.ev r;by_cases k:e=0
 .subst k;by_cases hw:q=0
  .subst hw;simp[g,j,Xa]
  have⟨o,p,f⟩:=XeZ v.n6 v.ht.eb.loc q;rcases f with f|⟨f,z,s,u⟩
  .simp[g,j,Xf hw,Xl f,Xa,o,p]
  simp[g,j,Xf hw,f,s,u,Xa,o,p]
 simp[g,j,Xa,Xl,k]
def XuJ(v:VX N x L)(u:tU a):QcS N x a b c=Qaf N x 18 a b c:=by
 rw[QcS,Qaf,Ya v.hN v.ht,v.ev];simp only[Xa,Wi,Wa,Wb,YC,Xv,simprocAttr,decide_false,decide_true,Qda,Qa7,Qae];have⟨⟨q,e⟩,f,g,_⟩:=Vq v.hN v.ht v.hV v.ev u;by_cases p:e=0
 .subst p;have k:=XmY v.ht.eb.loc v.n6;have o:=Xbj v.ht.eb.loc v.n6;by_cases hp:(ZC x.l).2=0;case neg=>simp[f,g,k,o,Xa,Xl hp]
  by_cases hw:q=0
  .subst hw;simp[f,g,Xa,k,o,hp]
  have⟨r,s,j⟩:=XeZ v.n6 (Xbk v.ht.eb.loc) q;rcases j with j|⟨j,z,w,y⟩
  .simp[f,g,Xf hw,Xl j,Xa,r,s,k,o,hp]
  simp[f,g,Xf hw,j,w,y,Xa,r,s,k,o,hp]
 simp[f,g,Xa,Xl,p]
def XuK(v:VX N x L)(g:tU a):QcR N x a b c=Qaf N x 17 a b c:=by
 rw[QcR,Qaf,Ya v.hN v.ht,v.ev];simp only[Xa,Wi,Wa,Wb,YC,Xv,simprocAttr,decide_false,decide_true,Qda,Qae];cases decide (a>64)with
 |true=>simp[Xa]
 |false=>
 have e:=XkI v.ht.eb.loc v.n6 (wI a);have f:=VQ v.ht.eb.loc v.n6 (wI a);by_cases hp:(KB x.l (wI a)).2=0
 .simp[e,f,Xa,hp]
 simp[e,f,Xa,Xl,hp,Xf]
def VX.pins(v:VX N x L):x.P.length<=64/\Qbk N x.h x.P=some true:=by
 have ev:=v.ev;have⟨b,eb,_⟩:=Jt v.hN v.ht.eb.heap v.ht.eb.pins;rw[QbP,eb,Xa]at ev;cases b with
 |false=>simp_all
 |true=>exact⟨(XaQ v.hN v.ht.ht v.ht.eb.pins eb).2.1,eb⟩
def XuL(v:VX N x L)(s:tU a):QcT N x a b c=Qaf N x 19 a b c:=by
 rw[QcT,Qaf,Ya v.hN v.ht,v.ev];simp only[Xa,Wi,Wa,Wb,YC,Xv,simprocAttr,decide_false,decide_true,Qe1,QaN,Qae];rcases v.thing s with⟨r,e,f,j,k⟩|⟨f,j⟩|⟨r,f,j,p,o⟩
 .simp[f,j,Xa,Xl,k,Xf]
 .simp[f,j,Xa]
 have g:=Xnx v.hN o v.pins.1 v.pins.2;have⟨⟨y,l,w,e⟩,q,_⟩:=XeC v.hN v.ht.eb.heap v.ht.eb.pins r;by_cases k:e=0
 .simp[f,j,Xa,Xf p,g,q,k]
 simp[f,j,Xa,Xf,p,g,q,Xl,k]
def XuM(v:VX N x L)(s:tU a):QcU N x a b c=Qaf N x 20 a b c:=by
 rw[QcU,Qaf,Ya v.hN v.ht,v.ev];simp only[Xa,Wi,Wa,Wb,YC,Xv,simprocAttr,decide_false,decide_true,Qe1,QaN,Qae];rcases v.thing s with⟨r,e,f,j,k⟩|⟨f,j⟩|⟨r,f,j,p,o⟩
 .simp[f,j,Xa,Xl,k,Xf]
 .simp[f,j,Xa]
 have g:=Xny v.hN o v.pins.1 v.pins.2;have⟨⟨y,l,e⟩,q,_⟩:=Xdm v.hN v.ht.eb.heap v.ht.eb.pins r;by_cases k:e=0
 .simp[f,j,Xa,Xf p,g,q,k]
 simp[f,j,Xa,Xf,p,g,q,Xl,k]
def Xqo(e:1000000<N){t:Ws}(f:TB t){g:Int}(g1:1<=g)(g2:g<=3)(r:Int):Qha N t r=some (YG t r)/\QcV N t r=some (YG t r)/\((YG t r).2.2.2≠0\/(YG t r).2.2.2=0/\∃w,Qbe N ⟨g,(YG t r).2.1,(YG t r).2.2.1⟩=some (w,0)/\Qbg N ⟨g,(YG t r).2.1,(YG t r).2.2.1⟩=some (w,0)):=by
 refine⟨XmX f e r,K4 f e r,?_⟩;by_cases h:(YG t r).2.2.2=0
 .have⟨j,k,o,p⟩:=XkK h;exact .inr ⟨h,_,Xhc e g1 g2 j k o p⟩
 omega
def XuN(v:VX N x L)(s:tU a):QcN N x a b c=Qaf N x 13 a b c:=by
 rw[QcN,Qaf,Ya v.hN v.ht,v.ev];simp only[Xa,Wi,Wa,Wb,YC,Xv,simprocAttr,decide_false,decide_true,Qcz,QaN,Qae];rcases v.thing s with⟨r,e,f,g,u⟩|⟨f,g⟩|⟨r,f,g,k,o⟩
 .simp[f,g,Xa,Xl,u,Xf]
 .simp[f,g,Xa]
 have⟨p,q,j⟩:=Xqo v.n6 v.ht.eb.glo (show 1<=(2:Int) by omega) aa r;rcases j with j|⟨j,z,w,y⟩
 .simp[f,g,Xf k,Xl j,Xa,p,q]
 simp[f,g,Xf,k,j,w,y,Xa,p,q]
def XuO(v:VX N x L)(s:tU a):QcP N x a b c=Qaf N x 15 a b c:=by
 rw[QcP,Qaf,Ya v.hN v.ht,v.ev];simp only[Xa,Wi,Wa,Wb,YC,Xv,simprocAttr,decide_false,decide_true,Qcz,QaN,Qae];rcases v.thing s with⟨r,e,f,g,u⟩|⟨f,g⟩|⟨r,f,g,k,o⟩
 .simp[f,g,Xa,Xl,u,Xf]
 .simp[f,g,Xa]
 have⟨p,q,j⟩:=Xqo v.n6 v.ht.eb.wea (show 1<=(3:Int) by omega) aa r;rcases j with j|⟨j,z,w,y⟩
 .simp[f,g,Xf k,Xl j,Xa,p,q]
 simp[f,g,Xf,k,j,w,y,Xa,p,q]
def VX.del(v:VX N x L)(k:tU a)(o:a≠0){r:Int}(e:QaB N x a=some (r,0)):(Yz a).2=0/\((Yz a).1.Tag=1->(Zh x.l (Yz a).1.Index (Yz a).1.J).2=0)/\((Yz a).1.Tag=2->(YF x.g.e (Yz a).1.Index (Yz a).1.J).2=0)/\((Yz a).1.Tag=3->(YF x.v.e (Yz a).1.Index (Yz a).1.J).2=0):=by
 have f:=v.ht.eb;rw[QaB,v.ev,Xa,Wi,Wa,VS k,Xa,Xf o,Wa,Vm f.loc v.n6,Kg f.glo v.n6,Kg f.wea v.n6]at e;by_cases h:(Yz a).2=0
 .refine⟨h,λj=>?_,λj=>?_,λj=>?_⟩<;>(simp[h,j,Xa]at e;simp[e])
 grind
def XuP(v:VX N x L)(g:tU a):QcM N x a b c=Qaf N x 12 a b c:=by
 rw[QcM,Qaf,Ya v.hN v.ht,v.ev];simp only[Xa,Wi,Wa,Wb,YC,Xv,simprocAttr,decide_false,decide_true,Qcn,Qae];by_cases f:a=0
 .subst f;simp[Xa]
 have⟨⟨q,e⟩,k,j,_⟩:=Vq v.hN v.ht v.hV v.ev g;by_cases o:e=0
 .subst o;have h:=v.del g f j;have p:=XcD v.n6 g;have r:=VS (N:=N) g;by_cases ht:(Yz a).1.Tag=1
  .have g1:=XmZ v.ht.eb.loc v.n6 (Yz a).1.Index (Yz a).1.J;have g2:=Xcy v.ht.eb.loc v.n6 (Yz a).1.Index (Yz a).1.J;have g3:=h.2.1 ht;unfold Vn at g1 g2;simp[k,j,p,r,Xf f,h.1,ht,Xa,g1,g2,g3]
  simp[k,j,p,r,Xf f,h.1,Xl ht,Xa]
 simp[k,j,Xa,Xl,o,Xf,f]
def XuQ(v:VX N x L)(g:tU a):QcO N x a b c=Qaf N x 14 a b c:=by
 rw[QcO,Qaf,Ya v.hN v.ht,v.ev];simp only[Xa,Wi,Wa,Wb,YC,Xv,simprocAttr,decide_false,decide_true,Qcn,Qae];by_cases f:a=0
 .subst f;simp[Xa]
 have⟨⟨q,e⟩,k,j,_⟩:=Vq v.hN v.ht v.hV v.ev g;by_cases o:e=0
 .subst o;have h:=v.del g f j;have p:=XcD v.n6 g;have r:=VS (N:=N) g;by_cases ht:(Yz a).1.Tag=2
  .have g1:=Xhd v.ht.eb.glo v.n6 (Yz a).1.Index (Yz a).1.J;have g2:=JG v.ht.eb.glo v.n6 (Yz a).1.Index (Yz a).1.J;have g3:=h.2.2.1 ht;unfold KR at g1 g2;simp[k,j,p,r,Xf f,h.1,ht,Xa,g1,g2,g3]
  simp[k,j,p,r,Xf f,h.1,Xl ht,Xa]
 simp[k,j,Xa,Xl,o,Xf,f]
def XuR(v:VX N x L)(g:tU a):QcQ N x a b c=Qaf N x 16 a b c:=by
 rw[QcQ,Qaf,Ya v.hN v.ht,v.ev];simp only[Xa,Wi,Wa,Wb,YC,Xv,simprocAttr,decide_false,decide_true,Qcn,Qae];by_cases f:a=0
 .subst f;simp[Xa]
 have⟨⟨q,e⟩,k,j,_⟩:=Vq v.hN v.ht v.hV v.ev g;by_cases o:e=0
 .subst o;have h:=v.del g f j;have p:=XcD v.n6 g;have r:=VS (N:=N) g;by_cases ht:(Yz a).1.Tag=3
  .have g1:=Xhd v.ht.eb.wea v.n6 (Yz a).1.Index (Yz a).1.J;have g2:=JG v.ht.eb.wea v.n6 (Yz a).1.Index (Yz a).1.J;have g3:=h.2.2.2 ht;unfold KR at g1 g2;simp[k,j,p,r,Xf f,h.1,ht,Xa,g1,g2,g3]
  simp[k,j,p,r,Xf f,h.1,Xl ht,Xa]
 simp[k,j,Xa,Xl,o,Xf,f]
end
section
variable {N:Nat}{x:WJ}{L:List Int}{a b c:Int}
def YR(l:Wo):(Yn l 4096).2.2.2=(Yn l 1).2.2.2:=by unfold Yn;grind
def Xnz(g:tU a)(h:a<=2147483647):wI (if 2147483647<a then 2147483647 else a)=a/\wI (Y4 .u64 a 2147483647)=a:=by have⟨f,j⟩:=g;have e:=Yv a 31 aa f j;rw[Wk aa,show(2147483647:Int)=2 ^ 31-1 from rfl,e,Int.emod_eq_of_lt f aa,Xd aa aa];omega
def XsR(f:tU b)(h:b<=4294967295):wW (if 4294967295<b then 4294967295 else b)=b/\wW b=b/\tW b:=by have⟨b0,_⟩:=f;have e:wW b=b:=Xmf b0 h;rw[Wk aa,e];exact⟨rfl,rfl,b0,h⟩
def gc1(v:VX N x L)(r:tU a)(s:tU b):Qdn N x a b c=Qaf N x 1 a b c:=by
 rw[Qdn,Qaf,Ya v.hN v.ht,v.ev];simp only[Xa,Wi,Wa,Wb,YC,Xv,simprocAttr,decide_false,decide_true,Qcm,QbQ,Qa7,Qae];have o:=Xbu v.ht.eb.loc v.n6 4096;have u:=K3 v.ht.eb.loc v.n6 1;have K:=v.ht.eb.pins;by_cases hp:(x.P.length:Int)>0
 .simp only[o,Xa,Wd hp,Wb];repeat rw[Xc aa]
  simp
 simp only[o,u,Xa,Wh hp,Wa];repeat rw[Xc aa]
 by_cases g:a<=2147483647;case neg=>simp[Xa,Wh,g]
 by_cases k:b<=4294967295;case neg=>simp[Xa,Wd,g,Wh,k]
 have⟨w,b2,A⟩:=XsR s k;have⟨B,D⟩:=Xnz r g;have⟨y,E,G,H⟩:=XaU v.hN v.ht (d:=⟨1,a,b⟩) A;simp only[Wd g,Wd k,Wb,Wi,Wa,B,D,w,b2,Jz v.n6,XcC (show 10<=N by have:=v.n6;omega),Xa,E,G];cases Xbn x.h.c ⟨1,a,b⟩with
 |false=>simp[Xa]
 |true=>
 by_cases e:(Yn x.l 1).2.2.2=0;case neg=>simp[Xa,YR,Xl e]
 by_cases j:y.2.2=0;case neg=>simp[Xa,YR,e,Xl j]
 by_cases hw:y.2.1=0
 .simp[Xa,YR,e,j,hw]
 have⟨p,q,f⟩:=XeZ v.n6 H.loc y.2.1;rcases f with f|⟨f,z,I,J⟩
 .simp[Xa,YR,e,j,Xf hw,p,q,Xl f]
 simp[Xa,YR,e,j,Xf,hw,p,q,f,I,J]
def gc2(v:VX N x L)(q:tU a)(G:tU b):Qdo N x a b c=Qaf N x 2 a b c:=by
 rw[Qdo,Qaf,Ya v.hN v.ht,v.ev];simp only[Xa,Wi,Wa,Wb,YC,Xv,simprocAttr,decide_false,decide_true,Qcm,QbQ,Qa7,Qae];have k:=Xbu v.ht.eb.loc v.n6 4096;have r:=K3 v.ht.eb.loc v.n6 1;have H:=v.ht.eb.pins;by_cases hp:(x.P.length:Int)>0
 .simp only[k,Xa,Wd hp,Wb];repeat rw[Xc aa]
 simp only[k,r,Xa,Wh hp,Wa];repeat rw[Xc aa]
 by_cases j:a<=2147483647;case neg=>simp[Xa,Wh,j]
 have⟨s,u⟩:=Xnz q j;have⟨y,w,A,B⟩:=XaU v.hN v.ht (d:=⟨2,a,0⟩) ⟨ab,ab⟩;simp only[Wd j,Wb,Wi,Wa,s,u,Jz v.n6,XcC (show 10<=N by have:=v.n6;omega),Xa,w,A];cases Xbn x.h.c ⟨2,a,0⟩with
 |false=>simp[Xa]
 |true=>
 by_cases e:(Yn x.l 1).2.2.2=0;case neg=>simp[Xa,YR,Xl e]
 by_cases g:y.2.2=0;case neg=>simp[Xa,YR,e,Xl g]
 by_cases hw:y.2.1=0
 .simp[Xa,YR,e,g,hw]
 have⟨o,p,f⟩:=XeZ v.n6 B.loc y.2.1;rcases f with f|⟨f,z,D,E⟩
 .simp[Xa,YR,e,g,Xf hw,o,p,Xl f]
 simp[Xa,YR,e,g,Xf,hw,o,p,f,D,E]
def gc3(v:VX N x L)(q:tU a)(G:tU b):Qdp N x a b c=Qaf N x 3 a b c:=by
 rw[Qdp,Qaf,Ya v.hN v.ht,v.ev];simp only[Xa,Wi,Wa,Wb,YC,Xv,simprocAttr,decide_false,decide_true,Qcm,QbQ,Qa7,Qae];have k:=Xbu v.ht.eb.loc v.n6 4096;have r:=K3 v.ht.eb.loc v.n6 1;have H:=v.ht.eb.pins;by_cases hp:(x.P.length:Int)>0
 .simp only[k,Xa,Wd hp,Wb];repeat rw[Xc aa]
 simp only[k,r,Xa,Wh hp,Wa];repeat rw[Xc aa]
 by_cases j:a<=2147483647;case neg=>simp[Xa,Wh,j]
 have⟨s,u⟩:=Xnz q j;have⟨y,w,A,B⟩:=XaU v.hN v.ht (d:=⟨3,a,0⟩) ⟨ab,ab⟩;simp only[Wd j,Wb,Wi,Wa,s,u,Jz v.n6,XcC (show 10<=N by have:=v.n6;omega),Xa,w,A];cases Xbn x.h.c ⟨3,a,0⟩with
 |false=>simp[Xa]
 |true=>
 by_cases e:(Yn x.l 1).2.2.2=0;case neg=>simp[Xa,YR,Xl e]
 by_cases g:y.2.2=0;case neg=>simp[Xa,YR,e,Xl g]
 by_cases hw:y.2.1=0
 .simp[Xa,YR,e,g,hw]
 have⟨o,p,f⟩:=XeZ v.n6 B.loc y.2.1;rcases f with f|⟨f,z,D,E⟩
 .simp[Xa,YR,e,g,Xf hw,o,p,Xl f]
 simp[Xa,YR,e,g,Xf,hw,o,p,f,D,E]
def XnA(hN:NB N)(ht:ET x){op:Int}(f:tU a)(g:tU b)(o:tU c):Qd4 N x op a b c=Qaf N x op a b c:=by
 have⟨t,j,_⟩:=Zt hN ht.eb;cases t with
 |false=>
  have e:Qaf N x op a b c=some ((WJ.mk zHp (Wo.mk [] [] []) (Ws.mk []) (Ws.mk []) [] []),0,19):=by rw[Qaf,j,Xa,Qae];simp[Xa]
  simp[e,Qd4,Qdn,Qdo,Qdp,Qdq,Qdr,Qds,Qdt,Qdu,Qdv,QcK,QcL,QcM,QcN,QcO,QcP,QcQ,QcR,QcS,QcT,QcU,Qfo,Ya,hN,ht,j,Xa,W7,Wb,Bool.cond_self]
 |true=>
 have⟨L,hV⟩:=XiE hN ht j;have v:VX N x L:=⟨hN,ht,hV,j⟩
 by_cases h:1<=op/\op<=20
 .have p:op=1\/op=2\/op=3\/op=4\/op=5\/op=6\/op=7\/op=8\/op=9\/op=10\/op=11\/op=12\/op=13\/op=14\/op=15\/op=16\/op=17\/op=18\/op=19\/op=20:=aa;rcases p with rfl|rfl|rfl|rfl|rfl|rfl|rfl|rfl|rfl|rfl|rfl|rfl|rfl|rfl|rfl|rfl|rfl|rfl|rfl|rfl
  .exact gc1 v f g
  .exact gc2 v f g
  .exact gc3 v f g
  .exact gc4 v f
  .exact gc5 v f
  .exact gc6 v f g
  .exact gc7 v f g
  .exact gc8 v f g
  .exact gc9 v f g o
  .exact XuH v f g
  .exact XuI v f
  .exact XuP v f
  .exact XuN v f
  .exact XuQ v f
  .exact XuO v f
  .exact XuR v f
  .exact XuK v f
  .exact XuJ v f
  .exact XuL v f
  exact XuM v f
 rw[Qd4,Qfo,Qaf,Ya hN ht,j];simp only[Xa,Wi,Wa,Xv,Qae];have e:∀k:Int,1<=k->k<=20->(op==k)=false:=λk q r=>Xf aa;simp only[e 1 aa aa,e 2 aa aa,e 3 aa aa,e 4 aa aa,e 5 aa aa,e 6 aa aa,e 7 aa aa,e 8 aa aa,e 9 aa aa,e 10 aa aa,e 11 aa aa,e 12 aa aa,e 13 aa aa,e 14 aa aa,e 15 aa aa,e 16 aa aa,e 17 aa aa,e 18 aa aa,e 19 aa aa,e 20 aa aa,Wa];grind
end
section
variable {N:Nat}
def Xqp{t:U0}{m a:Int}(h:TA m t)(f:m<=1000000):PT (Qaa N t a) λr=>TA (m+1) r.2:=by have⟨h0,g⟩:=h;have e:=Xd (n:=t.at_+1) aa aa;refine Wj (We ⟨h0,by grind⟩) ?_;rw[Xv];refine Wj (WD λ_=>WK (WK (We ⟨?_,?_⟩))) (WK (WK (We ⟨?_,?_⟩)))<;>simp only[e]<;>omega
def XnB{w:Ik}{t:U0}{m:Int}(h:TA m t)(e:m<=900000):PT (QbY N w t) λr=>TA (m+10) r.2:=by rw[QbY];simp only[Xv];repeat' first|refine Wj ?_ ?_|refine WK ?_|(refine Wx (Xqp ag aa) λ_ _=>?_)|refine WD λ_=>?_|exact We (TA.le ag aa)
def XpO{x:WJ}{t:U0}{m:Int}(h:TA m t)(e:m<=800000):PT (Qg4 N x t) λr=>TA (m+20) r.2:=by repeat' first|refine Wj ?_ ?_|refine WK ?_|(refine Wx (Xqp ag aa) λ_ _=>?_)|(refine Wx (XnB ag aa) λ_ _=>?_)|refine WD λ_=>?_|exact We (TA.le ag aa)
def XhB{p:Iz}{k:Nat}(hp:PB k p)(g:k<=60)(X:List WJ):∀(n i:Nat) (t:U0) (l:List IJ),i<=4->4-i<n->TA (30+20*i) t->l.length=2+i->(∀d∈l,JN d)->Ok (QbB N p X n (i:Int) t.L t.at_ l) λr=>r.length<=6/\∀d∈r,JN d
 |0,i,t,l,_,j,_,_,_=>by omega
 |n+1,i,t,l,s,j,ht,u,hd=>by
  refine Wp (λf=>?_) λ_=>Wg ⟨aa,hd⟩;have f:=Ww f;have w2:=hp.w2;refine WI (XjK (p:=p) (t:=⟨t.L,t.at_⟩) hp.w1 aa ht aa) λy o q=>WU aa ?_;rw[Xg aa];refine XhB hp g X n (i+1) y.2 _ aa aa (q.le aa) (by grind) λd e=>?_;rcases WH.1 e with e|e
  .simp_all
  obtain rfl:d=y.1:=by simp_all
  exact Qiy hp.ty y o
def XnC(hN:NB N){x:WJ}(p:ET x){e:List IJ}(v:e.length<=6)(hd:∀d∈e,JN d)(X:List WJ)(j:Int):Qa9 N X e x j N 0=some (.nxt ()):=by have f:=hN;unfold NB at f;refine JR (F:=Qa9 N X e x j) (L:=e.length) (u:=()) (λn k g=>?_) (λn=>by rw[Qa9,XA,Wa]) aa;have o:=hd _ (WL g);have⟨r,q,s⟩:=XgX hN p.eb e[k].Op e[k].A e[k].B e[k].C;rw[Qa9,Xm g,Wb,Xe,Wc g,Xa,XnA hN p o.1 o.2.1 o.2.2,q,Xa,Xa];simp only[bne_self_eq_false,Wa];rw[XrA s hN,Xa,Wi,Wa,Xg aa]
def XnD(hN:NB N){e:List IJ}(j:e.length<=6)(hd:∀d∈e,JN d){X:List WJ}(p:X.length<=3)(o:∀x∈X,ET x):QaU N X e N 0=some (.nxt ()):=by have f:=hN;unfold NB at f;refine JR (F:=QaU N X e) (L:=X.length) (u:=()) (λn k g=>?_) (λn=>by rw[QaU,XA,Wa]) aa;rw[QaU,Xm g,Wb,Xe,Wc g,Xa,Xc aa,XnC hN (o _ (WL g)) j hd,Xa,Xp,Xg aa]
def XfR(m:Nat):QhE (m+5000)=some true:=ac
def XaV(hN:NB N){raw:WJ}(A:Yi raw)(tape odd:List Int)(op:Int){a b c:Int}(v:tU a)(w:tU b)(z:tU c):Qd7 N raw tape odd op a b c=some true:=by
 have f:=hN;unfold NB at f;have⟨p,ep,k,B,hp,g,D⟩:=XkX hN tape;have V:ET p.N:=⟨hp.env,hp.ty.1.1⟩
 have⟨y,j,E⟩:=XpN hN hp.env g D odd;have o:=XpO (N:=N) (x:=p.N) (t:=⟨odd,0⟩) (m:=0) ⟨ab,ab⟩ aa y j;have W:ET y.1:=⟨E,(Qpx hp.ty.1 y j).1⟩
 have⟨G,el,hb⟩:=XkR (N:=N) raw;have H:∀d∈[(IJ.mk op a b c),(IJ.mk (wI ((op.tmod 21)+1)) (a.tmod 1048576) (b.tmod 4) c)],JN d:=by
  have I:=Oi 1048576 v.1;have Y:=IV a (show(0:Int)<1048576 by omega);have J:=Oi 4 w.1;have Z:=IV b (show(0:Int)<4 by omega);have K:tU (a.tmod 1048576):=⟨I,aa⟩
  have M:tU (b.tmod 4):=⟨J,aa⟩
  intro d hd;simp only[UT,List.not_mem_nil,or_false]at hd;rcases hd with rfl|rfl
  .exact⟨v,w,z⟩
  exact⟨K,M,z⟩
 obtain⟨m,rfl⟩:∃m,N=m+5000:=⟨N-5000,aa⟩
 have fin:∀X:List WJ,X.length<=3->(∀x∈X,ET x)->(bnd (QbB (m+5000) p X (m+5000) 0 y.2.L y.2.at_ [(IJ.mk op a b c),(IJ.mk (wI ((op.tmod 21)+1)) (a.tmod 1048576) (b.tmod 4) c)]) λq=>grd (X.length<=140737488355328) <| bnd (QaU (m+5000) X q (m+5000) 0) λe=>exK e (λr=>some r) λO=>bnd (QhE (m+5000)) λs=>some s)=some true:=by intro X R S;obtain⟨ds,T,U,hd⟩:=XhB hp B X (m+5000) 0 y.2 _ aa aa (o.le aa) ab H;have u:QbB (m+5000) p X (m+5000) 0 y.2.L y.2.at_ _=some ds:=T;rw[u,Xa,Xc aa,XnD hN U hd R S,Xa,Xp,XfR,Xa]
 rw[Qd7,ep,Xa,j,Xa,el,Xa,Xv];cases h:G with
 |true=>
  have e3:ET raw:=⟨hb h,A.1⟩
  grind
 |false=>grind
end
end Go.Sx
