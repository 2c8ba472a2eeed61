import Derived.Test.YtmpbhfnjjaocoaaGreatAE
set_option linter.all false
namespace Go.Sx
section
variable {N:Nat}
def K3{ps:List Wt}{i:Nat}(h:i<ps.length):pg ps (i:Int)=ps[i]:=by unfold pg;simp_all
def Xqc{ps qs:List Wt}(hl:qs.length=ps.length)(h:∀i,0<=i->pg qs i=pg ps i):qs=ps:=by refine List.ext_getElem hl λi h1 h2=>?_;rw[←K3 h1,←K3 h2];simp_all
def Xqd{ps:List Wt}(q:Wt->Bool){i k:Nat}(h:i+1+k<=ps.length):((ps.drop (i+1)).take k).all q=true↔∀m:Int,1<=m->m<=k->q (pg ps (i+m))=true:=by
 rw[Ud];constructor
 .intro hq m h1 h2;have e:pg ps (i+m)=((ps.drop (i+1)).take k)[m.toNat-1]'(by rw[Wj,Wl];omega):=by rw[U7,Ir,←K3];congr 1;omega
  grind
 intro hq x hx;obtain⟨m,hm,rfl⟩:=WN hx;rw[Wj,Wl]at hm;rw[U7,Ir,←K3];have:=hq (m+1) aa aa;grind
structure Ot(c:WT)(ps:List Wt)(i:Int):Prop where
 sp:0<=(pg ps i).s/\(pg ps i).s<=1
 pn:0<=(pg ps i).P/\(pg ps i).P<=2147483647
 k0:(pg ps i).k=0->pg ps i=KZ
 k1:(pg ps i).k=1->0<=(pg ps i).u/\(pg ps i).u<=c.W
 k2:(pg ps i).k=2->1<=Xy c (pg ps i).u/\i+Xy c (pg ps i).u<=ps.length/\∀m,1<=m->m<Xy c (pg ps i).u->(pg ps (i+m)).k=3/\(pg ps (i+m)).s=(pg ps i).s/\(pg ps (i+m)).u=0/\(pg ps (i+m)).P=0
 kd:(pg ps i).k=0\/(pg ps i).k=1\/(pg ps i).k=2
def Xee{s:Int}{p:Wt}:Ya s p=true↔p.k=3/\p.s=s/\p.u=0/\p.P=0:=by unfold Ya ZZ;grind
def XbX{c:WT}{ps:List Wt}{i:Nat}(hi:i<ps.length):(X9 c ps i ps[i]≠0↔Ot c ps i)/\(Ot c ps i->X9 c ps i ps[i]=if ps[i].k=2 then(Xy c ps[i].u).toNat else 1):=by
 have e:=K3 hi;generalize hp:ps[i]=p at *;have tl:∀(h:i+Xy c p.u<=ps.length)(h1:1<=Xy c p.u),((ps.drop (i+1)).take ((Xy c p.u).toNat-1)).all (Ya p.s)=true↔∀m,1<=m->m<Xy c p.u->(pg ps (i+m)).k=3/\(pg ps (i+m)).s=p.s/\(pg ps (i+m)).u=0/\(pg ps (i+m)).P=0:=λh h1=>by rw[Xqd _ aa];exact⟨λq m a b=>Xee.1 (q m a aa),λq m a b=>Xee.2 (q m a aa)⟩
 unfold X9;constructor
 .constructor
  .intro h;by_cases h0:p.k=0
   .rw[Wq h0]at h;by_cases h1:p.s=0/\p.u=0/\p.P=0
    .obtain⟨a,b,d⟩:=h1;refine⟨?_,?_,?_,?_,?_,?_⟩<;>rw[e]
     .omega
     .omega
     .intro _;obtain⟨k,s,u,q⟩:=p;simp_all[KZ]
     .intro h;omega
     .intro h;omega
     exact .inl h0
    rw[Wn h1]at h;exact absurd rfl h
   rw[Wn h0]at h;by_cases h1:(p.s=0\/p.s=1)/\0<=p.P/\p.P<=2147483647;rotate_left
   .rw[Wn h1]at h;exact absurd rfl h
   rw[Wq h1]at h;by_cases h2:p.k=1
   .rw[Wq h2]at h;by_cases h3:0<=p.u/\p.u<=c.W
    .refine⟨?_,?_,?_,?_,?_,?_⟩<;>rw[e]
     .omega
     .omega
     .intro h;omega
     .exactλ_=>h3
     .intro h;omega
     exact .inr (.inl h2)
    rw[Wn h3]at h;exact absurd rfl h
   rw[Wn h2]at h;by_cases h3:p.k=2;rotate_left
   .rw[Wn h3]at h;exact absurd rfl h
   by_cases h4:1<=Xy c p.u/\(Xy c p.u).toNat<=ps.length-i/\((ps.drop (i+1)).take ((Xy c p.u).toNat-1)).all (Ya p.s)=true
   .refine⟨?_,?_,?_,?_,?_,?_⟩<;>rw[e]
    .omega
    .omega
    .omega
    .omega
    .exactλ_=>⟨h4.1,aa,(tl aa h4.1).1 h4.2.2⟩
    exact .inr (.inr h3)
   simp_all
  intro b;have hk:=b.kd;have hs:=b.sp;have hn:=b.pn;have b0:=b.k0;have b1:=b.k1;have b2:=b.k2;rw[e]at hk hs hn b0 b1 b2;rcases hk with hk|hk|hk
  .rw[Wq hk,b0 hk,Wq ⟨rfl,rfl,rfl⟩];omega
  .rw[Wn aa,Wq ⟨aa,hn⟩,Wq hk,Wq (b1 hk)];omega
  grind
 intro b;have hk:=b.kd;have hs:=b.sp;have hn:=b.pn;have b0:=b.k0;have b1:=b.k1;have b2:=b.k2;rw[e]at hk hs hn b0 b1 b2;rcases hk with hk|hk|hk
 .rw[Wq hk,b0 hk,Wq ⟨rfl,rfl,rfl⟩];rfl
 .rw[Wn aa,Wq ⟨aa,hn⟩,Wq hk,Wq (b1 hk),Wn aa]
 grind
structure Om(c:WT)(ps:List Wt):Prop where
 hd:∀i:Int,0<=i->i<ps.length->(pg ps i).k≠3->Ot c ps i
 tl:∀i:Int,0<=i->i<ps.length->(pg ps i).k=3->∃k:Int,0<=k/\k<i/\Ot c ps k/\(pg ps k).k=2/\i<k+Xy c (pg ps k).u
def XgB{h:Wk}(hl:h.p.length<=100000)(hN:1000000<N):∀(n i:Nat),i<=h.p.length->Qae N h n (i:Int)=some (.nxt ())->∀j:Nat,i<=j->j<h.p.length->∃k s:Nat,i<=k/\k<=j/\j<k+s/\∃hk:k<h.p.length,X9 h.c h.p k h.p[k]=s
 |0,i,_,e,_,_,_=>by simp_all[Qae]
 |n+1,i,hi,e,j,h1,h2=>by
  have hlt:i<h.p.length:=aa;rw[Qae,Wg (show(i:Int)<_ by omega),Wb,Ki hl hN hlt,Xa]at e;have hs:=XcS (c:=h.c) hlt (p:=h.p[i]);generalize es:X9 h.c h.p i h.p[i]=s at *;by_cases h0:s=0
  .simp_all
  rw[show((s:Int)==0)=false by simp_all,Wa,Xd aa aa,show(i:Int)+(s:Int)=((i+s:Nat):Int) by omega]at e;by_cases hj:j<i+s
  .grind
  have⟨k,t,a,b,d,f⟩:=XgB hl hN n (i+s) aa e j aa h2;grind
def XgC{h:Wk}:∀(n:Nat)(i:Int){b:Bool},Qae N h n i=some (.ret b)->b=false
 |0,i,b,e=>by simp_all[Qae]
 |n+1,i,b,e=>by
  rw[Qae]at e;cases h1:decide (i<(h.p.length:Int))with
  |false=>simp_all
  |true=>
   rw[h1,Wb]at e;cases h2:Qg1 N h.c h.p i with
   |none=>simp_all[h2,Kr]
   |some y=>
    rw[h2,Xa]at e;cases h3:y==0 with
    |true=>simp_all
    |false=>rw[h3,Wa]at e;exact XgC n _ e
def Xl4(hN:NB N){h:Wk}(hb:HB h)(ep:Qab N h=some true):Om h.c h.p:=by
 have hN':1000000<N:=by unfold NB at hN;omega
 have hp:=Yf hN hb ep;have e:=ep;rw[←Yl hb.2 hN',K2 hp.pre]at e;have e1:Qae N h N 0=some (.nxt ()):=by
  cases h1:Qae N h N 0 with
  |none=>simp_all[h1,Kr]
  |some x=>
   rw[h1,Xa]at e;cases x with
   |ret a=>rw[XA]at e;cases e;exact absurd (XgC N 0 h1) ab
   |nxt u=>rfl
 have cv:=XgB hb.2 hN' N 0 aa e1;refine⟨λi h0 h1 hk=>?_,λi h0 h1 hk=>?_⟩
 .obtain⟨j,rfl⟩:∃j:Nat,i=(j:Int):=⟨i.toNat,aa⟩
  have⟨k,s,_,h2,h3,h4,es⟩:=cv j aa aa;have hs:=XbX (c:=h.c) h4;have hb:=hs.1.1 aa;by_cases hjk:j=k
  .simp_all
  have:=hs.2 hb;by_cases h2k:h.p[k].k=2
  .rw[Wq h2k]at this;have:=(hb.k2 (by rw[K3 h4];exact h2k)).2.2 ((j:Int)-k) aa (by rw[K3 h4];omega);rw[show(k:Int)+((j:Int)-k)=j by omega]at this;exact absurd this.1 hk
  grind
 obtain⟨j,rfl⟩:∃j:Nat,i=(j:Int):=⟨i.toNat,aa⟩
 have⟨k,s,_,h2,h3,h4,es⟩:=cv j aa aa;have hs:=XbX (c:=h.c) h4;have hb:=hs.1.1 aa;have h5:=hs.2 hb;have hkd:=hb.kd;have hjk:j≠k:=by rintro rfl;omega
 by_cases h2k:h.p[k].k=2
 .rw[Wq h2k]at h5;exact⟨k,aa,aa,hb,by rw[K3 h4];exact h2k,by rw[K3 h4];omega⟩
 grind
def SpanS(c:WT)(ps qs:List Wt):Prop:=qs.length=ps.length/\∀i(hi:i<ps.length)(hj:i<qs.length),X9 c qs i qs[i]=X9 c ps i ps[i]
def SpanS.refl(c:WT)(ps:List Wt):SpanS c ps ps:=⟨rfl,λ_ _ _=>rfl⟩
def SpanS.trans{c:WT}{a b d:List Wt}(h1:SpanS c a b)(h2:SpanS c b d):SpanS c a d:=⟨h2.1.trans h1.1,λi hi hj=>(h2.2 i (by rw[h1.1];omega) hj).trans (h1.2 i hi (by rw[h1.1];omega))⟩
def Xc7{c:WT}{ps qs:List Wt}(hN:Om c ps)(hl:qs.length=ps.length)(h:∀i:Int,0<=i->i<ps.length->((pg ps i).k<=1/\(pg qs i).k=1/\(0<=(pg qs i).s/\(pg qs i).s<=1)/\(0<=(pg qs i).P/\(pg qs i).P<=2147483647)/\0<=(pg qs i).u/\(pg qs i).u<=c.W) \/
  ((pg qs i).k=(pg ps i).k/\(pg qs i).u=(pg ps i).u/\(pg qs i).P=(pg ps i).P/\((pg qs i).s=(pg ps i).s\/2<=(pg ps i).k/\0<=(pg qs i).s/\(pg qs i).s<=1)))(ht:∀i m:Int,0<=i->(pg ps i).k=2->1<=m->m<Xy c (pg ps i).u->i+m<ps.length->(pg qs (i+m)).s=(pg qs i).s):SpanS c ps qs:=by
 refine⟨hl,λi hi hj=>?_⟩;have e1:=K3 hi;have e2:=K3 hj;have s1:=XbX (c:=c) hi;have s2:=XbX (c:=c) hj;by_cases h3:(pg ps i).k=3
 .have n1:¬Ot c ps i:=λb=>by have:=b.kd;omega
  have n2:¬Ot c qs i:=λb=>by have:=b.kd;have:=h i aa aa;omega
  simp_all
 have b:=hN.hd i aa aa h3;have hb:=b.kd;have b0:=b.k0;have b1:=b.k1;have b2:=b.k2;have bs:=b.sp;have bp:=b.pn;have hi':=h i aa aa;have bq:Ot c qs i:=by
  refine⟨aa,aa,λhk=>?_,λhk=>?_,λhk=>?_,aa⟩
  .rcases hi' with g|⟨g1,g2,g3,g4⟩
   .omega
   have:=b0 aa;rw[this]at g1 g2 g3 g4;have g4:(pg qs i).s=0:=by rcases g4 with g|g;exact g;exact absurd g.1 ae
   have hx:pg qs i=⟨(pg qs i).k,(pg qs i).s,(pg qs i).u,(pg qs i).P⟩:=rfl;rw[hx,g1,g2,g3,g4];rfl
  .omega
  rcases hi' with g|⟨g1,g2,g3,g4⟩
  .omega
  have hk2:(pg ps i).k=2:=aa;have⟨c1,c2,c3⟩:=b2 hk2;rw[g2,hl];refine⟨c1,c2,λm m1 m2=>?_⟩;have⟨d1,d2,d3,d4⟩:=c3 m m1 m2;have hm:=h (i+m) aa aa;refine⟨aa,ht i m aa hk2 m1 m2 aa,aa,aa⟩
 rw[s1.2 b,s2.2 bq];rw[e1]at hi' hb;rw[e2]at hi';by_cases hk:ps[i].k=2
 .simp_all
 rw[Wn hk,Wn aa]
def SpanS.proper(hN:NB N){h:Wk}(hb:HB h)(ep:Qab N h=some true){qs:List Wt}(hs:SpanS h.c h.p qs){ws:List Int}(hw:ws.length=h.w.length){b:Int}(hbump:b = -1\/(0<=b/\b<qs.length/\(pg qs b).k=1)):Qab N ⟨h.c,ws,qs,h.s,b⟩=some true:=
 Xby hN hb ep hs.1 (λi hi=>hs.2 i hi (by rw[hs.1];omega)) hw hbump
end
section
variable {N:Nat}{h0:Wk}{l:List Int}
def XbY{α:Type}{l:List α}{o n:Nat}{i:Int}(h1:0<=i)(h2:i<n)(h3:o+i.toNat<l.length):Km l o n i=some (l[o+i.toNat]'h3):=by unfold Km;simp_all
def XiF{c:WT}(hv:X6 c=true){a:Int}(hr:4096<=a/\a<4096+c.p*c.W):Qch N c a=some (pgi c a,pgo c a,0)/\wI (wI (pgi c a*c.W)+pgo c a)=a-4096:=by
 have⟨e,q0,q1,q2,q3⟩:=Ks hv hr;have hm:=XW hv (i:=pgi c a) q0 q1;refine⟨?_,?_⟩
 .rw[Xhv _ _ _ aa,Jx,hv,Wn ab,Wq hr];rfl
 rw[Xd (n:=pgi c a*c.W) aa aa,Xd aa aa];unfold Xg at e;omega
def Xtf{c c':WT}(hcc:c=c')(hv:X6 c=true)(hN:1000000<N){cp X n i u:Int}{ws q:List Int}{ps:List Wt}{β:Type}(j6:Int->Int->Int->List Int->List Wt->List Int->Option β)(hw:(ws.length:Int)=c.p*c.W)(hx0:0<=X)(hn:1<=n)(hx:X+n<=ws.length)(i0:0<=i)(i1:i<c.p)(u0:0<=u)(u1:u+n<=c.W)(hps:(ps.length:Int)=c.p)(hq:q.length<=100000):
 FT N c' cp ws ps q X (X+n) j6 i u=j6 (Xg c i u) 0 (wI (cp+1)) ((ovr ws ((ws.drop X.toNat).take n.toNat) (ix (Xg c i u))).set X.toNat (wU (wU (4*Xg c i u)+2))) (ps.set i.toNat ⟨(pg ps i).k,(pg ps i).s,wI ((pg ps i).u+n),(pg ps i).P⟩) (q++[Xg c i u]):=by
 subst hcc;have hm:=XW hv (i:=i) i0 i1;have ea:Xg c i u=4096+i*c.W+u:=rfl;have hr:4096<=Xg c i u/\Xg c i u<4096+c.p*c.W:=aa;have⟨o1,o2⟩:=XiF (N:=N) hv hr;have eL:((X+n).toNat-X.toNat)=n.toNat:=aa;have eN:(n.toNat:Int)=n:=aa;have hl0:ovr ws ((ws.drop X.toNat).take n.toNat) (ix (Xg c i u))=(ws.take (Xg c i u-4096).toNat++(ws.drop X.toNat).take n.toNat)++ws.drop ((Xg c i u-4096).toNat+n.toNat):=by unfold ovr ix;rw[Wj,Wl,Nat.min_eq_left aa]
 rw[FT,Vr,KC,hv,Wn ab,Wq ⟨i0,i1,u0,aa⟩,Xa];rw[show((0:Int) != 0)=false from rfl,Wa,eL,eN,Xc aa,o1,Xa];rw[show((0:Int) != 0)=false from rfl,Wa,Xc aa];rw[o2,Xd (n:=(ws.length:Int)-(Xg c i u-4096)) aa aa,Wh (p:=n>_) aa,Wa];rw[Xd (n:=Xg c i u-4096+n) aa aa,Xc aa,XgA hN aa aa,V4,Wn aa,Xa];rw[show((0:Int) != 0)=false from rfl,Wa,Xc aa,←hl0,XbY aa aa (by grind),Xa,XH i0 aa,Xa,Xc aa,Xa,Xc aa]
def XrD(w:WD)(a:Int)(lp:Nat->Int->List Wt->Option (List Wt))(h0:∀i ps,lp 0 i ps=none)(hs:∀n i ps,lp (n+1) i ps=(grd (ps.length<=140737488355328) <|
 bif (decide (i<(ps.length:Int)))then(bnd (Xb ps i) λp12=>
  bif (p12.k==3)then(bnd (Xb ps i) λp13=>
   lp n (wI (i+1)) (ps.set i.toNat (Wt.mk p13.k (wI (1-w.h.s)) p13.u p13.P)))
  else some ps)
 else some ps)):∀(n:Nat)(i:Int)(ps:List Wt),lp n i ps=QaH N w a n i ps
 |0,i,ps=>by rw[h0,QaH]
 |n+1,i,ps=>by rw[hs,QaH];have:=XrD w a lp h0 hs n;simp_all
def Prm(w:WD)(i:Int):Prop:=(0<=i/\i<w.h.p.length)/\(pg w.h.p i).k=1/\(pg w.h.p i).s≠w.h.s/\i∉w.t
def Xom(hN:NB N){w:WD}{i:Int}(hl:w.t.length<=100000)(hp:w.h.p.length<=100000)(hs0:0<=w.h.s/\w.h.s<=1)(hsp:∀i,0<=i->(pg w.h.p i).k=1->0<=(pg w.h.p i).s/\(pg w.h.p i).s<=1){β:Type}:
 ∃b,(b=true↔Prm w i)/\QcW N w i=some b/\∀K:Bool->Option β,(jn K λj2=>bif (decide (i<0))then j2 false
  else grd (w.h.p.length<=140737488355328) <|
  bif (decide (i>=(w.h.p.length:Int)))then j2 false
  else bnd (Xb w.h.p i) λp23=>
  jn (λ(x25:Bool)=>
   j2 x25) λj1=>
  bif (p23.k==1)then(bif (p23.s==(wI (1-w.h.s)))then(bnd (Qa6 N w.t i) λy24=>
      j1 (!y24))
   else j1 false)
  else j1 false)=K b:=by
 have hN':=hN;unfold NB at hN';rw[QcW];by_cases h1:i<0
 .exact⟨false,⟨λh=>(by grind),λh=>by have:=h.1;omega⟩,by simp_all,λK=>by rw[XF,Wg h1,Wb]⟩
 by_cases h2:i>=(w.h.p.length:Int)
 .exact⟨false,⟨λh=>(by grind),λh=>by have:=h.1;omega⟩,by simp_all,λK=>by rw[XF,Wh h1,Wa,Xc aa,Wg h2,Wb]⟩
 rw[Wh h1,Wa,Wh h2,Wa,XH aa aa,Xa];by_cases h3:(pg w.h.p i).k=1
 .have:=hsp i aa h3;rw[XN h3,Wb];by_cases h4:(pg w.h.p i).s=w.h.s
  .exact⟨false,⟨λh=>(by grind),λh=>absurd h4 h.2.2.1⟩,by simp_all,λK=>by rw[XF,Wa,Xc aa,Wa,Xa,XF,XN h3,Wb,Xd (n:=1-w.h.s) aa aa,XG aa,Wa]⟩
  exact⟨!w.t.contains i,⟨λh=>⟨aa,h3,h4,by simp_all⟩,λh=>by simpa using h.2.2.2⟩,by rw[X2 h4,Wb,XjO _ _ aa aa,Xa],λK=>by rw[XF,Wa,Xc aa,Wa,Xa,XF,XN h3,Wb,Xd (n:=1-w.h.s) aa aa,XN aa,Wb,XjN _ _ aa aa,Xa]⟩
 exact⟨false,⟨λh=>(by grind),λh=>absurd h.2.1 h3⟩,by grind,λK=>by rw[XF,Wa,Xc aa,Wa,Xa,XF,XG h3,Wa]⟩
def Xe6(hN:NB N){w:WD}{i:Int}(hl:w.t.length<=100000)(hp:w.h.p.length<=100000)(hs0:0<=w.h.s/\w.h.s<=1)(hsp:∀i,0<=i->(pg w.h.p i).k=1->0<=(pg w.h.p i).s/\(pg w.h.p i).s<=1):
 ∃b,(b=true↔Prm w i)/\QcW N w i=some b/\QcZ N w i=some b:=by have⟨b,h3,h1,h2⟩:=Xom (β:=Bool) (i:=i) hN hl hp hs0 hsp;exact⟨b,h3,h1,h2 some⟩
end
section
variable {N:Nat}{h0:Wk}{l:List Int}
structure I5(h0:Wk)(l:List Int)(w:WD):Prop where
 q:∀a∈w.q,okH (wd w.h.w a)=true
 old:∀a∈l,a∉w.q->Vj (wd w.h.w a)=false->okH (wd w.h.w a)=true
 fw:∀a∈l,Vj (wd w.h.w a)=true->YA .u64 (wd w.h.w a) 2≠0
 ws:∀x∈w.h.w,tU x
 ss:SpanS h0.c h0.p w.h.p
 k1:∀i,0<=i->(pg h0.p i).k=1->(pg w.h.p i).k=1
 pr:∀i,Prm w i->(pg h0.p i).k=1/\(pg w.h.p i).u=(pg h0.p i).u
 hw:∀b∈l,Prm w (pgi h0.c b)->wd w.h.w b=wd h0.w b
 bm:w.h.b=h0.b
 ol:w.o=JC h0 l
def KeepW(w w':WD):Prop:=w'=⟨⟨w.h.c,w'.h.w,w'.h.p,w.h.s,w.h.b⟩,w.o,w'.t,w'.q,w.d,⟨w'.r.j,w'.r.K,w.r.F,w.r.E,w.r.f,w.r.y⟩⟩
def XiG(w:WD)(a:Int):∀(n:Nat)(i:Int)(qs r:List Wt),0<=i->QaH N w a n i qs=some r->∀j,0<=j->(((i<=j/\j<qs.length/\∀x,i<=x->x<=j->(pg qs x).k=3)/\pg r j=⟨3,wI (1-w.h.s),(pg qs j).u,(pg qs j).P⟩)\/(¬(i<=j/\j<qs.length/\∀x,i<=x->x<=j->(pg qs x).k=3)/\pg r j=pg qs j))
 |0,i,qs,r,_,e,_,_=>by simp_all[QaH]
 |n+1,i,qs,r,h0,e,j,hj=>by
  rw[QaH]at e;by_cases hl:qs.length<=140737488355328;rotate_left
  .unfold grd at e;rw[Wn hl]at e;cases e
  rw[Xc hl]at e;by_cases hc:i<(qs.length:Int);rotate_left
  .rw[Wh hc,Wa]at e;cases e;exact .inr ⟨λh=>aa,rfl⟩
  rw[Wg hc,Wb,XH h0 hc,Xa,Xa]at e;by_cases h3:(pg qs i).k=3;rotate_left
  .rw[XG h3,Wa]at e;cases e;exact .inr ⟨λh=>h3 (h.2.2 i aa h.1),rfl⟩
  rw[XN h3,Wb,Xd (n:=i+1) aa aa,h3]at e;have e2:=λx hx=>ZH (ps:=qs) (j:=x) ⟨3,wI (1-w.h.s),(pg qs i).u,(pg qs i).P⟩ h0 hc hx;have hr:=XiG w a n (i+1) _ r aa e j hj;grind
def XrE{v:Int}(h:0<=v):YA .u64 v 2=v / 4:=YQ v 2 aa h
def Xqe{v:Int}(h1:4096<=v)(h2:v<4294967296):Vj (wU (wU (4*v)+2))=true/\YA .u64 (wU (wU (4*v)+2)) 2=v/\tU (wU (wU (4*v)+2)):=by
 rw[Xx (n:=4*v) aa aa,Xx aa aa];have e:YA .u64 (4*v+2) 2=v:=by rw[XrE aa];omega
 refine⟨?_,e,⟨aa,aa⟩⟩;unfold Vj;grind
def XgD{ws:List Int}(h:∀x∈ws,tU x)(a:Int):tU (wd ws a):=by
 unfold wd;rw[Wp];cases e:ws[ix a]? with
 |none=>simp
 |some x=>grind
def Xon{v:Int}(hv:tU v)(h:okH v=true):Vj v=false:=by rw[XlL hv]at h;unfold Vj;grind
def I5.push{w:WD}(hh:I5 h0 l w){a:Int}(h:okH (wd w.h.w a)=true)(rp:WM):I5 h0 l {w with q:=w.q++[a],r:=rp}:=by
 refine⟨λb hb=>?_,λb hb hq hf=>hh.old b hb (λe=>hq (W0 _ e)) hf,hh.fw,hh.ws,hh.ss,hh.k1,hh.pr,hh.hw,hh.bm,hh.ol⟩;rcases WG.1 hb with hb|hb
 .exact hh.q b hb
 simp_all
structure On(h0:Wk)(w:WD)(qs:List Wt)(tk:List Int):Prop where
 ss:SpanS h0.c w.h.p qs
 kd:∀i,0<=i->(pg w.h.p i).k=1->(pg qs i).k=1
 pr:∀i:Int,0<=i->i<qs.length->(pg qs i).k=1->i∉tk->pg qs i=pg w.h.p i/\i∉w.t
def Oc{w:WD}{qs:List Wt}{tk:List Int}(hq:On h0 w qs tk){w':WD}(e1:w'.h.p=qs)(e2:w'.t=tk)(e3:w'.h.s=w.h.s){i:Int}(h:Prm w' i):Prm w i/\pg w'.h.p i=pg w.h.p i:=by have⟨⟨a,b⟩,c,d,f⟩:=h;rw[e1]at b c d⊢;rw[e2]at f;have⟨g1,g2⟩:=hq.pr i a b c f;refine⟨⟨⟨a,by rw[←hq.ss.1];omega⟩,by simp_all,by simp_all,g2⟩,g1⟩
def I5.spn(hN:NB N)(hb:HB h0)(ep:Qab N h0=some true){w:WD}(hh:I5 h0 l w):Om h0.c w.h.p:=by have h:=hh.ss.proper hN hb ep (ws:=h0.w) rfl (b:=-1) (.inl rfl);exact Xl4 hN (h:=⟨h0.c,h0.w,w.h.p,h0.s,-1⟩) ⟨hb.1,by rw[hh.ss.1];exact hb.2⟩ h
def Om.sp{c:WT}{ps:List Wt}(h:Om c ps):∀i,0<=i->(pg ps i).k=1->0<=(pg ps i).s/\(pg ps i).s<=1:=λi hi hk=>by
 by_cases hl:i<ps.length
 .exact(h.hd i hi hl aa).sp
 unfold pg at hk;rw[Wp,WY aa]at hk;cases hk
def XrF{w:WD}(hs:Om h0.c w.h.p)(h0s:0<=w.h.s/\w.h.s<=1){a i:Int}{n:Nat}{qs:List Wt}(i0:0<=i)(hi:i<w.h.p.length)(hk:(pg w.h.p i).k=2)(hl:qs.length=w.h.p.length)(e:QaH N w a n (i+1) (w.h.p.set i.toNat ⟨(pg w.h.p i).k,wI (1-w.h.s),(pg w.h.p i).u,(pg w.h.p i).P⟩)=some qs):On h0 w qs w.t:=by
 have hw:wI (1-w.h.s)=1-w.h.s:=Xd aa aa;have e2:=λx hx=>ZH (ps:=w.h.p) (j:=x) ⟨(pg w.h.p i).k,wI (1-w.h.s),(pg w.h.p i).u,(pg w.h.p i).P⟩ i0 hi hx;have hr:=λj hj=>XiG w a n (i+1) _ qs aa e j hj;have run:∀j,0<=j->(i<j/\j<w.h.p.length/\(∀x,i<x->x<=j->(pg w.h.p x).k=3)/\pg qs j=⟨3,1-w.h.s,(pg w.h.p j).u,(pg w.h.p j).P⟩)\/(¬(i<j/\j<w.h.p.length/\∀x,i<x->x<=j->(pg w.h.p x).k=3)/\pg qs j=if j=i then⟨2,1-w.h.s,(pg w.h.p i).u,(pg w.h.p i).P⟩else pg w.h.p j):=λj hj=>by
  have h:=hr j hj;rw[WR,e2 j hj,hw,hk]at h;have eq:∀x,i<x->pg (w.h.p.set i.toNat ⟨2,1-w.h.s,(pg w.h.p i).u,(pg w.h.p i).P⟩) x=pg w.h.p x:=λx hx=>by have:=e2 x aa;rw[hk,hw]at this;rw[this,Wn aa]
  rcases h with⟨⟨a1,a2,a3⟩,b⟩|⟨a,b⟩
  .rw[Wn (show¬j=i by omega)]at b;exact .inl ⟨aa,a2,λx hx hxj=>by rw[←eq x hx];exact a3 x aa hxj,b⟩
  exact .inr ⟨λh=>a ⟨aa,h.2.1,λx hx hxj=>by rw[eq x aa];exact h.2.2 x aa hxj⟩,b⟩
 refine⟨Xc7 hs hl (λj j0 j1=>.inr ?_) λk m k0 kk m1 m2 m3=>?_,λj j0 j1=>?_,λj j0 j1 jk jt=>?_⟩
 .rcases run j j0 with⟨a1,a2,a3,b⟩|⟨a,b⟩
  .have:=a3 j a1 aa;rw[b,this];exact⟨rfl,rfl,rfl,.inr ⟨aa,by show 0<=1-w.h.s;omega,by show 1-w.h.s<=1;omega⟩⟩
  rw[b];by_cases hij:j=i
  .rw[Wq hij,hij];exact⟨hk.symm,rfl,rfl,.inr ⟨aa,by show 0<=1-w.h.s;omega,by show 1-w.h.s<=1;omega⟩⟩
  rw[Wn hij];exact⟨rfl,rfl,rfl,.inl rfl⟩
 .have hsk:=hs.hd k k0 aa aa;have htl:=(hsk.k2 kk).2.2;by_cases hki:k=i
  .subst hki;have r1:=run k k0;have r2:=run (k+m) aa;have h3:∀x,k<x->x<=k+m->(pg w.h.p x).k=3:=λx hx hxm=>by have:=(htl (x-k) aa aa).1;rwa[show k+(x-k)=x by omega]at this
   rcases r1 with r1|⟨_,r1⟩
   .omega
   rcases r2 with r2|⟨r2,_⟩
   .rw[r1,r2.2.2.2,Wq rfl]
   exact absurd ⟨aa,m3,h3⟩ r2
  have r1:=run k k0;have r2:=run (k+m) aa;have t:=htl m m1 m2;rcases r1 with r1|⟨_,r1⟩
  .have:=r1.2.2.1 k r1.1 aa;omega
  rw[Wn hki]at r1;rcases r2 with r2|⟨_,r2⟩
  .by_cases hlt:k<i
   .have:=(htl (i-k) aa aa).1;rw[show k+(i-k)=i by omega]at this;omega
   have:=r2.2.2.1 k aa aa;omega
  by_cases hmi:k+m=i
  .rw[hmi]at t;omega
  rw[Wn hmi]at r2;rw[r1,r2];exact t.2.1
 .rcases run j j0 with⟨a1,a2,a3,b⟩|⟨a,b⟩
  .have:=a3 j a1 aa;omega
  rw[b,Wn (λe=>by rw[e]at j1;omega)];exact j1
 grind
def Xoo{w w':WD}(hs:Om h0.c w.h.p)(h0s:0<=w.h.s/\w.h.s<=1)(htk:∀j∈w.t,(pg w.h.p j).k=1){n at_ j u:Int}(hn:0<=n)(pq:Od h0 w n w' at_ j u):On h0 w w'.h.p w'.t:=by
 have r:=pq.rng;have t:=pq.this;have f:=pq.fit;have hkj:(pg w.h.p j).k=0\/(pg w.h.p j).k=1:=by rcases pq.way with g|g;exact .inr (htk j g.1);exact .inl g.1
 have hb:=hs.hd j r.1 r.2 aa;have hsp:=hb.sp;have hpn:=hb.pn;refine⟨Xc7 hs pq.plen (λi i0 i1=>?_) λi m i0 ik m1 m2 m3=>?_,λi i0 ik=>?_,λi i0 i1 ik it=>?_⟩
 .by_cases hij:i=j
  .subst hij;rcases pq.sp with g|g<;>rw[g.1,g.2]<;>omega
  rw[pq.other i i0 hij];omega
 .have tl:=((hs.hd i i0 aa aa).k2 ik).2.2 m m1 m2;have e1:i≠j:=λe=>by rw[e]at ik;omega
  have e2:i+m≠j:=λe=>by rw[e]at tl;omega
  rw[pq.other i i0 e1,pq.other (i+m) aa e2];omega
 .by_cases hij:i=j
  .simp_all
  rw[pq.other i i0 hij];omega
 have hij:i≠j:=by
  rintro rfl;rcases pq.way with g|g
  .rw[g.2.1]at it;exact it g.1
  rw[g.2.1]at it;simp at it
 refine⟨pq.other i i0 hij,λh=>it ?_⟩;rcases pq.way with g|g<;>rw[g.2.1]
 .exact h
 simp_all
def I5.pages{w:WD}(hh:I5 h0 l w){qs:List Wt}(h:On h0 w qs w.t):I5 h0 l {w with h:={w.h with p:=qs}}:=
 ⟨hh.q,hh.old,hh.fw,hh.ws,hh.ss.trans h.ss,λi hi hk=>h.kd i hi (hh.k1 i hi hk),λi hp=>by
  have:=Oc (w':={w with h:={w.h with p:=qs}}) h rfl rfl rfl hp
  rw[this.2];exact hh.pr i this.1,λb hb hp=>hh.hw b hb (Oc (w':={w with h:={w.h with p:=qs}}) h rfl rfl rfl hp).1,hh.bm,hh.ol⟩
def Xqf(hN:NB N)(hs:Start N h0 l){w:WD}{O:Int->Prop}{s:Int->Int}(hc:CI h0 l w)(ho:I4 h0 l w O s)(hh:I5 h0 l w){a:Int}(ta:tU a):
 (∃r w2,QaZ N w a=some r/\r.2.2≠0/\QaW N w a=some (0,r.2.2,w2)) \/
 ∃w' to,QaZ N w a=some (w',to,0)/\Og h0 l w w' O s/\I5 h0 l w'/\tU to/\(a≠0->to≠0)/\KeepW w w'/\QaW N w a=some (to,0,w'):=by
 have hN':=hN;unfold NB at hN';have hb:=hs.hb;have hql:=hc.ql hb;have htl:=hc.tl hb;have hwl:=hc.wl hb;have hww:=hc.wlen;have hpl:=hc.plen;have hsl:=hs.st.len;have hspc:=hc.spc;have hconf:=hc.conf;have hol:=hc.old.length_le;have same:Og h0 l w w O s:=⟨hc,⟨O,s,ho,λ_ h=>⟨h,rfl⟩⟩,rfl,Un _⟩
 have kp:KeepW w w:=rfl;have hlp:∀i ps,QbD N w a N i ps=QaH N w a N i ps:=λi ps=>XrD w a (λn i ps=>QbD N w a n i ps) (λi ps=>by rfl) (λn i ps=>by rfl) N i ps;rw[QaW,XF,QaZ];by_cases h1:a=0
 .rw[XN h1,Wb,Wb];grind
 rw[XG h1,Wa,Wa,Vv _ _ aa aa,YF a aa aa,Xa,Xa];cases h2:w.q.contains a with
 |true=>grind
 |false=>
 have hq:=ZX h2;rw[Wa,Wa,Vv _ _ aa aa,YF a aa aa,Xa,Xa];cases h3:w.o.contains a with
 |false=>simp
 |true=>
 have hal:a∈l:=hc.old.subset (Y9 h3);have hne:l≠[]:=List.ne_nil_of_mem hal;have hp:=hs.prop hne;have hg:=hs.good hne;have hat:=hs.st.obj.at_ a hal;have ep:Qab N h0=some true:=by obtain⟨r,er,hr⟩:=XdN hN hb a;rw[hs.st.obj.ev a hal]at er;obtain rfl:=WK er;exact(hr rfl).2.1
 have hspn:=hh.spn hN hb ep;have hwd0:=hp.words;have hpg0:=hp.pages;have hvc:=Xl.1 hp.conf;have hrng:=hat.rng;have hspr:=hp.space;have⟨_,q0,q1,_⟩:=Ks hp.conf hrng;obtain⟨o1,o2⟩:Qch N w.h.c a=some (pgi h0.c a,pgo h0.c a,0)/\wI (wI (pgi h0.c a*w.h.c.W)+pgo h0.c a)=a-4096:=by rw[hconf];exact XiF (N:=N) hp.conf hrng
 have hin:inW w.h.w a:=by unfold inW;omega
 have hm4:h0.c.p*h0.c.W<=4096:=(XW hp.conf (i:=0) aa aa).2.2;have tw:=XgD hh.ws a;have gp:∀n:Nat,1<=n->Km w.h.w (a-4096).toNat n 0=some (wd w.h.w a):=by intro n hn;rw[XbY aa aa aa];unfold wd ix;rw[Wp,Wc aa];simp
 have hof:QcL N w.h.c a=some (pgi h0.c a,pgo h0.c a,0):=by rw[Jx,hc.conf,hp.conf,Wn ab,Wq hrng];rfl
 rw[Wo,Wa,Wa,o1,Xa];rw[show((0:Int) != 0)=false from rfl,Wa,Xc aa,o2,Xd (n:=(w.h.w.length:Int)-(a-4096)) aa aa,Wh aa,Wa,Xd (n:=a-4096+1) aa aa,Xc aa,
  gp _ aa,Xa,Xc6 aa tw,YK hwl,Xa,Wq hin,Jw,Xa]
 rw[show w.h.w.getD (ix a) 0=wd w.h.w a from rfl,Jw,Xa];cases h4:Vj (wd w.h.w a)with
 |true=>refine .inr ⟨w,_,rfl,same,hh,?_,λ_=>hh.fw a hal h4,kp,rfl⟩;simp[XrE,tw]
 |false=>
 have hok:=hh.old a hal hq h4;rw[Wn ab,Wa,Wa,hof,Xa,Xa,Xc aa];rw[show((0:Int) != 0)=false from rfl,Wa,Wh (p:=pgi h0.c a>=_) aa,Wa,Wa];have⟨b,hbp,eb,hb'⟩:=Xe6 (N:=N) (w:=w) (i:=pgi h0.c a) hN htl aa aa hspn.sp;simp only[Xc (p:=w.h.p.length<=140737488355328) aa];rw[hb',eb,Xa,Xa];cases b with
 |true=>simp only[Wb,Qdw,Xc (p:=w.q.length*8<=140737488355328) aa,Xc (p:=(w.q.length+1)*8<=140737488355328) aa,Xa];exact .inr ⟨_,a,rfl,hc.push ho (ho.old a hal).1 hq _,hh.push hok _,ta,λh=>h,rfl,rfl⟩
 |false=>
 simp only[Wa,XH (ps:=w.h.p) q0 aa,Xa];by_cases hk2:(pg w.h.p (pgi h0.c a)).k=2
 .simp only[XN hk2,Wb,hlp,Xd (n:=pgi h0.c a+1) aa aa,Xc (p:=w.h.p.length*32<=140737488355328) aa];obtain⟨qs,eqs,hqs⟩:=Xhg (N:=N) w a (ps:=w.h.p) aa N (pgi h0.c a+1) _ aa aa aa ((SameK.refl _).set q0 aa (wI (1-w.h.s)) (pg w.h.p (pgi h0.c a)).P);have hrc:=XrF hspn aa q0 aa hk2 hqs.1 eqs;simp only[eqs,Xa,Qdw,Xc (p:=w.q.length*8<=140737488355328) aa,Xc (p:=(w.q.length+1)*8<=140737488355328) aa];have q:=λrp=>(hc.pages hqs).push (ho.pages hc hqs) (ho.old a hal).1 hq rp;refine .inr ⟨{w with h:={w.h with p:=qs},q:=w.q++[a],r:=⟨w.r.j,wI (w.r.K+1),w.r.F,w.r.E,w.r.f,w.r.y⟩},a,rfl,⟨(q _).ci,(q _).ob,(q w.r).sc,(q w.r).ql⟩,((hh.pages hrc).push hok _),ta,λh=>h,rfl,rfl⟩
 have hk12:∀x∈l,(pg h0.p (pgi h0.c x)).k=1\/(pg h0.p (pgi h0.c x)).k=2:=λx hx=>(hs.st.obj.at_ x hx).kind;have hpr:∀x∈l,0<=pgi h0.c x:=λx hx=>(Ks hp.conf (hs.st.obj.at_ x hx).rng).2.1;have hk1:(pg h0.p (pgi h0.c a)).k=1:=by
  rcases hk12 a hal with h|h
  .omega
  exact absurd (by rw[hc.knd a hal];omega) hk2
 have hsz:=hg.sz hs.st hal hk1;have hso:=(ho.old a hal).2;have hfit:=ho.fit a (ho.old a hal).1;have hsw:=YT w.h.w a;have e1:Xz (ZF (wd w.h.w a))=szA w.h.w a:=hsw.1;simp only[XG hk2,Wa,XcU (N:=N) aa tw,Kz,Xa,hok,YI (N:=N) aa,X1,e1];rw[show((0:Int) != 0)=false from rfl,Wa,Xc aa,o2,Xd (n:=(w.h.w.length:Int)-(a-4096)) aa aa,Wh aa,Wa,Xd (n:=a-4096+szA w.h.w a) aa aa,Xc aa,Wo,Wa,Xc aa];have eL:(((a-4096+szA w.h.w a).toNat-(a-4096).toNat:Nat):Int)=szA w.h.w a:=aa;have⟨y,ey,hy⟩:=Xf3 hN hb hp hc (n:=szA w.h.w a) hsw.2.1 aa;rcases Xqb hN hb hp hc (n:=szA w.h.w a) hsw.2.1 aa with⟨r,er,er2,eg⟩|⟨j,u,ps,tk,rq,er,eg⟩
 .simp[er,Xa,er2,Uf,Wb,eL,eg]
 have hft:=Xtf (N:=N) (c:=h0.c) (c':=w.h.c) hconf.symm hp.conf aa (cp:=w.r.j) (X:=a-4096) (n:=szA w.h.w a) (i:=j) (u:=u) (ws:=w.h.w) (q:=w.q) (ps:=ps) (λx34 x35 x36 x37 x38 x39=>some (x34,x35,(WD.mk (Wk.mk w.h.c x37 x38 w.h.s w.h.b) w.o tk x39 w.d (WM.mk x36 w.r.K w.r.F w.r.E w.r.f w.r.y)))) aa aa hsw.2.1 aa rq.rng.1 (by have:=rq.rng.2;have:=rq.len;omega) rq.fit.1 rq.fit.2 (by have:=rq.len;omega) hql;rw[FT,eL]at hft;rw[er,Xa,eL,eg,Xa];rw[show((0:Int) != 0)=false from rfl,Wa,XF];rw[er]at ey;obtain rfl:=WK ey;have⟨j',u',pq⟩:=hy rfl;have hpc:=Xoo hspn aa (λj hj=>(hc.tk j hj).2.2.1) aa pq;have hcp:=λv hv rp=>Xlm (n:=szA w.h.w a) hp hk12 hpr hc ho hal rfl hsw.2.1 pq v hv rp;have⟨i1,i2,aw,fr,aw2,hwd⟩:=Xll (n:=szA w.h.w a) hp hc ho hal rfl hsw.2.1 pq (wU (wU (4*Xg h0.c j u)+2));have en:szA w.h.w a=(((szA w.h.w a).toNat:Nat):Int):=aa;have hmv:=Xh8 (N:=N) hwl (Xg h0.c j u) a (szA w.h.w a).toNat aa aa;rw[←en,Wq ⟨i1,i2⟩]at hmv;have ol:=XbO i1 i2;have hin2:inW (ovr w.h.w ((w.h.w.drop (ix a)).take (szA w.h.w a).toNat) (ix (Xg h0.c j u))) a:=by unfold inW;rw[ol];exact hin
 dsimp only at i1 i2 aw fr aw2 hwd;have hr1:4096<=Xg h0.c j u/\Xg h0.c j u<10000:=by unfold Yh at i2;omega
 have⟨f1,f2,f3⟩:=Xqe (v:=Xg h0.c j u) aa aa;have hOa:=(ho.old a hal).1;have off:∀b,O b->¬(Xg h0.c j u<=b/\b<Xg h0.c j u+szA w.h.w a):=λb hb=>by have:=aw2 b hb;have:=(ho.fit b hb).2.1;omega
 have wd1:∀b,O b->b≠a->wd ((ovr w.h.w ((w.h.w.drop (ix a)).take (szA w.h.w a).toNat) (ix (Xg h0.c j u))).set (ix a) (wU (wU (4*Xg h0.c j u)+2))) b=wd w.h.w b:=λb hb hba=>by rw[hwd b (ho.fit b hb).1,Wn hba,Wn (off b hb)]
 have wda:=hwd a (ho.fit a hOa).1;have hna:Xg h0.c j u≠a:=λe=>fr (by grind);have wdt:=hwd (Xg h0.c j u) aa;simp only[Wo,Wa];rw[hmv,Xa,V4,Xa,Wn aa,Jv (by grind) aa,Xa,Wq hin2,Xc aa,Xc aa];refine .inr ⟨_,Xg h0.c j u,rfl,(hcp _ (Xf4 _ aa aa) _).2.2.2.2,⟨λb hb=>?_,λb hb hbq hbf=>?_,λb hb hbf=>?_,λx hx=>?_,?_,λi hi hki=>?_,λi hi=>?_,λb hb hbp2=>?_,hh.bm,hh.ol⟩,⟨aa,aa⟩,λ_=>aa,rfl,hft⟩
 .show okH (wd _ b)=true;rcases WG.1 hb with hb|hb
  .rw[wd1 b (ho.queue b hb) (λe=>hq (e▸hb))];exact hh.q b hb
  grind
 .have hbf:Vj (wd _ b)=false:=hbf;show okH (wd _ b)=true;by_cases hba:b=a
  .grind
  rw[wd1 b (ho.old b hb).1 hba]at hbf⊢;exact hh.old b hb (λe=>hbq (W0 _ e)) hbf
 .have hbf:Vj (wd _ b)=true:=hbf;show YA .u64 (wd _ b) 2≠0;by_cases hba:b=a
  .grind
  rw[wd1 b (ho.old b hb).1 hba]at hbf⊢;exact hh.fw b hb hbf
 .rcases Ux hx with hx|hx
  .unfold ovr at hx;rcases WG.1 hx with hx|hx
   .rcases WG.1 hx with hx|hx
    .exact hh.ws x (WW hx)
    exact hh.ws x (WP (WW hx))
   exact hh.ws x (WP hx)
  grind
 .exact hh.ss.trans hpc.ss
 .exact hpc.kd i hi (hh.k1 i hi hki)
 .have:=Oc (w':=⟨_,_,_,_,_,_⟩) hpc rfl rfl rfl hi;show _/\(pg (ps.set _ _) i).u=_;rw[this.2];exact hh.pr i this.1
 have hpm:=(Oc (w':=⟨_,_,_,_,_,_⟩) hpc rfl rfl rfl hbp2).1;have hba:b≠a:=λe=>by grind
 show wd _ b=_;rw[wd1 b (ho.old b hb).1 hba];exact hh.hw b hb hpm
end
section
variable {N:Nat}{h0:Wk}{l:List Int}
def KeepW.trans{a b c:WD}(h1:KeepW a b)(h2:KeepW b c):KeepW a c:=by unfold KeepW at *;grind
def QN(l:List Int)(w:WD):Prop:=l=[]->w.q=[]
def Xop(hN:NB N){w w':WD}{a to:Int}(hl:w.o=[])(hq:w.q=[])(e:QaZ N w a=some (w',to,0)):w'.q=[]:=by unfold NB at hN;rw[QaZ,hl,hq,YF a ab ah,Xa,Xa]at e;grind
def Xl5(hN:NB N)(hs:Start N h0 l){w:WD}{O:Int->Prop}{s:Int->Int}(hc:CI h0 l w)(ho:I4 h0 l w O s)(hh:I5 h0 l w)(hn:QN l w){a:Int}(ta:tU a):
 (∃r w2,QaZ N w a=some r/\r.2.2≠0/\QaW N w a=some (0,r.2.2,w2)) \/
 ∃w' to,QaZ N w a=some (w',to,0)/\Og h0 l w w' O s/\I5 h0 l w'/\tU to/\(a≠0->to≠0)/\KeepW w w'/\QN l w'/\QaW N w a=some (to,0,w'):=by
 rcases Xqf hN hs hc ho hh ta with h|⟨w',to,er,hq,hh',tt,tz,hkw,eg⟩
 .simp_all
 exact .inr ⟨w',to,er,hq,hh',tt,tz,hkw,λh=>Xop hN (List.sublist_nil.1 (h▸hc.old)) (hn h) er,eg⟩
def NZ(rs out:List Int):Prop:=∀(i:Nat)(y:Int),out[i]? = some y->∀(x:Int),rs[i]? = some x->x≠0->y≠0
def NZ.push{rs out:List Int}(h:NZ rs out){y:Int}(hy:∀x,rs[out.length]? = some x->x≠0->y≠0):NZ rs (out++[y]):=by
 intro i z hz x hx;by_cases hi:i<out.length
 .rw[UT hi]at hz;exact h i z hz x hx
 grind
def zWk:WD:=WD.mk zHp [] [] [] 0 (WM.mk 0 0 0 0 0 0)
def XiH(hN:NB N)(hs:Start N h0 l){rs:List Int}(hl:rs.length<=1000000)(ht:∀x∈rs,tU x):∀(n k:Nat)(w:WD)(out:List Int),k<=rs.length->rs.length-k<n->CI h0 l w->I5 h0 l w->QN l w->out.length=k->NZ rs out ->
 (∃e,e≠0/\Qd4 N rs n k w.h.c.W w.h.c.p w.h.s w.h.b w.d w.r.j w.r.K w.r.F w.r.E w.r.f w.r.y w.h.w w.h.p w.o w.t w.q out=some (.ret (zWk,[],e)) /\
  Qa7 N rs n k w.h.c.W w.h.c.p w.h.w w.h.p w.h.s w.h.b w.o w.t w.q w.d w.r.j w.r.K w.r.F w.r.E w.r.f w.r.y out=some (.ret (zWk,[],e))) \/
 ∃w' out',CI h0 l w'/\I5 h0 l w'/\QN l w'/\KeepW w w'/\out'.length=rs.length/\NZ rs out' /\
  Qd4 N rs n k w.h.c.W w.h.c.p w.h.s w.h.b w.d w.r.j w.r.K w.r.F w.r.E w.r.f w.r.y w.h.w w.h.p w.o w.t w.q out=some (.nxt (w'.h.c.W,w'.h.c.p,w'.h.s,w'.h.b,w'.d,w'.r.j,w'.r.K,w'.r.F,w'.r.E,w'.r.f,w'.r.y,w'.h.w,w'.h.p,w'.o,w'.t,w'.q,out')) /\
  Qa7 N rs n k w.h.c.W w.h.c.p w.h.w w.h.p w.h.s w.h.b w.o w.t w.q w.d w.r.j w.r.K w.r.F w.r.E w.r.f w.r.y out=some (.nxt (w'.h.c.W,w'.h.c.p,w'.h.w,w'.h.p,w'.h.s,w'.h.b,w'.o,w'.t,w'.q,w'.d,w'.r.j,w'.r.K,w'.r.F,w'.r.E,w'.r.f,w'.r.y,out'))
 |0,k,w,out,_,hn,_,_,_,_,_=>by omega
 |n+1,k,w,out,hk,hn,hc,hh,hqn,ho,hz=>by
  rw[Qd4,Qa7];by_cases h:k<rs.length
  .have htx:=ht _ (WO h);rw[Xk h,Wb,Wb,Xe,Wc h,Xa,Xa,Xf aa];have⟨O,s,hob⟩:=hc.obj;have eta:(⟨⟨⟨w.h.c.W,w.h.c.p⟩,w.h.w,w.h.p,w.h.s,w.h.b⟩,w.o,w.t,w.q,w.d,⟨w.r.j,w.r.K,w.r.F,w.r.E,w.r.f,w.r.y⟩⟩:WD)=w:=rfl;rcases Xl5 hN hs hc hob hh hqn htx with⟨r,w2,er,e0,eg⟩|⟨w',to,er,hq,hh',tt,tz,hkw',hqn',eg⟩
   .refine .inl ⟨r.2.2,e0,?_,?_⟩
    .rw[eg,Xa,X2 e0,Wb];rfl
    rw[er,Xa,X2 e0,Wb];rfl
   rw[eg,er,Xa,Xa,show((0:Int) != 0)=false from rfl,Wa,Wa,Xc aa,Xc aa];rcases XiH hN hs hl ht n (k+1) w' (out++[to]) aa aa hq.ci hh' hqn' (by simp_all) (hz.push λx hx hx0=>tz (by simp_all))with h|⟨w'',o'',c1,c2,c6,c3,c4,c5,e1,e2⟩
   .simp_all
   exact .inr ⟨w'',o'',c1,c2,c6,hkw'.trans c3,c4,c5,e1,e2⟩
  obtain rfl:k=rs.length:=aa;rw[Xw,Wa,Wa];exact .inr ⟨w,out,hc,hh,hqn,rfl,ho,hz,rfl,rfl⟩
def Xl6(hN:NB N)(hs:Start N h0 l){w:WD}(hc:CI h0 l w)(hh:I5 h0 l w)(hqn:QN l w){rs:List Int}(hl:rs.length<=1000000)(ht:∀x∈rs,tU x):
 (∃e,e≠0/\QfM N w rs=some (zWk,[],e)/\Qdy N w rs=some (zWk,[],e)) \/
 ∃w' out,CI h0 l w'/\I5 h0 l w'/\QN l w'/\KeepW w w'/\out.length=rs.length/\NZ rs out/\QfM N w rs=some (w',out,0)/\Qdy N w rs=some (w',out,0):=by
 have hN':=hN;unfold NB at hN';rw[QfM,Qdy];simp only[Qad,Qac,QaD,Xa];have hr:=XiH hN hs hl ht N 0 w [] aa aa hc hh hqn rfl (λi y e=>by grind);rw[show((0:Nat):Int)=0 from rfl]at hr;rcases hr with⟨e,e0,e1,e2⟩|⟨w',out,c1,c2,c6,c3,c4,c5,e1,e2⟩
 .simp_all[e1,Xa,XA,e2]
 exact .inr ⟨w',out,c1,c2,c6,c3,c4,c5,by rw[e1,Xa,Xm],by rw[e2,Xa,Xm]⟩
end
section
variable {N:Nat}{h0:Wk}{l:List Int}
def Xoq{w:WD}{O:Int->Prop}{s:Int->Int}(ho:I4 h0 l w O s)(hh:I5 h0 l w){p x:Int}(hp:O p)(h1:p<x)(h2:x<p+s p){v:Int}(tv:tU v):
 I5 h0 l {w with h:={w.h with w:=w.h.w.set (ix x) v}}:=by
 have hf:=ho.fit p hp;have hin:inW w.h.w x:=by unfold inW;omega
 have wd1:∀b,O b->wd (w.h.w.set (ix x) v) b=wd w.h.w b:=λb hb=>by
  have:b≠x:=by
   rintro rfl;by_cases he:b=p
   .omega
   have:=ho.apart b p hb hp he;have:=ho.fit b hb;omega
  rw[Xhf hin (ho.fit b hb).1,Wn this]
 refine⟨λb hb=>?_,λb hb hq hf=>?_,λb hb hf=>?_,λy hy=>?_,hh.ss,hh.k1,hh.pr,λb hb hf=>?_,hh.bm,hh.ol⟩
 .rw[wd1 b (ho.queue b hb)];exact hh.q b hb
 .rw[wd1 b (ho.old b hb).1]at hf⊢;exact hh.old b hb hq hf
 .rw[wd1 b (ho.old b hb).1]at hf⊢;exact hh.fw b hb hf
 .rcases Ux hy with hy|hy
  .exact hh.ws y hy
  simp_all
 rw[wd1 b (ho.old b hb).1];exact hh.hw b hb hf
def XgE(hN:NB N)(hs:Start N h0 l){p z u:Int}{ks:List Int}(hkl:ks.length<=255)(hpi:wI (wI (pgi h0.c p*h0.c.W)+u)=p-4096)(hp0:4096<=p)(hz0:1<=z)(hz1:z<=256)(hz:p-4096+z<=h0.w.length):
 ∀(n k:Nat)(w:WD)(O:Int->Prop)(s:Int->Int),k<=ks.length->ks.length-k<n->CI h0 l w->I4 h0 l w O s->I5 h0 l w->QN l w->O p->(∀k∈ks,0<=k/\k<255/\k+1<s p/\k+1<z) ->
 (∃e,e≠0/\(∃t,Qfc N h0.c.W z (pgi h0.c p,u,0) ks n k w.h.c.W w.h.c.p w.h.s w.h.b w.d w.r.j w.r.K w.r.F w.r.E w.r.f w.r.y w.h.w w.h.p w.o w.t w.q=some (.ret (e,t))) /\
  Qbs N p ks n k w.h.c.W w.h.c.p w.h.w w.h.p w.h.s w.h.b w.o w.t w.q w.d w.r.j w.r.K w.r.F w.r.E w.r.f w.r.y=some (.ret (zWk,false,e))) \/
 ∃w',CI h0 l w'/\I5 h0 l w'/\QN l w'/\KeepW w w'/\w.q.length<=w'.q.length /\
  Qfc N h0.c.W z (pgi h0.c p,u,0) ks n k w.h.c.W w.h.c.p w.h.s w.h.b w.d w.r.j w.r.K w.r.F w.r.E w.r.f w.r.y w.h.w w.h.p w.o w.t w.q=some (.nxt (w'.h.c.W,w'.h.c.p,w'.h.s,w'.h.b,w'.d,w'.r.j,w'.r.K,w'.r.F,w'.r.E,w'.r.f,w'.r.y,w'.h.w,w'.h.p,w'.o,w'.t,w'.q)) /\
  Qbs N p ks n k w.h.c.W w.h.c.p w.h.w w.h.p w.h.s w.h.b w.o w.t w.q w.d w.r.j w.r.K w.r.F w.r.E w.r.f w.r.y=some (.nxt (w'.h.c.W,w'.h.c.p,w'.h.w,w'.h.p,w'.h.s,w'.h.b,w'.o,w'.t,w'.q,w'.d,w'.r.j,w'.r.K,w'.r.F,w'.r.E,w'.r.f,w'.r.y))
 |0,k,w,O,s,_,hn,_,_,_,_,_,_=>by omega
 |n+1,k,w,O,s,hi,hn,hc,ho,hh,hqn,hp,hk=>by
  have hN':=hN;unfold NB at hN';have hb1:=hs.hb.1;rw[Qfc,Qbs];by_cases h:k<ks.length
  .have⟨k0,k1,k2,k3⟩:=hk _ (WO h);have hwl:=hc.wlen;have eta:(⟨⟨⟨w.h.c.W,w.h.c.p⟩,w.h.w,w.h.p,w.h.s,w.h.b⟩,w.o,w.t,w.q,w.d,⟨w.r.j,w.r.K,w.r.F,w.r.E,w.r.f,w.r.y⟩⟩:WD)=w:=rfl;have ex:ix (p+1+ks[k])=(p-4096).toNat+(1+ks[k]).toNat:=by unfold ix;omega
   have gp:∀ws:List Int,ws.length=h0.w.length->Km ws (p-4096).toNat ((p-4096+z).toNat-(p-4096).toNat) (1+ks[k])=some (wd ws (p+1+ks[k])):=by intro ws hw;rw[XbY aa aa aa];unfold wd;rw[ex,Wp,Wc aa];rfl
   rw[eta,Xk h,Wb,Wb,Xe,Wc h,Xa,Xa,Xf aa];rw[hpi,Xd (n:=p-4096+z) aa aa,Xd (n:=1+ks[k]) aa aa,gp _ hwl,Xa];rw[Xx (n:=p+1) aa aa,Xx (n:=ks[k]) aa aa,Xx (n:=p+1+ks[k]) aa aa];rw[YK (hc.wl hs.hb),Xa,Wq (by unfold inW;omega)];rw[show w.h.w.getD (ix (p+1+ks[k])) 0=wd w.h.w (p+1+ks[k])from rfl];rcases Xl5 hN hs hc ho hh hqn (XgD hh.ws (p+1+ks[k]))with⟨r,w2,er,e0,eg⟩|⟨w',to,er,q,hh',tt,tz,hkw,hqn',eg⟩
   .refine .inl ⟨r.2.2,e0,?_,?_⟩
    .simp[eg,Xa,X2,e0,Wb]
    rw[er,Xa,X2 e0,Wb];rfl
   have⟨O',s',ho',hx⟩:=q.ob;have⟨hp',hs'⟩:=hx p hp;have st:=Xif q.ci ho' hp' (x:=p+1+ks[k]) aa aa to;have sh:=Xoq ho' hh' hp' (x:=p+1+ks[k]) aa aa tt;rw[eg,er,Xa,Xa,show((0:Int) != 0)=false from rfl,Wa,Wa];rw[gp _ q.ci.wlen,Xa,Jv (q.ci.wl hs.hb) aa,Xa,Wq st.1,←ex];rcases XgE hN hs hkl hpi hp0 hz0 hz1 hz n (k+1) {w' with h:={w'.h with w:=w'.h.w.set (ix (p+1+ks[k])) to}} O' s' aa aa st.2.1 st.2.2 sh hqn' hp' (λk' hk'=>by simp_all)with h|⟨w'',c1,c2,c3,c4,c5,c6,c7⟩
   .grind
   exact .inr ⟨w'',c1,c2,c3,KeepW.trans (b:={w' with h:={w'.h with w:=w'.h.w.set (ix (p+1+ks[k])) to}}) (by unfold KeepW at hkw⊢;grind) c4,Um q.ql c5,c6,c7⟩
  obtain rfl:k=ks.length:=aa;rw[Xw,Wa,Wa];exact .inr ⟨w,hc,hh,hqn,rfl,Un _,rfl,rfl⟩
theorem XrG(n:Int):wI n=if n % 18446744073709551616>=9223372036854775808 then n % 18446744073709551616-18446744073709551616 else n % 18446744073709551616:=by have e1:IntKind.bits .i64=64:=rfl;have e2:IntKind.signed .i64=true:=rfl;simp[wI,IntKind.wrap,e1,e2]
def XrH(a b:Int):wI (wI a+b)=wI (a+b):=by grind[XrG]
def Xtg(a b:Int):wI (a+wI b)=wI (a+b):=by rw[Int.add_comm a,XrH,Int.add_comm b]
def Xl7(hN:NB N)(hs:Start N h0 l):∀(n:Nat)(w:WD),CI h0 l w->I5 h0 l w->QN l w->0<=w.d->w.d<=w.q.length->(100001-w.d).toNat<n ->
 (∃e,e≠0/\Qfd N n w.h.c.W w.h.c.p w.h.s w.h.b w.d w.r.j w.r.K w.r.F w.r.E w.r.f w.r.y w.h.w w.h.p w.o w.t w.q=some (zWk,e) /\
  QbG N n w.h.c.W w.h.c.p w.h.w w.h.p w.h.s w.h.b w.o w.t w.q w.d w.r.j w.r.K w.r.F w.r.E w.r.f w.r.y=some (zWk,e)) \/
 ∃w',CI h0 l w'/\I5 h0 l w'/\QN l w' /\
  Qfd N n w.h.c.W w.h.c.p w.h.s w.h.b w.d w.r.j w.r.K w.r.F w.r.E w.r.f w.r.y w.h.w w.h.p w.o w.t w.q=some (w',0) /\
  QbG N n w.h.c.W w.h.c.p w.h.w w.h.p w.h.s w.h.b w.o w.t w.q w.d w.r.j w.r.K w.r.F w.r.E w.r.f w.r.y=some (w',0)
 |0,w,_,_,_,_,_,hn=>by omega
 |n+1,w,hc,hh,hqn,g0,g1,hn=>by
  have hN':=hN;unfold NB at hN';have hb:=hs.hb;have hql:=hc.ql hb;have hwl:=hc.wl hb;have hww:=hc.wlen;have hb1:=hb.1;have eta:(⟨⟨⟨w.h.c.W,w.h.c.p⟩,w.h.w,w.h.p,w.h.s,w.h.b⟩,w.o,w.t,w.q,w.d,⟨w.r.j,w.r.K,w.r.F,w.r.E,w.r.f,w.r.y⟩⟩:WD)=w:=rfl;have etc:(⟨w.h.c.W,w.h.c.p⟩:WT)=h0.c:=hc.conf;rw[Qfd,QbG,eta,QfF,XF,etc,Wh (p:=w.d<0) aa,Wa,Xc aa];by_cases hlt:w.d<w.q.length;rotate_left
  .rw[Wg (p:=w.d>=_) aa,Wb,Wb,Xa];exact .inr ⟨w,hc,hh,hqn,rfl,rfl⟩
  rw[Wh (p:=w.d>=_) aa,Wa,Wa,Yj g0 hlt,Xa,Xa];have hpm:w.q[w.d.toNat]'aa∈w.q:=WO _;generalize w.q[w.d.toNat]'aa=p at hpm⊢;have hne:l≠[]:=λe=>by rw[hqn e]at hpm;grind
  have hp:=hs.prop hne;have hwd0:=hp.words;have⟨O,s,ho⟩:=hc.obj;have hOp:=ho.queue p hpm;have hf:=ho.fit p hOp;have hok:=hh.q p hpm;have hrng:4096<=p/\p<4096+h0.c.p*h0.c.W:=aa;have⟨o1,o2⟩:=XiF (N:=N) hp.conf hrng;have tw:=XgD hh.ws p;have hsw:=YT w.h.w p;have e1:Xz (ZF (wd w.h.w p))=szA w.h.w p:=hsw.1;have gp:∀n:Nat,1<=n->Km w.h.w (p-4096).toNat n 0=some (wd w.h.w p):=by intro n hn;rw[XbY aa aa aa];unfold wd ix;rw[Wp,Wc aa];simp
  rw[Qek,YK hwl,Xa,Wq (by unfold inW;omega),Kz,Xa,Xa,XfT aa,Xa];rw[show w.h.w.getD (ix p) 0=wd w.h.w p from rfl];rw[o1,Xa];have ecp:w.h.c.W=h0.c.W:=by rw[hc.conf]
  rw[ecp,show((0:Int) != 0)=false from rfl,Wa,Xc aa,o2,Xd (n:=(w.h.w.length:Int)-(p-4096)) aa aa,Wh aa,Wa,Xd (n:=p-4096+1) aa aa,Xc aa,
   gp _ aa,Xa,XcU aa tw,Xa]
  rw[hok,YI aa,Xa,e1,Xa];dsimp only;rw[show((0:Int) != 0)=false from rfl,Wa,o2,Xd (n:=(w.h.w.length:Int)-(p-4096)) aa aa,Wh aa,Wa,Xd (n:=p-4096+szA w.h.w p) aa aa,Xc aa,Xc aa,Wo,Wa,Xd4 aa _ (ZG _),Xa];have hkl:=XdT (hdA w.h.w p);have hg:=XgE hN hs (p:=p) (z:=szA w.h.w p) (u:=pgo h0.c p) (ks:=Zi (hdA w.h.w p)) hkl o2 hf.1 hsw.2.1 hsw.2.2 aa N 0 w O s aa aa hc ho hh hqn hOp λk hk=>by have h1:=XdS hk;have h2:szA w.h.w p=(hdA w.h.w p).n+1:=rfl;omega
  rw[show((0:Nat):Int)=0 from rfl,ecp]at hg;rcases hg with⟨e,e0,⟨t,e2⟩,e3⟩|⟨w',c1,c2,c3,c4,c5,e2,e3⟩
  .refine .inl ⟨e,e0,?_,?_⟩
   .rw[show ZF (wd w.h.w p)=hdA w.h.w p from rfl,e2,Xa,XA,X2 e0,Wb];rfl
   rw[show ZF (wd w.h.w p)=hdA w.h.w p from rfl,e3,Xa,XA,Xa,X2 e0,Wb];rfl
  rw[show ZF (wd w.h.w p)=hdA w.h.w p from rfl,e2,e3,Xa,Xa,Xm,Xm,Xa];have esc:w'.d=w.d:=by unfold KeepW at c4;rw[c4]
  have ee:wI (w'.d+1)=w.d+1:=by rw[esc,Xd aa aa]
  have est:wI (w'.r.y+wI (1+(((Zi (hdA w.h.w p)).length:Nat):Int)))=wI (wI (w'.r.y+1)+(((Zi (hdA w.h.w p)).length:Nat):Int)):=by rw[Xtg,XrH,Int.add_assoc]
  rw[est];have c1':CI h0 l {w' with d:=wI (w'.d+1),r:={w'.r with y:=wI (wI (w'.r.y+1)+(((Zi (hdA w.h.w p)).length:Nat):Int))}}:=by refine⟨c1.conf,c1.wlen,c1.plen,c1.spc,c1.old,c1.tk,c1.tnd,c1.knd,c1.qnd,?_⟩;obtain⟨O,s,h⟩:=c1.obj;exact⟨O,s,⟨h.old,h.queue,h.fit,h.apart,h.taken,h.free⟩⟩
  exact Xl7 hN hs n _ c1' ⟨c2.q,c2.old,c2.fw,c2.ws,c2.ss,c2.k1,c2.pr,c2.hw,c2.bm,c2.ol⟩ c3 (by grind) (by grind) (by grind)
def Xqg(hN:NB N)(hs:Start N h0 l){w:WD}(hc:CI h0 l w)(hh:I5 h0 l w)(hqn:QN l w)(g0:0<=w.d)(g1:w.d<=w.q.length):
 (∃e,e≠0/\Qgk N w=some (zWk,e)/\QeU N w=some (zWk,e)) \/
 ∃w',CI h0 l w'/\I5 h0 l w'/\QN l w'/\Qgk N w=some (w',0)/\QeU N w=some (w',0):=by
 have hN':=hN;unfold NB at hN';rw[Qgk,QeU];simp only[Qad,Qac,QaD,Xa];rcases Xl7 hN hs N w hc hh hqn g0 g1 aa with⟨e,e0,e1,e2⟩|⟨w',c1,c2,c3,e1,e2⟩
 .simp_all[e1,Xa,e2]
 exact .inr ⟨w',c1,c2,c3,by rw[e1,Xa],by rw[e2,Xa]⟩
end
section
variable {N:Nat}{h0:Wk}{l:List Int}
def lpg(N:Nat)(h:Wk)(i:Nat):List Int:=match Qal N h (i:Int)with|some r=>r.1|none=>[]
def lps(N:Nat)(h:Wk)(k:Nat):Nat->List Int
 |0=>[]
 |m+1=>lpg N h k++lps N h (k+1) m
def Xef(hb:HB h0)(hp:∀i:Nat,i<h0.p.length->∃l,Qal N h0 (i:Int)=some (l,0)/\l.length<=64):∀(n k:Nat)(v:List Int),k<=h0.p.length->h0.p.length-k<n->v.length<=64*k->QaN N h0 n (k:Int) v=some (.nxt (v++lps N h0 k (h0.p.length-k)))
 |0,k,v,_,hn,_=>by omega
 |n+1,k,v,hk,hn,hv=>by
  have hb2:=hb.2;rw[QaN];by_cases h:k<h0.p.length
  .have⟨l,e,hl⟩:=hp k h;rw[Xk h,Wb,e,Xa,show(((0:Int)) != 0)=false from rfl,Wa,Xc (by grind),Xf aa,Xef hb hp n (k+1) _ aa aa (by grind),UA,show h0.p.length-k=(h0.p.length-(k+1))+1 by omega,lps,lpg,e]
  obtain rfl:k=h0.p.length:=aa;simp[Xw,Wa,IX,lps,U1]
structure Ow(N:Nat)(h:Wk)(L:List Int):Prop where
 ep:Qab N h=some true
 eg:Qbm N h=some true
 st:Start N h L
 eL:L=lps N h 0 h.p.length
 pg:∀i:Nat,i<h.p.length->Qal N h (i:Int)=some (lpg N h i,0)/\PageL N h (i:Int) (lpg N h i)
 ob:Qay N h=some (JC h L,0)
def Xqh(hN:NB N)(ht:HT h0)(eg:Qbm N h0=some true):∃L,Ow N h0 L:=by
 have hN':=hN;unfold NB at hN';have hb:=ht.hb;have⟨b,eb,hgd⟩:=Kf hN hb;rw[eg]at eb;obtain rfl:=WK eb;have hg:=hgd rfl;have hp:=hg.prop;have ep:Qab N h0=some true:=by
  obtain⟨b,eb⟩:=Zb (N:=N) hN hb;cases b with
  |true=>exact eb
  |false=>rw[Qbm,QgJ,eb,Xa,Uf,Wb,Xa]at eg;cases eg
 have hpg:∀i:Nat,i<h0.p.length->Qal N h0 (i:Int)=some (lpg N h0 i,0)/\PageL N h0 (i:Int) (lpg N h0 i)/\(lpg N h0 i).length<=64:=λi hi=>by
  obtain⟨r,er,hr1,hr2⟩:=Qhy hN hb hp (i:Int) aa aa;have h2:=(hg.small i aa aa r er).2;have e:lpg N h0 i=r.1:=by unfold lpg;rw[er]
  rw[e];refine⟨?_,hr1,hr2⟩;rw[er];congr 1;exact Prod.ext rfl h2
 have es:=Xef hb (λi hi=>⟨_,(hpg i hi).1,(hpg i hi).2.2⟩) N 0 [] aa (by have:=hb.2;omega) ab;have est:Qcs N h0=some (lps N h0 0 h0.p.length,0):=by rw[Qcs,ep,Xa,Wo,Wa,show(0:Int)=((0:Nat):Int)from rfl,es,Xa,Xm,Uh,Nat.sub_zero]
 have⟨r,er,hst,_,_⟩:=VE hN hb;rw[est]at er;obtain rfl:=WK er;refine⟨_,ep,eg,⟨hb,λ_=>hg,λ_=>hp,hst⟩,rfl,λi hi=>⟨(hpg i hi).1,(hpg i hi).2.1⟩,?_⟩;have hlen:(lps N h0 0 h0.p.length).length<=4096:=hst.len;have:=XaE (N:=N) (h:=h0) (lps N h0 0 h0.p.length,0) (by show(lps N h0 0 h0.p.length).length<=_;omega) hst.obj.ev N 0 [] aa (by show(lps N h0 0 h0.p.length).length-0<_;omega) ab;rw[show((0:Nat):Int)=0 from rfl,WX,Uh]at this;simp[Qay,est,Xa,this]
def XhE(y3:List Int×Int)(y4:List Int)(y5:List Wt)(hl:h0.p.length<=100000)(h5:y5.length=h0.p.length):∀(n k:Nat)(v:List Wt),k<=h0.p.length->h0.p.length-k<n->v.length=h0.p.length->(∀j:Nat,k<=j->pg v j=pg h0.p j) ->
 ∃r,Qcd N h0 y3 n (k:Int) v=some r/\QbY N h0 y3 y4 y5 n (k:Int) v=some r/\r.length=h0.p.length/\∀j:Nat,pg r j=if j<k\/¬((pg h0.p j).k=1/\(pg h0.p j).P>0)then pg v j else⟨1,wI (1-h0.s),(pg h0.p j).u,(pg h0.p j).P⟩
 |0,k,v,_,hn,_,_=>by omega
 |n+1,k,v,hk,hn,hv,hj=>by
  rw[Qcd,QbY,Xc aa,hv,h5];by_cases h:k<h0.p.length
  .rw[Xk h,Wb,Wb,XH (ps:=v) (i:=(k:Int)) aa aa,Xa,Xa,Xf aa];simp only[Xa,hj k (Un k)];by_cases hc:(pg h0.p k).k=1/\(pg h0.p k).P>0
   .have e2:=λx:Nat=>ZH (ps:=v) (i:=(k:Int)) (j:=(x:Int)) ⟨(pg h0.p k).k,wI (1-h0.s),(pg h0.p k).u,(pg h0.p k).P⟩ aa aa aa;obtain⟨r,r1,r2,r3,r4⟩:=XhE y3 y4 y5 hl h5 n (k+1) (v.set (k:Int).toNat ⟨(pg h0.p k).k,wI (1-h0.s),(pg h0.p k).u,(pg h0.p k).P⟩) aa aa (by rw[WR];exact hv) λj hkj=>by rw[e2 j,Wn aa];exact hj j aa
    grind
   have⟨r,r1,r2,r3,r4⟩:=XhE y3 y4 y5 hl h5 n (k+1) v aa aa hv λj hkj=>hj j aa;grind
  obtain rfl:k=h0.p.length:=aa;rw[Xw,Wa,Wa];refine⟨v,rfl,rfl,hv,λj=>?_⟩;by_cases hq:j<h0.p.length\/¬((pg h0.p j).k=1/\(pg h0.p j).P>0)
  .simp_all
  exfalso;apply hq;right;intro hh;have:pg h0.p j=KZ:=by unfold pg;rw[Wp,WY aa];rfl
  rw[this]at hh;exact absurd hh.1 ae
def Xl8(hN:NB N)(ht:HT h0){L:List Int}(hB:Ow N h0 L):∃w,Qey N h0=some (w,0)/\Qc2 N h0=some (w,0)/\CI h0 L w/\I5 h0 L w/\QN L w/\w.d=0:=by
 have hN':=hN;unfold NB at hN';have hb:=ht.hb;have hb2:=hb.2;have ep:=hB.ep;have hp:=Yf hN hb ep;have hs:=hB.st.st;have hsp:=hp.space;have hw:wI (1-h0.s)=1-h0.s:=Xd aa aa;have hspn:=Xl4 hN hb ep;have⟨r,r1,r2,r3,r4⟩:=XhE (N:=N) (h0:=h0) (JC h0 L,0) h0.w h0.p aa rfl N 0 h0.p aa aa rfl λ_ _=>rfl;rw[show((0:Nat):Int)=0 from rfl]at r1 r2;have r5:∀j,0<=j->((pg h0.p j).k=1/\(pg r j)=⟨1,1-h0.s,(pg h0.p j).u,(pg h0.p j).P⟩)\/pg r j=pg h0.p j:=λj hj=>by
  obtain⟨m,rfl⟩:∃m:Nat,j=m:=⟨j.toNat,aa⟩
  grind
 have hk:SameK h0.p r:=⟨r3,λj hj=>by grind⟩
 have ci:=Xcw hb hp hs (w:=⟨⟨h0.c,h0.w,r,h0.s,h0.b⟩,JC h0 L,[],[],0,⟨0,0,0,0,0,0⟩⟩) rfl rfl rfl hk List.filter_sublist rfl rfl;refine⟨⟨⟨h0.c,h0.w,r,h0.s,h0.b⟩,JC h0 L,[],[],0,⟨0,0,0,0,0,0⟩⟩,?_,?_,ci,⟨λa ha=>(by grind),λa ha _ _=>(hs.obj.at_ a ha).ok,λa ha hf=>?_,ht.tw,?_,λi hi hk1=>by grind,λi hi=>?_,λ_ _ _=>rfl,rfl,rfl⟩,λ_=>rfl,rfl⟩
 .rw[Qey,Yl hb2 aa,ep,Xa,Wo,Wa,XcY hN ht,hB.eg,Xa,Wo,Wa,Jf hN ht,hB.ob,Xa];simp only[Qad,Qac,Xa];rw[show((0:Int) != 0)=false from rfl,Wa,Xc aa,r2,Xa]
 .rw[Qc2,ep,Xa,Wo,Wa,hB.eg,Xa,Wo,Wa,hB.ob,Xa,Xc aa,r1,Xa]
 .have:=Xon (XgD ht.tw a) (hs.obj.at_ a ha).ok;simp_all
 .refine Xc7 hspn r3 (λi i0 i1=>?_) λi m i0 ik m1 m2 m3=>?_
  .have hb:=hspn.hd i i0 i1;rcases r5 i i0 with⟨a,b⟩|b
   .have:=(hb aa).k1 a;have:=(hb aa).pn;rw[b];exact .inl ⟨aa,rfl,⟨by show 0<=1-h0.s;omega,by show 1-h0.s<=1;omega⟩,ag,by dsimp only;omega,by dsimp only;omega⟩
   simp_all
  have tl:=((hspn.hd i i0 aa aa).k2 ik).2.2 m m1 m2;grind
 have:=hk.2 i hi.1.1;rw[show(pg r i).k=1 from hi.2.1]at this;simp_all
end
section
variable {N:Nat}{h0:Wk}{l:List Int}
def Xqi(hN:NB N){h:Wk}(hb:HB h)(ep:Qab N h=some true){a:Int}(ha:IG h a):Qam N h a=some (hdA h.w a,0):=by
 have hp:=Yf hN hb ep;have hr:=ha.rng;have⟨_,q0,q1,q2,q3⟩:=Ks hp.conf hr;have hpl:=hp.pages;have hw:=hp.words;have hk:=ha.kind;have hu:=ha.used;have hsz:=YT h.w a;have hv:=Xl.1 hp.conf;have e1:Xz (ZF (wd h.w a))=szA h.w a:=hsz.1;rw[Qam,ep,Xa,Wo,Wa,Jx,hp.conf,Wn ab,Wq hr,Xa];rw[show(a-4096) / h.c.W=pgi h.c a from rfl,show(a-4096) % h.c.W=pgo h.c a from rfl];rw[XH q0 aa,Xa,YK (by have:=hb.1;unfold BIG;omega),Xa,Wq (by unfold inW;omega),Kz,Xa,XF,X1,Xa];rw[show h.w.getD (ix a) 0=wd h.w a from rfl,ha.ok,e1,Wh (show¬pgo h.c a>=(pg h.p (pgi h.c a)).u by omega),Wo];rcases hk with hk|hk
 .have:=ha.small hk;rw[show((pg h.p (pgi h.c a)).k != 1)=false by grind,Wa,XN hk,Wb,Xd (n:=pgo h.c a+szA h.w a) aa aa,Wh aa,Wa,show((pg h.p (pgi h.c a)).k==2)=false by grind,Wa];rfl
 have:=ha.large hk;rw[show((pg h.p (pgi h.c a)).k != 1)=true by grind,Wb,show((pg h.p (pgi h.c a)).k != 2)=false by grind,Wa,XG aa,Wa,XN hk,Wb,this.1,this.2];simp;rfl
def IG.same{h h2:Wk}(hc:h2.c=h.c){a:Int}(ha:IG h a)(hk:(pg h2.p (pgi h.c a)).k=(pg h.p (pgi h.c a)).k)(hu:(pg h2.p (pgi h.c a)).u=(pg h.p (pgi h.c a)).u)(hw:wd h2.w a=wd h.w a):IG h2 a:=by
 have hs:szA h2.w a=szA h.w a:=by unfold szA hdA;rw[hw]
 refine⟨by rw[hc];exact ha.rng,?_,by rw[hw];exact ha.ok,?_,λh=>?_,λh=>?_⟩<;>rw[hc]at *
 .rw[hk];exact ha.kind
 .rw[hu];exact ha.used
 .rw[hk]at h;rw[hu,hs];exact ha.small h
 rw[hk]at h;rw[hu,hs];exact ha.large h
def QpR{h h2:Wk}(hc:h2.c=h.c){i:Int}{p p2:Wt}(hu:p2.u=p.u)(hk:p2.k=p.k):∀(n:Nat)(o:Int)(v r:List Int),Qas N h i p n o v=some (.nxt r)->(∃t,r=v++t)/\((∀b∈r,Qam N h2 b=Qam N h b)->Qas N h2 i p2 n o v=some (.nxt r))
 |0,o,v,r,e=>by simp_all[Qas]
 |n+1,o,v,r,e=>by
  rw[Qas]at e;rw[Qas,hu,hk,hc];cases h1:decide (o<p.u)with
  |false=>simp_all
  |true=>
   rw[h1,Wb]at e;rw[Wb];cases h2':Qbq N h.c i o with
   |none=>simp_all[h2',Kr]
   |some y=>
    rw[h2',Xa]at e;rw[Xa];cases h3:Qam N h y.1 with
    |none=>simp_all[h3,Kr]
    |some z=>
     rw[h3,Xa]at e;cases h4:z.2 != 0 with
     |true=>simp_all
     |false=>
      rw[h4,Wa]at e;by_cases h5:(v.length+1)*8<=140737488355328;rotate_left
      .unfold grd at e;simp_all
      rw[Xc h5]at e;have key:∀t,r=v++[y.1]++t->y.1∈r:=λt ht=>by simp_all
      cases h6:p.k==2 with
      |true=>rw[h6,Wb]at e;cases e;refine⟨⟨[y.1],rfl⟩,λhb=>?_⟩;rw[hb y.1 ab,h3,Xa,h4,Wa,Xc h5,Wb]
      |false=>rw[h6,Wa,X1,Xa]at e;have⟨⟨t,ht⟩,q⟩:=QpR hc hu hk n _ _ r e;refine⟨⟨[y.1]++t,by rw[ht,UA]⟩,λhb=>?_⟩;rw[hb y.1 (key t ht),h3,Xa,h4,Wa,Xc h5,Wa,X1,Xa];simp_all
def Qoe{h:Wk}{i:Int}{p:Wt}{a:List Int×Int}:∀(n:Nat)(o:Int)(v:List Int),Qas N h i p n o v=some (.ret a)->a.2=19
 |0,o,v,e=>by simp_all[Qas]
 |n+1,o,v,e=>by
  rw[Qas]at e;cases h1:decide (o<p.u)with
  |false=>simp_all
  |true=>
   rw[h1,Wb]at e;cases h2':Qbq N h.c i o with
   |none=>simp_all[h2',Kr]
   |some y=>
    rw[h2',Xa]at e;cases h3:Qam N h y.1 with
    |none=>simp_all[h3,Kr]
    |some z=>
     rw[h3,Xa]at e;cases h4:z.2 != 0 with
     |true=>grind
     |false=>
      rw[h4,Wa]at e;by_cases h5:(v.length+1)*8<=140737488355328;rotate_left
      .unfold grd at e;simp_all
      rw[Xc h5]at e;cases h6:p.k==2 with
      |true=>simp_all
      |false=>rw[h6,Wa,X1,Xa]at e;exact Qoe n _ _ e
def Qp1{h h2:Wk}(hc:h2.c=h.c)(hl:h2.p.length=h.p.length)(ep:Qab N h=some true)(ep2:Qab N h2=some true){i:Int}(i0:0<=i)(i1:i<h.p.length)(hk:(pg h2.p i).k=(pg h.p i).k)(hu:(pg h2.p i).u=(pg h.p i).u){r:List Int}(e:Qal N h i=some (r,0))(hb:∀b∈r,Qam N h2 b=Qam N h b):Qal N h2 i=some (r,0):=by
 rw[Qal,ep,Xa,Wo,Wa,Wh aa,Wa,Wh aa,Wa,XH i0 i1,Xa]at e;rw[Qal,ep2,Xa,Wo,Wa,Wh aa,Wa,Wh aa,Wa,XH i0 aa,Xa,hk];cases h1:(pg h.p i).k==0 with
 |true=>simp_all
 |false=>
  cases h2':(pg h.p i).k==3 with
  |true=>simp_all
  |false=>
   rw[h1,Wa,h2',Wa]at e;rw[Wa,Wa];cases h3:Qas N h i (pg h.p i) N 0 []with
   |none=>simp_all[h3,Kr]
   |some x=>
    rw[h3,Xa]at e;cases x with
    |ret a=>rw[XA]at e;cases e;exact absurd (Qoe _ _ _ h3) ab
    |nxt v=>rw[Xm]at e;cases e;rw[(QpR hc hu hk N 0 [] r h3).2 hb,Xa,Xm]
def Xqj{L:List Int}(hs:Ia N h0 L){a b:Int}(ha:a∈L)(hb:b∈L)(hab:a≠b):a+szA h0.w a<=b\/b+szA h0.w b<=a:=by have hpw:=hs.obj.pw;rw[UI]at hpw;have⟨i,hi,ei⟩:=WN ha;have⟨j,hj,ej⟩:=WN hb;grind
instance(w:WD)(i:Int):Decidable (Prm w i):=by unfold Prm;infer_instance
def XaI(h0:Wk)(a:Int):Int:=(hdA h0.w a).n
def fwr(h0:Wk)(v:List Int)(a:Int):List Int:=ovr v ([J1 ⟨0,XaI h0 a,0⟩]++List.replicate (XaI h0 a).toNat (0:Int)) (ix a)
def Z6(h0:Wk)(w:WD)(x:List Int×Int)(a:Int):List Int×Int:=if Prm w (pgi h0.c a)/\a∉w.q then(fwr h0 x.1 a,wI (x.2+1))else x
structure VI(h0:Wk)(v:List Int):Prop where
 len:v.length=h0.w.length
 tu:∀x∈v,tU x
def vf{d:Int}(h:0<=d/\d<=255):XI ⟨0,d,0⟩=true:=by unfold XI;simp_all
def XhF(h0:Wk)(a:Int):0<=XaI h0 a/\XaI h0 a<=255/\szA h0.w a=XaI h0 a+1:=by have:=XL (ZG (wd h0.w a));exact⟨this.2.2.1,this.2.2.2,rfl⟩
def XhG(h0:Wk)(a x:Int):([x]++List.replicate (XaI h0 a).toNat (0:Int)).length=(XaI h0 a).toNat+1:=by simp
def Xor(d:Wy):tU (J1 d):=by unfold J1;simp
def Xqk{v:List Int}(hv:VI h0 v){a:Int}(h1:4096<=a)(h2:a+szA h0.w a<=4096+h0.w.length):VI h0 (fwr h0 v a)/\∀b,4096<=b->(b+1<=a\/a+szA h0.w a<=b)->wd (fwr h0 v a) b=wd v b:=by
 have hf:=XhF h0 a;have hl:=XhG h0 a (J1 ⟨0,XaI h0 a,0⟩);have hvl:=hv.len;have hi:ix a+([J1 ⟨0,XaI h0 a,0⟩]++List.replicate (XaI h0 a).toNat (0:Int)).length<=v.length:=by rw[hl];unfold ix;omega
 refine⟨⟨(ZE hi).trans hvl,λx hx=>?_⟩,λb hb hab=>?_⟩
 .rcases WG.1 hx with hx|hx
  .rcases WG.1 hx with hx|hx
   .exact hv.tu x (WW hx)
   rcases WG.1 hx with hx|hx
   .rw[UK.1 hx];exact Xor _
   simp_all
  exact hv.tu x (WP hx)
 unfold wd fwr;rw[Xcq hi,hl,Wn (by unfold ix;omega)]
def Xl9(hN:NB N){h:Wk}(hb:HB h)(ep:Qab N h=some true){d a:Int}(hd:0<=d/\d<=255)(h1:4096<=a)(h2:a+(d+1)<=4096+h.w.length):Qbe N h a ⟨0,d,0⟩=some (⟨h.c,ovr h.w ([J1 ⟨0,d,0⟩]++List.replicate d.toNat (0:Int)) (ix a),h.p,h.s,h.b⟩,0):=by have hb1:=hb.1;rw[Qbe,Ky,Wq (vf hd),ep,Xa,Xa,Wo,Wa];dsimp only;rw[show((0:Int) != 0)=false from rfl,Wa,Xc aa,Xc aa,Zz (by unfold BIG;omega) (by unfold BIG;simp;omega) (by simp;unfold NB at hN;omega),Wq (by unfold Yh;simp;omega),Xa];rfl
def Xad{w:WD}{L:List Int}(hp:Us h0)(hs:Ia N h0 L){x:List Int×Int}(hv:VI h0 x.1){a:Int}(ha:a∈L):VI h0 (Z6 h0 w x a).1/\∀b∈L,b≠a->wd (Z6 h0 w x a).1 b=wd x.1 b:=by
 have hat:=hs.obj.at_ a ha;have hf:=K7 hp hat;unfold Z6;split
 .have⟨q1,q2⟩:=Xqk hv hat.rng.1 hf;refine⟨q1,λb hb hba=>q2 b (hs.obj.at_ b hb).rng.1 ?_⟩;have:=(YT h0.w b).2.1;rcases Xqj hs hb ha hba with h|h<;>omega
 simp_all
def VN{w:WD}{L:List Int}(hp:Us h0)(hs:Ia N h0 L)(q:Int->Bool):∀(m:List Int)(x:List Int×Int),(∀a∈m,a∈L)->VI h0 x.1->VI h0 (m.foldl (λx a=>if q a then Z6 h0 w x a else x) x).1/\∀b∈L,b∉m->wd (m.foldl (λx a=>if q a then Z6 h0 w x a else x) x).1 b=wd x.1 b
 |[],x,_,hv=>⟨hv,λ_ _ _=>rfl⟩
 |a::m,x,hm,hv=>by
  rw[Ik];have h1:=Xad (w:=w) hp hs hv (hm a ab);cases hq:q a with
  |false=>obtain⟨r1,r2⟩:=VN hp hs q m x (λb hb=>hm b (by grind)) hv;exact⟨r1,λb hb hbm=>r2 b hb λh=>hbm (by grind)⟩
  |true=>obtain⟨r1,r2⟩:=VN hp hs q m (Z6 h0 w x a) (λb hb=>hm b (by grind)) h1.1;exact⟨r1,λb hb hbm=>(r2 b hb λh=>hbm (by grind)).trans (h1.2 b hb λh=>hbm (by grind))⟩
end
section
variable {N:Nat}{h0:Wk}{L:List Int}
def Xe7(hN:NB N)(hb:HB h0)(hp:Us h0)(hs:Ia N h0 L){w:WD}(hc:CI h0 L w)(hh:I5 h0 L w)(hspn:Om h0.c w.h.p):∀(n k:Nat)(x:List Int×Int),k<=w.o.length->w.o.length-k<n->VI h0 x.1->(∀a∈w.o.drop k,Prm w (pgi h0.c a)->wd x.1 a=wd h0.w a) ->
 QaT N w n (k:Int) x.1 x.2=some ((w.o.drop k).foldl (Z6 h0 w) x)
 |0,k,x,_,hn,_,_=>by omega
 |n+1,k,x,hk,hn,hv,hw=>by
  have hN':=hN;unfold NB at hN';have hb1:=hb.1;have hql:=hc.ql hb;have htl:=hc.tl hb;have hol:=hc.old.length_le;have hsl:=hs.len;have hspc:=hc.spc;have hsp:=hp.space;rw[QaT];by_cases h:k<w.o.length;rotate_left
  .grind
  have hdr:=Wr h;have haL:w.o[k]∈L:=hc.old.subset (WO h);have hpw:=(hs.obj.pw.sublist hc.old).drop (i:=k);rw[hdr]at hw hpw⊢;rw[ID]at hpw;rw[Xk h,Wb,Xe,Wc h,Xa,Xf aa,Ik];generalize w.o[k]=a at haL hw hpw⊢;have hat:=hs.obj.at_ a haL;have hr:=hat.rng;have hfit:=K7 hp hat;have hof:QcL N w.h.c a=some (pgi h0.c a,pgo h0.c a,0):=by rw[Jx,hc.conf,hp.conf,Wn ab,Wq hr];rfl
  have hlt:∀b∈w.o.drop (k+1),b∈L/\b≠a:=λb hb=>⟨hc.old.subset (WP hb),λe=>by have:=hpw.1 b hb;have:=(YT h0.w a).2.1;omega⟩
  have hpl:=hc.plen;have hb2:=hb.2;have⟨b,hbp,eb,_⟩:=Xe6 (N:=N) (w:=⟨⟨w.h.c,x.1,w.h.p,w.h.s,w.h.b⟩,w.o,w.t,w.q,w.d,⟨w.r.j,w.r.K,x.2,w.r.E,w.r.f,w.r.y⟩⟩) (i:=pgi h0.c a) hN htl (by simp_all) (by simp_all) hspn.sp;have hbp:b=true↔Prm w (pgi h0.c a):=hbp;rw[hof,Xa];rw[eb,Xa];have nxt:¬(Prm w (pgi h0.c a)/\a∉w.q)->QaT N w n ((k+1:Nat):Int) x.1 x.2=some ((w.o.drop (k+1)).foldl (Z6 h0 w) (Z6 h0 w x a)):=λhq=>by rw[show Z6 h0 w x a=x from Wn hq];exact Xe7 hN hb hp hs hc hh hspn n (k+1) x aa aa hv λb hb=>hw b (by grind)
  cases hbv:b with
  |false=>simp_all
  |true=>
   rw[Wo,Wa,Xa,YF a aa aa,Xa];cases hqv:w.q.contains a with
   |true=>simp_all
   |false=>
    have hq:=ZX hqv;have hpm:=hbp.1 hbv;have ewd:=hw a ab hpm;have hf:=XhF h0 a;have hvl:=hv.len;have eL:(ZF (wd x.1 a)).n=XaI h0 a:=by rw[ewd];rfl
    rw[Wa,Xa,Qek,YK (by show x.1.length<=_;unfold BIG;omega),Xa,Wq (by show inW x.1 a;unfold inW;omega),Kz,Xa,Xa];rw[show x.1.getD (ix a) 0=wd x.1 a from rfl,eL,Ky,Wq (vf aa),Xa,Xa,Xc aa,Xc aa,Zz (by unfold BIG;omega) (by rw[XhG];unfold BIG;omega) (by grind),XhG,Wq (by unfold Yh;omega),Xa];have⟨q1,q2⟩:=Xad (w:=w) hp hs hv haL;have ef:Z6 h0 w x a=(fwr h0 x.1 a,wI (x.2+1)):=Wq ⟨hpm,hq⟩;rw[ef]at q1 q2⊢;exact Xe7 hN hb hp hs hc hh hspn n (k+1) _ aa aa q1 λb hb hbp=>(q2 b (hlt b hb).1 (hlt b hb).2).trans (hw b (by grind) hbp)
def hpv(w:WD)(v:List Int):Wk:=⟨w.h.c,v,w.h.p,w.h.s,w.h.b⟩
def XhH(hN:NB N)(hb:HB h0)(ep:Qab N h0=some true){w:WD}(hc:CI h0 L w)(hh:I5 h0 L w){v:List Int}(hv:VI h0 v):Qab N (hpv w v)=some true/\HT (hpv w v):=by
 have hp:=Yf hN hb ep;have hpl:=hc.plen;refine⟨?_,⟨?_,hv.tu⟩⟩
 .have:=hh.ss.proper hN hb ep (ws:=v) hv.len (b:=w.h.b) (by
   rw[hh.bm]
   rcases hp.bump with h|⟨a,b,c⟩
   .exact .inl h
   .exact .inr ⟨a,aa,hh.k1 _ a c⟩)
  unfold hpv
  simp_all[hc.conf,hc.spc]
 have:=hb.1;have:=hb.2;have:=hv.len;exact⟨by show v.length<=_;omega,by show w.h.p.length<=_;omega⟩
def Xma(hN:NB N)(hb:HB h0)(ep:Qab N h0=some true)(hs:Ia N h0 L){w:WD}(hc:CI h0 L w)(hh:I5 h0 L w){v:List Int}(hv:VI h0 v){a:Int}(ha:a∈L)(hpm:Prm w (pgi h0.c a))(hw:wd v a=wd h0.w a):Qeu N (hpv w v) a=some (hdA h0.w a,0):=by have⟨e1,e2⟩:=XhH hN hb ep hc hh hv;have hat:=hs.obj.at_ a ha;have hpr:=hh.pr _ hpm;have hr:=hat.rng;have hp:=Yf hN hb ep;have h2:IG (hpv w v) a:=hat.same (h2:=hpv w v) hc.conf (by rw[hpr.1];exact hpm.2.1) hpr.2 hw;have hwl:=hp.words;have hb1:=hb.1;rw[Xa8 hN e2 (by unfold tU;omega),Xqi hN e2.hb e1 h2];unfold hdA;rw[show(hpv w v).w=v from rfl,hw]
def Xc8(hN:NB N)(hb:HB h0)(ep:Qab N h0=some true)(hs:Ia N h0 L){w:WD}(hc:CI h0 L w)(hh:I5 h0 L w){i:Int}(hpm:Prm w i){m:List Int}(hm:m.Sublist L)(hmi:∀a∈m,pgi h0.c a=i):∀(n k:Nat)(x:List Int×Int),k<=m.length->m.length-k<n->VI h0 x.1->(∀a∈m.drop k,wd x.1 a=wd h0.w a) ->
 Qcn N w (m,0) i n (k:Int) w.h.c.W w.h.c.p x.1 w.h.p w.h.s w.h.b x.2=some (w.h.c.W,w.h.c.p,((m.drop k).foldl (λx a=>if Ze (fnd h0 a)then Z6 h0 w x a else x) x).1,w.h.p,w.h.s,w.h.b,((m.drop k).foldl (λx a=>if Ze (fnd h0 a)then Z6 h0 w x a else x) x).2)
 |0,k,x,_,hn,_,_=>by omega
 |n+1,k,x,hk,hn,hv,hw=>by
  have hN':=hN;unfold NB at hN';have hb1:=hb.1;have hql:=hc.ql hb;have hol:=hm.length_le;have hsl:=hs.len;have hp:=Yf hN hb ep;rw[Qcn];by_cases h:k<m.length;rotate_left
  .grind
  have hdr:=Wr h;have haL:m[k]∈L:=hm.subset (WO h);have hai:=hmi _ (WO h);have hpw:=(hs.obj.pw.sublist hm).drop (i:=k);rw[hdr]at hw hpw⊢;rw[ID]at hpw;rw[Xk h,Wb,Xe,Wc h,Xa,Xf aa,Ik];generalize m[k]=a at haL hw hpw hai⊢;have hat:=hs.obj.at_ a haL;have hr:=hat.rng;have hfit:=K7 hp hat;have hlt:∀b∈m.drop (k+1),b∈L/\b≠a:=λb hb=>⟨hm.subset (WP hb),λe=>by have:=hpw.1 b hb;have:=(YT h0.w a).2.1;omega⟩
  have ewd:=hw a ab;have eat:=Xma hN hb ep hs hc hh hv haL (by simp_all) ewd;unfold hpv at eat;rw[show(⟨w.h.c.W,w.h.c.p⟩:WT)=w.h.c from rfl,eat,Xa];have nxt:=Xc8 hN hb ep hs hc hh hpm hm hmi n (k+1) x aa aa hv λb hb=>hw b (by grind);have must0:Qaj N 0=some ():=by rw[Qaj];rfl
  rw[must0,Xa];by_cases hk0:(hdA h0.w a).k=0
  .have hl:Ze (fnd h0 a)=false:=by unfold Ze fnd;rw[XN hk0];rfl
   simp_all
  have hl:Ze (fnd h0 a)=true:=by unfold Ze fnd;rw[XG hk0];rfl
  rw[XG hk0,Wa,hl,Wq rfl,Vv _ _ aa aa,Xa];cases hqv:w.q.contains a with
  |true=>rw[Wb,show Z6 h0 w x a=x from Wn λh=>h.2 (Y9 hqv)];omega
  |false=>have hq:=ZX hqv;have hf:=XhF h0 a;have hvl:=hv.len;have hsz:=YT h0.w a;have⟨e1,e2⟩:=XhH hN hb ep hc hh hv;have ei:=Xl9 hN e2.hb e1 (d:=XaI h0 a) (a:=a) aa hr.1 (by show _<=4096+(x.1.length:Int);omega);rw[Wa,YI aa,Xa,hsz.1,Qif,Wh (show¬szA h0.w a<1 by omega),Wa,Wh (show¬szA h0.w a>256 by omega),Wa,Xd (n:=szA h0.w a-1) aa aa,show szA h0.w a-1=XaI h0 a by omega];have eg:=Xc2 hN e2.hb (a:=a) aa (d:=⟨0,XaI h0 a,0⟩) ab;rw[ei]at eg;unfold hpv at eg;rw[eg,Xa,Xa];rw[must0,Xa];have⟨q1,q2⟩:=Xad (w:=w) hp hs hv haL;have ef:Z6 h0 w x a=(fwr h0 x.1 a,wI (x.2+1)):=Wq ⟨by simp_all,hq⟩;rw[ef]at q1 q2⊢;exact Xc8 hN hb ep hs hc hh hpm hm hmi n (k+1) _ aa aa q1 λb hb=>(q2 b (hlt b hb).1 (hlt b hb).2).trans (hw b (by grind))
def fF(h0:Wk)(w:WD)(x:List Int×Int)(a:Int):List Int×Int:=if Ze (fnd h0 a)then Z6 h0 w x a else x
def XiI{h:Wk}{a:Int}:∀(m k:Nat),a∈lps N h k m->∃i,k<=i/\i<k+m/\a∈lpg N h i
 |0,k,ha=>by cases ha
 |m+1,k,ha=>by
  rcases WG.1 ha with ha|ha
  .grind
  have⟨i,h1,h2,h3⟩:=XiI m (k+1) ha;grind
def XiJ{h:Wk}:∀(m k j:Nat),j<=m->(lps N h (k+j) (m-j)).Sublist (lps N h k m)
 |m,k,0,_=>List.Sublist.refl _
 |0,k,j+1,h=>by omega
 |m+1,k,j+1,hj=>by have:(lps N h (k+1+j) (m-j)).Sublist (lps N h (k+1) m):=XiJ m (k+1) j aa;rw[show k+1+j=k+(j+1) by omega,show m-j=m+1-(j+1) by omega]at this;simp_all[lps]
def XiK{w:WD}:∀(m:List Int)(x:List Int×Int),(∀a∈m,¬Prm w (pgi h0.c a))->m.foldl (fF h0 w) x=x
 |[],x,_=>rfl
 |a::m,x,h=>by rw[Ik,show fF h0 w x a=x by unfold fF Z6;simp_all];exact XiK m x λb hb=>h b (by grind)
def Xc9(hN:NB N)(hb:HB h0)(hB:Ow N h0 L){w:WD}(hc:CI h0 L w)(hh:I5 h0 L w):∀(n k:Nat)(x:List Int×Int),k<=h0.p.length->h0.p.length-k<n->VI h0 x.1->(∀a∈lps N h0 k (h0.p.length-k),Prm w (pgi h0.c a)->wd x.1 a=wd h0.w a) ->
 Qdc N w n (k:Int) w.h.c.W w.h.c.p x.1 w.h.p w.h.s w.h.b x.2=some (w.h.c.W,w.h.c.p,((lps N h0 k (h0.p.length-k)).foldl (fF h0 w) x).1,w.h.p,w.h.s,w.h.b,((lps N h0 k (h0.p.length-k)).foldl (fF h0 w) x).2)
 |0,k,x,_,hn,_,_=>by omega
 |n+1,k,x,hk,hn,hv,hw=>by
  have hN':=hN;unfold NB at hN';have hpl:=hc.plen;have hb2:=hb.2;have htl:=hc.tl hb;have ep:=hB.ep;have hp:=Yf hN hb ep;have hs:=hB.st.st;have hsp:=hp.space;have hspc:=hc.spc;have hspn:=hh.spn hN hb ep;rw[Qdc,hpl];by_cases h:k<h0.p.length;rotate_left
  .obtain rfl:k=h0.p.length:=aa;simp[Xw,Wa,IX,lps]
  rw[Xk h,Wb,Xf aa];have⟨b,hbp,_,eb⟩:=Xe6 (N:=N) (w:=⟨⟨w.h.c,x.1,w.h.p,w.h.s,w.h.b⟩,w.o,w.t,w.q,w.d,⟨w.r.j,w.r.K,x.2,w.r.E,w.r.f,w.r.y⟩⟩) (i:=(k:Int)) hN htl (by simp_all) (by simp_all) hspn.sp;have hbp:b=true↔Prm w (k:Int):=hbp;have ep2:Qeg N ⟨⟨w.h.c,x.1,w.h.p,w.h.s,w.h.b⟩,w.o,w.t,w.q,w.d,⟨w.r.j,w.r.K,x.2,w.r.E,w.r.f,w.r.y⟩⟩ (k:Int)=some b:=by rw[←eb,Qeg,QcZ];simp only[XF,Xc (p:=w.h.p.length<=140737488355328) aa]
  rw[show(⟨w.h.c.W,w.h.c.p⟩:WT)=w.h.c from rfl,ep2,Xa];have esub:h0.p.length-k=(h0.p.length-(k+1))+1:=aa;have⟨g1,g2⟩:=hB.pg k h;have hmi:∀a∈lpg N h0 k,pgi h0.c a=(k:Int):=λa ha=>(g2.2.1 a ha).2;have hLk:(lps N h0 k (h0.p.length-k)).Sublist L:=by have:=XiJ (N:=N) (h:=h0) h0.p.length 0 k hk;rw[Uy]at this;rw[hB.eL];exact this
  rw[esub,lps]at hw hLk⊢;rw[List.foldl_append];have hm:(lpg N h0 k).Sublist L:=(List.sublist_append_left _ _).trans hLk;cases hbv:b with
  |false=>rw[Uf,Wb,XiK (lpg N h0 k) x λa ha=>by simp_all];exact Xc9 hN hb hB hc hh n (k+1) x aa aa hv λa ha=>hw a (Ub _ ha)
  |true=>
   have hpm:=hbp.1 hbv;have⟨e1,e2⟩:=XhH hN hb ep hc hh hv;have hpr:=hh.pr _ hpm;have hwk:∀a∈lpg N h0 k,wd x.1 a=wd h0.w a:=λa ha=>hw a (W0 _ ha) (by simp_all);have epg:Qe2 N (hpv w x.1) (k:Int)=some (lpg N h0 k,0):=by rw[XcX hN e2];refine Qp1 (h:=h0) (h2:=hpv w x.1) hc.conf hpl ep e1 aa aa (by rw[hpr.1];exact hpm.2.1) hpr.2 g1 λa ha=>?_;have haL:=hm.subset ha;have:=Xma hN hb ep hs hc hh hv haL (by simp_all) (hwk a ha);have hr:=(hs.obj.at_ a haL).rng;have hv2:=Xl.1 hp.conf;have hwl:=hp.words;have hb1:=hb.1;rw[Xa8 hN e2 (by unfold tU;omega)]at this;rw[this,hs.obj.ev a haL]
   unfold hpv at epg;have must0:Qaj N 0=some ():=by rw[Qaj];rfl
   have gl:=Xc8 hN hb ep hs hc hh hpm hm hmi N 0 x aa (by have:=hm.length_le;have:=hs.len;omega) hv λa ha=>hwk a ha;rw[show((0:Nat):Int)=0 from rfl,WX]at gl;rw[Wo,Wa,epg,Xa];rw[must0,Xa,gl,Xa];have⟨q1,q2⟩:=VN (w:=w) hp hs (λa=>Ze (fnd h0 a)) (lpg N h0 k) x (λa ha=>hm.subset ha) hv;refine Xc9 hN hb hB hc hh n (k+1) _ aa aa q1 λa ha hpa=>?_;have haL:=hLk.subset (Ub _ ha);rw[q2 a haL λhc=>?_]
   .simp_all
   have⟨i,i1,i2,i3⟩:=XiI _ _ ha;have:=(g2.2.1 a hc).2;have:=((hB.pg i aa).2.2.1 a i3).2;omega
def Xos(hN:NB N)(hb:HB h0)(hB:Ow N h0 L){w:WD}(hc:CI h0 L w)(hh:I5 h0 L w):∃v c,VI h0 v/\QeF N w=some ⟨⟨w.h.c,v,w.h.p,w.h.s,w.h.b⟩,w.o,w.t,w.q,w.d,⟨w.r.j,w.r.K,c,w.r.E,w.r.f,w.r.y⟩⟩ /\
 QeV N w=some ⟨⟨w.h.c,v,w.h.p,w.h.s,w.h.b⟩,w.o,w.t,w.q,w.d,⟨w.r.j,w.r.K,c,w.r.E,w.r.f,w.r.y⟩⟩:=by
 have hN':=hN;unfold NB at hN';have ep:=hB.ep;have hp:=Yf hN hb ep;have hs:=hB.st.st;have hb2:=hb.2;have hspn:=hh.spn hN hb ep;have hv:VI h0 w.h.w:=⟨hc.wlen,hh.ws⟩
 have hol:=hc.old.length_le;have hsl:=hs.len;have g:=Xc9 hN hb hB hc hh N 0 (w.h.w,w.r.F) aa aa hv λa ha hpa=>hh.hw a (by rw[hB.eL];exact ha) hpa;have r:=Xe7 hN hb hp hs hc hh hspn N 0 (w.h.w,w.r.F) aa aa hv λa ha hpa=>hh.hw a (hc.old.subset ha) hpa;have e:(w.o.drop 0).foldl (Z6 h0 w) (w.h.w,w.r.F)=(lps N h0 0 (h0.p.length-0)).foldl (fF h0 w) (w.h.w,w.r.F):=by rw[WX,Nat.sub_zero,←hB.eL,hh.ol,JC,List.foldl_filter];rfl
 rw[e]at r;rw[show((0:Nat):Int)=0 from rfl]at g r;have k:=VN (w:=w) hp hs (λa=>Ze (fnd h0 a)) (lps N h0 0 (h0.p.length-0)) (w.h.w,w.r.F) (λa ha=>by rw[hB.eL];exact ha) hv;refine⟨((lps N h0 0 (h0.p.length-0)).foldl (fF h0 w) (w.h.w,w.r.F)).1,((lps N h0 0 (h0.p.length-0)).foldl (fF h0 w) (w.h.w,w.r.F)).2,k.1,?_,?_⟩
 .rw[QeF,g,Xa]
 simp[QeV,r,Xa]
end
section
variable {N:Nat}{h0:Wk}{L:List Int}
def Xot(hN:NB N)(hb:HB h0)(hp:Us h0)(hs:Ia N h0 L){w:WD}(hc:CI h0 L w)(hws:∀x∈w.h.w,tU x){a:Int}(ha:a∈L):∃m,QfX N w a=some m/\Qdz N w a=some m:=by
 have hN':=hN;unfold NB at hN';have hql:=hc.ql hb;have hat:=hs.obj.at_ a ha;have⟨o1,o2⟩:=XiF (N:=N) hp.conf hat.rng;have hw:=hp.words;have hwl:=hc.wlen;have hr:=hat.rng;have must0:Qaj N 0=some ():=by rw[Qaj];rfl
 rw[QfX,Qdz,Vv _ _ aa aa,YF a aa aa,Xa,Xa];cases w.q.contains a with
 |true=>simp
 |false=>
  rw[Wa,Wa,hc.conf,o1,Xa];have e:Xb w.h.w (a-4096)=some (wd w.h.w a):=by rw[Yj aa aa];unfold wd ix;rw[Wp,Wc aa];rfl
  rw[must0,Xa,o2,e,Xa,Xc6 aa (XgD hws a),YK (hc.wl hb),Xa,Wq (by unfold inW;omega),show w.h.w.getD (ix a) 0=wd w.h.w a from rfl,Jw,Xa];simp
def XgF(hN:NB N)(hb:HB h0)(hp:L≠[]->Us h0)(hs:Ia N h0 L){w:WD}(hc:CI h0 L w)(hws:∀x∈w.h.w,tU x){ws:List Int}(hl:ws.length<=1000000)(hm:∀x∈ws,x=0\/x∈L)(y5:WD×List Int×Int):∀(n k:Nat)(c:Int)(out:List Int),k<=ws.length->ws.length-k<n->out.length=k ->
 ∃o c',o.length=ws.length/\Qcp N w ws n (k:Int) c out=some (o,c')/\Qa2 N ws y5 (w,0) n (k:Int) c out=some (c',o)
 |0,k,c,out,_,hn,_=>by omega
 |n+1,k,c,out,hk,hn,ho=>by
  rw[Qcp,Qa2];by_cases h:k<ws.length;rotate_left
  .grind
  rw[Xk h,Wb,Wb,Xe,Wc h,Xa,Xa,Xf aa,XF,XF];have nx:=λc' x=>XgF hN hb hp hs hc hws hl hm y5 n (k+1) c' (out++[x]) aa aa (by simp_all);have hmk:=hm _ (WO h);generalize ws[k]=a at hmk⊢;by_cases h0a:a=0
  .dsimp only;rw[Xc aa,Xc aa];simp_all
  rw[X2 h0a,Wb,Wb,Xa];have haL:a∈L:=by rcases hmk with h|h;exact absurd h h0a;exact h
  have⟨m,e1,e2⟩:=Xot hN hb (hp (List.ne_nil_of_mem haL)) hs (w:=⟨w.h,w.o,w.t,w.q,w.d,⟨w.r.j,w.r.K,w.r.F,w.r.E,c,w.r.y⟩⟩) (by
   obtain⟨O,s,ho⟩:=hc.obj
   exact⟨hc.conf,hc.wlen,hc.plen,hc.spc,hc.old,hc.tk,hc.tnd,hc.knd,hc.qnd,⟨O,s,⟨ho.old,ho.queue,ho.fit,ho.apart,ho.taken,ho.free⟩⟩⟩) hws haL
  rw[e1,e2,Xa,Xa,XF,XF];cases m==0 with
  |true=>rw[Wb,Wb];dsimp only;rw[Xc aa,Xc aa];simp_all
  |false=>rw[Wa,Wa];dsimp only;rw[Xc aa,Xc aa];simp_all
def Xeg(p1:Wt)(hp1:p1.k=2):∀(n k:Nat)(qs:List Wt),k<=qs.length->qs.length-k<n->qs.length<=100000->∃r,QeG N p1 n (k:Int) qs=some r/\r.length=qs.length/\∀j:Nat,((k<=j/\j<qs.length/\∀x:Nat,k<=x->x<=j->(pg qs x).k=3)/\pg r j=KZ)\/(¬(k<=j/\j<qs.length/\∀x:Nat,k<=x->x<=j->(pg qs x).k=3)/\pg r j=pg qs j)
 |0,k,qs,_,hn,_=>by omega
 |n+1,k,qs,hk,hn,hl=>by
  rw[QeG,XN hp1,Wb,Xc aa];by_cases h:k<qs.length;rotate_left
  .grind
  rw[Xk h,Wb,XH (ps:=qs) (i:=(k:Int)) aa aa,Xa];by_cases h3:(pg qs k).k=3;rotate_left
  .grind
  rw[XN h3,Wb,Xa,Xf aa];have e2:=λx:Nat=>ZH (ps:=qs) (i:=(k:Int)) (j:=(x:Int)) ⟨0,0,0,0⟩ aa aa aa;have eq:∀x:Nat,k+1<=x->pg (qs.set (k:Int).toNat ⟨0,0,0,0⟩) x=pg qs x:=λx hx=>by grind
  have⟨r,r1,r2,r3⟩:=Xeg p1 hp1 n (k+1) (qs.set (k:Int).toNat ⟨0,0,0,0⟩) (by grind) (by grind) (by simp_all);rw[WR]at r2 r3;refine⟨r,r1,r2,λj=>?_⟩;by_cases hjk:j=k
  .subst hjk;refine .inl ⟨⟨Un _,h,λx a b=>by grind⟩,?_⟩;rcases r3 j with g|g
   .omega
   rw[g.2,e2 j,Wq rfl];rfl
  rcases r3 j with⟨⟨a1,a2,a3⟩,b⟩|⟨a,b⟩
  .refine .inl ⟨⟨aa,a2,λx hx hxj=>?_⟩,b⟩;by_cases hxk:x=k
   .rw[hxk];exact h3
   rw[←eq x aa];exact a3 x aa hxj
  grind
def XiL{w:WD}(v4:List Wt)(p5:Wt)(i c:Int)(hp:Us h0)(hc:w.h.c=h0.c)(g0:0<=i)(g1:i<h0.c.p):∀(n k:Nat)(v:List Int),(k:Int)<=h0.c.W->65-k<n->v.length=h0.w.length ->
 ∃r,Qbt N w v4 p5 i c n (k:Int) v=some r/\r.length=v.length/\∀j,r.getD j 0=if(i*h0.c.W).toNat+k<=j/\j<((i+1)*h0.c.W).toNat then 0 else v.getD j 0
 |0,k,v,_,hn,_=>by omega
 |n+1,k,v,k0,hn,hv=>by
  have hvc:=Xl.1 hp.conf;have hm:=XW hp.conf g0 g1;have hw:=hp.words;have e1:(i+1)*h0.c.W=i*h0.c.W+h0.c.W:=by rw[Ip,IP]
  rw[Qbt,hc];by_cases h1:(k:Int)<h0.c.W;rotate_left
  .rw[Wh h1,Wa];exact⟨v,rfl,rfl,λj=>by rw[Wn aa]⟩
  rw[Wg h1,Wb,Xf aa,Xd (n:=i*h0.c.W) aa aa,Xd (n:=i*h0.c.W+k) aa aa,Yj aa aa,Xa];have⟨r,r1,r2,r3⟩:=XiL v4 p5 i c hp hc g0 g1 n (k+1) (v.set (i*h0.c.W+k).toNat 0) aa aa (by rw[WR];exact hv);grind
def frZ(ps:List Wt)(sp:Int)(j:Nat):Prop:=(pg ps j).k≠0/\(pg ps j).s=sp
def frC(ps:List Wt)(sp:Int)(k j:Nat):Prop:=∃i:Nat,i<k/\i<j/\j<ps.length/\(pg ps i).k=2/\(pg ps i).s=sp/\∀x:Nat,i<x->x<=j->(pg ps x).k=3
def Xql{c:WT}{ps:List Wt}(hs:Om c ps){sp:Int}{k j:Nat}(h:frC ps sp k j):frZ ps sp j:=by
 have⟨i,h1,h2,h3,h4,h5,h6⟩:=h;have h3j:=h6 j h2 (Un j);have⟨k',t0,t1,t2,t3,t4⟩:=hs.tl j aa aa h3j;obtain⟨m,rfl⟩:∃m:Nat,k'=m:=⟨k'.toNat,aa⟩
 have tl:=(t2.k2 t3).2.2;have e:m=i:=by
  rcases Nat.lt_trichotomy m i with h|h|h
  .have:=(tl ((i:Int)-m) aa aa).1;grind
  .omega
  grind
 subst e;have:=(tl ((j:Int)-m) aa aa).2.1;rw[show(m:Int)+((j:Int)-m)=j by omega]at this;exact⟨aa,this.trans h5⟩
def Xmb{a b:List Int}(hl:a.length=b.length)(h:∀j,a.getD j 0=b.getD j 0):a=b:=by refine List.ext_getElem hl λi h1 h2=>?_;have:=h i;simp_all
def Xe8(hN:NB N)(hb:HB h0)(hp:Us h0){w:WD}(hc:w.h.c=h0.c)(hpl:w.h.p.length=h0.p.length)(hs:Om h0.c w.h.p):∀(n k:Nat)(c:Int)(v:List Int)(q g:List Wt),k<=h0.p.length->h0.p.length-k<n->v.length=h0.w.length->q.length=h0.p.length->g.length=h0.p.length ->
 (∀j:Nat,(j<k/\frZ w.h.p w.h.s j->pg q j=KZ)/\(¬(j<k/\frZ w.h.p w.h.s j)->pg q j=pg w.h.p j)) ->
 (∀j:Nat,((j<k/\frZ w.h.p w.h.s j)\/frC w.h.p w.h.s k j->pg g j=KZ)/\(¬((j<k/\frZ w.h.p w.h.s j)\/frC w.h.p w.h.s k j)->pg g j=pg w.h.p j)) ->
 ∃c' v' r,v'.length=h0.w.length/\r.length=h0.p.length/\Qa0 N w n (k:Int) c v q=some (c',v',r)/\QbB N w n (k:Int) g c v=some (v',r,c')
 |0,k,c,v,q,g,_,hn,_,_,_,_,_=>by omega
 |n+1,k,c,v,q,g,hk,hn,hv,hq,hg,hqj,hgj=>by
  have hN':=hN;unfold NB at hN';have hb2:=hb.2;have hpp:=hp.pages;have hw:=hp.words;have must0:Qaj N 0=some ():=by rw[Qaj];rfl
  rw[Qa0,QbB,Xc aa,hq,hpl];by_cases h:k<h0.p.length;rotate_left
  .obtain rfl:k=h0.p.length:=aa;rw[Xw,Wa,Wa];have e:g=q:=by
    refine Xqc aa λj hj=>?_;obtain⟨m,rfl⟩:∃m:Nat,j=m:=⟨j.toNat,aa⟩
    by_cases hm:m<h0.p.length/\frZ w.h.p w.h.s m
    .simp_all
    rw[(hqj m).2 hm];refine(hgj m).2 λh=>?_;rcases h with h|h
    .simp_all
    have hf:=Xql hs h;have⟨_,_,_,h3,_⟩:=h;grind
   subst e;exact⟨c,v,g,hv,hg,rfl,rfl⟩
  have hqk:pg q k=pg w.h.p k:=(hqj k).2 λh=>by omega
  rw[Xk h,Wb,Wb,XH (ps:=q) (i:=(k:Int)) aa aa,XH (ps:=w.h.p) (i:=(k:Int)) aa aa,Xa,Xa,Xa,hqk,Xf aa];have skip:¬frZ w.h.p w.h.s k->∃c' v' r,v'.length=h0.w.length/\r.length=h0.p.length/\Qa0 N w n ((k+1:Nat):Int) c v q=some (c',v',r)/\QbB N w n ((k+1:Nat):Int) g c v=some (v',r,c'):=λhf=>by
   have lt:∀j:Nat,j<k+1/\frZ w.h.p w.h.s j↔j<k/\frZ w.h.p w.h.s j:=λj=>⟨λh=>⟨by rcases Uq j k with a|a;exact a;exact absurd (show j=k by omega▸h.2) (λ_=>hf (by rw[show k=j by omega];exact h.2)),h.2⟩,λh=>⟨aa,h.2⟩⟩
   have fr:∀j:Nat,frC w.h.p w.h.s (k+1) j↔frC w.h.p w.h.s k j:=λj=>⟨λ⟨i,a,b,d,e,f,g⟩=>⟨i,by
    rcases Uq i k with x|x
    .exact x
    .exfalso;rw[show i=k by omega]at e f;exact hf ⟨aa,f⟩,b,d,e,f,g⟩,λ⟨i,a,b,d,e,f,g⟩=>⟨i,aa,b,d,e,f,g⟩⟩
   refine Xe8 hN hb hp hc hpl hs n (k+1) c v q g aa aa hv hq hg (λj=>?_) λj=>?_
   .rw[lt j];exact hqj j
   grind
  by_cases h1:(pg w.h.p k).k=0
  .rw[XN h1,Wb,Wb];exact skip λh=>h.1 h1
  rw[XG h1,Wa,Wa];by_cases h2:(pg w.h.p k).s=w.h.s;rotate_left
  .rw[X2 h2,Wb,Wb];exact skip λh=>h2 h.2
  have hfz:frZ w.h.p w.h.s k:=⟨h1,h2⟩
  rw[show((pg w.h.p k).s != w.h.s)=false by simp_all,Wa,Wa];have hm:=XW hp.conf (i:=(k:Int)) aa aa;have hvc:=Xl.1 hp.conf;have e1:((k:Int)+1)*h0.c.W=k*h0.c.W+h0.c.W:=by rw[Ip,IP]
  have e2:(((k+1:Nat):Int))*h0.c.W=(k:Int)*h0.c.W+h0.c.W:=by rw[←e1];congr 1
  obtain⟨u,u1,u2,u3⟩:=XiL (N:=N) (w:=w) q (pg w.h.p k) (k:Int) c hp hc aa aa N 0 v aa aa hv;rw[show((0:Nat):Int)=0 from rfl]at u1;rw[hc,e2,Xd (n:=(k:Int)*h0.c.W) aa aa,Xd (n:=(k:Int)*h0.c.W+h0.c.W) aa aa,Xc aa,u1,Xa];have eu:((v.take ((k:Int)*h0.c.W).toNat)++(List.replicate (((k:Int)*h0.c.W+h0.c.W).toNat-((k:Int)*h0.c.W).toNat) (0:Int)))++(v.drop (((k:Int)*h0.c.W).toNat+(((k:Int)*h0.c.W+h0.c.W).toNat-((k:Int)*h0.c.W).toNat)))=u:=by
   refine Xmb ?_ λj=>?_
   .grind
   rw[XiB aa aa,u3 j,e1,IB]
  rw[eu];have hul:u.length=h0.w.length:=u2.trans hv;have p2:=λx:Nat=>ZH (ps:=q) (i:=(k:Int)) (j:=(x:Int)) ⟨0,0,0,0⟩ aa aa aa;have hq':∀j:Nat,(j<k+1/\frZ w.h.p w.h.s j->pg (q.set (k:Int).toNat ⟨0,0,0,0⟩) j=KZ)/\(¬(j<k+1/\frZ w.h.p w.h.s j)->pg (q.set (k:Int).toNat ⟨0,0,0,0⟩) j=pg w.h.p j):=λj=>by
   rw[p2 j];by_cases hjk:j=k
   .subst hjk;rw[Wq rfl];exact⟨λ_=>rfl,λh=>absurd ⟨aa,hfz⟩ h⟩
   grind
  have fin:=λg' hg' hgj'=>Xe8 hN hb hp hc hpl hs n (k+1) (wI (c+1)) u (q.set (k:Int).toNat ⟨0,0,0,0⟩) g' aa aa hul (by simp_all) hg' hq' hgj';have frm:∀j,frC w.h.p w.h.s k j->frC w.h.p w.h.s (k+1) j:=λj ⟨i,a,b,d,e,f,g⟩=>⟨i,aa,b,d,e,f,g⟩
  have frk:∀j,frC w.h.p w.h.s (k+1) j->(pg w.h.p k).k≠2->frC w.h.p w.h.s k j:=λj ⟨i,a,b,d,e,f,g⟩ h2=>⟨i,by
   grind,b,d,e,f,g⟩
  by_cases h3:(pg w.h.p k).k=3
  .rw[show((pg w.h.p k).k != 3)=false by rw[h3];rfl,Wa];refine fin g hg λj=>?_;refine⟨λh=>?_,λh=>(hgj j).2 λa=>h (by rcases a with a|a;exact .inl ⟨aa,a.2⟩;exact .inr (frm j a))⟩;rcases h with⟨a,b⟩|a
   .by_cases hjk:j=k
    .subst hjk;have⟨k',t0,t1,t2,t3,t4⟩:=hs.tl j aa aa h3;obtain⟨m,rfl⟩:∃m:Nat,k'=m:=⟨k'.toNat,aa⟩
     have tl:=(t2.k2 t3).2.2;have tx:∀x:Nat,m<x->x<=j->(pg w.h.p x).k=3/\(pg w.h.p x).s=(pg w.h.p m).s:=λx a b=>by have:=tl ((x:Int)-m) aa aa;rw[show(m:Int)+((x:Int)-m)=x by omega]at this;exact⟨this.1,this.2.1⟩
     exact(hgj j).1 (.inr ⟨m,aa,aa,aa,t3,by rw[←(tx j aa (Un _)).2];exact h2,λx a b=>(tx x a b).1⟩)
    exact(hgj j).1 (.inl ⟨aa,b⟩)
   simp_all
  rw[X2 h3,Wb];have hgk:pg g k=pg w.h.p k:=(hgj k).2 λh=>by
   rcases h with h|⟨i,a,b,d,e,f,x⟩
   .omega
   simp_all
  have g2:=λx:Nat=>ZH (ps:=g) (i:=(k:Int)) (j:=(x:Int)) ⟨0,0,0,0⟩ aa aa aa;have hkd:=(hs.hd k aa aa h3).kd;rw[Qig,Wh (show¬(k:Int)<0 by omega),Wa,Wh (show¬(k:Int)>=(g.length:Int) by omega),Wa,XH (ps:=g) (i:=(k:Int)) aa aa,Xa,XF,hgk];have ej:∀x y:Option (List Wt×Int),(bif (pg w.h.p k).k != 1 then(bif (pg w.h.p k).k != 2 then x else y)else y)=y:=λx y=>by grind
  rw[ej];simp only[Qac,Xa];rw[XH (ps:=g) (i:=(k:Int)) aa aa,Xa,Xf aa];rcases hkd with e|e|e
  .omega
  .obtain⟨n',rfl⟩:∃m,N=m+1:=⟨N-1,aa⟩
   rw[QeG,XG aa,Wa,Xa,Xa];rw[must0,Xa];refine fin _ (by rw[WR];exact hg) λj=>?_;rw[g2 j];grind
  have⟨r,r1,r2,r3⟩:=Xeg (N:=N) (pg w.h.p k) e N (k+1) (g.set (k:Int).toNat ⟨0,0,0,0⟩) (by grind) (by grind) (by simp_all);rw[WR]at r2 r3;rw[r1,Xa,Xa];rw[must0,Xa];have gx:∀x j:Nat,k<x->x<=j->j<h0.p.length->(∀y:Nat,k<y->y<=j->(pg w.h.p y).k=3)->pg g x=pg w.h.p x:=λx j a b d f=>(hgj x).2 λh=>by
   rcases h with h|⟨i,i1,i2,i3,i4,i5,i6⟩
   .omega
   grind
  have gy:∀x:Nat,(pg g x).k=3->pg g x=pg w.h.p x:=λx hx=>(hgj x).2 λh=>by grind
  refine fin r aa λj=>?_;have run:(k+1<=j/\j<g.length/\∀x:Nat,k+1<=x->x<=j->(pg (g.set (k:Int).toNat ⟨0,0,0,0⟩) x).k=3)↔(k<j/\j<h0.p.length/\∀x:Nat,k<x->x<=j->(pg w.h.p x).k=3):=by
   rw[hg];refine⟨λ⟨a,b,d⟩=>⟨a,b,λx hx hxj=>?_⟩,λ⟨a,b,d⟩=>⟨a,b,λx hx hxj=>?_⟩⟩
   .have:=d x hx hxj;rw[g2 x,Wn aa]at this;grind
   rw[g2 x,Wn aa,gx x j hx hxj b d];grind
  have ht:=r3 j;rw[run,g2 j]at ht;rcases ht with⟨a,b⟩|⟨a,b⟩
  .have:frC w.h.p w.h.s (k+1) j:=⟨k,aa,a.1,aa,e,h2,a.2.2⟩
   grind
  rw[b];by_cases hjk:j=k
  .grind
  rw[Wn aa];refine⟨λh=>(hgj j).1 ?_,λh=>(hgj j).2 λq=>h ?_⟩
  .rcases h with h|⟨i,i1,i2,i3,i4,i5,i6⟩
   .exact .inl ⟨aa,h.2⟩
   refine .inr ⟨i,?_,i2,i3,i4,i5,i6⟩;rcases Uq i k with x|x
   .exact x
   exfalso;obtain rfl:i=k:=aa;exact a ⟨i2,aa,i6⟩
  grind
def Xou(hN:NB N)(hb:HB h0)(hp:Us h0){w:WD}(hc:w.h.c=h0.c)(hpl:w.h.p.length=h0.p.length)(hw:w.h.w.length=h0.w.length)(hs:Om h0.c w.h.p):∃c v r,v.length=h0.w.length/\r.length=h0.p.length/\Qeh N w=some ⟨⟨w.h.c,v,r,w.h.s,w.h.b⟩,w.o,w.t,w.q,w.d,⟨w.r.j,w.r.K,w.r.F,c,w.r.f,w.r.y⟩⟩/\QeH N w=some ⟨⟨w.h.c,v,r,w.h.s,w.h.b⟩,w.o,w.t,w.q,w.d,⟨w.r.j,w.r.K,w.r.F,c,w.r.f,w.r.y⟩⟩:=by
 have hN':=hN;unfold NB at hN';have hb1:=hb.1;have hb2:=hb.2;obtain⟨c,v,r,a1,a2,a3,a4⟩:=Xe8 hN hb hp hc hpl hs N 0 w.r.E w.h.w w.h.p w.h.p aa aa hw hpl hpl (λj=>⟨λh=>aa,λ_=>rfl⟩) (λj=>⟨λh=>by rcases h with h|⟨i,h,_⟩<;>omega,λ_=>rfl⟩);rw[show((0:Nat):Int)=0 from rfl]at a3 a4;refine⟨c,v,r,a1,a2,?_,?_⟩
 .rw[Qeh,Xc aa,Xc aa,a3,Xa]
 simp[QeH,Qad,Xa,a4]
end
section
variable {N:Nat}{h0:Wk}{L:List Int}
def CI.rep{w:WD}(hc:CI h0 L w)(rp:WM):CI h0 L {w with r:=rp}:=by have⟨O,s,ho⟩:=hc.obj;exact⟨hc.conf,hc.wlen,hc.plen,hc.spc,hc.old,hc.tk,hc.tnd,hc.knd,hc.qnd,⟨O,s,⟨ho.old,ho.queue,ho.fit,ho.apart,ho.taken,ho.free⟩⟩⟩
def I5.rep{w:WD}(h:I5 h0 L w)(rp:WM):I5 h0 L {w with r:=rp}:=⟨h.q,h.old,h.fw,h.ws,h.ss,h.k1,h.pr,h.hw,h.bm,h.ol⟩
def RefB(h0:Wk)(L:List Int)(l:List Int):Prop:=(l.all λx=>x==0||(JC h0 L).contains x)=true
def RefB.mem{l:List Int}(h:RefB h0 L l):∀x∈l,x=0\/x∈L:=λx hx=>by
 have:=Ud.1 h x hx;simp only[Ij,beq_iff_eq]at this;rcases this with h|h
 .omega
 exact .inr (List.filter_sublist.subset (Y9 h))
def XhI(hN:NB N)(ht:HT h0)(hB:Ow N h0 L){rs ws:List Int}(hrw:rs.length+ws.length<=1000000)(tr:∀x∈rs,tU x)(br:RefB h0 L rs)(bw:RefB h0 L ws):∃r,QdS N h0 rs ws=some r/\QcJ N h0 rs ws=some r/\(r.2.2.2.2=0->NZ rs r.2.1):=by
 have hN':=hN;unfold NB at hN';have hb:=ht.hb;have ep:=hB.ep;have hp:=Yf hN hb ep;have hs:=hB.st;have⟨w,g1,r1,hc,hh,hq,hsc⟩:=Xl8 hN ht hB;have e1:Qbc N h0 rs=some true:=by rw[ZP hN ht aa hB.eg hB.ob];exact congrArg some br
 have e2:Qbc N h0 ws=some true:=by rw[ZP hN ht aa hB.eg hB.ob];exact congrArg some bw
 have e3:QdP N h0 (rs++ws)=some true:=by rw[Xd9 hN ht (by rw[WQ];omega),ZP hN ht (by rw[WQ];omega) hB.eg hB.ob,List.all_append,show(rs.all λx=>x==0||(JC h0 L).contains x)=true from br,show(ws.all λx=>x==0||(JC h0 L).contains x)=true from bw];rfl
 rw[QdS,QcJ,g1,r1,ep,e1,e2,Xa,Xa,XF,Xa,Xa,Wo,Wa,Wa,Wa,Xa];rw[show((0:Int)==0)=true from rfl,Wb,Xa6 _ ab (by unfold V9;unfold V9;unfold V9;omega) aa,Xa,show [rs,ws].flatten=rs++ws by simp,e3,Xa,Wb];rcases Xl6 hN hs hc hh hq aa tr with⟨e,e0,a1,a2⟩|⟨w1,out,c1,h1,q1,k1,l1,z1,a1,a2⟩
 .rw[a1,a2,Xa,Xa,XG e0,X2 e0,Wa,Wb];exact⟨_,rfl,rfl,λh=>absurd h e0⟩
 rw[a1,a2,Xa,Xa];have esc:w1.d=0:=by unfold KeepW at k1;rw[k1];exact hsc
 rcases Xqg hN hs c1 h1 q1 aa aa with⟨e,e0,a1,a2⟩|⟨w2,c2,h2,q2,a1,a2⟩
 .rw[a1,a2,Xa,Xa,XG e0,X2 e0,Wa,Wb];exact⟨_,rfl,rfl,λh=>absurd h e0⟩
 rw[a1,a2,Xa,Xa];have⟨o,cl,ol,b1,b2⟩:=XgF hN hb (λ_=>hp) hs.st c2 h2.ws aa bw.mem (w1,out,0) N 0 w2.r.f [] aa aa rfl;rw[show((0:Nat):Int)=0 from rfl]at b1 b2;rw[Qdu,b1,b2,Xa,Xa,Xa];have⟨v,cf,vi,f1,f2⟩:=Xos hN hb hB (c2.rep ⟨w2.r.j,w2.r.K,w2.r.F,w2.r.E,cl,w2.r.y⟩) (h2.rep _);rw[f1,f2,Xa,Xa];have⟨cr,v',ps,y1,y2,y3,y4⟩:=Xou (w:=⟨⟨w2.h.c,v,w2.h.p,w2.h.s,w2.h.b⟩,w2.o,w2.t,w2.q,w2.d,⟨w2.r.j,w2.r.K,cf,w2.r.E,cl,w2.r.y⟩⟩) hN hb hp c2.conf c2.plen vi.len (h2.spn hN hb ep);have htl:=c2.tl hb;rw[y3,y4,Xa,Xa];dsimp only;rw[Xc aa,XF];by_cases hk:(w2.t.length:Int)>0
 .rw[Wg hk,Wb,Xd (n:=(w2.t.length:Int)-1) aa aa,Yj aa aa,Xa];exact⟨_,rfl,rfl,λ_=>z1⟩
 simp_all
end
section
variable {N:Nat}
def XiM{rs:List Int}{c:Nat}(h:c<rs.length):Xb (rs.drop c) 0=some rs[c]:=by rw[show(0:Int)=((0:Nat):Int)from rfl,Xe,UF,Wc aa];rfl
def Xda(t:WE)(hl:t.e.length<=1000000)(rs:List Int)(hr:rs.length<=1000000):∀(n k c:Nat)(v:List W8),k<=t.e.length->t.e.length-k<n->v.length=t.e.length->c+(XT (v.drop k)).length=rs.length ->
 ∃r,Qd6 N t n (rs.drop c) (k:Int) v=some r/\Qa9 N rs n (c:Int) (k:Int) v=some r
 |0,k,c,v,_,hn,_,_=>by omega
 |n+1,k,c,v,hk,hn,hv,hc=>by
  rw[Qd6,Qa9,Xc aa,hv];by_cases h:k<t.e.length;rotate_left
  .obtain rfl:k=t.e.length:=aa;simp
  have hd:=Wr (show k<v.length by omega);rw[hd]at hc;rw[Xk h,Wb,Wb,Xe,Wc aa,Xa,Xa,Xf aa];cases hL:v[k].V with
  |false=>exact Xda t hl rs hr n (k+1) c v aa aa hv (by rw[←hc];unfold XT;grind)
  |true=>
   have h2:c+1+(XT (v.drop (k+1))).length=rs.length:=by rw[←hc];unfold XT;rw[Uw aa,Ug,Uo];omega
   rw[Wb,Wb,XiM aa,Xa,Xe,Wc (show c<rs.length by omega),Xa,Xc (by grind),Xa,Xa,IW,Xf aa];exact Xda t hl rs hr n (k+1) (c+1) _ aa aa (by simp_all) (by rw[show(k:Int).toNat=k from rfl,Iv aa];omega)
def XgG(hN:NB N){t:WE}(ht:TB t)(hv:YZ t.e=true){rs:List Int}(hr:(XT t.e).length=rs.length):∃r,QgA N t rs=some (r,0)/\Qce N t rs=some (r,0):=by
 have hN':1000000<N:=by unfold NB at hN;omega
 have h64:=Vl hv;have:=VF t.e;have⟨r,e1,e2⟩:=Xda (N:=N) t aa rs aa N 0 0 t.e aa aa rfl (by simp_all);rw[WX,show((0:Nat):Int)=0 from rfl]at e1;rw[show((0:Nat):Int)=0 from rfl]at e2;refine⟨⟨r⟩,?_,?_⟩
 .rw[QgA,XaB ht hN',hv,Xa,Wo,Wa,KP ht hN',hv,Wb,Xa,hr];simp only[bne_self_eq_false,Wa,QhE,QaA,Xa];rw[Xc aa,show(WE.mk t.e)=t from rfl,e1,Xa]
 rw[Qce,Zd ht hN',hv,Xa,Wo,Wa,Yk ht hN',hv,Wb,Xa,Xc aa,hr];simp;rw[Xc aa,e2,Xa]
def Xdb(a:Ww)(hl:a.S.length<=1000000)(rs:List Int)(hr:rs.length<=1000000)(hz:∀x∈rs,x≠0):∀(n k c:Nat)(v:List UM),k<=a.S.length->a.S.length-k<n->v.length=a.S.length->c+(X8 (v.drop k)).length=rs.length ->
 ∃r,Qd5 N a n (rs.drop c) (k:Int) v=some r/\Qa8 N a rs n (c:Int) (k:Int) v=some (.nxt r)
 |0,k,c,v,_,hn,_,_=>by omega
 |n+1,k,c,v,hk,hn,hv,hc=>by
  rw[Qd5,Qa8,Xc aa,hv];by_cases h:k<a.S.length;rotate_left
  .obtain rfl:k=a.S.length:=aa;simp
  have hd:=Wr (show k<v.length by omega);rw[hd]at hc;rw[Xk h,Wb,Wb,Xe,Wc aa,Xa,Xa,Xf aa];cases hL:v[k].V with
  |false=>exact Xdb a hl rs hr hz n (k+1) c v aa aa hv (by rw[←hc];unfold X8;grind)
  |true=>
   have h2:c+1+(X8 (v.drop (k+1))).length=rs.length:=by rw[←hc];unfold X8;rw[Uw aa,Ug,Uo];omega
   have hcl:c<rs.length:=aa;rw[Wo,Wb,Wa,XiM hcl,Xa,Xe,Wc hcl,Xa,Xa,XG (hz _ (WO hcl)),Wa,Xa,Xa,Xc (by grind),IW,Xf aa];exact Xdb a hl rs hr hz n (k+1) (c+1) _ aa aa (by grind) (by rw[show(k:Int).toNat=k from rfl,Iv aa];omega)
def Xmc(hN:NB N){a:Ww}(ha:LBp a)(hv:Y3 a=true){rs:List Int}(hr:(X8 a.S).length=rs.length)(hz:∀x∈rs,x≠0):∃r,Qhg N a rs=some (r,0)/\QdA N a rs=some (r,0):=by
 have hN':1000000<N:=by unfold NB at hN;omega
 have hsl:=(Zj.1 hv).slots;have:=(Zj.1 hv).iss;have:=XaW a.S;have⟨r,e1,e2⟩:=Xdb (N:=N) a aa rs aa hz N 0 0 a.S aa aa rfl (by simp_all);rw[WX,show((0:Nat):Int)=0 from rfl]at e1;rw[show((0:Nat):Int)=0 from rfl]at e2;have hc:rs.contains 0=false:=by rw[Bool.eq_false_iff];intro h;exact hz 0 (Y9 h) rfl
 refine⟨⟨r,a.x,a.i⟩,?_,?_⟩
 .rw[Qhg,XcR ha hN',hv,Xa,Wo,Wa,Xa5 ha hN',hv,Wb,Xa,hr,Vv _ _ aa hN',hc];simp only[bne_self_eq_false,Wa,QhD,QaE,Qaz,QaD,Xa];rw[Xc aa,show(Ww.mk a.S a.x a.i)=a from rfl,e1,Xa]
 rw[QdA,ZB ha hN',hv,Xa,Wo,Wa,Zk ha hN',hv,Wb,Xa,hr];simp;rw[Xc aa,e2,Xa,Xm]
def XiN(x:W9)(hx:x.P.length<=1000000)(y4:Wk×List Int×List Int×WM×Int)(y5:W9)(y6:List Int×List Int)(y9:Ww×Int)(y11:List Int×List Int)(y12 y13:WE×Int)(z5 z6:List Int)(z7:Ww×Int)(z8 z9:WE×Int)(hlen:y11.2.length=x.P.length)(hg:∀k:Nat,k<x.P.length->Xb y4.2.1 (wI (wI (wI ((x.R.length:Int)+(z5.length:Int))+(z6.length:Int))+k))=y11.2[k]?):∀(n k:Nat)(v:List UH),k<=x.P.length->x.P.length-k<n->v.length=k ->
 ∃r,Qez N y4 y5 y6 y9 y11 y12 y13 n (k:Int) (v++x.P.drop k)=some r/\QaU N x y4 z5 z6 z7 z8 z9 n (k:Int) v=some r
 |0,k,v,_,hn,_=>by omega
 |n+1,k,v,hk,hn,hv=>by
  rw[Qez,QaU,hlen];by_cases h:k<x.P.length;rotate_left
  .obtain rfl:k=x.P.length:=aa;simp
  have hd:=Wr h;have e:Xb (v++x.P.drop k) (k:Int)=some x.P[k]:=by rw[Xe,UZ aa,hv,IX,hd];rfl
  rw[Xk h,Wb,Wb,Xe,hg k h,Wc aa,Xa,Xa,e,Xa,Xe,Wc h,Xa,Xc aa,Xf aa];have es:(v++x.P.drop k).set (k:Int).toNat ⟨y11.2[k],x.P[k].M⟩=(v++[⟨y11.2[k],x.P[k].M⟩])++x.P.drop (k+1):=by rw[show(k:Int).toNat=k from rfl,IJ _ _ aa,hv,IX,hd,Ic,UA];rfl
  rw[es];exact XiN x hx y4 y5 y6 y9 y11 y12 y13 z5 z6 z7 z8 z9 hlen hg n (k+1) _ aa aa (by simp_all)
structure OD(N:Nat)(x:W9)(L:List Int):Prop where
 beg:Ow N x.h L
 ev:EV N x
 strong:RefB x.h L (JU x)
 weak:RefB x.h L (XT x.v.e)
def Xmd(hN:NB N){x:W9}(ht:ET x)(e:Qcu N x=some true):∃L,OD N x L:=by
 have hN':1000000<N:=by unfold NB at hN;omega
 have hx:=ht.eb;have h1:=Za hx.loc;have h2:=Ym x.g.e;have h5:=Ym x.v.e;have h3:=hx.pins;have h4:=hx.roots;have⟨b,eb,hb⟩:=ZM hN hx;rw[e]at eb;obtain rfl:=WK eb;have hv:=hb rfl;have⟨b,eb,_⟩:=JA hN hx.heap h3;rw[Qcu,eb,Xa]at e;cases b with
 |false=>grind
 |true=>
 have⟨eg,hp64,hpn⟩:=XcZ hN ht.ht h3 eb;have⟨L,hB⟩:=Xqh hN ht.ht eg;have hl:JU x=((x.R++X8 x.l.S)++XT x.g.e)++x.P.map (·.a):=by unfold JU;rw[hv.loc,hv.glo];rfl
 simp only[Wo,Wa,ZB hx.loc hN',Zd hx.glo hN',Zd hx.wea hN',Yk hx.glo hN',Yk hx.wea hN',Zk hx.loc hN',Xa,hv.loc,hv.glo,hv.wea,Wb]at e h1 h2 h5;rw[YF 0 aa aa,Xa]at e;cases hc:(XT x.g.e).contains 0 with
 |true=>simp_all
 |false=>
 rw[hc,Wa,Xc aa,Xc aa,Xc aa,Xc aa,ZP hN ht.ht (by grind) eg hB.ob,Xa]at e;have e:=WK e;simp only[List.all_append,W6]at e;refine⟨L,hB,hv,?_,e.2⟩;unfold RefB;rw[hl];simp only[List.all_append,W6];refine⟨⟨⟨e.1.1.1,e.1.1.2⟩,e.1.2⟩,?_⟩;rw[Ud];intro r hr;obtain⟨p,hp,rfl⟩:=UX.1 hr;rw[hpn _ hB.ob p hp,Bool.or_true]
def Xme(hN:NB N){x:W9}(ht:ET x):∃r,QgQ N x=some r/\Qba N x=some r:=by
 have hN':1000000<N:=by unfold NB at hN;omega
 have hx:=ht.eb;have h1:=Za hx.loc;have h2:=Ym x.g.e;have h5:=Ym x.v.e;have h3:=hx.pins;have h4:=hx.roots;have⟨b,eb,_⟩:=ZM hN hx;rw[QgQ,Qba,XiC hN ht,eb,Xa,Xa];cases b with
 |false=>simp
 |true=>
 have⟨L,hV⟩:=Xmd hN ht eb;have hv:=hV.ev;have hB:=hV.beg;rw[hv.loc,Wb]at h1;rw[hv.glo,Wb]at h2;rw[hv.wea,Wb]at h5;have hp64:=hv.mat.len;have hl:JU x=((x.R++X8 x.l.S)++XT x.g.e)++x.P.map (·.a):=by unfold JU;rw[hv.loc,hv.glo];rfl
 have hll:(JU x).length=x.R.length+(X8 x.l.S).length+(XT x.g.e).length+x.P.length:=by rw[hl];simp only[WQ,W4]
 rw[Wo,Wa,Wa,Xc0 hN hx,Xhy hN hx,Xa,Xa,KP hx.wea hN',Yk hx.wea hN',hv.wea,Wb,Xa,Xa];have tr:∀y∈JU x,tU y:=λy hy=>by
  rcases hV.strong.mem y hy with h|h
  .simp_all
  have hr:=(hB.st.st.obj.at_ y h).rng;have hp:=Yf hN hx.heap hB.ep;have hw:=hp.words;have hb1:=hx.heap.1;unfold tU;omega
 have⟨y,e1,e2,hnz⟩:=XhI hN ht.ht hB (rs:=JU x) (ws:=XT x.v.e) aa tr hV.strong hV.weak;have⟨y',e3,hq⟩:=QkY hN hx.heap (rs:=JU x) (ws:=XT x.v.e) aa aa;rw[e2]at e3;obtain rfl:=WK e3;rw[e1,e2,Xa,Xa];by_cases he:y.2.2.2.2=0;rotate_left
 .simp[X2,he,Wb]
 have hnz:=hnz he;have⟨hl1,hl2⟩:=hq.len he;rw[show(y.2.2.2.2 != 0)=false by simp_all,Wa,Wa];simp only[Qgz,QgP,QfZ,Qfv,Qad,Qac,QaE,Qaz,QaD,QaA,Qby,Xa,QdT];generalize hs:y.2.1=s at *;have en:(x.R.length:Int).toNat=x.R.length:=rfl;rw[Xc aa,Xc aa,Xa,en,Xc (by grind),Xa5 hx.loc hN',Zk hx.loc hN',hv.loc,Wb,Xa,Xa,Yk hx.glo hN',KP hx.glo hN',hv.glo,Wb,Xa];generalize hk:X8 x.l.S=lk at *;generalize hm:XT x.g.e=lm at *;have ek:(lk.length:Int).toNat=lk.length:=rfl;have em:(lm.length:Int).toNat=lm.length:=rfl;have w1:wI ((x.R.length:Int)+(lk.length:Int))=((x.R.length+lk.length:Nat):Int):=by rw[Xd aa aa];omega
 have w2:wI (((x.R.length+lk.length:Nat):Int)+(lm.length:Int))=((x.R.length+lk.length+lm.length:Nat):Int):=by rw[Xd aa aa];omega
 have t1:((x.R.length+lk.length:Nat):Int).toNat=x.R.length+lk.length:=rfl;have t2:((x.R.length+lk.length+lm.length:Nat):Int).toNat=x.R.length+lk.length+lm.length:=rfl;have hz:∀v∈(s.drop x.R.length).take lk.length,v≠0:=λv hvm=>by
  obtain⟨i,hi,ei⟩:=WN hvm;rw[Wj]at hi;rw[U7,Ir]at ei;have hik:i<lk.length:=aa;have e4:(JU x)[x.R.length+i]? = some lk[i]:=by rw[hl,UA,UA,UZ aa,Ix,UT hik,Wc hik]
  refine hnz (x.R.length+i) v (by rw[Wc aa,ei]) _ e4 ?_;have hmem:lk[i]∈X8 x.l.S:=by rw[hk];exact WO hik
  unfold X8 at hmem;obtain⟨p,hp,ep⟩:=UX.1 hmem;rw[←ep];have hp:=US.1 hp;obtain⟨q,hq,eq⟩:=WN hp.1;exact(XdU (Zj.1 hv.loc).st (i:=q) (p:=p) (by simp_all)).2.2.2.1 hp.2
 have⟨r1,a1,a2⟩:=Xmc hN hx.loc hv.loc (rs:=(s.drop x.R.length).take lk.length) (by rw[hk,Wj,Wl];omega) hz;have⟨r2,b1,b2⟩:=XgG hN hx.glo hv.glo (rs:=(s.drop (x.R.length+lk.length)).take lm.length) (by rw[hm,Wj,Wl];omega);have⟨r3,c1,c2⟩:=XgG hN hx.wea hv.wea (rs:=y.2.2.1) hl2.symm;have⟨r4,d1,d2⟩:=XiN (N:=N) x h3 y ⟨x.h,x.l,x.g,x.v,x.P,x.R⟩ (s.take x.R.length,s.drop x.R.length) (r1,0) ((s.drop (x.R.length+lk.length)).take lm.length,s.drop (x.R.length+lk.length+lm.length)) (r2,0) (r3,0) lk lm (r1,0) (r2,0) (r3,0) (by simp_all) (λk hkp=>by
  rw[hs,w1,w2,Xd aa aa,show((x.R.length+lk.length+lm.length:Nat):Int)+(k:Int)=((x.R.length+lk.length+lm.length+k:Nat):Int) by omega,Xe,UF]) N 0 [] aa aa rfl
 rw[show((0:Nat):Int)=0 from rfl,WX,Uh]at d1;rw[show((0:Nat):Int)=0 from rfl]at d2;rw[w1,w2,t1,t2,ek,Xc (by grind),Xc (by grind),Xa,a1,Xa,Xa];rw[em,IW,Xc (by grind[Wl]),Xc (by grind[Wl]),Xa];dsimp only;rw[b1,Xa,c1,Xa,IW,d1,Xa];rw[Xc aa,Xc aa,Xc aa,Xc aa,show x.R.length+lk.length-x.R.length=lk.length by omega,a2,Xa,Xc aa,show x.R.length+lk.length+lm.length-(x.R.length+lk.length)=lm.length by omega,b2,Xa,c2,Xa,d2,Xa];refine⟨_,?_,rfl⟩;rw[show(!(((0:Int)==0)&&(((0:Int)==0)&&((0:Int)==0))))=false from rfl,Wa,List.take_zero,Uh,Wj,UE aa,U1]
end
section
variable {N:Nat}
def Xov{t:UG}{m:Int}(h0:0<=t.at_)(h1:t.at_<=m)(hm:m<=1000000){a:Int}(ha:a<=1000000000):Ok (Qaa N t a) λr=>0<=r.1/\(1<=a->r.1<a)/\0<=r.2.at_/\r.2.at_<=m+1:=by
 refine Wm (λ_=>We ⟨ab,λh=>aa,h0,by grind⟩) λhg=>?_;have hg:=WL hg;have rest:∀x:Int,Ok (grd (a≠0) <| grd (a≠0) <| some (((wI ((x.tmod a)+a)).tmod a),(UG.mk t.L (wI (t.at_+1))))) λr=>0<=r.1/\(1<=a->r.1<a)/\0<=r.2.at_/\r.2.at_<=m+1:=by
  intro x;have b1:=Int.tmod_lt_of_pos x (show 0<a by omega);have b2:-a<x.tmod a:=by have:=Int.tmod_lt_of_pos (-x) (show 0<a by omega);rw[Int.neg_tmod]at this;omega
  have e:=Xd (n:=x.tmod a+a) aa aa;have e2:=Xd (n:=t.at_+1) aa aa;have c1:=Int.tmod_lt_of_pos (x.tmod a+a) (show 0<a by omega);have c2:=Int.tmod_nonneg a (show 0<=x.tmod a+a by omega);refine WS aa (WS aa (We ?_));simp only[e,e2];exact⟨c2,λ_=>c1,aa,aa⟩
 refine U6 (Wm (λh=>Ok.get h0 (Wu h) λp _=>rest p) λ_=>rest _)
def TA(m:Int)(t:UG):Prop:=0<=t.at_/\t.at_<=m
def nxp{t:UG}{m a:Int}(h:TA m t)(hm:m<=1000000)(ha1:1<=a)(ha:a<=1000000000):Ok (Qaa N t a) λr=>0<=r.1/\r.1<a/\TA (m+1) r.2:=(Xov h.1 h.2 hm ha).mono λr hr=>⟨hr.1,hr.2.1 ha1,hr.2.2⟩
def TA.le{t:UG}{m n:Int}(h:TA m t)(hn:m<=n):TA n t:=⟨h.1,by have:=h.2;omega⟩
def VO{p:Iw}{t:UG}{m:Int}(hw:1<=p.w.length)(hw2:p.w.length<=1000)(h:TA m t)(hm:m+5<=1000000):Ok (QbP N p t) λr=>TA (m+3) r.2:=by
 have k2:∀(t':UG)(x8:Bool),TA (m+1) t'->Ok (bif x8 then(bnd (Qaa N t' (p.w.length:Int)) λy9=>bnd (Xb p.w y9.1) λp10=>some (p10,y9.2))else bnd (Qaa N t' (if 6<(p.w.length:Int)then 6 else(p.w.length:Int))) λy11=>bnd (Xb p.w (wI ((wI ((p.w.length:Int)-1))-y11.1))) λp12=>some (p12,y11.2)) λr=>TA (m+3) r.2:=by
  intro t' x8 h';refine Wm (λ_=>W5 (nxp h' aa aa aa) λy hy=>Ok.get hy.1 hy.2.1 λ_ _=>We (hy.2.2.le aa)) λ_=>?_;refine W5 (nxp h' aa aa aa) λy hy=>?_;have h1:y.1<(p.w.length:Int):=by have:=hy.2.1;split at this<;>omega
  have h0:=hy.1;rw[Xd (n:=(p.w.length:Int)-1) aa aa,Xd (n:=(p.w.length:Int)-1-y.1) aa aa];exact Ok.get aa aa λ_ _=>We (hy.2.2.le aa)
 refine W5 (nxp h aa aa aa) λy hy=>Wm (λ_=>W5 (nxp hy.2.2 aa aa aa) λz hz=>Ok.get hz.1 hz.2.1 λ_ _=>We (hz.2.2.le aa)) λ_=>Wm (λ_=>?_) λ_=>?_
 .exact W5 (nxp hy.2.2 aa aa aa) λz hz=>Ok.get hz.1 hz.2.1 λ_ _=>W5 (nxp hz.2.2 aa aa aa) λu hu=>We (hu.2.2.le aa)
 refine IT (λx8=>k2 _ x8 hy.2.2) λj2 h2=>W7 (h2 _) (IT (λx7=>h2 _) λj h=>W7 (h _) (h _))
def Xow{p:Iw}{t:UG}{m:Int}(hw:1<=p.w.length)(hw2:p.w.length<=1000)(h:TA m t)(hm:m+30<=1000000):Ok (Qdq N p t) λr=>TA (m+20) r.2:=by
 refine W5 (nxp h aa aa aa) λy1 h1=>Ok.get h1.1 h1.2.1 λp2 _=>Wm (λ_=>?_) λ_=>?_
 .refine W5 (nxp h1.2.2 aa aa aa) λy3 h3=>?_;have e:=Xx h3.1 aa;refine WS aa ?_;have hs:1<=ZQ .i64 1 (wU y3.1)/\ZQ .i64 1 (wU y3.1)<=1000:=by rw[e];have a:=h3.1;have b:=h3.2.1;have c:y3.1=0\/y3.1=1\/y3.1=2\/y3.1=3:=aa;rcases c with c|c|c|c<;>rw[c]<;>decide
  exact W5 (nxp h3.2.2 aa aa aa) λy4 h4=>We (h4.2.2.le aa)
 refine IT (λx5=>Wm (λ_=>?_) λ_=>Wm (λ_=>?_) λ_=>?_) λj h=>W7 (h _) (h _)
 .exact W5 (nxp h1.2.2 aa aa aa) λy6 h6=>W5 (nxp h6.2.2 aa aa aa) λy7 h7=>W7 (W5 (nxp h7.2.2 aa aa aa) λy8 h8=>We (h8.2.2.le aa)) (We (h7.2.2.le aa))
 .exact W5 (nxp h1.2.2 aa aa aa) λy9 h9=>We (h9.2.2.le aa)
 refine W5 (VO hw hw2 h1.2.2 aa) λy10 h10=>W5 (nxp h10 aa aa aa) λy11 h11=>W5 (nxp h11.2.2 aa aa aa) λy12 h12=>?_;have k:∀(l:List Int)(at_ c:Int),TA (m+12) ⟨l,at_⟩->Ok (bif (p2==10)then(bnd (QbP N p (UG.mk l at_)) λy19=>
  some ((IZ.mk p2 y10.1 y19.1 c),y19.2))
 else some ((IZ.mk p2 y10.1 (wU y11.1) c),(UG.mk l at_))) λr=>TA (m+20) r.2:=λl at_ c ht=>
  W7 (W5 (VO hw hw2 ht aa) λy hy=>We (hy.le aa)) (We (ht.le aa))
 refine U6 (W7 (W5 (VO hw hw2 h12.2.2 aa) λy hy=>k _ _ _ (hy.le aa)) (W5 (nxp h12.2.2 aa aa aa) λy13 h13=>W7 (W5 (VO hw hw2 h13.2.2 aa) λy hy=>k _ _ _ (hy.le aa)) (k _ _ _ (h13.2.2.le aa))))
structure PB(k:Nat)(p:Iw):Prop where
 env:EB p.N
 wor:WB k p.z
 ty:V3 p
 w1:1<=p.w.length
 w2:p.w.length<=k+1
def Xqm(a b:W9)(op v e:Int):Ok (QeL N a b op v e) λ_=>True:=by
 have k2:∀x y:Bool,Ok (bif (op==19)then(bif (e==0)then some (I6.mk x y v)
  else some (I6.mk x y 0))
  else some (I6.mk x y 0)) λ_=>True:=λx y=>W7 (W7 (We trivial) (We trivial)) (We trivial)
 refine IT (λx=>IT (λy=>k2 x y) λj h=>W7 (h _) (h _)) λj h=>W7 (h _) (W7 (h _) (h _))
def XrI(hN:NB N){k:Nat}{p:Iw}(hp:PB k p)(hk:k+1<=900){d:IZ}(td:Xco d):Ok (Qb2 N p d) λr=>PB (k+1) r.1:=by
 have ty:=λr (e:Qb2 N p d=some r)=>QkX (N:=N) hp.ty td r e;have main:Ok (Qb2 N p d) λr=>EB r.1.N/\WB (k+1) r.1.z/\1<=r.1.w.length/\r.1.w.length<=k+1+1:=by
  have w1:=hp.w1;have w2:=hp.w2;have up:=hp.wor.up hk;rw[Qb2];refine Wm (λ_=>?_) λ_=>?_
  .refine W5 (Jc hN hp.env) λy1 h1=>U6 (W7 (W5 (Xbw hN hp.wor hp.ty.2.1) λy2 h2=>We ⟨h1,h2.up hk,w1,Iq w2⟩) (We ⟨hp.env,up,w1,Iq w2⟩))
  refine WH (Xly hN hp.env _ _ _ _) λy26 e26 h26=>W5 (Xqm _ _ _ _ _) λy27 _=>W5 (XlF hN hp.wor hk hp.ty.2.1 d.Op td.1 td.2.1 td.2.2 y27) λy28 h28=>?_;have k2:∀w:WV,WB (k+1) w->Ok (α:=Iw×Int×Int) (bif (y26.2.2==0)then(bif (y26.2.1 != 0)then(grd (p.w.length*8<=140737488355328) <| grd ((p.w.length+1)*8<=140737488355328) <| some ((Iw.mk y26.1 w (p.w++[y26.2.1])),y26.2.1,y26.2.2))else some ((Iw.mk y26.1 w p.w),y26.2.1,y26.2.2))else some ((Iw.mk p.N w p.w),y26.2.1,y26.2.2)) λr=>EB r.1.N/\WB (k+1) r.1.z/\1<=r.1.w.length/\r.1.w.length<=k+1+1:=by
   intro w hw;refine W7 (W7 (WS aa (WS aa (We ⟨h26,hw,?_,?_⟩))) (We ⟨h26,hw,w1,by grind⟩)) (We ⟨hp.env,hw,w1,by grind⟩)
   .simp
   simp_all
  exact U6 (W7 (k2 y28.1 h28) (k2 p.z up))
 have⟨r,e,h⟩:=main;exact⟨r,e,h.1,h.2.1,(ty r e).1,h.2.2.1,h.2.2.2⟩
end
section
variable {N:Nat}
def XjP{t:UG}{m:Int}(h:TA m t)(hm:m+5<=1000000):Ok (Qfl N t) λr=>TA (m+2) r.2:=by exact W5 (nxp h aa aa aa) λy hy=>Ok.get hy.1 hy.2.1 λ_ _=>W5 (nxp hy.2.2 aa aa aa) λz hz=>Ok.get hz.1 hz.2.1 λ_ _=>We (hz.2.2.le aa)
def Xmf(c:WT):Ok (QeS N c) λr=>EB r.1:=by
 rw[QeS,Qgd,Y1,Xa];refine WH (Q:=λr:Wk×Int=>HB r.1) ?_ λy _ hy=>We ⟨hy,ZA,XcB,XcB,ab,ab⟩;refine Wm (λ_=>We Z5) λhv=>?_;have hv:X6 c=true:=by simpa using hv
 have hvc:=Xl.1 hv;have hm:=XW hv (i:=0) aa aa;have e:=Xd (n:=c.p*c.W) aa aa;refine WS aa (WS aa (We ⟨?_,?_⟩))
 .rw[WU,e];omega
 grind
def Xmg(c:WT):Ok (Qge N c) λr=>WB 0 r.1:=by
 rw[Qge,Y1,Xa];have z:∀c:WT,WB 0 ⟨c,[],zL,zT,zT,[],[]⟩:=λc=>⟨aa,ab,λx hx=>by simp_all,ZA,by simp[zT],by simp[zT],ab,ab⟩
 exact W7 (We (z _)) (We (z _))
def Xmh{t:UG}{m:Int}(h:TA m t)(hm:m+5<=1000000):Ok (QbZ N t) λr=>PB 0 r.1/\TA (m+3) r.2:=by
 have main:Ok (QbZ N t) λr=>EB r.1.N/\WB 0 r.1.z/\1<=r.1.w.length/\r.1.w.length<=1/\TA (m+3) r.2:=by rw[QbZ];refine W5 (XjP h hm) λy1 h1=>W5 (Xmf _) λy2 h2=>W5 (Xmg _) λy3 h3=>W5 (nxp h1 aa aa aa) λy4 h4=>We ⟨⟨h2.heap,⟨h2.loc.1,ab,h2.loc.2.2⟩,h2.glo,h2.wea,h2.pins,h2.roots⟩,⟨h3.kk,h3.things,h3.fields,⟨h3.loc.1,ab,h3.loc.2.2⟩,h3.gloK,h3.weaK,h3.marksK,h3.rootsK⟩,ab,ab,h4.2.2.le aa⟩
 have⟨r,e,h1,h2,h3,h4,h5⟩:=main;exact⟨r,e,⟨h1,h2,QiY r e,h3,h4⟩,h5⟩
end
section
variable {N:Nat}
def JV{α β:Type}{L:Nat}{F:Nat->Int->Option (Ex α β)}{u:β}(hok:∀n k,k<L->F (n+1) (k:Int)=F n ((k+1:Nat):Int))(hstop:∀n,F (n+1) (L:Int)=some (.nxt u)){n:Nat}(hn:L<n):F n 0=some (.nxt u):=by have⟨e,e1,_,e3⟩:=Jg (p:=λ_=>False) (Q:=λ_=>True) (u:=u) (λn k _ h=>h.elim) (λn k hk _=>hok n k hk) hstop n 0 aa aa;simp_all
def JW(n:Nat):((n:Int) != (n:Int))=false:=by simp
def Xqn{l:List Int}(hl:l.length<=1300000)(hN:NB N):Qhk N l l=some true:=by unfold NB at hN;rw[Qhk,JW,Wa,JV (F:=Qed N l l) (L:=l.length) (u:=()) (λn k hk=>by rw[Qed,Wg aa,Wb,Xe,Wc hk,Xa,Xa,show(l[k] != l[k])=false by simp,Wa,Xf aa]) (λn=>by rw[Qed,Wh aa,Wa]) aa,Xa,Xm]
def Xqo{h:Wk}(hb:HB h)(hN:NB N):Qhh N h h=some true:=by
 unfold NB at hN;have hb1:=hb.1;have hb2:=hb.2;have e1:Qe3 N h.p h.p=some true:=by rw[Qe3,JW,Wa,JV (F:=Qb5 N h.p h.p) (L:=h.p.length) (u:=()) (λn k hk=>by rw[Qb5,Wg aa,Wb,Xe,Wc hk,Xa,Xa];simp only[beq_self_eq_true,Is,Wo,Wa];rw[Xf aa]) (λn=>by rw[Qb5,Wh aa,Wa]) aa,Xa,Xm]
 rw[Qhh];simp only[beq_self_eq_true,Is,Wo,Wa,bne_self_eq_false,e1,Xa];rw[JV (F:=Qd7 N h h) (L:=h.w.length) (u:=()) (λn k hk=>by rw[Qd7,Wg aa,Wb,Xe,Wc hk,Xa,Xa,show(h.w[k] != h.w[k])=false by simp,Wa,Xf aa]) (λn=>by rw[Qd7,Wh aa,Wa]) aa,Xa,Xm]
def XjQ(x:W9):Ok (QgT N x) λb=>b=true->EB x:=by
 refine WH (Q:=λb=>b=true->HB x.h) ?_ λy _ hy=>?_
 .refine Wm (λh=>We λh2=>?_) λ_=>We λh=>by grind
  have a:=Wu h;have b:=Wu h2;exact⟨aa,aa⟩
 refine Wm (λh0=>Wm (λh1=>Wm (λh2=>Wm (λh3=>Wm (λh4=>Wm (λh5=>Wm (λh6=>We λh7=>?_) λ_=>We λh=>by grind) λ_=>We λh=>by grind) λ_=>We λh=>by grind) λ_=>We λh=>by grind) λ_=>We λh=>by grind) λ_=>We λh=>by grind) λ_=>We λh=>by grind
 have a1:=Wu h1;have a2:=Wu h2;have a3:=Wu h3;have a4:=Wu h4;have a5:=Wu h5;have a6:=Wu h6;have a7:=Wu h7;exact⟨hy h0,⟨aa,aa,aa⟩,by unfold TB;omega,by unfold TB;omega,aa,aa⟩
end
section
variable {N:Nat}
def Xe9(m:Nat):QhF (m+400)=some true:=ac
end
section
variable {N:Nat}
def KL(h h':Wk):Prop:=h'.w.length=h.w.length/\h'.p.length=h.p.length
def Xmi(hN:NB N){h:Wk}(hb:HB h)(a:Int)(d:Wy):Ok (Qbe N h a d) λr=>r.2=0->KL h r.1:=by
 have hN':=hN;unfold NB at hN';rw[Qbe,Ky];have⟨b,eb⟩:=Zb (N:=N) hN hb;rw[Xa,eb,Xa];refine Wm (λ_=>We λe=>aa) λ_=>Wm (λ_=>We λe=>aa) λh2=>?_;have hv:XI d=true:=by
  cases hv:XI d with
  |true=>rfl
  |false=>simp_all
 have hd:=XL hv;refine WS aa (WS aa ?_);rw[Zz (by unfold BIG;have:=hb.1;omega) (by unfold BIG;grind) (by grind),Xa];have hv':(if XI d=true then(J1 d,(0:Int))else(0,1))=(J1 d,0):=Wq hv;rw[hv'];by_cases hin:Yh h.w a ([(J1 d,(0:Int)).fst]++List.replicate d.n.toNat (0:Int)).length
 .rw[Wq hin];refine Wm (λh3=>absurd h3 ab) λ_=>We λ_=>⟨?_,rfl⟩
  unfold Yh at hin;exact ZE (by unfold ix;omega)
 rw[Wn hin];exact Wm (λ_=>We λe=>aa) λh3=>absurd h3 ab
def XiO(hN:NB N){h:Wk}(hb:HB h){d:Wy}(tm:tW d.Map):Ok (QbW N h d) λr=>r.2.2=0->KL h r.1:=by
 have hN':1000000<N:=by unfold NB at hN;omega
 have hl:=hb.2;have⟨r,er,hr⟩:=XbT hN hb d;refine⟨r,er,λh0=>?_⟩;have bad:∀{x y e:_},some ((x,y,e):Wk×Int×Int)=some r->e≠0->False:=λh he=>by grind
 rw[QbW]at er;have⟨b,eb⟩:=Zb (N:=N) hN hb;rw[eb,Xa]at er;cases b with
 |false=>grind
 |true=>
 rw[Wo,Wa,XaH hN',Xa]at er;cases hv:XI d with
 |false=>grind
 |true=>
 cases hkd:(d.k != 0)with
 |false=>grind
 |true=>
 have hp:=Yf hN hb eb;have hcv:=Xl.1 hp.conf;have hvb:=XL hv;have hpages:=hp.pages;have hs:Xz d=d.n+1:=by unfold Xz;rw[Wq hv]
 have hnr:=KB h.c (Xz d);by_cases hm1:Xy h.c (Xz d) = -1
 .grind
 have⟨k,hk⟩:∃k:Nat,Xy h.c (Xz d)=(k:Int):=⟨(Xy h.c (Xz d)).toNat,aa⟩
 have⟨u,eu,hu⟩:=Vk (N:=N) (ps:=h.p) aa aa;have⟨f1,ef1,_⟩:=Y2 (N:=N) (ps:=h.p) 1 aa aa;have e1:(Xy h.c (Xz d) != -1)=true:=by simpa using hm1
 rw[hv,hkd,e1]at er;simp only[Is,Wo,Wa,X1,Xa,Zp (show 10<=N by omega),Xbe hN hb hp (n:=Xz d) ⟨aa,aa⟩ eu ef1,XF]at er;have fin:∀(hh:Wk)(a:Int),HB hh->Qab N hh=some true->Yh hh.w a (d.n.toNat+1)->KL h hh->(bnd (Qbe N hh a d) λy15=>some (y15.1,a,0))=some r->KL h r.1:=by intro hh a hhb hpr hin hkl e;obtain⟨h2,e2⟩:=Xbd hN hhb hpr hv hin;have k2:=(Xmi hN hhb a d).get_eq e2 rfl;rw[e2,Xa]at e;cases e;exact⟨k2.1.trans hkl.1,k2.2.trans hkl.2⟩
 by_cases hk0:k=0
 .subst hk0;rw[hk]at er;have hn:1<=Xz d/\Xz d<=h.c.W:=by
   have h1:1<=Xz d:=aa;refine⟨h1,?_⟩;unfold Xy at hk;rw[Wq ⟨hp.conf,h1⟩]at hk;by_cases hle:Xz d<=h.c.W / 4
   .omega
   omega
  cases hpl:Xgw N h (Xz d) u f1 with
  |none=>grind
  |some ja=>have⟨j,a⟩:=ja;rw[hpl]at er;have⟨q1,q2,q3,q4⟩:=Xl0 hN hb eb hn ef1 hpl;have hm:=XW hp.conf (i:=(j:Int)) aa aa;have hw:=hp.words;refine fin (Jh h (Xz d) j a) (Xg h.c (j:Int) a) (Xc3 hb _ j a) q4 ?_ ⟨rfl,by show(h.p.set j _).length=_;rw[WR]⟩ er;unfold Yh Xg;show _/\_<=4096+(h.w.length:Int);omega
 have hneed:=XeJ hp.conf (w:=Xz d) aa;have⟨f,ef,hf⟩:=Y2 (N:=N) (ps:=h.p) (k:Int) aa aa;rw[hk]at er hneed;rw[Wg (show(k:Int)>0 by omega),Wb,Qen,ef,Xa]at er;by_cases h1:f<0
 .rw[Wg h1,Wb,Xa]at er;exact(bad er ae).elim
 rw[Wh h1,Wa,eu,XaV]at er;simp only[Xa]at er;rw[Xd (n:=u+(k:Int)) aa aa]at er;by_cases h2:u+(k:Int)>KA h.c
 .rw[Wg h2,Wb,Xa]at er;exact(bad er ae).elim
 have hrun:RunOK h.p f (k:Int):=by
  rcases hf with hh|hh
  .omega
  exact hh
 obtain⟨j,rfl⟩:∃j:Nat,f=(j:Int):=⟨f.toNat,aa⟩
 have hfit:=hrun.2.2.1;rw[Wh h2,Wa,Xgy hN' hl hp aa aa hk hrun]at er;simp only[Xa]at er;have hpr:=Xc5 hN hb eb aa hrun hk;have hHB:=Xgz hb (Xz d) (j:=j) (k:=k) aa aa;have hm:=XW hp.conf (i:=(j:Int)) aa aa;have hw:=hp.words;have hmul:((j:Int)+(k:Int))*h.c.W<=h.c.p*h.c.W:=Ur aa aa;rw[Ip]at hmul;have ea:wU (wI (4096+wI ((j:Int)*h.c.W)))=Xg h.c (j:Int) 0:=by unfold Xg;rw[Xd (n:=(j:Int)*h.c.W) aa aa,Xd (n:=4096+(j:Int)*h.c.W) aa aa,Xx aa aa];omega
 rw[ea]at er;refine fin (Xbf h (Xz d) j k) (Xg h.c (j:Int) 0) hHB hpr ?_ ⟨rfl,by
  exact Vu ah⟩ er
 unfold Yh Xg;show _/\_<=4096+(h.w.length:Int);omega
end
section
variable {N:Nat}
def KL.refl(h:Wk):KL h h:=⟨rfl,rfl⟩
def KL.trans{a b c:Wk}(h:KL a b)(k:KL b c):KL a c:=⟨k.1.trans h.1,k.2.trans h.2⟩
def XgH(hN:NB N){h:Wk}(hb:HB h){a i v:Int}{r:Int×Int}(hf:QbN N h a i=some r)(h0:r.2=0):∃h',QbO N h a i v=some (h',0)/\KL h h':=by
 have hN':=hN;unfold NB at hN';have⟨hp,hat,i0,i1⟩:=(Xct hN hb a i).get_eq hf h0;have hr:=hat.rng;have hfit:=K7 hp hat;have hm:=XW hp.conf (i:=0) aa (by have:=Xl.1 hp.conf;omega);have hw:=hp.words;unfold szA at hfit;have ew:wU (wU (a+1)+wU i)=a+1+i:=by rw[Xx (n:=a+1) aa aa,Xx (n:=i) aa aa,Xx aa aa]
 rw[QbO,hf,Xa,show(r.2 != 0)=false by simp_all,Wa,ew,Jv (by unfold BIG;omega) aa,Wq (by unfold inW;omega),Xa];exact⟨_,rfl,ab,rfl⟩
end
section
variable {N:Nat}
def XgI(hN:NB N){h:Wk}(hb:HB h){l:List Int}(e:Qbc N h l=some true):Qbm N h=some true:=by have⟨g,eg,_⟩:=Kf hN hb;rw[Qbc,eg,Xa]at e;grind
def XhJ(hN:NB N){h:Wk}(hb:HB h)(ep:Qab N h=some true)(eg:Qbm N h=some true):Ok (Qc2 N h) λr=>∃l,Ov N h l r.1:=by have hN':=hN;unfold NB at hN';have hb2:=hb.2;have hp:=Yf hN hb ep;have hg:=(Kf hN hb).get_eq eg rfl;rw[Qc2,ep,Xa,eg,Xa,Wo,Wa,Wa];refine WH (ZI hN hb) λy _ hy=>WS aa ?_;refine WH (Xat h y aa N 0 h.p aa aa aa (SameK.refl _)) λqs _ hqs=>We ?_;exact⟨y.1,⟨hb,λ_=>hg,λ_=>hp,hy.1⟩,Xcw hb hp hy.1 rfl rfl rfl hqs (.refl _) rfl rfl,rfl,.inl hp⟩
def Xox(hN:NB N){h0:Wk}{w:WD}(hb:HB h0)(hp:Us h0\/h0.p=[])(hc:w.h.c=h0.c)(hw:w.h.w.length=h0.w.length)(hpl:w.h.p.length=h0.p.length):Ok (Qeh N w) λr=>KL h0 r.h/\r.t=w.t:=by have hN':=hN;unfold NB at hN';have hb1:=hb.1;have hb2:=hb.2;exact WS aa (WS aa (WH (XbP hN hb hp hc N 0 _ _ _ aa aa aa hw hpl) λr _ hr=>We ⟨⟨hr.1,hr.2⟩,rfl⟩))
def QpS(hN:NB N){h:Wk}(hb:HB h){rs ws:List Int}(hr:rs.length<=1000000)(hw:ws.length<=1000000):Ok (QcJ N h rs ws) λr=>r.2.2.2.2=0->KL h r.1:=by
 have hN':=hN;unfold NB at hN';have bad:∀(a:Wk)(b c:List Int)(d:WM)(e:Int),e≠0->(a,b,c,d,e).2.2.2.2=0->KL h (a,b,c,d,e).1:=λ_ _ _ _ e he hh=>absurd hh he;refine WH (YB (N:=N) aa hb.1 hb.2) λb ep _=>Wm (λ_=>We (bad _ _ _ _ 1 ae)) λhb1=>U6 ?_;have hbt:b=true:=by simpa using hb1
 subst hbt;refine WH (Jy hN hb hr) λb2 e2 _=>Wm (λ_=>We (bad _ _ _ _ 19 ae)) λhb2=>?_;have hbt2:b2=true:=by simpa using hb2
 subst hbt2;have eg:=XgI hN hb e2;refine WH (Jy hN hb hw) λb _ _=>Wm (λ_=>We (bad _ _ _ _ 19 ae)) λ_=>?_;refine WH (XhJ hN hb ep eg) λy4 _ hy4=>?_;have⟨l,bq⟩:=hy4;have hs:=bq.st;refine WH (Xf6 hN hs hr bq.ci) λy5 _ hy5=>Wm (λhe=>We (bad _ _ _ _ _ (by simp_all))) λhe=>?_;have⟨c1,c2,c3⟩:=hy5 (by simp_all);have hsc:=bq.sc;refine WH (Xlq hN hs c1 aa aa) λy6 _ hy6=>Wm (λhe=>We (bad _ _ _ _ _ (by simp_all))) λhe=>?_;have d1:=hy6 (by simp_all);refine WH (XeO hN hs ws hw y5 y6 d1 N 0 _ [] aa aa aa rfl) λy16 _ hy16=>?_;have d2:CI h l (WD.mk y6.1.h y6.1.o y6.1.t y6.1.q y6.1.d (WM.mk y6.1.r.j y6.1.r.K y6.1.r.F y6.1.r.E y16.1 y6.1.r.y)):=by obtain⟨O,s,ho⟩:=d1.obj;exact⟨d1.conf,d1.wlen,d1.plen,d1.spc,d1.old,d1.tk,d1.tnd,d1.knd,d1.qnd,⟨O,s,⟨ho.old,ho.queue,ho.fit,ho.apart,ho.taken,ho.free⟩⟩⟩
 refine WH (Xih hN hs d2) λy17 _ ⟨f1,f2,f3,f4,f5⟩=>?_;refine WH (Xox hN (h0:=h) hs.hb bq.pr f1 f2 f4) λy18 _ ⟨g1,g2⟩=>?_;refine U6 (Wm (λht=>?_) λ_=>We λ_=>g1);have ht:0<(y18.t.length:Int):=Wu ht;rw[g2]at ht⊢;rw[Xd aa aa];exact Ok.get aa aa λp _=>We λ_=>g1
end
section
variable {N:Nat}
def Xdc{h:Wk}{a d:Int}:PT (QcC N h a d) (KL h):=by exact WI (WC λ_=>WC λ_=>WC λ_=>Wd ⟨rfl,ab⟩)
def XhK{h:Wk}{pins:List UH}{a:Int}:PT (Qcb N h pins a) λr=>r.2.2=0->KL h r.1:=by
 refine WC λy1=>Wi (Wd λe=>by grind) (Wi (Wd λe=>by grind) (WC λy2=>Wi (Wd λe=>by grind) (WI (WC λp3=>WC λp4=>WC λp5=>Wi ?_ ?_))))
 .exact WI (WI (WI (Wv Xdc λy hy=>Wd λ_=>hy)))
 exact Wv Xdc λy hy=>Wd λ_=>hy
def UC{α:Type}{P:α->Prop}{b:Bool}{x y:Option α}(h1:b=true->PT x P)(h2:b=false->PT y P):PT (bif b then x else y) P:=by grind
def XjR{h:Wk}{pins:List UH}{a:Int}:PT (QdM N h pins a) λr=>r.2.2.2=0->KL h r.1:=by
 rw[QdM];simp only[XF]
 repeat' first
  |(refine Wd λe=>?_;first|assumption|(exfalso;revert e;decide))
  |refine Wv Xdc λy hy=>?_
  |refine Wi ?_ ?_
  |refine WI ?_
  |refine WC λ_=>?_
end
section
variable {N:Nat}{x:W9}
def XgJ{α:Type}{o:Option α}{P:α->Prop}(h:Ok o P):PT o P:=λr e=>h.get_eq e
def Xbz(hN:NB N)(hx:EB x):PT (Qba N x) λr=>r.2.2=0->KL x.h r.1.h:=by
 have hN':=hN;unfold NB at hN';have hr:=hx.roots;have l1:=Za hx.loc;have l2:=Ym x.g.e;have l3:=Ym x.v.e;refine Wv (XgJ (ZM hN hx)) λb hv=>UC (λ_=>Wd λe=>?_) λhb=>?_
 .simp_all
 have hv:=hv (by simp_all);have h64:=hv.mat.len;refine Wv (XgJ (XcI hN hx)) λy2 h2=>?_;rw[Yk hx.wea aa,Xa];refine Wv (XgJ (QpS hN hx.heap aa aa)) λy4 h4=>UC (λhc=>Wd λe=>?_) λhc=>?_
 .simp_all
 have hk:KL x.h y4.1:=h4 (by simp_all)
 repeat' first
  |exact Wd λ_=>hk
  |refine WI ?_
  |refine WC λ_=>?_
end
section
variable {N:Nat}{x:W9}
def XjS(hN:NB N)(hx:EB x){d:Wy}(tm:tW d.Map):PT (QbA N x d) λr=>r.2.2=0->KL x.h r.1.h:=by
 rw[QbA];simp only[XF];refine WC λb=>UC (λ_=>Wd λe=>?_) λ_=>?_
 .simp_all
 refine Wv (XgJ (XiO hN hx.heap tm)) λy2 h2=>UC (λ_=>?_) λ_=>?_
 .refine Wv (Q:=λy:W9×WM×Int=>EB y.1/\(y.2.2=0->KL x.h y.1.h)) (λr e=>⟨(Jc hN hx).get_eq e,Xbz hN hx r e⟩) λy3 h3=>UC (λhc=>Wd λe=>?_) λhc=>?_
  .simp_all
  have k3:=h3.2 (by simp_all);refine Wv (XgJ (XiO hN h3.1.heap tm)) λy4 h4=>UC (λhc=>Wd λe=>?_) λhc=>Wd λ_=>?_
  .simp_all
  exact k3.trans (h4 (by simp_all))
 refine UC (λhc=>Wd λe=>?_) λhc=>Wd λ_=>?_
 .have e':y2.2.2=0:=e;rw[e']at hc;cases hc
 simp_all
end
section
variable {N:Nat}{x:W9}
structure SM(x:W9):Prop where
 sc:x.l.x.length<=1000
 glo:x.g.e.length<=1000
 wea:x.v.e.length<=1000
 pins:x.P.length<=1000
 roots:x.R.length<=1000
def KE(x y:W9):Prop:=KL x.h y.h/\(SM x->SM y)
def KE.refl(x:W9):KE x x:=⟨KL.refl _,id⟩
def KE.trans{x y z:W9}(h:KE x y)(k:KE y z):KE x z:=⟨h.1.trans k.1,λs=>k.2 (h.2 s)⟩
def KQ(x:W9)(r:W9×Int×Int):Prop:=r.2.2=0->KE x r.1
def YH{e:Int}(h:(e != 0)=true):PT (bnd (Qaf N e) λy=>some (y.1,y.2.1,y.2.2)) (KQ x):=by rw[Qaf,Xa];exact Wd λe'=>by simp_all
def XaJ{o:Option (W9×Int×Int)}(h:PT o (KQ x)):PT (bnd o λy=>some (y.1,y.2.1,y.2.2)) (KQ x):=Wv h λy hy=>Wd hy
def XhL{a b:Int}:KQ x (x,a,b):=λ_=>KE.refl _
def zz{e:Int}(h:(e != 0)=false):e=0:=by simp_all
def Oz{α:Type}{P:α->Prop}{p:Prop}[Decidable p]{o:Option α}(k:p->PT o P):PT (Sx.grd p o) P:=by
 unfold Sx.grd;split
 .simp_all
 exact Iz
def Xqp(a:Ww)(v:Int):(V8 a v).1.x.length<=a.x.length:=by unfold V8;grind[zL]
def Xqq(a:Ww)(i g:Int):(XaX a i g).1.x.length<=a.x.length:=by unfold XaX;grind[zL]
def Xoy(a:Ww)(c:Int):(JQ a c).1.x.length<=1000:=by
 unfold JQ;cases hv:Y3 a
 .simp[zL]
 have:=(Zj.1 hv).sc;grind[zL]
def Xqr(a:Ww):(ZY a).1.x.length<=a.x.length:=by unfold ZY;grind[zL]
def Xmj(t:WE)(i g:Int):(Vo t i g).1.e.length<=t.e.length:=by unfold Vo;grind[zT]
def Xmk{t:WE}(v:Int)(h:t.e.length<=1000):(Vn t v).1.e.length<=1000:=XcD (k:=0) h v
def Xfa(hN:NB N)(hx:EB x){v:Int}:PT (Qcz N x v) (KQ x):=by have hN':=hN;unfold NB at hN';rw[Qcz,Xav hx.loc aa,Xa];exact UC (λ_=>Wd XhL) λ_=>UC (λh=>YH h) λ_=>WC λ_=>Wd λ_=>⟨KL.refl _,λs=>⟨Um (Xqp _ _) s.sc,s.glo,s.wea,s.pins,s.roots⟩⟩
def Xfb(rs:List Int):∀(n:Nat)(c k:Int)(v:List W8),PT (Qa9 N rs n c k v) λr=>r.length=v.length
 |0,c,k,v=>Iz
 |n+1,c,k,v=>by refine WI (Wi (WC λ_=>Wi (WC λ_=>WC λ_=>?_) (Xfb rs n _ _ v)) (Wd rfl));exactλr e=>(Xfb rs n _ _ _ r e).trans (WR ..)
def XiP{t:WE}{rs:List Int}:PT (Qce N t rs) λr=>r.1.e.length<=t.e.length:=by exact WC λ_=>Wi (Wd (UN _)) (WC λ_=>WI (Wi (Wd (UN _)) (WI (Wv (Xfb rs N _ _ _) λy hy=>Wd (Nat.le_of_eq hy)))))
def Xfc(a:Ww)(rs:List Int):∀(n:Nat)(c k:Int)(v:List UM),PT (Qa8 N a rs n c k v) (tE (λr=>r.1.x.length<=a.x.length) λ_=>True)
 |0,c,k,v=>Iz
 |n+1,c,k,v=>by exact WI (Wi (WC λ_=>Wi (Xfc a rs n _ _ _) (WC λ_=>Wi (Wd (UN _)) (WC λ_=>WC λ_=>Xfc a rs n _ _ _))) (Wd trivial))
def Xoz{a:Ww}{rs:List Int}:PT (QdA N a rs) λr=>r.1.x.length<=a.x.length:=by exact WC λ_=>Wi (Wd (UN _)) (WC λ_=>Wi (Wd (UN _)) (WI (I9 (Xfc a rs N _ _ _) (λr hr=>Wd hr) λv _=>Wd (Un _))))
def Xml(x:W9)(y4:Wk×List Int×List Int×WM×Int)(y5 y6:List Int)(y7:Ww×Int)(y8 y9:WE×Int)(hp:x.P.length<=1000000):∀(n:Nat)(k:Int)(v:List UH),k=v.length->k<=x.P.length->PT (QaU N x y4 y5 y6 y7 y8 y9 n k v) λr=>r.length<=x.P.length
 |0,k,v,_,_=>Iz
 |n+1,k,v,hk,hkp=>by refine UC (λhc=>WC λ_=>WC λ_=>WI ?_) λ_=>Wd aa;have hc:=Wu hc;rw[Xd (n:=k+1) aa aa];exact Xml x y4 y5 y6 y7 y8 y9 hp n _ _ (by simp_all) aa
def XgK(hN:NB N)(hx:EB x):PT (Qba N x) λr=>r.2.2=0->KE x r.1:=by
 have main:PT (Qba N x) λr=>SM x->SM r.1:=by
  have z:SM x->SM ⟨zHp,⟨[],[],[]⟩,⟨[]⟩,⟨[]⟩,[],[]⟩:=λ_=>⟨ab,ab,ab,ab,ab⟩
  rw[Qba];refine WC λb=>Wi (Wd z) (WC λy2=>WC λy3=>WC λy4=>Wi (Wd z) (WC λy5=>WC λy6=>WI (WI (WI (WI (Wv Xoz λy7 h7=>WI (Wv XiP λy8 h8=>Wv XiP λy9 h9=>Wv (Xml x y4 y5 y6 y7 y8 y9 hx.pins N 0 [] rfl aa) λy14 h14=>Wd λs=>⟨Um h7 s.sc,Um h8 s.glo,Um h9 s.wea,Um h14 s.pins,?_⟩)))))));have:=s.roots;show(List.take _ _).length<=_;rw[Wj];omega
 exactλr e h0=>⟨Xbz hN hx r e h0,main r e⟩
def Xqs(hN:NB N)(hx:EB x){d:Wy}(tm:tW d.Map):PT (QbA N x d) λr=>r.2.2=0->KE x r.1:=by
 have main:PT (QbA N x d) λr=>SM x->SM r.1:=by
  have z:SM x->SM ⟨zHp,⟨[],[],[]⟩,⟨[]⟩,⟨[]⟩,[],[]⟩:=λ_=>⟨ab,ab,ab,ab,ab⟩
  rw[QbA];simp only[XF];refine WC λb=>Wi (Wd z) (WC λy2=>Wi (Wv (XgK hN hx) λy3 h3=>UC (λ_=>Wd z) λh=>WC λy4=>Wi (Wd z) (Wd λs=>?_)) (Wi (Wd z) (Wd λs=>⟨s.sc,s.glo,s.wea,s.pins,s.roots⟩)));have s':=(h3 (zz h)).2 s;exact⟨s'.sc,s'.glo,s'.wea,s'.pins,s'.roots⟩
 exactλr e h0=>⟨XjS hN hx tm r e h0,main r e⟩
def Xeh(hN:NB N){h:Wk}(hb:HB h){l:List UH}(hl:l.length<=1000000):PT (Qct N h l) λb=>b=true->l.length<=64:=λb e hb1=>((JA hN hb hl).get_eq e hb1).len
def Xmm(hN:NB N)(hx:EB x){a:Int}:PT (Qcb N x.h x.P a) λr=>r.2.2=0->KL x.h r.1/\r.2.1.length<=1000:=by
 have main:PT (Qcb N x.h x.P a) λr=>r.2.1.length<=1000:=by
  rw[Qcb];refine Wv (Xeh hN hx.heap hx.pins) λb hb=>UC (λ_=>Wd (UN _)) λhb1=>?_;have h64:=hb (by simp_all);refine Wi (Wd (UN _)) (WC λy2=>Wi (Wd (UN _)) (WI (WC λ_=>WC λ_=>WC λ_=>Wi (WI (WI (Oz λhg=>WC λ_=>Wd ?_))) (WC λ_=>Wd ?_))))
  .grind
  grind
 exactλr e h0=>⟨XhK r e h0,main r e⟩
def Xth(hN:NB N)(hx:EB x){a:Int}:PT (QdM N x.h x.P a) λr=>r.2.2.2=0->KL x.h r.1/\r.2.1.length<=1000:=by
 have main:PT (QdM N x.h x.P a) λr=>r.2.1.length<=1000:=by
  rw[QdM];simp only[XF];refine Wv (Xeh hN hx.heap hx.pins) λb hb=>UC (λ_=>Wd (UN _)) λhb1=>?_;have h64:=hb (by simp_all);have l1:∀i p,(x.P.set i p).length<=1000:=λi p=>by grind
  have l2:∀p,(x.P++[p]).length<=1000:=λp=>by grind
  repeat' first
   |exact Wd (UN _)
   |exact Wd (l1 _ _)
   |exact Wd (l2 _)
   |refine Wi ?_ ?_
   |refine WI ?_
   |refine WC λ_=>?_
 exactλr e h0=>⟨XjR r e h0,main r e⟩
def XoA(N:Nat)(h:Wk)(a:Int):PT (Qam N h a) λr=>r.2≠0->r.1.n=0:=by
 rw[Qam];simp only[XF]
 repeat' first
  |(refine Wd λe=>?_;first|rfl|(exact absurd rfl e))
  |refine Wi ?_ ?_
  |refine WI ?_
  |refine WC λ_=>?_
def Xmn(N:Nat)(h:Wk)(a:Int):PT (Qb0 N h a) λr=>r.2≠0->r.1.n=0:=by refine WC λb=>Wi (Wd λ_=>rfl) (Wi (Wd λ_=>rfl) (Wv (XoA N h a) λy hy=>Wi (Wi (Wd λ_=>rfl) (Wd hy)) (Wd hy)))
def Xqt(hN:NB N){h:Wk}(hb:HB h){a i:Int}{y:Wy×Int}(hg:Qb0 N h a=some y)(h0:y.2=0)(hi0:0<=i)(hi:i<y.1.n):∃v,QbN N h a i=some (v,0):=by
 have hN':=hN;have⟨hp,_,hat,hh,_⟩:=(V5 hN hb a).get_eq hg h0;rw[hh]at hi;have hr:=hat.rng;have hfit:=K7 hp hat;have hm:=XW hp.conf (i:=0) aa (by have:=Xl.1 hp.conf;omega);have hd:=XL (ZG (wd h.w a));unfold szA at hfit;unfold hdA at *;have ew:wU (wU (a+1)+wU i)=a+1+i:=by rw[Xx (n:=a+1) aa aa,Xx (n:=i) aa aa,Xx aa aa]
 rw[QbN,hg,Xa,show(y.2 != 0)=false by simpa using h0,Wa,Wh aa,Wa,hh,Wh aa,Wa,ew,YK (by unfold BIG;have:=hb.1;omega),Xa,Wq (by unfold inW;omega)];simp
def XgL(hN:NB N)(hb:HB x.h){a b:Int}(hu:tU b){c:Bool}:PT (Qep N x a b c) λr=>r.2.2=0->∃v,QbN N x.h r.1 r.2.1=some (v,0):=by
 refine WC λy1=>UC (λhc=>Wd λe=>?_) λ_=>?_
 .simp_all
 refine Wv (Q:=λy=>Qb0 N x.h y1.1=some y) (λr e=>e) λy2 h2=>UC (λ_=>Wd λe=>absurd e ae) λh3=>WC λ_=>Wi (Wd λe=>absurd e ae) (Wd λ_=>?_);have h3:=WL h3;have⟨u1,u2⟩:=hu;have hz:y2.2=0:=by
  by_cases hz:y2.2=0
  .omega
  have:=Xmn N _ _ _ h2 hz;rw[this,Xx aa aa]at h3;omega
 have⟨_,_,_,hh,_⟩:=(V5 hN hb y1.1).get_eq h2 hz;have hd:=XL (ZG (wd x.h.w y1.1));have hl:0<=y2.1.n/\y2.1.n<=255:=by rw[hh];unfold hdA;omega
 rw[Xx aa aa]at h3;show∃v,QbN N x.h y1.1 (wI b)=some (v,0);rw[Xd aa aa];exact Xqt hN hb h2 hz u1 aa
def Xmo(hN:NB N)(hx:EB x){op a b c:Int}(hu:tU b):PT (Qeq N x op a b c) (KQ x):=by
 rw[Qeq];simp only[XF];have main:∀y:Int×Int×Int,(y.2.2=0->∃v,QbN N x.h y.1 y.2.1=some (v,0))->∀v',y.2.2=0->PT (α:=W9×Int×Int) (bnd (QbO N x.h y.1 y.2.1 v') λy12=>some ((W9.mk y12.1 x.l x.g x.v x.P x.R),0,0)) (KQ x):=by intro y hy v' h0;obtain⟨v,ev⟩:=hy h0;obtain⟨h',e',k⟩:=XgH hN hx.heap (v:=v') ev rfl;rw[e',Xa];exact Wd λ_=>⟨k,λs=>⟨s.sc,s.glo,s.wea,s.pins,s.roots⟩⟩
 refine UC (λ_=>Wv (XgL hN hx.heap hu) λy hy=>?_) λ_=>Wv (XgL hN hx.heap hu) λy hy=>?_<;>
 exact UC (λh=>YH h) λh0=>WC λy7=>UC (λ_=>Wd XhL) λ_=>UC (λ_=>XaJ (Xfa hN hx)) λ_=>UC (λ_=>WC λy9=>UC (λh=>YH h) λ_=>main y hy _ (zz h0)) λ_=>main y hy _ (zz h0)
def XjT(hN:NB N)(hx:EB x){op a b:Int}(ha:tU a)(hb:tU b):PT (QdH N x op a b) (KQ x):=by rw[QdH];simp only[XF];refine UC (λ_=>YH ae) λ_=>Wv (Qhw ha hb) λy2 h2=>UC (λ_=>YH ae) λ_=>WC λy3=>UC (λ_=>YH ae) λ_=>WC λy5=>UC (λh=>YH h) λ_=>Wv (Q:=λy:W9×Int×Int=>EB y.1/\(y.2.2=0->KE x y.1)) (λr e=>⟨(XaZ hN hx _).get_eq e,Xqs hN hx h2 r e⟩) λy7 h7=>UC (λh=>YH h) λh=>Wv (Xfa hN h7.1) λy9 h9=>Wd λe=>(h7.2 (zz h)).trans (h9 e)
def Xmp(hN:NB N)(hx:EB x){op a b:Int}:PT (Qer N x op a b) (KQ x):=by
 rw[Qer];simp only[XF]
 repeat' first
  |exact Wd XhL
  |exact XaJ (Xfa hN hx)
  |(refine YH ?_;assumption)
  |(refine UC (λh=>?_) λ_=>?_)
  |refine WC λ_=>?_
def XhM(hN:NB N)(hx:EB x){op a:Int}:PT (Qdh N x op a) (KQ x):=by
 have hN':=hN;unfold NB at hN';rw[Qdh];simp only[XF];have eW:=Jb (N:=N) (t:=⟨x.v.e⟩) hx.wea aa;have eG:=Jb (N:=N) (t:=⟨x.g.e⟩) hx.glo aa;refine WC λy1=>UC (λh=>YH h) λ_=>UC (λh15=>?_) λh15=>?_
 .rw[eW,Xa,h15];exact UC (λh=>YH h) λ_=>WC λ_=>Wd λ_=>⟨KL.refl _,λs=>⟨s.sc,s.glo,Xmk _ s.wea,s.pins,s.roots⟩⟩
 rw[eG,Xa,h15];exact UC (λh=>YH h) λ_=>WC λ_=>Wd λ_=>⟨KL.refl _,λs=>⟨s.sc,Xmk _ s.glo,s.wea,s.pins,s.roots⟩⟩
def XjU(hN:NB N)(hx:EB x){op a:Int}:PT (QdK N x op a) (KQ x):=by
 have hN':=hN;unfold NB at hN';rw[QdK];simp only[XF,XeR hx.loc (show 1000000<N by omega),VG hx.glo (show 1000000<N by omega),VG hx.wea (show 1000000<N by omega),Xa]
 repeat' first
  |exact Wd λ_=>⟨KL.refl _,λs=>⟨Um (Xqq _ _ _) s.sc,s.glo,s.wea,s.pins,s.roots⟩⟩
  |exact Wd λ_=>⟨KL.refl _,λs=>⟨s.sc,Um (Xmj _ _ _) s.glo,s.wea,s.pins,s.roots⟩⟩
  |exact Wd λ_=>⟨KL.refl _,λs=>⟨s.sc,s.glo,Um (Xmj _ _ _) s.wea,s.pins,s.roots⟩⟩
  |(refine YH ?_;first|assumption|decide)
  |(refine UC (λh=>?_) λ_=>?_)
  |refine WC λ_=>?_
def XjV(hN:NB N)(hx:EB x){op a:Int}:PT (QdL N x op a) (KQ x):=by have hN':=hN;unfold NB at hN';rw[QdL,Xaw hx.loc aa,XbQ hx.loc aa];simp only[Xa];refine UC (λ_=>UC (λ_=>YH ae) λ_=>UC (λh=>YH h) λ_=>Wd λ_=>⟨KL.refl _,λs=>⟨Xoy _ _,s.glo,s.wea,s.pins,s.roots⟩⟩) λ_=>WC λy4=>UC (λh=>YH h) λ_=>UC (λh=>YH h) λ_=>Wv (Xfa hN (x:=⟨x.h,(ZY x.l).1,x.g,x.v,x.P,x.R⟩) ⟨hx.heap,XbR hx.loc,hx.glo,hx.wea,hx.pins,hx.roots⟩) λy hy=>Wd λe=>?_;exact KE.trans (y:=⟨x.h,(ZY x.l).1,x.g,x.v,x.P,x.R⟩) ⟨KL.refl _,λs=>⟨Um (Xqr _) s.sc,s.glo,s.wea,s.pins,s.roots⟩⟩ (hy e)
def XoB(hN:NB N)(hx:EB x){op a:Int}:PT (QfH N x op a) (KQ x):=by refine WC λy1=>UC (λh=>YH h) λ_=>UC (λ_=>Wv (Xmm hN hx) λy3 h3=>UC (λh=>YH h) λh=>Wd λ_=>⟨(h3 (zz h)).1,λs=>⟨s.sc,s.glo,s.wea,(h3 (zz h)).2,s.roots⟩⟩) λ_=>Wv (Xth hN hx) λy5 h5=>UC (λh=>YH h) λh=>Wd λ_=>⟨(h5 (zz h)).1,λs=>⟨s.sc,s.glo,s.wea,(h5 (zz h)).2,s.roots⟩⟩
def XoC(hN:NB N)(hx:EB x){op a b c:Int}(ha:tU a)(hb:tU b):PT (QeZ N x op a b c) (KQ x):=by
 rw[QeZ];simp only[XF];refine WC λb1=>UC (λ_=>YH ae) λ_=>?_
 repeat' first
  |exact YH ae
  |exact XaJ (XjT hN hx ha hb)
  |exact XaJ (Xmo hN hx hb)
  |exact XaJ (Xmp hN hx)
  |exact XaJ (XhM hN hx)
  |exact XaJ (XjU hN hx)
  |exact XaJ (XjV hN hx)
  |exact XaJ (XoB hN hx)
  |refine Wi ?_ ?_
def XrJ(hN:NB N){p:Iw}(hx:EB p.N){d:IZ}(td:Xco d):PT (Qb2 N p d) λr=>KE p.N r.1.N:=by
 rw[Qb2];simp only[XF];refine UC (λ_=>Wv (XgK hN hx) λy1 h1=>UC (λh=>WC λy2=>Wd (h1 (by simp_all))) λ_=>Wd (KE.refl _)) λ_=>?_;refine Wv (XoC hN hx td.1 td.2.1) λy26 h26=>WC λ_=>WC λy28=>?_
 repeat' first
  |exact Wd (KE.refl _)
  |exact Wd (h26 (by simpa using ‹(y26.2.2==0)=true›))
  |(refine UC (λh=>?_) λ_=>?_)
  |refine WI ?_
end
section
variable {N:Nat}
def NE(h:Wk):Prop:=1<=h.w.length/\1<=h.p.length
def KL.ne{a b:Wk}(k:KL a b)(h:NE a):NE b:=⟨by rw[k.1];exact h.1,by rw[k.2];exact h.2⟩
def Xqu{t:UG}:PT (Qfl N t) λr=>X6 r.1=true:=by refine WC λy1=>Wv (Q:=λp=>p∈([16,16,20,32]:List Int)) (λr e=>Yy e) λp hp=>WC λy3=>Wv (Q:=λp=>p∈([8,12,16,20,24]:List Int)) (λr e=>Yy e) λq hq=>Wd ?_;simp at hp hq;rcases hp with rfl|rfl|rfl|rfl<;>rcases hq with rfl|rfl|rfl|rfl|rfl<;>(show X6 ⟨_,_⟩=true;decide)
def Xmq{c:WT}(hv:X6 c=true):PT (QeS N c) λr=>NE r.1.h/\SM r.1:=by
 rw[QeS,Qgd,Y1,Xa,hv,Wo,Wa];have hvc:=Xl.1 hv;have hm:=XW hv (i:=0) aa aa;have e:=Xd (n:=c.p*c.W) aa aa;refine Wv (Q:=λr:Wk×Int=>NE r.1) (WI (WI (Wd ⟨?_,?_⟩))) λy hy=>Wd ⟨hy,ab,ab,ab,ab,ab⟩
 .rw[WU,e];omega
 grind
def Xmr{t:UG}:PT (QbZ N t) λr=>NE r.1.N.h/\SM r.1.N:=by exact Wv Xqu λy1 h1=>Wv (Xmq h1) λy2 h2=>WC λy3=>WC λy4=>Wd ⟨h2.1,ab,h2.2.glo,h2.2.wea,h2.2.pins,h2.2.roots⟩
def XiQ(hN:NB N):∀(n:Nat)(i:Int)(t:UG)(p:Iw)(k:Nat),0<=i->i<=60->(60-i).toNat<n->(k:Int)=i->PB k p->NE p.N.h/\SM p.N->TA (10+20*i) t ->
 Ok (Qgh N 60 n i t.L t.at_ p.N.h.c.W p.N.h.c.p p.N.h.w p.N.h.p p.N.h.s p.N.h.b p.N.l.S p.N.l.x p.N.l.i p.N.g.e p.N.v.e p.N.P p.N.R p.z.c.W p.z.c.p p.z.T p.z.l.S p.z.l.x p.z.l.i p.z.g.e p.z.v.e p.z.m p.z.R p.w) λr=>∃(p':Iw) (k':Nat),k'<=60/\PB k' p'/\(NE p'.N.h/\SM p'.N)/\r=(p'.N.h.c.W,p'.N.h.c.p,p'.N.h.w,p'.N.h.p,p'.N.h.s,p'.N.h.b,p'.N.l.S,p'.N.l.x,p'.N.l.i,p'.N.g.e,p'.N.v.e,p'.N.P,p'.N.R,p'.z.c.W,p'.z.c.p,p'.z.T,p'.z.l.S,p'.z.l.x,p'.z.l.i,p'.z.g.e,p'.z.v.e,p'.z.m,p'.z.R,p'.w)
 |0,i,t,p,k,_,_,hn,_,_,_,_=>by omega
 |n+1,i,t,p,k,h0,hi,hn,hk,hp,hq,ht=>by refine Wm (λhc=>?_) λ_=>We ⟨p,k,aa,hp,hq,rfl⟩;have hc:i<60:=Wu hc;rw[Qgo,Xa];refine Wm (λ_=>?_) λ_=>We ⟨p,k,aa,hp,hq,rfl⟩;have w1:=hp.w1;have w2:=hp.w2;have dty:=λr (e:Qdq N p t=some r)=>Qjo (N:=N) hp.ty r e;rw[Xd (n:=i+1) aa aa];refine WH (Xow (p:=p) (t:=t) w1 aa ht aa) λy e hy=>?_;refine WH (XrI hN hp aa (dty y e)) λz ez hz=>?_;have kz:=XrJ hN hp.env (dty y e) z ez;exact XiQ hN n (i+1) y.2 z.1 (k+1) aa aa aa aa hz ⟨kz.1.ne hq.1,kz.2 hq.2⟩ (hy.le aa)
def XjW(hN:NB N)(l:List Int):Ok (Qie N l 60) λp=>∃k,k<=60/\PB k p/\NE p.N.h/\SM p.N:=by have hN':=hN;unfold NB at hN';refine WH (Xmh (m:=0) ⟨ab,ab⟩ aa) λy ey hy=>W5 (XiQ hN N 0 y.2 y.1 0 aa aa aa rfl hy.1 (Xmr y ey) (hy.2.le aa)) λz hz=>We ?_;obtain⟨p',k',h1,h2,h3,rfl⟩:=hz;exact⟨k',h1,h2,h3⟩
def Xdd(hN:NB N)(w:Ih)(y:Int×UG):∀(n:Nat)(k:Int)(v:List Wt),0<=k->k<=v.length->(v.length-k).toNat<n->v.length<=100000->Ok (Qco N w y n k v) λr=>r.length<=100000
 |0,k,v,_,_,hn,_=>by omega
 |n+1,k,v,h0,hk,hn,hv=>by refine WS aa (Wm (λhc=>?_) λ_=>We hv);have hc:k<v.length:=Wu hc;rw[Xd (n:=k+1) aa aa];refine Ok.get h0 hc λp _=>Wm (λ_=>Ok.get h0 hc λp _=>?_) λ_=>Xdd hN w y n _ v aa aa aa hv;exact Xdd hN w y n _ _ aa (by grind) (by grind) (by simp_all)
def Xms(hN:NB N){h:Wk}(hb:HB h)(hne:NE h){t:UG}(ht:TA 10 t):Ok (QcO N ⟨h,[],[]⟩ t) λr=>HB r.1.h:=by
 have hN':=hN;unfold NB at hN';have⟨b1,b2⟩:=hb;have⟨n1,n2⟩:=hne;have sw:∀(c:WT)(i:Nat)(v:Int)(s b:Int),HB ⟨c,h.w.set i v,h.p,s,b⟩:=λc i v s b=>⟨by simp_all,b2⟩
 have sp:∀(c:WT)(i:Nat)(v:Wt)(s b:Int),HB ⟨c,h.w,h.p.set i v,s,b⟩:=λc i v s b=>⟨b1,by simp_all⟩
 have sn:∀(c:WT)(s b:Int),HB ⟨c,h.w,h.p,s,b⟩:=λc s b=>⟨b1,b2⟩
 rw[QcO];dsimp only;refine WS aa (WS aa (WS aa ?_));refine W5 (nxp ht aa aa aa) λy1 h1=>WS aa (W5 (nxp h1.2.2 aa aa aa) λy2 h2=>W5 (nxp h2.2.2 aa aa aa) λy3 h3=>?_);have next:∀{a:Int},1<=a->a<=1000000000->Ok (Qaa N y3.2 a) λr=>0<=r.1/\r.1<a:=λa1 a2=>(nxp h3.2.2 aa a1 a2).mono λr hr=>⟨hr.1,hr.2.1⟩
 have gw:∀{β:Type}{P:β->Prop}{f:Int->Option β},(∀p,Ok (f p) P)->Ok (bnd (Xb h.w y1.1) f) P:=λk=>Ok.get h1.1 h1.2.1 λp _=>k p;have gp:∀{β:Type}{P:β->Prop}{f:Wt->Option β},(∀p,Ok (f p) P)->Ok (bnd (Xb h.p y2.1) f) P:=λk=>Ok.get h2.1 h2.2.1 λp _=>k p;refine IT (λx4=>?_) λj hj=>W7 (hj _) (hj _);refine W7 (W5 (next aa aa) λy5 h5=>Ok.get h5.1 h5.2 λ_ _=>gw λ_=>We (sw _ _ _ _ _)) ?_;refine W7 (gw λ_=>W5 (next aa aa) λy9 h9=>WS (by rw[Xx h9.1 aa];omega) (gw λ_=>We (sw _ _ _ _ _))) ?_;refine W7 (W5 (next aa aa) λ_ _=>gp λ_=>We (sp _ _ _ _ _)) ?_;refine W7 (W5 (next aa aa) λ_ _=>gp λ_=>We (sp _ _ _ _ _)) ?_;refine W7 (gp λ_=>W5 (next aa aa) λ_ _=>gp λ_=>We (sp _ _ _ _ _)) ?_;refine W7 (W5 (next aa aa) λ_ _=>gp λ_=>We (sp _ _ _ _ _)) ?_;refine W7 (W5 (next aa aa) λ_ _=>We (sn _ _ _)) ?_;refine W7 (WS aa ?_) ?_
 .rw[Xd (n:=(h.p.length:Int)+2) aa aa];exact W5 (next aa aa) λ_ _=>We (sn _ _ _)
 refine W7 (We (sn _ _ _)) ?_;refine W7 (WS aa (We ⟨b1,by grind⟩)) ?_;exact W7 (W5 (Xdd hN _ y3 N 0 h.p aa aa aa b2) λr hr=>We ⟨b1,hr⟩) (We (sn _ _ _))
def Xde{α:Type}{l:List α}{a:α}{m:Nat}(h:l.length<=1000)(hm:1001<=m):(l++[a]).length<=m:=by grind
def XoD(hN:NB N){x:W9}(hx:EB x)(hne:NE x.h)(hs:SM x)(l:List Int):Ok (Qg0 N x ⟨l,0⟩) λr=>EB r.1:=by
 have hN':=hN;have⟨s1,s2,s3,s4,s5⟩:=hs;have⟨l1,l2,l3⟩:=hx.loc;refine W5 (nxp (m:=0) ⟨ab,ab⟩ aa aa aa) λy1 h1=>?_;have n1:∀{a:Int},1<=a->a<=1000000000->Ok (Qaa N y1.2 a) λr=>0<=r.1/\r.1<a/\TA 2 r.2:=λa1 a2=>(nxp h1.2.2 aa a1 a2).mono λr hr=>⟨hr.1,hr.2.1,hr.2.2.le aa⟩
 have n2:∀{t:UG}{a:Int},TA 2 t->1<=a->a<=1000000000->Ok (Qaa N t a) λr=>True:=λht a1 a2=>(nxp ht aa a1 a2).mono λr hr=>trivial;refine W7 (W5 (Xms hN hx.heap hne (h1.2.2.le aa)) λr hr=>We ⟨hr,hx.loc,hx.glo,hx.wea,hx.pins,hx.roots⟩) ?_;refine W7 (WS aa (W5 (n1 aa aa) λ_ _=>WS aa (We ⟨hx.heap,hx.loc,hx.glo,hx.wea,hx.pins,Xde s5 aa⟩))) ?_;refine W7 (Wm (λhc=>?_) λ_=>We hx) ?_
 .have hc:=Wu hc;exact WS aa (W5 (n1 aa aa) λy4 h4=>Ok.get h4.1 h4.2.1 λ_ _=>W5 (n2 h4.2.2 aa aa) λ_ _=>Ok.get h4.1 h4.2.1 λ_ _=>We ⟨hx.heap,⟨by simp_all,l2,l3⟩,hx.glo,hx.wea,hx.pins,hx.roots⟩)
 refine W7 (WS aa (W5 (n1 aa aa) λy h=>W5 (n2 h.2.2 aa aa) λ_ _=>WS aa (We ⟨hx.heap,hx.loc,Xde s2 aa,hx.wea,hx.pins,hx.roots⟩))) ?_;refine W7 (WS aa (W5 (n1 aa aa) λy h=>W5 (n2 h.2.2 aa aa) λ_ _=>WS aa (We ⟨hx.heap,hx.loc,hx.glo,Xde s3 aa,hx.pins,hx.roots⟩))) ?_;refine W7 (WS aa (W5 (n1 aa aa) λy h=>W5 (n2 h.2.2 aa aa) λ_ _=>WS aa (We ⟨hx.heap,hx.loc,hx.glo,hx.wea,Xde s4 aa,hx.roots⟩))) ?_;refine W7 (WS aa (W5 (n1 aa aa) λy h=>W5 (n2 h.2.2 aa aa) λ_ _=>WS aa (We ⟨hx.heap,⟨l1,Xde s1 aa,l3⟩,hx.glo,hx.wea,hx.pins,hx.roots⟩))) ?_;exact We ⟨hx.heap,hx.loc,hx.glo,hx.wea,ab,hx.roots⟩
def XoE(hN:NB N){raw:W9}(tr:X7 raw)(tape odd:List Int):Ok (QhO N raw tape odd) λl=>l.length<=3/\∀x∈l,ET x:=by
 refine W5 (XjW hN tape) λp hp=>?_;have⟨k,hk,hp,hne,hs⟩:=hp;have e1:ET p.N:=⟨hp.env,hp.ty.1.1⟩
 refine WH (XoD hN hp.env hne hs odd) λy ey hy=>?_;have e2:ET y.1:=⟨hy,(Qoc hp.ty.1 y ey).1⟩
 refine W5 (XjQ raw) λb hb=>Wm (λh=>We ⟨ab,?_⟩) λ_=>We ⟨ab,?_⟩
 .have e3:ET raw:=⟨hb h,tr.1⟩
  simp only[UY,List.not_mem_nil,or_false];rintro x (rfl|rfl|rfl)
  .exact e1
  .exact e2
  exact e3
 simp_all
end
section
variable {N:Nat}
def Xqv{a:Ww}(h:LBp a)(hN:1000000<N):Qhi N a a=some true:=by have⟨h1,h2,h3⟩:=h;rw[Qhi,JW,JW,JW,Wa,Wa,Wa];rw[JV (F:=Qd8 N a a) (L:=a.S.length) (u:=()) (λn k hk=>by rw[Qd8,Xk hk,Wb,Xe,Wc hk,Xa,Xa,Xf aa];simp) (λn=>by rw[Qd8,Xw,Wa]) aa,Xa,Xm];rw[JV (F:=Qd9 N a a) (L:=a.x.length) (u:=()) (λn k hk=>by rw[Qd9,Xk hk,Wb,Xe,Wc hk,Xa,Xa,Xf aa];simp) (λn=>by rw[Qd9,Xw,Wa]) aa,Xa,Xm];rw[JV (F:=Qea N a a) (L:=a.i.length) (u:=()) (λn k hk=>by rw[Qea,Xk hk,Wb,Xe,Wc hk,Xa,Xa,Xf aa];simp) (λn=>by rw[Qea,Xw,Wa]) aa,Xa,Xm]
def Xmt{t:WE}(h:TB t)(hN:1000000<N):QgB N t t=some true:=by unfold TB at h;rw[QgB,JW,Wa,JV (F:=Qeb N t t) (L:=t.e.length) (u:=()) (λn k hk=>by rw[Qeb,Xk hk,Wb,Xe,Wc hk,Xa,Xa,Xf aa];simp) (λn=>by rw[Qeb,Xw,Wa]) aa,Xa,Xm]
def Xqw{l:List UH}(h:l.length<=1000000)(hN:1000000<N):Qhj N l l=some true:=by rw[Qhj,JW,Wa,JV (F:=Qec N l l) (L:=l.length) (u:=()) (λn k hk=>by rw[Qec,Xk hk,Wb,Xe,Wc hk,Xa,Xa,Xf aa];simp) (λn=>by rw[Qec,Xw,Wa]) aa,Xa,Xm]
def Xqx{x:W9}(hx:EB x)(hN:NB N):Qhl N x x=some true:=by
 have hN':1000000<N:=by unfold NB at hN;omega
 have:=hx.roots;rw[Qhl,Xqo hx.heap hN,Xa,Wb,Xqv hx.loc hN',Xa,Wb,Xmt hx.glo hN',Xa,Wb,Xmt hx.wea hN',Xa,Wb,Xqw hx.pins hN',Xa,Wb,Xqn aa hN,Xa]
end
section
variable {N:Nat}
def XhN(hN:NB N){x:W9}(ht:ET x){d:Wy}(tm:tW d.Map):∃r,Qg3 N x d=some r/\QbA N x d=some r/\EB r.1:=by
 have hN':1000000<N:=by unfold NB at hN;omega
 have hx:=ht.eb;have⟨r,er,hr⟩:=XaZ hN hx d;refine⟨r,?_,er,hr⟩;rw[←er,Qg3,QbA,XiC hN ht];have⟨b,eb,_⟩:=ZM hN hx;rw[eb,Xa,Xa];cases b with
 |false=>rfl
 |true=>
 have⟨L,hV⟩:=Xmd hN ht eb;rw[Wo,Wa,Wa,XaF hN'];simp only[Qgz,QgP,QfZ,Qfv,Qad,Qac,QaE,Qaz,QaD,QaA,Qby,Xa];have⟨b,ea,_⟩:=XeS hN x.h.c d;rw[ea,Xa];cases b with
 |false=>simp[Uf,Wb,QbW,hV.beg.ep,Xa,Wo,Wa,ea,XF]
 |true=>
 rw[Wo,Wa,XiE hN hx.heap tm];have⟨y,ey,hy⟩:=XbT hN hx.heap d;rw[ey,Xa,Xa,XF];by_cases h3:y.2.2=3
 .have⟨z,e1,e2⟩:=Xme hN ht;have⟨z',e3,hz⟩:=Jc hN hx;rw[e2]at e3;obtain rfl:=WK e3;rw[e1,e2,Xa,Xa];by_cases h0:z.2.2=0
  .rw[show(z.2.2 != 0)=false by rw[h0];rfl,Wa,Wa,XiE hN hz.heap tm]
  rw[X2 h0,Wb,Wb]
 simp[XG,h3,Wa]
def JD{t:UG}{m:Int}(h:TA m t)(hm:m<=1000000)(a:Int):Ok (Qaa N t a) λr=>TA (m+1) r.2:=by have⟨h0,h1⟩:=h;have e:=Xd (n:=t.at_+1) aa aa;refine Wm (λ_=>We ⟨h0,by grind⟩) λha=>U6 ?_;have ha:=WL ha;have fin:∀x2:Int,Ok (grd (a≠0) <| grd (a≠0) <| some (((wI ((x2.tmod a)+a)).tmod a),(UG.mk t.L (wI (t.at_+1))))) λr=>TA (m+1) r.2:=λx2=>WS aa (WS aa (We ⟨by grind,by simp_all⟩));exact Wm (λhc=>Ok.get h0 (Wu hc) λp _=>fin p) λ_=>fin _
def QpT{t:UG}{m:Int}(h:TA m t)(hm:m<=900000)(c:WT):Ok (QcP N t c) λr=>TA (m+10) r.2:=by
 have w0:∀x:Int,0<=wU x:=λx=>by grind[Xbq]
 have fin:∀(x5:Int)(x6:List Int)(x7:Int),TA (m+1+1+1) ⟨x6,x7⟩->Ok (bnd (Qaa N (UG.mk x6 x7) 4) λy8=>
  bif (y8.1==0)then some ((Wy.mk 2 x5 0),y8.2)
  else bif (y8.1==1)then some ((Wy.mk 3 x5 0),y8.2)
  else grd (0<=(wU (if 12<(if 32<x5 then 32 else x5)then 12 else(if 32<x5 then 32 else x5)))) <|
  bnd (Qaa N y8.2 (ZQ .i64 1 (wU (if 12<(if 32<x5 then 32 else x5)then 12 else(if 32<x5 then 32 else x5))))) λy9=>
  some ((Wy.mk 1 (if 32<x5 then 32 else x5) (wW y9.1)),y9.2)) λr=>TA (m+10) r.2:=λx5 x6 x7 h=>by
  refine W5 (JD h aa 4) λy8 h8=>Wm (λ_=>We (h8.le aa)) λ_=>Wm (λ_=>We (h8.le aa)) λ_=>WS (w0 _) (W5 (JD h8 aa _) λy9 h9=>We (h9.le aa))
 rw[QcP,XfU,Xa];refine W5 (JD h aa _) λy2 h2=>W5 (JD h2 aa 12) λy3 h3=>U6 ?_;exact Wm (λ_=>W5 (JD h3 aa _) λy4 h4=>fin _ _ _ h4) λ_=>fin _ _ _ (h3.le aa)
def XjX(hN:NB N){a3:Wy}(y1:List W9){x:W9}(hx:ET x){y6:Wy×UG}{y7:Int×UG}(v2:Int)(t3:tW a3.Map)(t6:tW y6.1.Map):Qb6 N a3 y1 x y6 y7 v2 N 0=some (.nxt ()):=by
 have hN':=hN;unfold NB at hN';refine JV (F:=Qb6 N a3 y1 x y6 y7 v2) (L:=3) (u:=()) (λn k hk=>?_) (λn=>by rfl) aa;have one:∀d:Wy,[a3,y6.1,⟨2,y7.1,0⟩][k]? = some d->tW d.Map:=λd hd=>by
  match k,hk with
  |0,_=>simp_all
  |1,_=>simp_all
  |2,_=>cases hd;simp
 have hk3:k<[a3,y6.1,⟨2,y7.1,0⟩].length:=hk;have e:=Wc hk3;generalize [a3,y6.1,⟨2,y7.1,0⟩][k]=d at e;have⟨r,e1,e2,hr⟩:=XhN hN hx (one d e);rw[Qb6,Wg aa,Wb,Xe,e,Xa,e1,e2,Xa,Xa];simp only[bne_self_eq_false,Wa];rw[Xqx hr hN,Xa,Wo,Wa,Xf aa]
def Xei(hN:NB N){a3:Wy}(t3:tW a3.Map)(l:List W9)(hl:l.length<=3)(hx:∀x∈l,ET x):∀(n k:Nat)(v:List Int)(a:Int),k<=l.length->l.length-k<n->TA (100*k) ⟨v,a⟩->Qc0 N a3 l n (k:Int) v a=some (.nxt ())
 |0,k,v,a,_,hn,_=>by omega
 |n+1,k,v,a,hk,hn,ht=>by
  rw[Qc0];by_cases h:k<l.length;rotate_left
  .grind
  have⟨y6,e6,h6⟩:=QpT (N:=N) ht aa l[k].h.c;have⟨y7,e7,h7⟩:=JD (N:=N) h6 aa 60;rw[Xk h,Wb,Xe,Wc h,Xa,e6,Xa,e7,Xa,XjX hN l (hx _ (WO h)) (k:Int) t3 (QiJ y6 e6),Xa,Xm,Xf aa];exact Xei hN t3 l hl hx n (k+1) _ _ aa aa ⟨h7.1,by have:=h7.2;grind⟩
def Xdf(hN:NB N){raw:W9}(tr:X7 raw)(tape odd:List Int){d:Wy}(td:YD d):Qe4 N raw tape odd d=some true:=by
 have⟨l,el,hl,hx⟩:=XoE hN tr tape odd;have h2:=Xei hN td l hl hx N 0 odd 0 aa (by unfold NB at hN;omega) ⟨ab,ab⟩;rw[show((0:Nat):Int)=0 from rfl]at h2;obtain⟨m,rfl⟩:∃m,N=m+400:=⟨N-400,by unfold NB at hN;omega⟩
 simp[Qe4,el,Xa,h2,Xm,Xe9]
end
end Go.Sx
