import Derived.Test.YtcclgbgphjofaaaGreatHE
set_option linter.all false
namespace Go.Sx
section
variable {N:Nat}{h:Wp}{i:Int}{l:List Int}
def XcU(hN:NB N){h:Wp}(hb:HB h)(ep:Qab N h=some true){a:Int}(f:I5 h a):Qax N h a=some (hdA h.w a,0):=by
 have hp:=XL hN hb ep;have j:=f.rng;have⟨_,o,s,t,x⟩:=Yv hp.conf j;have q:=hp.pages;have hw:=hp.words;have e:=f.kind;have y:=f.used;have g:=XJ h.w a;have z:=Xi.1 hp.conf;have r:Xy (Z0 (wd h.w a))=szA h.w a:=g.1;rw[Qax,ep,Xa,Wl,Wa,VK,hp.conf,Wg ab,Wj j,Xa];rw[show(a-4096) / h.c.W=pgi h.c a from rfl,show(a-4096) % h.c.W=pgo h.c a from rfl];rw[XQ o aa,Xa,YX (by have:=hb.1;unfold BIG;omega),Xa,Wj (by unfold inW;omega),K9,Xa,Xr,Yr,Xa];rw[show h.w.getD (ix a) 0=wd h.w a from rfl,f.ok,r,Wh (show¬pgo h.c a>=(pg h.p (pgi h.c a)).u by omega),Wl];rcases e with e|e
 .have:=f.small e;rw[show((pg h.p (pgi h.c a)).k != 1)=false by grind,Wa,Xl e,Wc,Xf (n:=pgo h.c a+szA h.w a) aa aa,Wh aa,Wa,show((pg h.p (pgi h.c a)).k==2)=false by grind,Wa];rfl
 have:=f.large e;rw[show((pg h.p (pgi h.c a)).k != 1)=true by grind,Wc,show((pg h.p (pgi h.c a)).k != 2)=false by grind,Wa,Xh aa,Wa,Xl e,Wc,this.1,this.2];simp;rfl
def Chn(ws:List Int):Int->List Int->Int->Prop
 |p,[],q=>p=q
 |p,a::l,q=>a=p/\okH (wd ws a)=true/\Chn ws (a+szA ws a) l q
def Chn.le{ws:List Int}:∀{l:List Int} {p q:Int},Chn ws p l q->p<=q/\∀a∈l,p<=a/\a+szA ws a<=q/\okH (wd ws a)=true
 |[],p,q,h=>⟨by have:p=q:=h;omega,ab⟩
 |a::l,p,q,⟨e,f,h⟩=>by
  have⟨g,j⟩:=h.le;have:=(XJ ws a).2.1;refine⟨aa,λb hb=>?_⟩;rcases Us.1 hb with rfl|hb
  .exact⟨aa,g,f⟩
  have:=j b hb;exact⟨aa,this.2⟩
def Chn.pw{ws:List Int}:∀{l:List Int} {p q:Int},Chn ws p l q->l.Pairwise λa b=>a+szA ws a<=b
 |[],_,_,_=>.nil
 |a::l,p,q,⟨_,_,h⟩=>IL.2 ⟨λb hb=>(h.le.2 b hb).1,h.pw⟩
def Chn.len{ws:List Int}:∀{l:List Int} {p q:Int},Chn ws p l q->p+l.length<=q
 |[],p,q,h=>by have:p=q:=h;simp;omega
 |a::l,p,q,⟨e,_,h⟩=>by have:=h.len;have:=(XJ ws a).2.1;simp only[Uq];omega
def Chn.app{ws:List Int}:∀{l m:List Int} {p q r:Int},Chn ws p l q->Chn ws q m r->Chn ws p (l++m) r
 |[],m,p,q,r,h,f=>by have:p=q:=h;subst this;exact f
 |a::l,m,p,q,r,⟨e,g,h⟩,f=>⟨e,g,h.app f⟩
def Chn.congr{ws vs:List Int}:∀{l:List Int} {p q:Int},Chn ws p l q->(∀a∈l,wd vs a=wd ws a)->Chn vs p l q
 |[],_,_,h,_=>h
 |a::l,p,q,⟨e,g,h⟩,hw=>by
  have f:=hw a ab;have j:szA vs a=szA ws a:=by unfold szA hdA;rw[f]
  exact⟨e,by rw[f];exact g,by rw[j];exact h.congr λb hb=>hw b (WC _ hb)⟩
structure OE(h:Wp)(i:Int)(l:List Int):Prop where
 none:(pg h.p i).k=0\/(pg h.p i).k=3->l=[]
 small:(pg h.p i).k=1->Chn h.w (Xb h.c i 0) l (Xb h.c i (pg h.p i).u)
 large:(pg h.p i).k=2->l=[Xb h.c i 0]/\okH (wd h.w (Xb h.c i 0))=true/\szA h.w (Xb h.c i 0)=(pg h.p i).u
def Xd1(hp:UP h)(g:0<=i)(r:i<h.p.length)(j:(pg h.p i).k=1){o:Int}(s:0<=o)(f:okH (wd h.w (Xb h.c i o))=true)(t:o+szA h.w (Xb h.c i o)<=(pg h.p i).u):I5 h (Xb h.c i o):=by have y:=(hp.pgs i g r).small j;have z:=XJ h.w (Xb h.c i o);have x:=hp.pages;have⟨e,q⟩:=Yu (c:=h.c) hp.conf (p:=i) (o:=o) s aa;have A:=XV hp.conf g aa;refine⟨by unfold Xb;omega,by rw[e];exact .inl j,f,by rw[e,q];omega,λ_=>by rw[e,q];exact t,λh=>by rw[e]at h;omega⟩
def Xd2(hp:UP h)(j:0<=i)(t:i<h.p.length)(q:(pg h.p i).k=2)(f:okH (wd h.w (Xb h.c i 0))=true)(r:szA h.w (Xb h.c i 0)=(pg h.p i).u):I5 h (Xb h.c i 0):=by have x:=XJ h.w (Xb h.c i 0);have s:=hp.pages;have y:=Xi.1 hp.conf;have⟨e,g⟩:=Yu (c:=h.c) hp.conf (p:=i) (o:=0) aa aa;have z:=XV hp.conf j aa;refine⟨by unfold Xb;omega,by rw[e];exact .inr q,f,by rw[e,g];omega,λh=>by rw[e]at h;omega,λ_=>by rw[e,g];exact⟨rfl,r⟩⟩
def XjJ(hN:NB N)(hb:HB h)(ep:Qab N h=some true)(j:0<=i)(q:i<h.p.length)(g:(pg h.p i).k=1):∀(n:Nat) (o:Int) (v t:List Int),0<=o->o<=64->(65-o).toNat<n->(v.length:Int)<=o->Chn h.w (Xb h.c i o) t (Xb h.c i (pg h.p i).u)->Qau N h i (pg h.p i) n o v=some (.nxt (v++t))
 |0,o,v,t,_,_,x,_,_=>by omega
 |n+1,o,v,t,y,H,x,I,f=>by
  have hp:=XL hN hb ep;have J:=(hp.pgs i j q).small g;have z:=hp.pages;have A:=Xi.1 hp.conf;rw[Qau];have r:=f.le.1;cases t with
  |nil=>have e:Xb h.c i o=Xb h.c i (pg h.p i).u:=f;unfold Xb at e;rw[Wh aa,Wa,Ia]
  |cons a t=>
   obtain⟨rfl,s,f⟩:=f;have r:=f.le.1;have B:=XJ h.w (Xb h.c i o);have D:Xb h.c i o=4096+i*h.c.W+o:=rfl;have K:Xb h.c i (pg h.p i).u=4096+i*h.c.W+(pg h.p i).u:=rfl;have E:o+szA h.w (Xb h.c i o)<=(pg h.p i).u:=aa;have G:=Xd1 hp j q g y s E;rw[Wi (show o<(pg h.p i).u by omega),Wc,KK,hp.conf,Xa,Wg ab,Wj aa];simp only[XcU hN hb ep G,Xa,show((0:Int) != 0)=false from rfl,Wa];rw[Xe aa,show((pg h.p i).k==2)=false by rw[g];rfl,Wa,Yr,Xa,B.1,Xf aa aa];have e:Xb h.c i o+szA h.w (Xb h.c i o)=Xb h.c i (o+szA h.w (Xb h.c i o)):=by rw[D];unfold Xb;omega
   rw[e]at f;rw[XjJ hN hb ep j q g n _ _ t aa aa aa ah f,W0];rfl
def QgP(hN:NB N)(hb:HB h)(ep:Qab N h=some true)(e:0<=i)(f:i<h.p.length)(p:OE h i l):Qal N h i=some (l,0):=by
 have hp:=XL hN hb ep;have o:=(hp.pgs i e f).kind;have g:=hN;unfold NB at g;rw[Qal,ep,Xa,Wl,Wa,Wh aa,Wa,Wh aa,Wa,XQ e f,Xa];by_cases k0:(pg h.p i).k=0
 .rw[p.none (.inl k0),k0];rfl
 by_cases j:(pg h.p i).k=3
 .rw[p.none (.inr j),j];rfl
 rw[Xh k0,Xh j,Wa,Wa];by_cases k1:(pg h.p i).k=1
 .rw[XjJ hN hb ep e f k1 N 0 [] l aa aa aa ab (p.small k1),Xa,Xo];rfl
 have k2:(pg h.p i).k=2:=aa;obtain⟨rfl,q,r⟩:=p.large k2;have s:=Xd2 hp e f k2 q r;have u:=XJ h.w (Xb h.c i 0);have t:=hp.pages;have x:=Xi.1 hp.conf;obtain⟨n,rfl⟩:∃n,N=n+1:=⟨N-1,aa⟩
 rw[Qau,Wi aa,Wc,KK,hp.conf,Xa,Wg ab,Wj aa];simp only[XcU hN hb ep s,Xa,show((0:Int) != 0)=false from rfl,Wa];rw[Xe ab,k2];simp[Xa,Xo]
def Xd3(hN:NB N)(hb:HB h)(ep:Qab N h=some true)(x:0<=i)(z:i<h.p.length)(j:(pg h.p i).k=1):∀(n:Nat) (o:Int) (v r:List Int),0<=o->o<=(pg h.p i).u->Qau N h i (pg h.p i) n o v=some (.nxt r)->∃t,r=v++t/\Chn h.w (Xb h.c i o) t (Xb h.c i (pg h.p i).u)
 |0,o,v,r,_,_,e=>by rw[Qau]at e;cases e
 |n+1,o,v,r,E,Q,e=>by
  have hp:=XL hN hb ep;have R:=(hp.pgs i x z).small j;have G:=hp.pages;have H:=Xi.1 hp.conf;have I:Xb h.c i o=4096+i*h.c.W+o:=rfl;have S:Xb h.c i (pg h.p i).u=4096+i*h.c.W+(pg h.p i).u:=rfl;rw[Qau]at e;by_cases f:o<(pg h.p i).u
  .rw[Wi f,Wc,KK,hp.conf,Xa,Wg ab,Wj aa]at e;obtain⟨y,J,K⟩:=Xdx hN hb (Xb h.c i o);simp only[J,Xa]at e;by_cases q:y.2=0;case neg=>rw[Xn q,Wc]at e;cases e
   obtain⟨_,_,g,hd⟩:=K q;rw[q,show((0:Int) != 0)=false from rfl,Wa]at e;by_cases A:(v.length+1)*8<=140737488355328;case neg=>unfold grd at e;rw[Wg A]at e;cases e
   have s:=XJ h.w (Xb h.c i o);have⟨B,L⟩:=Yu (c:=h.c) hp.conf (p:=i) (o:=o) E aa;have D:=g.small (by rw[B];exact j);rw[B,L]at D;rw[Xe A,show((pg h.p i).k==2)=false by rw[j];rfl,Wa,hd,Yr,Xa,s.1,Xf aa aa]at e;obtain⟨t,rfl,M⟩:=Xd3 hN hb ep x z j n _ _ r aa D e;have O:Xb h.c i o+szA h.w (Xb h.c i o)=Xb h.c i (o+szA h.w (Xb h.c i o)):=by rw[I];unfold Xb;omega
   exact⟨Xb h.c i o::t,by rw[W0];rfl,rfl,g.ok,by rw[O];exact M⟩
  rw[Wh f,Wa]at e;obtain rfl:=Ex.nxt.inj (WT e);exact⟨[],ab,by show _=_;omega⟩
def XfZ(hN:NB N)(hb:HB h)(ep:Qab N h=some true)(f:0<=i)(g:i<h.p.length)(e:Qal N h i=some (l,0)):OE h i l:=by
 have hp:=XL hN hb ep;have I:=(hp.pgs i f g).kind;have D:=(hp.pgs i f g).small;obtain⟨r,E,J⟩:=Qk8 hN hb i;rw[e]at E;obtain rfl:=WT E;have⟨⟨A,_,_⟩,_,_⟩:=J.2.2 hp;rw[Qal,ep,Xa,Wl,Wa,Wh aa,Wa,Wh aa,Wa,XQ f g,Xa]at e;refine⟨λk=>?_,λk1=>?_,λk2=>?_⟩
 .rcases k with k|k<;>(rw[k]at e;simp at e;exact e)
 .rw[k1,show((1:Int)==0)=false from rfl,show((1:Int)==3)=false from rfl,Wa,Wa]at e;cases s:Qau N h i (pg h.p i) N 0 []with
  |none=>rw[s,V4]at e;cases e
  |some x=>
   rw[s,Xa]at e;cases x with
   |ret a=>
    have q:=(Qk7 hN hb hp f g (.inl k1) N 0 [] aa (by unfold NB at hN;omega) ⟨⟨ab,ab,ab⟩,λa w=>by simp at w,ab,ab⟩ (λk=>(D k).1) (λ_=>rfl))
    obtain⟨z,G,j⟩:=q;rw[s]at G;obtain rfl:=WT G;have j:a=([],19):=j;rw[Xs,j]at e;cases e
   |nxt v=>
    rw[Xo]at e;obtain rfl:v=l:=by simpa using e
    obtain⟨t,rfl,K⟩:=Xd3 hN hb ep f g k1 N 0 [] _ aa (D k1).1 s;exact K
 have Q:=Xi.1 hp.conf;have L:=hp.pages;rw[k2,show((2:Int)==0)=false from rfl,show((2:Int)==3)=false from rfl,Wa,Wa]at e;obtain⟨n,rfl⟩:∃n,N=n+1:=⟨N-1,by unfold NB at hN;omega⟩
 rw[Qau]at e;have M:=(hp.pgs i f g).large k2;have B:0<(pg h.p i).u:=by
  apply Classical.byContradiction;intro R;have:XI h.c (pg h.p i).u = -1:=by unfold XI;rw[Wg aa]
  omega
 rw[Wi B,Wc,KK,hp.conf,Xa,Wg ab,Wj aa]at e;obtain⟨y,O,S⟩:=Xdx hN hb (Xb h.c i 0);simp only[O,Xa]at e;by_cases j:y.2=0;case neg=>rw[Xn j,Wc,Xa,Xs]at e;simp at e
 rw[j,show((0:Int) != 0)=false from rfl,Wa,Xe ab,k2,show((2:Int)==2)=true from rfl,Wc,Xa,Xo]at e;obtain rfl:[Xb h.c i 0]=l:=by simpa using e
 have w:=A _ (WM.2 rfl);have⟨H,T⟩:=Yu (c:=h.c) hp.conf (p:=i) (o:=0) aa aa;have:=w.large (by rw[H];exact k2);rw[H]at this;exact⟨rfl,w.ok,this.2⟩
end
def Stt(h:Wp)(a:Int):Prop:=∃i l,0<=i/\i<(h.p.length:Int)/\OE h i l/\a∈l
def Obb(h:Wp)(a:Int):Prop:=Stt h a/\(hdA h.w a).k≠0
def XcD(h:Wp)(i a:Int):Prop:=((pg h.p i).k=1->szA h.w a<=smC h.c)/\((pg h.p i).k=2->(hdA h.w a).k≠0)
def K1(p:WJ):Bool:=p.k==1&&decide (p.P>0)
structure GX(N:Nat)(h:Wp):Prop where
 ep:Qab N h=some true
 ps:∀i,0<=i->i<(h.p.length:Int)->∃l,OE h i l
 sp:∀i,0<=i->i<(h.p.length:Int)->(pg h.p i).k≠0->(pg h.p i).s=h.s
 cl:∀i l,0<=i->i<(h.p.length:Int)->OE h i l->∀a∈l,XcD h i a
 dt:∀x,4096<=x->wd h.w x≠0->∃a,Stt h a/\a<=x/\x<a+Kw h a
 pt:∀a,Obb h a->∀j∈XN (hdA h.w a),wd h.w (a+1+j)=0\/Obb h (wd h.w (a+1+j))
 cr:((h.p.countP K1:Nat):Int)<=h.c.p / 4
section
variable {N:Nat}{h:Wp}
def Chn.fn{ws:List Int}:∀{l m:List Int} {p q:Int},Chn ws p l q->Chn ws p m q->l=m
 |[],[],_,_,_,_=>rfl
 |[],b::m,p,q,f,g=>by have e:p=q:=f;have:=g.len;simp only[Uq]at this;omega
 |a::l,[],p,q,f,g=>by have e:p=q:=g;have:=f.len;simp only[Uq]at this;omega
 |a::l,b::m,p,q,⟨j,_,f⟩,⟨o,_,g⟩=>by subst j;subst o;rw[f.fn g]
def OE.fn{i:Int}{l m:List Int}(e:0<=(pg h.p i).k/\(pg h.p i).k<=3)(p:OE h i l)(q:OE h i m):l=m:=by
 by_cases k1:(pg h.p i).k=1
 .exact(p.small k1).fn (q.small k1)
 by_cases k2:(pg h.p i).k=2
 .rw[(p.large k2).1,(q.large k2).1]
 rw[p.none aa,q.none aa]
def OE.at_(hp:UP h){i:Int}{l:List Int}(e:0<=i)(f:i<h.p.length)(p:OE h i l){a:Int}(g:a∈l):I5 h a/\pgi h.c a=i:=by
 have x:=(hp.pgs i e f).kind;have q:=hp.pages;have y:=Xi.1 hp.conf;have j:∀o,Xb h.c i o=4096+i*h.c.W+o:=λ_=>rfl;by_cases k1:(pg h.p i).k=1
 .have c:=p.small k1;have z:=(hp.pgs i e f).small k1;have⟨c1,r⟩:=c.le;have⟨g1,g2,g3⟩:=r a g;have A:=XJ h.w a;have B:=j 0;have D:=j (pg h.p i).u;obtain⟨o,rfl⟩:∃o,a=Xb h.c i o:=⟨a-Xb h.c i 0,by rw[j];omega⟩
  have E:=j o;exact⟨Xd1 hp e f k1 aa g3 aa,(Yu hp.conf aa aa).1⟩
 by_cases k2:(pg h.p i).k=2
 .obtain⟨rfl,s,t⟩:=p.large k2;rw[WM.1 g];exact⟨Xd2 hp e f k2 s t,(Yu hp.conf aa aa).1⟩
 rw[p.none aa]at g;cases g
def Stt.at_(hp:UP h){a:Int}(s:Stt h a):I5 h a:=by obtain⟨i,l,e,f,p,g⟩:=s;exact(p.at_ hp e f g).1
def Stt.pars(hp:UP h){a:Int}(s:Stt h a):∃l,OE h (pgi h.c a) l/\a∈l:=by obtain⟨i,l,f,g,p,e⟩:=s;have:=(p.at_ hp f g e).2;exact⟨l,by rw[this];exact p,e⟩
def Xhy(hN:NB N){i:Int}(z:0<=i)(A:i<h.p.length)(l:List Int)(D:l.length<=4096)(o:∀a∈l,I5 h a)(s:∀a∈l,Qax N h a=some (hdA h.w a,0)):∀(n k:Nat),k<=l.length->l.length-k<n ->
 ∃e,QaQ N h i l n (k:Int)=some e/\((∀a∈l.drop k,XcD h i a)->e=.nxt ())/\((¬∀a∈l.drop k,XcD h i a)->∃a,e=.ret a/\a≠0)
 |0,k,_,E=>by omega
 |n+1,k,H,E=>by
  rw[QaQ];by_cases j:k<l.length;case neg=>rw[Wh aa,Wa,WN aa];exact⟨_,rfl,λ_=>rfl,λe=>absurd ab e⟩
  have B:=Wt j;obtain⟨e,u,x,e3⟩:=Xhy hN z A l D o s n (k+1) aa aa;have t:l[k]≠0:=by have:=(o _ B).rng;omega
  have G:=(XJ h.w l[k]).1;simp only[Wi (show(k:Int)<(l.length:Int) by omega),Wc,Xc,Wb j,Xa,s _ B,Yr,XgQ,XQ z A,Xg (show k<=140737488355328 by omega),G];rw[Wm j];have y:XcD h i l[k]↔((pg h.p i).k=1->szA h.w l[k]<=smC h.c)/\((pg h.p i).k=2->(hdA h.w l[k]).k≠0):=Iff.rfl;by_cases k1:(pg h.p i).k=1
  .rw[Xl k1,Wc,show((pg h.p i).k==2)=false by rw[k1];rfl,Wa];by_cases g:szA h.w l[k]<=smC h.c
   .rw[Wi g,Wl,Wa,u];refine⟨e,rfl,λq=>x λa f=>q a (WC _ f),λq=>e3 λr=>q λa f=>?_⟩;rcases Us.1 f with rfl|f
    .exact y.2 ⟨λ_=>g,λk=>aa⟩
    exact r a f
   rw[Wh g,WY,Wc];exact⟨_,rfl,λq=>absurd ((q _ (IM)).1 k1) g,λ_=>⟨_,rfl,t⟩⟩
  rw[Xh k1,Wa];by_cases k2:(pg h.p i).k=2
  .rw[Xl k2,Wc];by_cases g:(hdA h.w l[k]).k=0
   .rw[Xl g,Wc];exact⟨_,rfl,λq=>absurd g ((q _ (IM)).2 k2),λ_=>⟨_,rfl,t⟩⟩
   rw[Xh g,Wa,u];refine⟨e,rfl,λq=>x λa f=>q a (WC _ f),λq=>e3 λr=>q λa f=>?_⟩;rcases Us.1 f with rfl|f
   .exact y.2 ⟨λk=>absurd k k1,λ_=>g⟩
   exact r a f
  rw[Xh k2,Wa,u];refine⟨e,rfl,λq=>x λa f=>q a (WC _ f),λq=>e3 λr=>q λa f=>?_⟩;rcases Us.1 f with rfl|f
  .exact y.2 ⟨λk=>absurd k k1,λk=>absurd k k2⟩
  exact r a f
def HeadP(h:Wp)(i r:Int):Prop:=0<=r/\r<=i/\(pg h.p r).k≠3/\∀m,r<m->m<=i->(pg h.p m).k=3
def HeadP.fn{i r s:Int}(a:HeadP h i r)(b:HeadP h i s):r=s:=by
 apply Classical.byContradiction;intro f;by_cases e:r<s
 .exact b.2.2.1 (a.2.2.2 s e b.2.1)
 exact a.2.2.1 (b.2.2.2 r aa a.2.1)
def Xf0(g:(pg h.p 0).k≠3)(q:h.p.length<=100000):∀(n:Nat) (i:Int),0<=i->i<h.p.length->i.toNat<n->∃r,QcB N h n i=some r/\HeadP h i r
 |0,i,_,_,s=>by omega
 |n+1,i,j,t,s=>by
  rw[QcB,XQ j t,Xa];by_cases f:(pg h.p i).k=3
  .have:i≠0:=by rintro rfl;exact g f
   rw[Xl f,Wc,Xf aa aa];obtain⟨r,e,u,A,w,x⟩:=Xf0 g q n (i-1) aa aa aa;refine⟨r,e,u,aa,w,λm o y=>?_⟩;by_cases z:m=i
   .rw[z];exact f
   exact x m o aa
  rw[Xh f,Wa];exact⟨i,rfl,j,aa,f,λm o y=>aa⟩
structure Sg(N:Nat)(h:Wp)(i:Int):Prop where
 sp:(pg h.p i).k≠0->(pg h.p i).s=h.s
 ps:∃l,OE h i l/\∀a∈l,XcD h i a
 dt:∀r,HeadP h i r->∀l c,Qal N h r=some (l,c)->∀j:Nat,(j:Int)<h.c.W->Xiy h i l (j:Int)=false->wdP h i j=0
def XrD(hN:NB N)(hb:HB h)(hp:UP h){i:Int}(x:0<=i)(y:i<h.p.length):∃a,Qd4 N h i=some a/\(a=0↔∀r,HeadP h i r->∀l c,Qal N h r=some (l,c)->∀j:Nat,(j:Int)<h.c.W->Xiy h i l (j:Int)=false->wdP h i j=0):=by
 have z:=hN;unfold NB at z;have Y:=Xi.1 hp.conf;have J:=hb.2;obtain⟨hd,K,w⟩:=Xf0 (N:=N) hp.first hb.2 N i x y aa;have⟨r,A,L,G⟩:=Qf2 hN hb hp hd w.1 (by have:=w.2.1;omega);have⟨⟨B,D,_⟩,_,_⟩:=L;have⟨u,M,E,g⟩:=XjG hN hp i x y r.1 aa B D;have⟨e,O,H,e3⟩:=XfU hN hb hp x y u E N 0 aa aa;rw[Qd4,QeG,K,Xa,Xa,A,Xa,M,Xa,show(0:Int)=((0:Nat):Int)from rfl,O,Xa];have o:(u.length:Int)=h.c.W:=by clear H e3;omega
 by_cases f:∃j,0<=j/\j<u.length/\u.getD j false=false/\wdP h i j≠0
 .obtain⟨a,rfl,Q⟩:=H f;refine⟨a,by rw[Xs],λe=>absurd e Q,λq=>?_⟩;obtain⟨j,_,I,R,S⟩:=f;exact absurd (q hd w r.1 r.2 A j (o▸Int.ofNat_lt.2 I) (by rw[←g j I];exact R)) S
 have:=e3 f;subst this;refine⟨0,by rw[Xo];rfl,λ_ s T l c el j U V=>?_,λ_=>rfl⟩;rw[←w.fn T,A]at el;obtain rfl:=WT el;apply Classical.byContradiction;intro hw;have t:j<u.length:=Int.ofNat_lt.1 (o.symm▸U);exact f ⟨j,UY _,t,by rw[g j t];exact V,hw⟩
def Qoi(hN:NB N)(hb:HB h)(ep:Qab N h=some true){i:Int}(t:0<=i)(u:i<h.p.length):∃f,Qd5 N h i=some f/\(f.Fault=0↔Sg N h i):=by
 have hp:=XL hN hb ep;rw[Qd5,Xr,XQ t u];simp only[Xa];by_cases g:(pg h.p i).k≠0/\(pg h.p i).s≠h.s
 .rw[Xn g.1,Xn g.2];exact⟨_,rfl,λe=>absurd e (by show¬(2:Int)=0;omega),λq=>absurd (q.sp g.1) g.2⟩
 have o:(pg h.p i).k≠0->(pg h.p i).s=h.s:=λk=>Classical.byContradiction λs=>g ⟨k,s⟩;have L:∀{α:Type} (x y:α),(bif ((pg h.p i).k != 0)then(bif ((pg h.p i).s != h.s)then x else y)else y)=y:=by
  intro α x y;by_cases k0:(pg h.p i).k=0
  .rw[show((pg h.p i).k != 0)=false by simpa using k0,Wa]
  rw[show((pg h.p i).s != h.s)=false by simpa using o k0,Wa,OC]
 rw[L];have⟨r,z,M,I⟩:=Qf2 hN hb hp i t u;rw[z,Xa];by_cases A:r.2=0;case neg=>
  rw[Xn A]
  refine⟨_,rfl,λe=>absurd e (by show¬(3:Int)=0;omega),λq=>?_⟩
  obtain⟨l,p,_⟩:=q.ps
  rw[QgP hN hb ep t u p]at z
  obtain rfl:=WT z
  exact absurd rfl A
 have D:Qal N h i=some (r.1,0):=by rw[z,←A]
 have w:=XfZ hN hb ep t u D;have E:=(hp.pgs i t u).kind;rw[show(r.2 != 0)=false by simpa using A,Wa];have⟨⟨G,H,_⟩,_,_⟩:=M;obtain⟨e,c1,J,K⟩:=Xhy hN t u r.1 aa G H N 0 aa (by unfold NB at hN;omega);have c1:QaQ N h i r.1 N 0=some e:=c1;rw[Qea,c1,Xa];rw[WL]at J K;by_cases B:∀a∈r.1,XcD h i a;case neg=>
  obtain⟨a,rfl,O⟩:=K B
  rw[Xs,Xa,Xn O]
  refine⟨_,rfl,λe=>absurd e (by show¬(5:Int)=0;omega),λq=>?_⟩
  obtain⟨l,p,q⟩:=q.ps
  rw[p.fn E w]at q
  exact absurd q B
 have:=J B;subst this;rw[Xo,Xa];obtain⟨d,Q,hd⟩:=XrD hN hb hp t u;rw[Q,Xa];show∃f,(bif (d != 0)then _ else _)=some f/\_;by_cases j:d=0
 .rw[show(d != 0)=false by simpa using j,Wa];exact⟨_,rfl,λ_=>⟨o,⟨_,w,B⟩,hd.1 j⟩,λ_=>rfl⟩
 rw[Xn j];exact⟨_,rfl,λe=>absurd e (by show¬(4:Int)=0;omega),λq=>absurd (hd.2 q.dt) j⟩
def Xhz(hN:NB N)(hb:HB h)(ep:Qab N h=some true):∀(n:Nat) (i:Int),0<=i->i<=h.p.length->(h.p.length-i).toNat<n->∃e,Qbj N h n i=some e/\((∀j,i<=j->j<h.p.length->Sg N h j)->e=.nxt ())/\((¬∀j,i<=j->j<h.p.length->Sg N h j)->∃f,e=.ret f/\f.Fault≠0)
 |0,i,_,_,t=>by omega
 |n+1,i,u,B,t=>by
  have w:=hb.2;rw[Qbj];by_cases g:i<h.p.length;case neg=>rw[Wh g,Wa];exact⟨_,rfl,λ_=>rfl,λq=>absurd (λj a b=>aa) q⟩
  obtain⟨f,x,s⟩:=Qoi hN hb ep u g;obtain⟨e,y,z,e3⟩:=Xhz hN hb ep n (i+1) aa aa aa;rw[Wi g,Wc,x,Xa];by_cases o:f.Fault=0
  .rw[show(f.Fault != 0)=false by simpa using o,Wa,Xf aa aa,y];refine⟨e,rfl,λq=>z λj a b=>q j aa b,λq=>e3 λr=>q λj a b=>?_⟩;by_cases A:j=i
   .rw[A];exact s.1 o
   exact r j aa b
  rw[Xn o,Wc];exact⟨_,rfl,λq=>absurd (s.2 (q i aa g)) o,λ_=>⟨f,rfl,o⟩⟩
def Xd4(f:h.p.length<=100000):∀(n k c:Nat),k<=h.p.length->h.p.length-k<n->c<=k->Qa1 N h n (c:Int) (k:Int)=some (((c+(h.p.drop k).countP K1:Nat):Int))
 |0,k,c,_,g,_=>by omega
 |n+1,k,c,q,g,r=>by
  rw[Qa1];by_cases e:k<h.p.length;case neg=>rw[Wh aa,Wa,WN aa];simp
  have:=Xd4 f n (k+1) c aa aa aa;have:=Xd4 f n (k+1) (c+1) aa aa aa;rw[Xm e,Wc,Xc,Wb e,Xa,Xg aa,Xg aa,Wm e,U4];simp only[Xa];unfold K1 at *;cases j:(h.p[k].k==1)<;>cases o:decide (h.p[k].P>0)<;>simp_all<;>omega
end
section
variable {N:Nat}{h:Wp}
def Xf1(h:Wp)(a:Int):Kw h a<=szA h.w a:=by have:=(XJ h.w a).2.1;unfold Kw;split<;>omega
def XcV(hp:UP h){a x:Int}(f:I5 h a)(u:a<=x)(y:x<a+szA h.w a):HeadP h (pgi h.c x) (pgi h.c a)/\4096<=x/\x<4096+h.w.length:=by
 obtain⟨k,k1,k2,z,g⟩:=XcO hp f;have q:=f.rng;have A:=JK hp f;have hw:=hp.words;have⟨e,r,B,D,E⟩:=Yv hp.conf q;have⟨G,H,I,J,K⟩:=Yv (a:=x) hp.conf aa;have L:=f.kind;have M:=Xi.1 hp.conf;have le:pgi h.c a<=pgi h.c x:=by apply Classical.byContradiction;intro s;have:=Vw hp.conf (i:=pgi h.c x) (j:=pgi h.c a) (o:=h.c.W) (p:=0) aa aa aa;have O:Xb h.c (pgi h.c x) h.c.W=4096+pgi h.c x*h.c.W+h.c.W:=rfl;have t:Xb h.c (pgi h.c x) (pgo h.c x)=4096+pgi h.c x*h.c.W+pgo h.c x:=rfl;have e3:Xb h.c (pgi h.c a) 0=4096+pgi h.c a*h.c.W+0:=rfl;have e4:Xb h.c (pgi h.c a) (pgo h.c a)=4096+pgi h.c a*h.c.W+pgo h.c a:=rfl;omega
 have lt:pgi h.c x<pgi h.c a+k:=by apply Classical.byContradiction;intro s;have Q:(pgi h.c a+k)*h.c.W<=pgi h.c x*h.c.W:=UF aa aa;have e3:Xb h.c (pgi h.c a+k) 0=4096+(pgi h.c a+k)*h.c.W+0:=rfl;have t:Xb h.c (pgi h.c x) (pgo h.c x)=4096+pgi h.c x*h.c.W+pgo h.c x:=rfl;omega
 refine⟨⟨r,le,aa,λm R S=>?_⟩,aa,aa⟩;have:=g (m-pgi h.c a) aa aa;rwa[show pgi h.c a+(m-pgi h.c a)=m by omega]at this
def Xnn{ws:List Int}{x:Int}(e:4096<=x)(h:wd ws x≠0):x<4096+ws.length:=by apply Classical.byContradiction;intro f;apply h;unfold wd ix;rw[We,W3 aa];rfl
def XhA(hN:NB N)(hb:HB h)(ep:Qab N h=some true)(o:∀i,0<=i->i<(h.p.length:Int)->∃l,OE h i l):∀(n:Nat) (i:Int) (v:List Int),0<=i->i<=h.p.length->(h.p.length-i).toNat<n->(v.length:Int)<=64*i ->
 ∃t,QaP N h n i v=some (.nxt (v++t))/\∀a,a∈t↔∃j l,i<=j/\j<(h.p.length:Int)/\OE h j l/\a∈l
 |0,i,v,_,_,y,_=>by omega
 |n+1,i,v,q,H,y,I=>by
  have z:=hb.2;have hp:=XL hN hb ep;have A:=hp.pages;have B:=Xi.1 hp.conf;rw[QaP];by_cases f:i<h.p.length;case neg=>
   rw[Wh f,Wa]
   exact⟨[],by rw[Ia],λa=>⟨λe=>by simp at e,λ⟨j,l,a,b,_⟩=>aa⟩⟩
  obtain⟨l,pl⟩:=o i q f;have el:=QgP hN hb ep q f pl;obtain⟨r,x,_,g⟩:=Qf2 hN hb hp i q f;rw[el]at x;obtain rfl:=WT x;have g:l.length<=64:=g;obtain⟨t,et,ht⟩:=XhA hN hb ep o n (i+1) (v++l) aa aa aa (by rw[Wu];omega);rw[Wi f,Wc,el,Xa,show((0:Int) != 0)=false from rfl,Wa,Xe (by show(v.length+l.length)*8<=_;omega),Xf aa aa,et,W0];refine⟨l++t,rfl,λa=>?_⟩;rw[Ws,ht];constructor
  .rintro(D|⟨j,m,E,w,s,u⟩)
   .exact⟨i,l,aa,f,pl,D⟩
   exact⟨j,m,aa,w,s,u⟩
  rintro⟨j,m,E,w,s,u⟩;by_cases G:j=i
  .subst G;rw[pl.fn (hp.pgs j q f).kind s];exact .inl u
  exact .inr ⟨j,m,aa,w,s,u⟩
def Xba(hN:NB N)(hb:HB h)(ep:Qab N h=some true)(f:∀i,0<=i->i<(h.p.length:Int)->∃l,OE h i l):∃S L,Oy N h S/\(∀a,a∈S↔Stt h a)/\Qb4 N h=some (S,0)/\Qaj N h=some (L,0)/\L=Y7 h S/\∀a,a∈L↔Obb h a:=by
 have g:=hN;unfold NB at g;have z:=hb.2;obtain⟨t,et,ht⟩:=XhA hN hb ep f N 0 [] aa aa aa ab;have est:Qb4 N h=some (t,0):=by rw[Qb4,ep,Xa,Wl,Wa,et,Xa,Xo,Um]
 have⟨r,w,e,_,_⟩:=Xav hN hb;rw[est]at w;obtain rfl:=WT w;have x:t.length<=4096:=e.len;have:=XbJ (N:=N) (h:=h) (t,0) (by show t.length<=_;omega) e.obj.ev N 0 [] aa (by show t.length-0<_;omega) ab;rw[show((0:Nat):Int)=0 from rfl,WL,Um]at this;have y:∀a,a∈t↔Stt h a:=λa=>by rw[ht];exact⟨λ⟨j,l,o,q,s,u⟩=>⟨j,l,o,q,s,u⟩,λ⟨j,l,o,q,s,u⟩=>⟨j,l,o,q,s,u⟩⟩
 refine⟨t,Y7 h t,e,y,est,?_,rfl,λa=>?_⟩
 .rw[Qaj,est,Xa,this,Xa]
 unfold Y7 Obb;rw[W6,y];simp[Kv,fnd]
def Vj(hN:NB N)(hb:HB h):Qb2 N h=some true↔GX N h:=by
 have O:=hN;unfold NB at O;have G:=hb.2;obtain⟨b,ep⟩:=XaG (N:=N) (h:=h) hN hb;cases b with
 |false=>rw[Qb2,QfA,ep,Xa,WY,Wc,Xa];exact⟨(λe=>by cases e),λg=>by rw[g.ep]at ep;cases ep⟩
 |true=>
 have hp:=XL hN hb ep;have hpl:=hp.pages;have hw:=hp.words;have hvc:=Xi.1 hp.conf;obtain⟨e,e1,e2,e3⟩:=Xhz hN hb ep N 0 aa aa aa;rw[Qb2,QfA,ep,Xa,Wl,Wa,e1,Xa];by_cases A:∀j,(0:Int)<=j->j<h.p.length->Sg N h j;case neg=>
  obtain⟨f,rfl,M⟩:=e3 A
  rw[Xs,Xa,Xh M]
  refine⟨(λe=>by cases e),λg=>absurd (λi o t=>⟨g.sp i o t,?_,λr s l c el j Q H=>?_⟩) A⟩
  .obtain⟨l,pl⟩:=g.ps i o t
   exact⟨l,pl,g.cl i l o t pl⟩
  .apply Classical.byContradiction;intro I
   unfold wdP at I
   have hm:=XV hp.conf (i:=i) o aa
   have ea:Xb h.c i 0=4096+i*h.c.W+0:=rfl
   have ej:Xb h.c i 0+(j:Int)=Xb h.c i j:=by unfold Xb;omega
   obtain⟨a,sa,a1,a2⟩:=g.dt _ aa I
   have B:=sa.at_ hp
   have z:=XcV hp (x:=Xb h.c i 0+j) B a1 (by have:=Xf1 h a;omega)
   rw[ej,(Yu hp.conf aa Q).1]at z
   have:=s.fn z.1
   subst this
   obtain⟨m,pm,am⟩:=sa.pars hp
   have:=QgP hN hb ep s.1 (by have:=s.2.1;omega) pm
   rw[el]at this
   obtain rfl:l=m:=congrArg Prod.fst (WT this)
   have:Xiy h i l j=true:=Io.2 ⟨a,am,by rw[decide_eq_true_iff];omega⟩
   rw[this]at H;cases H
 have:=e2 A;subst this;rw[Xo];have D:∀i,0<=i->i<(h.p.length:Int)->∃l,OE h i l:=λi o t=>by obtain⟨l,p,_⟩:=(A i o t).ps;exact⟨l,p⟩
 obtain⟨S,L,hS,mS,eS,eL,rfl,mL⟩:=Xba hN hb ep D;have⟨y,ey,hl,_,B,R,T⟩:=KN hN hb;rw[eL]at ey;obtain rfl:=WT ey;have⟨r,U,r2,r3⟩:=Xm9 hN hb ep (Y7 h S,0) aa B R T N 0 aa aa;have U:Qbs N h (Y7 h S,0) N 0=some r:=U;rw[WL]at r2 r3;rw[Qdn,eL,Xa,U,Xa];by_cases u:∃a∈Y7 h S,Xac h (Y7 h S) a
 .obtain⟨f,rfl,M⟩:=r2 u;rw[Xs,Xa,Xn M,Wc,Xa,Xh M];refine⟨(λe=>by cases e),λg=>?_⟩;obtain⟨a,z,i,hi,V,G⟩:=u;rcases g.pt a ((mL a).1 z) i hi with q|q
  .exact absurd q V
  have:=(mL _).2 q;exact absurd this (YR G)
 have:=r3 u;subst this;have E:=Xd4 (N:=N) (h:=h) hb.2 N 0 0 aa aa aa;have E:Qa1 N h N 0 0=some (((0+(h.p.drop 0).countP K1:Nat):Int)):=E;rw[Xo,Xa,show((Ut.mk 0 0 0).Fault != 0)=false from rfl,Wa,E,Xa,WL,Ue];have ed:wI (h.c.p.tdiv 4)=h.c.p / 4:=by rw[U3 aa,Xf aa aa]
 rw[ed];by_cases H:((h.p.countP K1:Nat):Int)<=h.c.p / 4
 .rw[Wh aa,Wa,Xa];refine⟨λ_=>⟨ep,D,λi o t=>(A i o t).sp,λi l o t p=>?_,λx o E=>?_,λa z j Q=>?_,H⟩,λ_=>rfl⟩
  .obtain⟨m,p',q⟩:=(A i o t).ps;rw[p.fn (hp.pgs i o t).kind p'];exact q
  .have hlt:=Xnn o E;have⟨e,q0,q1,q2,q3⟩:=Yv (a:=x) hp.conf aa;obtain⟨r,er,s⟩:=Xf0 (N:=N) hp.first hb.2 N (pgi h.c x) q0 aa aa;obtain⟨l,pl⟩:=D r s.1 (by have:=s.2.1;omega);have el:=QgP hN hb ep s.1 (by have:=s.2.1;omega) pl;have hd:=(A _ q0 aa).dt r s l 0 el (pgo h.c x).toNat aa;have ex:Xb h.c (pgi h.c x) 0+((pgo h.c x).toNat:Int)=x:=by have e1:Xb h.c (pgi h.c x) 0=4096+pgi h.c x*h.c.W+0:=rfl;have e2:Xb h.c (pgi h.c x) (pgo h.c x)=4096+pgi h.c x*h.c.W+pgo h.c x:=rfl;omega
   have Y:wdP h (pgi h.c x) (pgo h.c x).toNat=wd h.w x:=by unfold wdP;rw[ex]
   rw[Y]at hd;cases J:Xiy h (pgi h.c x) l ((pgo h.c x).toNat:Int)with
   |false=>exact absurd (hd J) E
   |true=>obtain⟨a,z,Z⟩:=Io.1 J;rw[decide_eq_true_iff]at Z;exact⟨a,⟨r,l,s.1,by have:=s.2.1;omega,pl,z⟩,aa,aa⟩
  by_cases hz:wd h.w (a+1+j)=0
  .exact .inl hz
  right;rw[←mL];cases K:(Y7 h S).contains (wd h.w (a+1+j))with
  |true=>exact Yp K
  |false=>exact absurd ⟨a,(mL a).2 z,j,Q,hz,K⟩ u
 rw[Wi aa,Wc,Xa];exact⟨(λe=>by cases e),λg=>absurd g.cr H⟩
end
def Zt(c:Uj):List UQ->Int->Int
 |[],_=>0
 |p::l,i=>(if pgi c p.a=i then p.M else 0)+Zt c l i
structure MX(N:Nat)(h:Wp)(pins:List UQ):Prop where
 gx:GX N h
 len:pins.length<=64
 ob:∀p∈pins,Obb h p.a/\1<=p.M/\p.M<=1000
 nd:(pins.map (·.a)).Nodup
 sm:∀i,0<=i->i<(h.p.length:Int)->(pg h.p i).P=Zt h.c pins i
structure VX(N:Nat)(x:Uw):Prop where
 mx:MX N x.h x.P
 loc:Yn x.l=true
 glo:X8 x.g.e=true
 wea:X8 x.v.e=true
 gz:∀r∈Xp x.g.e,r≠0
 rr:∀r∈x.R,r=0\/Obb x.h r
 rl:∀r∈XC x.l.S,r=0\/Obb x.h r
 rg:∀r∈Xp x.g.e,r=0\/Obb x.h r
 rw_:∀r∈Xp x.v.e,r=0\/Obb x.h r
def Xd5{α:Type}(f:α->Int)(l:List α):(∀(j:Nat) (g:j<l.length),Zj (λp=>f p==f l[j]) l=j)↔(l.map f).Nodup:=by
 have key:∀(j:Nat) (g:j<l.length),Zj (λp=>f p==f l[j]) l=j↔∀k(o:k<j),f (l[k]'aa)≠f l[j]:=by
  intro j g;unfold Zj;cases e:l.findIdx? (λp=>f p==f l[j])with
  |none=>rw[List.findIdx?_eq_none_iff]at e;have:=e l[j] (Wt g);simp at this
  |some m=>
   rw[U0]at e;obtain⟨x,u,t⟩:=e;constructor
   .intro h k o y;have:m=j:=Int.ofNat.inj h;subst this;have:=t k o;simp_all
   intro h;by_cases q:m<j
   .exact absurd (by simpa using u) (h m q)
   by_cases r:j<m
   .have:=t j r;simp at this
   show(m:Int)=j;omega
 rw[List.Nodup,Uf];constructor
 .intro h i j w g s;rw[UK]at w g;rw[Ov,Ov];exact(key j g).1 (h j g) i s
 intro h j g;rw[key j g];intro k o;have:=h k j (by rw[UK];omega) (by rw[UK];omega) o;rwa[Ov,Ov]at this
section
variable {N:Nat}{h:Wp}
def XhB(h:Wp)(pins:List UQ)(L:List Int)(j:Nat):Prop:=∀e:j<pins.length,L.contains pins[j].a=true/\Zj (λp=>p.a==pins[j].a) pins=j/\1<=pins[j].M/\pins[j].M<=1000
def XhC(hN:NB N)(hp:UP h)(pins:List UQ)(z:pins.length<=64)(y:List Int×Int)(O:y.1.length<=4096)(s:∀a∈y.1,I5 h a):∀(n k:Nat) (v:List Int),k<=pins.length->pins.length-k<n->v.length=h.p.length->(∀i:Int,0<=i->0<=v.getD i.toNat 0/\v.getD i.toNat 0<=1000*k) ->
 ∃e,Qbk N h pins y n (k:Int) v=some e/\((∀j,k<=j->XhB h pins y.1 j)->∃g,e=.nxt g/\g.length=h.p.length/\∀i:Int,0<=i->i<(h.p.length:Int)->g.getD i.toNat 0=v.getD i.toNat 0+Zt h.c (pins.drop k) i)/\((¬∀j,k<=j->XhB h pins y.1 j)->e=.ret false)
 |0,k,v,Q,R,A,_=>by omega
 |n+1,k,v,Q,R,A,hb=>by
  have B:1000000<N:=by unfold NB at hN;omega
  rw[Qbk];by_cases f:k<pins.length;case neg=>
   rw[Wh aa,Wa,WN aa]
   exact⟨_,rfl,λ_=>⟨v,rfl,A,λi _ _=>by simp[Zt]⟩,λq=>absurd (λj J S=>aa) q⟩
  have T:Xd pins (k:Int)=some pins[k]:=by rw[Xc,Wb f]
  simp only[Wi (show(k:Int)<(pins.length:Int) by omega),Wc,T,Xa,Ym pins[k].a (show y.1.length<=1000000000 by omega) (show y.1.length<N by omega),XfY pins pins[k].a aa B];have bad:¬XhB h pins y.1 k->∃e,some (Ex.ret false:Ex Bool (List Int))=some e/\((∀j,k<=j->XhB h pins y.1 j)->∃g,e=.nxt g/\g.length=h.p.length/\∀i:Int,0<=i->i<(h.p.length:Int)->g.getD i.toNat 0=v.getD i.toNat 0+Zt h.c (pins.drop k) i)/\((¬∀j,k<=j->XhB h pins y.1 j)->e=.ret false):=
   λq=>⟨_,rfl,λr=>absurd (r k (Uu k)) q,λ_=>rfl⟩
  cases w:y.1.contains pins[k].a with
  |false=>exact bad λq=>by rw[(q f).1]at w;cases w
  |true=>
  rw[Wl,Wa];by_cases x:Zj (λp=>p.a==pins[k].a) pins=k;case neg=>rw[Xn x];exact bad λq=>x (q f).2.1
  rw[show(Zj (λp=>p.a==pins[k].a) pins != (k:Int))=false by simpa using x,Wa];by_cases c1:pins[k].M<1
  .rw[Wi c1];exact bad λq=>by have:=(q f).2.2;omega
  rw[Wh c1,Wa];by_cases K:pins[k].M>1000
  .rw[Wi K];exact bad λq=>by have:=(q f).2.2;omega
  have U:=s _ (Yp w);have⟨V,t,W⟩:=Je (N:=N) hp U;have D:Xd v (pgi h.c pins[k].a)=some (v.getD (pgi h.c pins[k].a).toNat 0):=by have u:(pgi h.c pins[k].a).toNat<v.length:=aa;rw[X7 t aa,We,Wb u];rfl
  have b1:=hb _ t;rw[Wh K,Wa,V,Xa,D,Xa,Xa,Xg aa,Xf aa aa];have o:∀i:Int,0<=i->(v.set (pgi h.c pins[k].a).toNat (v.getD (pgi h.c pins[k].a).toNat 0+pins[k].M)).getD i.toNat 0=(if pgi h.c pins[k].a=i then pins[k].M else 0)+v.getD i.toNat 0:=by
   intro i E;rw[We,UJ];by_cases G:pgi h.c pins[k].a=i
   .rw[Wj aa,Wj aa,Wj G,←G];simp;omega
   rw[Wg aa,Wg G,←We];omega
  have⟨e,n1,n2,Y⟩:=XhC hN hp pins z y O s n (k+1) (v.set (pgi h.c pins[k].a).toNat (v.getD (pgi h.c pins[k].a).toNat 0+pins[k].M)) aa aa (by rw[Ww];exact A) λi E=>by have:=hb i E;rw[o i E];split<;>omega
  rw[n1];have H:XhB h pins y.1 k:=λ_=>⟨w,x,aa,aa⟩
  refine⟨e,rfl,λq=>?_,λq=>Y λr=>q λj J=>?_⟩
  .obtain⟨g,Z,e2,e3⟩:=n2 λj J=>q j aa;refine⟨g,Z,e2,λi L i1=>?_⟩;rw[e3 i L i1,o i L,Wm f,Zt];omega
  by_cases I:j=k
  .rw[I];exact H
  exact r j aa
def XhD(o:h.p.length<=100000)(v:List Int)(s:v.length=h.p.length):∀(n k:Nat),k<=h.p.length->h.p.length-k<n ->
 ∃e,QbC N h v n (k:Int)=some e/\((∀i:Int,k<=i->i<(h.p.length:Int)->(pg h.p i).P=v.getD i.toNat 0)->e=.nxt ())/\((¬∀i:Int,k<=i->i<(h.p.length:Int)->(pg h.p i).P=v.getD i.toNat 0)->e=.ret false)
 |0,k,_,t=>by omega
 |n+1,k,y,t=>by
  rw[QbC];by_cases g:k<h.p.length;case neg=>
   rw[Wh aa,Wa]
   exact⟨_,rfl,λ_=>rfl,λq=>absurd (λi a b=>aa) q⟩
  have j:Xd v (k:Int)=some (v.getD k 0):=by rw[Xc,We,Wb aa];rfl
  rw[Xm g,Wc,XQ aa aa,Xa,j,Xa,Xg aa];by_cases f:(pg h.p (k:Int)).P=v.getD k 0
  .obtain⟨e,u,w,e3⟩:=XhD o v s n (k+1) aa aa;rw[show((pg h.p (k:Int)).P != v.getD k 0)=false by simpa using f,Wa,u];refine⟨e,rfl,λq=>w λi a b=>q i aa b,λq=>e3 λr=>q λi a b=>?_⟩;by_cases x:i=k
   .subst x;exact f
   exact r i aa b
  rw[Xn f];exact⟨_,rfl,λq=>absurd (q (k:Int) aa aa) f,λ_=>rfl⟩
def XaJ(hN:NB N)(hb:HB h)(pins:List UQ):Qcc N h pins=some true↔MX N h pins:=by
 have t:=hN;unfold NB at t;have u:h.p.length<=100000:=hb.2;rw[Qcc];have⟨b,eb,G⟩:=Jd hN hb;rw[eb,Xa];cases b with
 |false=>exact⟨(λe=>by cases e),λm=>by rw[(Vj hN hb).2 m.gx]at eb;cases eb⟩
 |true=>
 have gx:=(Vj hN hb).1 eb;have hp:=XL hN hb gx.ep;obtain⟨S,L,U,mS,eS,eL,rfl,mL⟩:=Xba hN hb gx.ep gx.ps;have⟨y,D,V,_,w,H,I⟩:=KN hN hb;rw[eL]at D;obtain rfl:=WT D;rw[Wl,Wa];by_cases g:pins.length<=64;case neg=>rw[Wi aa];exact⟨(λe=>by cases e),λm=>absurd m.len g⟩
 rw[Wh aa,Wa,eL,Xa,Xe aa];have f:∀i:Int,(List.replicate (h.p.length:Int).toNat (0:Int)).getD i.toNat 0=0:=λi=>by rw[We,UG];split<;>rfl
 have⟨e,J,K,e3⟩:=XhC hN hp pins g (Y7 h S,0) aa w N 0 (List.replicate (h.p.length:Int).toNat 0) aa aa ab (λi _=>by rw[f];omega);have x:Qbk N h pins (Y7 h S,0) N 0 (List.replicate (h.p.length:Int).toNat 0)=some e:=J;rw[x,Xa];have O:∀(m:(∀p∈pins,Obb h p.a/\1<=p.M/\p.M<=1000)),(pins.map (·.a)).Nodup->∀j,0<=j->XhB h pins (Y7 h S) j:=λm nd j _ o=>by have E:=m _ (Wt o);exact⟨by rw[Ub];exact(mL _).2 E.1,(Xd5 (λp:UQ=>p.a) pins).2 nd j o,E.2⟩
 by_cases q:∀j,0<=j->XhB h pins (Y7 h S) j;case neg=>
  rw[e3 q,Xs]
  exact⟨(λe=>by cases e),λm=>absurd (O m.ob m.nd) q⟩
 obtain⟨v,rfl,Q,R⟩:=K q;have⟨e',f1,f2,T⟩:=XhD (N:=N) u v Q N 0 aa aa;have z:QbC N h v N 0=some e':=f1;rw[Xo,z,Xa];have r:∀i:Int,0<=i->i<(h.p.length:Int)->v.getD i.toNat 0=Zt h.c pins i:=λi a b=>by rw[R i a b,f,WL,Int.zero_add]
 have A:∀p∈pins,Obb h p.a/\1<=p.M/\p.M<=1000:=λp hp=>by obtain⟨j,o,rfl⟩:=Wv hp;have:=q j aa o;exact⟨(mL _).1 (Yp this.1),this.2.2⟩
 have B:(pins.map (·.a)).Nodup:=(Xd5 (λp:UQ=>p.a) pins).1 λj o=>(q j aa o).2.1;by_cases s:∀i:Int,((0:Nat):Int)<=i->i<(h.p.length:Int)->(pg h.p i).P=v.getD i.toNat 0
 .rw[f2 s,Xo];exact⟨λ_=>⟨gx,g,A,B,λi a b=>(s i aa b).trans (r i a b)⟩,λ_=>rfl⟩
 rw[T s,Xs];exact⟨(λe=>by cases e),λm=>absurd (λi a b=>(m.sm i aa b).trans (r i aa b).symm) s⟩
def Xbb(hN:NB N)(ht:HT h){l:List Int}(e:l.length<=1000000)(gx:GX N h):∃b,Qb5 N h l=some b/\(b=true↔∀r∈l,r=0\/Obb h r):=by have hb:=ht.hb;obtain⟨S,L,f,mS,eS,eL,rfl,mL⟩:=Xba hN hb gx.ep gx.ps;refine⟨_,Xad hN ht aa ((Vj hN hb).2 gx) eL,?_⟩;rw[WP];refine forall_congr' λr=>imp_congr_right λ_=>?_;rw[Il,Ub,mL];simp
def Vk(hN:NB N){x:Uw}(ht:ET x):Qcd N x=some true↔VX N x:=by
 have j:1000000<N:=by unfold NB at hN;omega
 have o:=ht.eb;have u:=ZW o.loc;have w:=YD x.g.e;have y:=YD x.v.e;have z:=o.pins;have B:=o.roots;rw[Qcd];have⟨b,eb,_⟩:=V7 hN o.heap z;rw[eb,Xa];cases b with
 |false=>exact⟨(λe=>by cases e),λm=>by rw[(XaJ hN o.heap _).2 m.mx]at eb;cases eb⟩
 |true=>
 have mx:=(XaJ hN o.heap _).1 eb;simp only[Wl,Wa,Kc o.loc j,ZF o.glo j,ZF o.wea j,Yk o.glo j,Yk o.wea j,Zw o.loc j,Xa];cases el:Yn x.l with
 |false=>exact⟨(λe=>by cases e),λm=>by rw[m.loc]at el;cases el⟩
 |true=>
 cases et:X8 x.g.e with
 |false=>exact⟨(λe=>by cases e),λm=>by rw[m.glo]at et;cases et⟩
 |true=>
 cases p:X8 x.v.e with
 |false=>exact⟨(λe=>by cases e),λm=>by rw[m.wea]at p;cases p⟩
 |true=>
 rw[el,Wc]at u;rw[et,Wc]at w;rw[p,Wc]at y;simp only[Wl,Wa,Wc];rw[Ym 0 aa aa,Xa];cases t:(Xp x.g.e).contains 0 with
 |true=>exact⟨(λe=>by cases e),λm=>absurd rfl (m.gz 0 (Yp t))⟩
 |false=>
 have s:∀r∈Xp x.g.e,r≠0:=λr f e=>YR t (e▸f);rw[Wa,Xe aa,Xe aa,Xe aa,Xe aa];obtain⟨b,A,f⟩:=Xbb hN ht.ht (l:=x.R++XC x.l.S++Xp x.g.e++Xp x.v.e) ah mx.gx;rw[A,Xa,Option.some_inj,f];refine⟨λq=>⟨mx,el,et,p,s,λr f=>q r (by simp[f]),λr f=>q r (by simp[f]),λr f=>q r (by simp[f]),λr f=>q r (by simp[f])⟩,λm r f=>?_⟩;simp only[Ws]at f;rcases f with(((f|f)|f)|f)
 .exact m.rr r f
 .exact m.rl r f
 .exact m.rg r f
 exact m.rw_ r f
end
section
variable {N:Nat}{h0:Wp}{l:List Int}
def Xk2(w:W8)(i:Int)(g:w.t.length<=1000000)(hN:1000000<N):Qgn N w i=some (w.t.contains i):=by
 have h:∀(n k:Nat),k<=w.t.length->w.t.length-k<n->QcM N w i n (k:Int)=some (bif (w.t.drop k).contains i then .ret true else .nxt ()):=by
  intro n;induction n with
  |zero=>omega
  |succ n f=>
   intro k j o;by_cases h:k<w.t.length
   .rw[QcM,Xm h,Wc,Xc,Wb h,Xa,Xg aa,Wm h,List.contains_cons];by_cases e:w.t[k]=i
    .rw[Xl e,Wc,Xl e.symm,I7,Wc]
    rw[Xh e,Wa,Xh (λh=>e h.symm),U1];exact f (k+1) aa aa
   obtain rfl:k=w.t.length:=aa;rw[QcM,Xv,Wa,WN (Uu _)];rfl
 have h:=h N 0 aa aa;rw[show((0:Nat):Int)=0 from rfl,WL]at h;rw[Qgn,h,Xa];cases w.t.contains i
 .rw[Wa,Xo]
 simp[Wc,Xs]
def Prm(w:W8)(i:Int):Prop:=(0<=i/\i<w.h.p.length)/\(pg w.h.p i).k=1/\(pg w.h.p i).s≠w.h.s/\i∉w.t
def Xf2(w:W8)(a:Int):∀(n:Nat) (i:Int) (f r:List WJ),0<=i->QbG N w a n i f=some r->∀j,0<=j->(((i<=j/\j<f.length/\∀x,i<=x->x<=j->(pg f x).k=3)/\pg r j=⟨3,wI (1-w.h.s),(pg f j).u,(pg f j).P⟩)\/(¬(i<=j/\j<f.length/\∀x,i<=x->x<=j->(pg f x).k=3)/\pg r j=pg f j))
 |0,i,f,r,_,e,_,_=>by simp_all[QbG]
 |n+1,i,f,r,h0,e,j,q=>by
  rw[QbG]at e;by_cases p:f.length<=140737488355328;rotate_left
  .unfold grd at e;rw[Wg p]at e;cases e
  rw[Xe p]at e;by_cases g:i<(f.length:Int);rotate_left
  .rw[Wh g,Wa]at e;cases e;exact .inr ⟨λh=>aa,rfl⟩
  rw[Wi g,Wc,XQ h0 g,Xa,Xa]at e;by_cases o:(pg f i).k=3;rotate_left
  .rw[Xh o,Wa]at e;cases e;exact .inr ⟨λh=>o (h.2.2 i aa h.1),rfl⟩
  rw[Xl o,Wc,Xf (n:=i+1) aa aa,o]at e;have y:=λx t=>ZQ (ps:=f) (j:=x) ⟨3,wI (1-w.h.s),(pg f i).u,(pg f i).P⟩ h0 g t;have z:=Xf2 w a n (i+1) _ r aa e j q;grind
def XtQ{v:Int}(h:0<=v):Y5 .u64 v 2=v / 4:=ZN v 2 aa h
def XiD{v:Int}(f:4096<=v)(g:v<4294967296):XeL (wU (wU (4*v)+2))=true/\Y5 .u64 (wU (wU (4*v)+2)) 2=v/\tU (wU (wU (4*v)+2)):=by
 rw[Xz (n:=4*v) aa aa,Xz aa aa];have e:Y5 .u64 (4*v+2) 2=v:=by rw[XtQ aa];omega
 refine⟨?_,e,⟨aa,aa⟩⟩;unfold XeL;grind
def Xno{ws:List Int}(h:∀x∈ws,tU x)(a:Int):tU (wd ws a):=by
 unfold wd;rw[We];cases e:ws[ix a]? with
 |none=>simp
 |some x=>grind
def Xf3{v:Int}(e:tU v)(h:okH v=true):XeL v=false:=by rw[Xm3 e]at h;unfold XeL;grind
structure Se(h0:Wp)(w:W8)(qs:List WJ)(tk:List Int):Prop where
 ss:SpanS h0.c w.h.p qs
 kd:∀i,0<=i->(pg w.h.p i).k=1->(pg qs i).k=1
 pr:∀i:Int,0<=i->i<qs.length->(pg qs i).k=1->i∉tk->pg qs i=pg w.h.p i/\i∉w.t
def OV.sp{c:Uj}{ps:List WJ}(h:OV c ps):∀i,0<=i->(pg ps i).k=1->0<=(pg ps i).s/\(pg ps i).s<=1:=λi f e=>by
 by_cases g:i<ps.length
 .exact(h.hd i f g aa).sp
 unfold pg at e;rw[We,W3 aa]at e;cases e
def XsN{w:W8}(M:OV h0.c w.h.p)(Q:0<=w.h.s/\w.h.s<=1){a i:Int}{n:Nat}{y:List WJ}(R:0<=i)(S:i<w.h.p.length)(J:(pg w.h.p i).k=2)(T:y.length=w.h.p.length)(e:QbG N w a n (i+1) (w.h.p.set i.toNat ⟨(pg w.h.p i).k,wI (1-w.h.s),(pg w.h.p i).u,(pg w.h.p i).P⟩)=some y):Se h0 w y w.t:=by
 have hw:wI (1-w.h.s)=1-w.h.s:=Xf aa aa;have O:=λx z=>ZQ (ps:=w.h.p) (j:=x) ⟨(pg w.h.p i).k,wI (1-w.h.s),(pg w.h.p i).u,(pg w.h.p i).P⟩ R S z;have U:=λj E=>Xf2 w a n (i+1) _ y aa e j E;have run:∀j,0<=j->(i<j/\j<w.h.p.length/\(∀x,i<x->x<=j->(pg w.h.p x).k=3)/\pg y j=⟨3,1-w.h.s,(pg w.h.p j).u,(pg w.h.p j).P⟩)\/(¬(i<j/\j<w.h.p.length/\∀x,i<x->x<=j->(pg w.h.p x).k=3)/\pg y j=if j=i then⟨2,1-w.h.s,(pg w.h.p i).u,(pg w.h.p i).P⟩else pg w.h.p j):=λj E=>by
  have h:=U j E;rw[Ww,O j E,hw,J]at h;have eq:∀x,i<x->pg (w.h.p.set i.toNat ⟨2,1-w.h.s,(pg w.h.p i).u,(pg w.h.p i).P⟩) x=pg w.h.p x:=λx z=>by have:=O x aa;rw[J,hw]at this;rw[this,Wg aa]
  rcases h with⟨⟨G,K,A⟩,b⟩|⟨a,b⟩
  .rw[Wg (show¬j=i by omega)]at b;exact .inl ⟨aa,K,λx z o=>by rw[←eq x z];exact A x aa o,b⟩
  exact .inr ⟨λh=>a ⟨aa,h.2.1,λx z o=>by rw[eq x aa];exact h.2.2 x aa o⟩,b⟩
 refine⟨Xd0 M T (λj H I=>.inr ?_) λk m k0 kk V W Y=>?_,λj H I=>?_,λj H I jk jt=>?_⟩
 .rcases run j H with⟨G,K,A,b⟩|⟨a,b⟩
  .have:=A j G aa;rw[b,this];exact⟨rfl,rfl,rfl,.inr ⟨aa,by show 0<=1-w.h.s;omega,by show 1-w.h.s<=1;omega⟩⟩
  rw[b];by_cases q:j=i
  .rw[Wj q,q];exact⟨J.symm,rfl,rfl,.inr ⟨aa,by show 0<=1-w.h.s;omega,by show 1-w.h.s<=1;omega⟩⟩
  rw[Wg q];exact⟨rfl,rfl,rfl,.inl rfl⟩
 .have L:=M.hd k k0 aa aa;have r:=(L.k2 kk).2.2;by_cases B:k=i
  .subst B;have f:=run k k0;have g:=run (k+m) aa;have Z:∀x,k<x->x<=k+m->(pg w.h.p x).k=3:=λx z hxm=>by have:=(r (x-k) aa aa).1;rwa[show k+(x-k)=x by omega]at this
   rcases f with f|⟨_,f⟩
   .omega
   rcases g with g|⟨g,_⟩
   .rw[f,g.2.2.2,Wj rfl]
   exact absurd ⟨aa,Y,Z⟩ g
  have f:=run k k0;have g:=run (k+m) aa;have t:=r m V W;rcases f with f|⟨_,f⟩
  .have:=f.2.2.1 k f.1 aa;omega
  rw[Wg B]at f;rcases g with g|⟨_,g⟩
  .by_cases hlt:k<i
   .have:=(r (i-k) aa aa).1;rw[show k+(i-k)=i by omega]at this;omega
   have:=g.2.2.1 k aa aa;omega
  by_cases D:k+m=i
  .rw[D]at t;omega
  rw[Wg D]at g;rw[f,g];exact t.2.1
 .rcases run j H with⟨G,K,A,b⟩|⟨a,b⟩
  .have:=A j G aa;omega
  rw[b,Wg (λe=>by rw[e]at I;omega)];exact I
 grind
def XpM{w w':W8}(A:OV h0.c w.h.p)(D:0<=w.h.s/\w.h.s<=1)(B:∀j∈w.t,(pg w.h.p j).k=1){n at_ j u:Int}(M:0<=n)(o:OO h0 w n w' at_ j u):Se h0 w w'.h.p w'.t:=by
 have r:=o.rng;have t:=o.this;have f:=o.fit;have E:(pg w.h.p j).k=0\/(pg w.h.p j).k=1:=by rcases o.way with g|g;exact .inr (B j g.1);exact .inl g.1
 have hb:=A.hd j r.1 r.2 aa;have G:=hb.sp;have H:=hb.pn;refine⟨Xd0 A o.plen (λi x i1=>?_) λi m x z I J O=>?_,λi x z=>?_,λi x i1 z y=>?_⟩
 .by_cases q:i=j
  .subst q;rcases o.sp with g|g
   .rw[g.2.1,g.2.2];omega
   rw[g.1,g.2];omega
  rw[o.other i x q];omega
 .have tl:=((A.hd i x aa aa).k2 z).2.2 m I J;have K:i≠j:=λe=>by rw[e]at z;omega
  have L:i+m≠j:=λe=>by rw[e]at tl;omega
  rw[o.other i x K,o.other (i+m) aa L];omega
 .by_cases q:i=j
  .simp_all
  rw[o.other i x q];omega
 have q:i≠j:=by
  rintro rfl;rcases o.way with g|g
  .rw[g.2.1]at y;exact y g.1
  rw[g.2.1]at y;simp at y
 refine⟨o.other i x q,λh=>y ?_⟩;rcases o.way with g|g<;>rw[g.2.1]
 .exact h
 simp_all
end
def rel(M:List (Int×Int))(v e:Int):Prop:=(v=0/\e=0)\/(v,e)∈M
def cpy(h:Wp)(a:Int):Prop:=(pg h.p (pgi h.c a)).k=1/\¬(pg h.p (pgi h.c a)).P>0
def CM(h:Wp)(M:List (Int×Int)):Int->List Int->Int->Prop
 |p,[],q=>p=q
 |p,b::l,q=>b=p/\∃a,(a,b)∈M/\cpy h a/\CM h M (p+szA h.w a) l q
def CM.mono{h:Wp}{M M':List (Int×Int)}(f:∀p∈M,p∈M'):∀{l:List Int} {p q:Int},CM h M p l q->CM h M' p l q
 |[],_,_,e=>e
 |b::l,_,_,⟨e,a,g,j,o⟩=>⟨e,a,f _ g,j,o.mono f⟩
def CM.snoc{h:Wp}{M:List (Int×Int)}{a:Int}:∀{l:List Int} {p q:Int},CM h M p l q->(a,q)∈M->cpy h a->CM h M p (l++[q]) (q+szA h.w a)
 |[],p,q,e,f,g=>by have e:p=q:=e;subst e;exact⟨rfl,a,f,g,rfl⟩
 |b::l,_,_,⟨e,x,f,g,j⟩,g1,g2=>⟨e,x,f,g,j.snoc g1 g2⟩
structure JX(N:Nat)(h0:Wp)(S:List Int)(P:Int->Prop)(w:W8)(M:List (Int×Int))(D:Int->Prop):Prop where
 ci:CI h0 S w
 ss:SpanS h0.c h0.p w.h.p
 tu:∀x∈w.h.w,tU x
 ol:w.o=Y7 h0 S
 q:w.q=M.map (·.2)
 l:∀p∈M,Obb h0 p.1/\P p.1
 n1:(M.map (·.1)).Nodup
 k:∀p∈M,(p.2=p.1/\¬cpy h0 p.1)\/(cpy h0 p.1/\wd w.h.w p.1=wU (wU (4*p.2)+2)/\∃i∈w.t,Xb h0.c i 0<=p.2/\p.2+szA h0.w p.1<=Xb h0.c i (pg w.h.p i).u)
 hd:∀p∈M,wd w.h.w p.2=wd h0.w p.1
 fl:∀p∈M,∀j,0<=j->j<(hdA h0.w p.1).n->(¬D (p.2+1+j)->wd w.h.w (p.2+1+j)=wd h0.w (p.1+1+j))/\(D (p.2+1+j)->rel M (wd h0.w (p.1+1+j)) (wd w.h.w (p.2+1+j)))
 o:∀x,4096<=x->(∀p∈M,x≠p.1/\¬(p.2<=x/\x<p.2+szA h0.w p.1))->wd w.h.w x=wd h0.w x
 d:∀x,D x->∃p∈M,p.2<x/\x<p.2+szA h0.w p.1
 t:∀i∈w.t,(pg h0.p i).k=0/\(pg w.h.p i).P=0/\(pg w.h.p i).s=1-h0.s/\∃l,CM h0 M (Xb h0.c i 0) l (Xb h0.c i (pg w.h.p i).u)
 pgs:∀i,0<=i->i<(h0.p.length:Int)->i∉w.t->(pg w.h.p i).k=(pg h0.p i).k/\(pg w.h.p i).u=(pg h0.p i).u/\(pg w.h.p i).P=(pg h0.p i).P/\((pg h0.p i).k=1->(pg w.h.p i).s=if(pg h0.p i).P>0 then 1-h0.s else h0.s)/\((pg h0.p i).k=2->(pg w.h.p i).s=if Xb h0.c i 0∈M.map (·.1)then 1-h0.s else h0.s)/\((pg h0.p i).k=0->pg w.h.p i=pg h0.p i)
section
variable {N:Nat}{h0:Wp}{S:List Int}{P:Int->Prop}
structure BX(N:Nat)(h0:Wp)(S:List Int):Prop where
 gx:GX N h0
 st:Start N h0 S
 mS:∀a,a∈S↔Stt h0 a
 hp:UP h0
def XqI(hN:NB N){w:W8}(q:w.t.length<=100000)(i:Int):∃b,Qdo N w i=some b/\(b=true↔Prm w i):=by
 unfold NB at hN;rw[Qdo];by_cases j:i<0
 .rw[Wi j];exact⟨false,rfl,(λe=>by cases e),λp=>by have:=p.1.1;omega⟩
 by_cases o:i>=(w.h.p.length:Int)
 .rw[Wh j,Wi o];exact⟨false,rfl,(λe=>by cases e),λp=>by have:=p.1.2;omega⟩
 rw[Wh j,Wh o,Wa,Wa,XQ aa aa,Xa];by_cases f:(pg w.h.p i).k=1;rotate_left
 .rw[Xh f];exact⟨false,rfl,(λe=>by cases e),λp=>absurd p.2.1 f⟩
 by_cases g:(pg w.h.p i).s=w.h.s
 .rw[Xl f,show((pg w.h.p i).s != w.h.s)=false by simpa using g];exact⟨false,rfl,(λe=>by cases e),λp=>absurd g p.2.2.1⟩
 rw[Xl f,Xn g,Wc,Wc,Xk2 w i aa aa,Xa];refine⟨_,rfl,?_⟩;rw[UE];exact⟨λe=>⟨⟨aa,aa⟩,f,g,YR e⟩,λp=>by rw[←In,Ub];exact p.2.2.2⟩
def BX.at_(B:BX N h0 S){a:Int}(h:Obb h0 a):I5 h0 a/\a∈S/\0<=pgi h0.c a/\pgi h0.c a<h0.p.length/\4096<=a:=by have e:=h.1.at_ B.hp;have q:=Yv B.hp.conf e.rng;have:=B.hp.pages;exact⟨e,(B.mS a).2 h.1,q.2.1,aa,e.rng.1⟩
variable {w:W8}{M:List (Int×Int)}{D:Int->Prop}
def JQ{ws e:List Int}{a b:Int}(h:wd ws a=wd e b):szA ws a=szA e b:=by unfold szA hdA;rw[h]
def JX.geo(J:JX N h0 S P w M D){O:Int->Prop}{s:Int->Int}(e:OJ h0 S w O s){p:Int×Int}(hp:p∈M):O p.2/\szA h0.w p.1<=s p.2:=by have f:=e.queue p.2 (by rw[J.q];exact WG.2 ⟨p,hp,rfl⟩);have g:=(e.fit p.2 f).2.2.2;rw[JQ (J.hd p hp)]at g;exact⟨f,g⟩
def JX.tk(J:JX N h0 S P w M D)(B:BX N h0 S){i:Int}(e:i∈w.t):0<=i/\i<h0.p.length/\(pg w.h.p i).k=1/\0<=(pg w.h.p i).u/\(pg w.h.p i).u<=h0.c.W:=by have f:=J.ci.tk i e;have g:=J.ci.plen;omega
def JX.q_old(J:JX N h0 S P w M D)(B:BX N h0 S){a:Int}(j:Obb h0 a){p:Int×Int}(hp:p∈M)(e:p.2=a):p=(a,a):=by
 rcases J.k p hp with⟨k,_⟩|⟨_,_,i,g,k1,k2⟩
 .exact Prod.ext (by rw[←k,e]) e
 exfalso;have t:=J.tk B g;have r:=(XJ h0.w p.1).2.1;have f:=(B.at_ j).1;have s:Xb h0.c i 0=4096+i*h0.c.W+0:=rfl;have x:Xb h0.c i (pg w.h.p i).u=4096+i*h0.c.W+(pg w.h.p i).u:=rfl;have:=(Yu (c:=h0.c) B.hp.conf (p:=i) (o:=a-Xb h0.c i 0) aa aa).1;rw[show Xb h0.c i (a-Xb h0.c i 0)=a by unfold Xb;omega]at this;have q:=f.kind;rw[this]at q;have:=(J.t i g).1;omega
def JX.fn(J:JX N h0 S P w M D){p q:Int×Int}(hp:p∈M)(o:q∈M)(e:p.1=q.1):p=q:=by
 have h:=J.n1;rw[List.Nodup,Iv,Uf]at h;obtain⟨i,f,rfl⟩:=Wv hp;obtain⟨j,g,rfl⟩:=Wv o;rcases IR i j with l|l|l
 .exact absurd e (h i j f g l)
 .subst l;rfl
 exact absurd e.symm (h j i g f l)
def JX.inj(J:JX N h0 S P w M D){p q:Int×Int}(hp:p∈M)(o:q∈M)(e:p.2=q.2):p=q:=by
 have h:=J.ci.qnd;rw[J.q,List.Nodup,Iv,Uf]at h;obtain⟨i,f,rfl⟩:=Wv hp;obtain⟨j,g,rfl⟩:=Wv o;rcases IR i j with l|l|l
 .exact absurd e (h i j f g l)
 .subst l;rfl
 exact absurd e.symm (h j i g f l)
def JX.same(J:JX N h0 S P w M D)(B:BX N h0 S){a:Int}(j:Obb h0 a)(r:a∉M.map (·.1)){x:Int}(y:a<=x)(z:x<a+szA h0.w a):wd w.h.w x=wd h0.w x:=by
 obtain⟨O,s,f⟩:=J.ci.obj;have t:=B.at_ j;have q:=f.old a t.2.1;refine J.o x aa λp hp=>?_;have g:=J.geo f hp;have u:=B.at_ (J.l p hp).1;have ol:=f.old p.1 u.2.1;have n1:p.1≠a:=λe=>r (WG.2 ⟨p,hp,e⟩);have n2:p.2≠a:=λe=>by have:=J.q_old B j hp e;exact n1 (by rw[this])
 have A:=f.apart p.1 a ol.1 q.1 n1;have E:=f.apart p.2 a g.1 q.1 n2;have:=(XJ h0.w p.1).2.1;refine⟨?_,?_⟩<;>omega
def JX.prm(J:JX N h0 S P w M D)(B:BX N h0 S){a:Int}(g:Obb h0 a):pgi h0.c a∉w.t/\(Prm w (pgi h0.c a)↔(pg h0.p (pgi h0.c a)).k=1/\(pg h0.p (pgi h0.c a)).P>0):=by
 have f:=B.at_ g;have s:=f.1.kind;have e:pgi h0.c a∉w.t:=λh=>by have:=(J.t _ h).1;omega
 have p:=J.pgs _ f.2.2.1 f.2.2.2.1 e;have j:=B.hp.space;have o:=J.ci.plen;refine⟨e,λq=>?_,λq=>?_⟩
 .have k1:(pg h0.p (pgi h0.c a)).k=1:=by rw[←p.1];exact q.2.1
  refine⟨k1,?_⟩;have:=q.2.2.1;rw[p.2.2.2.1 k1,J.ci.spc]at this;apply Classical.byContradiction;intro r;rw[Wg r]at this;exact this rfl
 refine⟨⟨f.2.2.1,aa⟩,by rw[p.1];exact q.1,?_,e⟩;rw[p.2.2.2.1 q.1,J.ci.spc,Wj q.2];omega
def JX.keep(J:JX N h0 S P w M D)(B:BX N h0 S){a:Int}(I:Obb h0 a)(hP:P a)(Q:a∉M.map (·.1))(hc:¬cpy h0 a){A:List WJ}(hs:SpanS h0.c h0.p A)(R:∀i,0<=i->i<(h0.p.length:Int)->(i≠pgi h0.c a\/(pg h0.p i).k≠2)->(pg h0.p i).k≠3->pg A i=pg w.h.p i)(h3:∀i,0<=i->i<(h0.p.length:Int)->i∉w.t->(pg A i).k=(pg h0.p i).k/\(pg A i).u=(pg h0.p i).u/\(pg A i).P=(pg h0.p i).P)(Y:(pg h0.p (pgi h0.c a)).k=2->(pg A (pgi h0.c a)).s=1-h0.s){w':W8}(T:w'.h.p=A)(K:w'.h.w=w.h.w)(e3:w'.t=w.t)(e4:w'.q=w.q++[a])(e5:w'.o=w.o)(ci:CI h0 S w'):JX N h0 S P w' (M++[(a,a)]) D:=by
 obtain⟨O,s,Z⟩:=J.ci.obj;have U:=B.at_ I;have oa:=Z.old a U.2.1;have V:∀p∈M,p∈M++[(a,a)]:=λp hp=>WX _ hp;have hk:=U.1.kind;have pt:∀i∈w.t,pg A i=pg w.h.p i:=λi r=>by have t:=J.tk B r;have:=(J.t i r).1;exact R i t.1 t.2.1 (.inr aa) aa
 refine⟨ci,by rw[T];exact hs,by rw[K];exact J.tu,by rw[e5];exact J.ol,?_,λp hp=>?_,?_,λp hp=>?_,λp hp=>?_,λp hp j j0 W=>?_,λx h0x G=>?_,λx G=>?_,λi r=>?_,λi H i1 r=>?_⟩
 .rw[e4,J.q,UV];rfl
 .rcases Ws.1 hp with hp|hp
  .exact J.l p hp
  rw[WM.1 hp];exact⟨I,hP⟩
 .rw[UV,U6];refine⟨J.n1,ab,λx G y hy e=>?_⟩;simp only[UA,U9,WM]at hy;rw[e,hy]at G;exact Q G
 .rw[T,K,e3];rcases Ws.1 hp with hp|hp
  .rcases J.k p hp with k|⟨k1,k2,i,r,k3⟩
   .exact .inl k
   exact .inr ⟨k1,k2,i,r,by rw[pt i r];exact k3⟩
  rw[WM.1 hp];exact .inl ⟨rfl,hc⟩
 .rw[K];rcases Ws.1 hp with hp|hp
  .exact J.hd p hp
  rw[WM.1 hp];exact J.same B I Q (Uo _) (by have:=(XJ h0.w a).2.1;omega)
 .rw[K];rcases Ws.1 hp with hp|hp
  .have f:=J.fl p hp j j0 W;exact⟨f.1,λh=>(f.2 h).imp id (V _)⟩
  rw[WM.1 hp]at W⊢;refine⟨λ_=>J.same B I Q (by show a<=a+1+j;omega) (by show a+1+j<_;unfold szA;dsimp only at W;omega),λh=>?_⟩;exfalso;obtain⟨p',E,d1,d2⟩:=J.d _ h;have g:=J.geo Z E;have n2:p'.2≠a:=λe=>Q (by have:=J.q_old B I E e;exact WG.2 ⟨p',E,by rw[this]⟩);have a2:=Z.apart p'.2 a g.1 oa.1 n2;have:szA h0.w a=(hdA h0.w a).n+1:=rfl;dsimp only at d1 d2 W;omega
 .rw[K];exact J.o x h0x λp hp=>G p (V p hp)
 .obtain⟨p,hp,h⟩:=J.d x G;exact⟨p,V p hp,h⟩
 .rw[e3]at r;have t:=J.t i r;obtain⟨l,Y⟩:=t.2.2.2;rw[T,pt i r];exact⟨t.1,t.2.1,t.2.2.1,l,Y.mono V⟩
 rw[e3]at r;have p:=J.pgs i H i1 r;have p3:=h3 i H i1 r;rw[T];refine⟨p3.1,p3.2.1,p3.2.2,λk1=>?_,λk2=>?_,λk0=>?_⟩
 .rw[R i H i1 (.inr aa) aa];exact p.2.2.2.1 k1
 .have lg:∀L,0<=L->Xb h0.c L 0=a->L=pgi h0.c a:=λL h e=>by have hv:=Xi.1 B.hp.conf;have:=(Yu (c:=h0.c) B.hp.conf (p:=L) (o:=0) aa aa).1;rw[←this,e]
  by_cases z:i=pgi h0.c a
  .rw[z,Y (by rw[←z];exact k2),Wj];rw[UV,Ws];right;have:=(U.1.large (by rw[←z];exact k2)).1;have e:=(Yv B.hp.conf U.1.rng).1;rw[this]at e;rw[←e];simp
  rw[R i H i1 (.inl z) aa,p.2.2.2.2.1 k2];congr 1;rw[UV,Ws];apply propext;refine⟨.inl,λh=>?_⟩;rcases h with h|h
  .exact h
  simp only[UA,U9,WM]at h;exact absurd (lg i H h) z
 rw[R i H i1 (.inr aa) aa];exact p.2.2.2.2.2 k0
end
section
variable {N:Nat}{h0:Wp}{S:List Int}{P:Int->Prop}{w:W8}{M:List (Int×Int)}{D:Int->Prop}
def JX.copy(J:JX N h0 S P w M D)(B:BX N h0 S){a:Int}(ha:Obb h0 a)(hP:P a)(hn:a∉M.map (·.1))(hc:cpy h0 a){w1:W8}{n at_ j u:Int}(en:n=szA h0.w a)(E:OO h0 w n w1 at_ j u)(hs:SpanS h0.c h0.p w1.h.p){w':W8}(e1:w'.h.p=w1.h.p)(e2:w'.h.w=(ovr w.h.w ((w.h.w.drop (ix a)).take n.toNat) (ix at_)).set (ix a) (wU (wU (4*at_)+2)))(e3:w'.t=w1.t)(e4:w'.q=w.q++[at_])(e5:w'.o=w.o)(ci:CI h0 S w'):JX N h0 S P w' (M++[(a,at_)]) D/\4096<=at_:=by
 obtain⟨O,s,I⟩:=J.ci.obj;have hA:=B.at_ ha;have oa:=I.old a hA.2.1;have V:∀p∈M,p∈M++[(a,at_)]:=λp hp=>WX _ hp;have H:∀x,a<=x->x<a+n->wd w.h.w x=wd h0.w x:=λx Y L=>J.same B ha hn Y aa;have hz:=(XJ h0.w a).2;have en':n=szA w.h.w a:=by rw[en];exact(JQ (H a (Uo _) aa)).symm
 obtain⟨i1,i2,away,fresh,Q,hwd⟩:=Xij B.hp J.ci I hA.2.1 en' aa E (wU (wU (4*at_)+2));have L:∀x,4096<=x->wd w'.h.w x=if x=a then wU (wU (4*at_)+2)else if at_<=x/\x<at_+n then wd w.h.w (a+(x-at_))else wd w.h.w x:=λx z=>by rw[e2];exact hwd x z
 have ef:=I.fit a oa.1;have hpl:=J.ci.plen;have hpl0:=B.hp.pages;have hwl:=J.ci.wlen;have hw0:=B.hp.words;have r:=E.rng;have hm:=XV B.hp.conf (i:=j) r.1 aa;have hat0:at_=4096+j*h0.c.W+u:=E.addr;have hft:=E.fit;have nea:a≠at_:=λe=>fresh (e▸oa.1);have rgn:∀x,O x->∀y,x<=y->y<x+s x->¬(at_<=y/\y<at_+n):=λx z y Y L=>by have:=Q x z;omega
 have K:∀x,O x->∀y,x<=y->y<x+s x->y≠a->wd w'.h.w y=wd w.h.w y:=λx z y Y Z h3=>by have:=I.fit x z;rw[L y aa,Wg h3,Wg (rgn x z y Y Z)]
 have nq:∀p∈M,p.2≠a:=λp hp e=>hn (by have:=J.q_old B ha hp e;exact WG.2 ⟨p,hp,by rw[this]⟩);have np:∀p∈M,p.1≠a:=λp hp e=>hn (WG.2 ⟨p,hp,e⟩);have nra:∀p∈M,∀y,p.2<=y->y<p.2+szA h0.w p.1->y≠a:=λp hp y Y Z e=>by have g:=J.geo I hp;have:=I.apart p.2 a g.1 oa.1 (nq p hp);omega
 have R:∀d,1<=d->d<n->wd w'.h.w (at_+d)=wd h0.w (a+d):=λd d1 d2=>by
  have:at_+d≠a:=λe=>by have:=Q a oa.1;have:=ef.2.2.2;omega
  rw[L _ aa,Wg this,Wj ⟨aa,aa⟩,show a+(at_+d-at_)=a+d by omega];exact H _ aa aa
 have hj:∀i∈w1.t,i=j\/i∈w.t/\i≠j:=λi A=>by
  by_cases G:i=j
  .exact .inl G
  right;refine⟨?_,G⟩;rcases E.way with⟨_,g2,_⟩|⟨_,g2,_⟩
  .rwa[g2]at A
  rw[g2]at A;rcases Ws.1 A with A|A
  .exact A
  exact absurd (WM.1 A) G
 have hjt:j∈w1.t:=by
  rcases E.way with⟨g1,g2,_⟩|⟨_,g2,_⟩
  .rw[g2];exact g1
  rw[g2];simp
 have htt:∀i∈w.t,i∈w1.t:=λi A=>by
  rcases E.way with⟨_,g2,_⟩|⟨_,g2,_⟩
  .rw[g2];exact A
  rw[g2];exact WX _ A
 have T:=E.this;have hso:=E.sp;refine⟨⟨ci,by rw[e1];exact hs,?_,by rw[e5];exact J.ol,?_,λp hp=>?_,?_,λp hp=>?_,λp hp=>?_,λp hp k k0 k1=>?_,λx h0x z=>?_,λx z=>?_,λi A=>?_,λi i0 i1 A=>?_⟩,aa⟩
 .intro x z;rw[e2]at z;rcases W7 z with z|z
  .unfold ovr at z;simp only[Ws]at z;rcases z with(z|z)|z
   .exact J.tu x (Uc z)
   .exact J.tu x (Ud (Uc z))
   exact J.tu x (Ud z)
  rw[z];exact J9 _
 .rw[e4,J.q,UV];rfl
 .rcases Ws.1 hp with hp|hp
  .exact J.l p hp
  rw[WM.1 hp];exact⟨ha,hP⟩
 .rw[UV,U6];refine⟨J.n1,ab,λx z y hy e=>?_⟩;simp only[UA,U9,WM]at hy;rw[e,hy]at z;exact hn z
 .rw[e1,e3];rcases Ws.1 hp with hp|hp
  .rcases J.k p hp with k|⟨k1,k2,i,A,k3,k4⟩
   .exact .inl k
   refine .inr ⟨k1,?_,i,htt i A,k3,?_⟩
   .have hp1:=B.at_ (J.l p hp).1;have op:=I.old p.1 hp1.2.1;rw[K p.1 op.1 p.1 (Uo _) (by have:=(I.fit p.1 op.1).2.1;omega) (np p hp)];exact k2
   have t:=J.tk B A;by_cases G:i=j
   .subst G;rw[T.2];rcases E.way with⟨_,_,g⟩|⟨g,_,_⟩
    .have e5':Xb h0.c i (pg w.h.p i).u=4096+i*h0.c.W+(pg w.h.p i).u:=rfl;have e6:Xb h0.c i (u+n)=4096+i*h0.c.W+(u+n):=rfl;omega
    omega
   rw[E.other i t.1 G];exact k4
  rw[WM.1 hp];refine .inr ⟨hc,by rw[L a hA.2.2.2.2,Wj rfl],j,hjt,?_,?_⟩
  .have e7:Xb h0.c j 0=4096+j*h0.c.W+0:=rfl;show _<=at_;omega
  rw[T.2];have e6:Xb h0.c j (u+n)=4096+j*h0.c.W+(u+n):=rfl;show at_+szA h0.w a<=_;omega
 .rcases Ws.1 hp with hp|hp
  .have g:=J.geo I hp;have:=(XJ h0.w p.1).2.1;rw[K p.2 g.1 p.2 (Uo _) aa (nq p hp)];exact J.hd p hp
  rw[WM.1 hp];show wd w'.h.w at_=_;rw[L _ aa,Wg (λe=>nea e.symm),Wj ⟨aa,aa⟩,show a+(at_-at_)=a by omega];exact H a (Uo _) aa
 .rcases Ws.1 hp with hp|hp
  .have f:=J.fl p hp k k0 k1;have g:=J.geo I hp;have ez:szA h0.w p.1=(hdA h0.w p.1).n+1:=rfl;rw[K p.2 g.1 (p.2+1+k) aa aa (nra p hp _ aa aa)];exact⟨f.1,λh=>(f.2 h).imp id (V _)⟩
  rw[WM.1 hp]at k1⊢;dsimp only at k1⊢;have ez:szA h0.w a=(hdA h0.w a).n+1:=rfl;refine⟨λ_=>?_,λh=>?_⟩
  .have:=R (1+k) aa aa;rw[show at_+1+k=at_+(1+k) by omega,show a+1+k=a+(1+k) by omega];exact this
  exfalso;obtain⟨p',hp',d1,d2⟩:=J.d _ h;have g:=J.geo I hp';have:=Q p'.2 g.1;omega
 .have hx':=z (a,at_) ab;dsimp only at hx';rw[L x h0x,Wg hx'.1,Wg aa];exact J.o x h0x λp hp=>z p (V p hp)
 .obtain⟨p,hp,h⟩:=J.d x z;exact⟨p,V p hp,h⟩
 .rw[e3]at A;rw[e1];rcases hj i A with rfl|⟨hi1,hi2⟩
  .rw[T.2];have ea:Xb h0.c i (u+n)=at_+szA h0.w a:=by rw[E.addr,←en];unfold Xb;omega
   rw[ea];have mem:(a,at_)∈M++[(a,at_)]:=by simp
   rcases E.way with⟨g1,g2,g3⟩|⟨g1,g2,g3⟩
   .have t:=J.t i g1;obtain⟨l,U⟩:=t.2.2.2;have U:=(U.mono V)
    rw[←g3,←E.addr]at U;have sp:(pg w1.h.p i).P=0/\(pg w1.h.p i).s=1-h0.s:=by
     rcases hso with⟨_,s1,s2⟩|⟨s1,s2⟩
     .rw[s1,s2];exact⟨t.2.1,t.2.2.1⟩
     rw[s1,s2,J.ci.spc];exact⟨rfl,rfl⟩
    exact⟨t.1,sp.1,sp.2,l++[at_],U.snoc mem hc⟩
   have hnt:i∉w.t:=λh=>by have:=(J.ci.tk i h).2.2.1;omega
   have k0:=(J.pgs i r.1 aa hnt).1;have sp:(pg w1.h.p i).P=0/\(pg w1.h.p i).s=1-h0.s:=by
    rcases hso with⟨s0,_⟩|⟨s1,s2⟩
    .exact absurd s0 hnt
    rw[s1,s2,J.ci.spc];exact⟨rfl,rfl⟩
   refine⟨aa,sp.1,sp.2,[at_],?_,a,mem,hc,?_⟩
   .rw[E.addr,g3]
   show Xb h0.c i 0+szA h0.w a=_;rw[E.addr,g3]
  have t:=J.t i hi1;have t':=J.tk B hi1;obtain⟨l,U⟩:=t.2.2.2;rw[E.other i t'.1 hi2];exact⟨t.1,t.2.1,t.2.2.1,l,U.mono V⟩
 rw[e3]at A;have G:i≠j:=λe=>A (e▸hjt);have p:=J.pgs i i0 i1 λh=>A (htt i h);rw[e1,E.other i i0 G];refine⟨p.1,p.2.1,p.2.2.1,p.2.2.2.1,λk2=>?_,p.2.2.2.2.2⟩;rw[p.2.2.2.2.1 k2];congr 1;rw[UV,Ws];apply propext;refine⟨.inl,λh=>?_⟩;rcases h with h|h
 .exact h
 simp only[UA,U9,WM]at h;have hv:=Xi.1 B.hp.conf;have:=(Yu (c:=h0.c) B.hp.conf (p:=i) (o:=0) aa aa).1;rw[h]at this;rw[←this]at k2;have:=hc.1;omega
end
section
variable {N:Nat}{h0:Wp}{S:List Int}{P:Int->Prop}{w:W8}{M:List (Int×Int)}{D:Int->Prop}
def KO{M:List (Int×Int)}{a:Int}(h:a∈M.map (·.1)):∃b,(a,b)∈M:=by obtain⟨p,hp,e⟩:=WG.1 h;exact⟨p.2,by rw[←e];exact hp⟩
def XcW{M:List (Int×Int)}{a b:Int}(h:(a,b)∈M):a∈M.map (·.1):=WG.2 ⟨(a,b),h,rfl⟩
def JX.rng(J:JX N h0 S P w M D)(B:BX N h0 S){p:Int×Int}(hp:p∈M):4096<=p.2/\p.2<=100000:=by obtain⟨O,s,e⟩:=J.ci.obj;have g:=e.fit _ (J.geo e hp).1;have:=J.ci.wlen;have hw:=B.hp.words;have f:=Xi.1 B.hp.conf;have j:=XV B.hp.conf (i:=0) aa aa;omega
def XqJ(hN:NB N)(B:BX N h0 S)(J:JX N h0 S P w M D){a:Int}(H:a=0\/Obb h0 a/\P a):Ok (Qce N w a) λr=>r.2.2=3\/(r.2.2=0/\∃M',JX N h0 S P r.1 M' D/\(∃t,M'=M++t)/\rel M' a r.2.1/\r.1.d=w.d):=by
 have hN':=hN;unfold NB at hN';have hs:=B.st;have hb:=hs.hb;have hp:=B.hp;have z:=J.ci;obtain⟨O,s,ho⟩:=J.ci.obj;have⟨r,er,hr⟩:=Xa6 hN hs z ho a;suffices main:Ok (Qce N w a) λr=>r.2.2=3\/(r.2.2=0/\(CI h0 S r.1->∃M',JX N h0 S P r.1 M' D/\(∃t,M'=M++t)/\rel M' a r.2.1)) by
  obtain⟨r',er',h⟩:=main;rw[er]at er';obtain rfl:=WT er';refine⟨r,er,?_⟩;rcases h with h|⟨h1,h2⟩
  .exact .inl h
  obtain⟨M',m1,m2,m3⟩:=h2 (hr h1).ci;exact .inr ⟨h1,M',m1,m2,m3,(hr h1).sc⟩
 have hql:=z.ql hb;have U:=z.wl hb;have hww:=z.wlen;have hpl:=z.plen;have hb2:=hb.2;rw[Qce];by_cases hz:a=0
 .rw[Xl hz,Wc];exact Wd (.inr ⟨rfl,λ_=>⟨M,J,⟨[],ab⟩,.inl ⟨hz,hz⟩⟩⟩)
 obtain⟨H,hP⟩:=H.resolve_left hz;have A:=B.at_ H;have I:=A.1;rw[Xh hz,Wa,Ym a aa aa,Xa];cases hq:w.q.contains a with
 |true=>rw[Wc];have hm:=Yp hq;rw[J.q]at hm;obtain⟨p,hpm,e⟩:=WG.1 hm;have:=J.q_old B H hpm e;exact Wd (.inr ⟨rfl,λ_=>⟨M,J,⟨[],ab⟩,.inr (by rw[←this];exact hpm)⟩⟩)
 |false=>
 have hq:=YR hq;have hal:a∈w.o:=by rw[J.ol];unfold Y7;rw[W6];exact⟨A.2.1,by simp[Kv,fnd,H.2]⟩
 have hol:=z.old.length_le;have hsl:=hs.st.len;have hin:inW w.h.w a:=by have:=I.rng;have:=hp.words;unfold inW;omega
 rw[Wa,Ym a aa aa,Xa,show w.o.contains a=true by simp[hal],Wl,Wa,YX U,Xa,Wj hin,Xau,Xa];have etw:w.h.w.getD (ix a) 0=wd w.h.w a:=rfl;rw[etw];by_cases hn:a∈M.map (·.1)
 ·
  obtain⟨b,K⟩:=KO hn;have hr:=J.rng B K;rcases J.k _ K with⟨k,_⟩|⟨_,k,_⟩
  .exfalso;apply hq;rw[J.q];exact WG.2 ⟨(a,b),K,k⟩
  have f:=XiD (v:=b) aa aa;have k:wd w.h.w a=wU (wU (4*b)+2):=k;rw[k,f.1,f.2.1];exact Wd (.inr ⟨rfl,λ_=>⟨M,J,⟨[],ab⟩,.inr K⟩⟩)
 have hsm:=J.same B H hn (x:=a) (Uo _) (by have:=(XJ h0.w a).2.1;omega);have hf:=Xf3 (Xno J.tu a) (by rw[hsm];exact I.ok);have hof:QcI N w.h.c a=some (pgi h0.c a,pgo h0.c a,0):=by rw[VK,z.conf,hp.conf,Wg ab,Wj I.rng];rfl
 rw[hf,Wg ab,Wa,hof,Xa,show((0:Int) != 0)=false from rfl,Wa,Wh aa,Wa];have E:=J.prm B H;have L:=J.pgs _ A.2.2.1 A.2.2.2.1 E.1;obtain⟨b,eb,hbp⟩:=XqI hN (z.tl hb) (pgi h0.c a);have R:=B.hp.space;have hwsp:wI (1-w.h.s)=1-h0.s:=by rw[z.spc,Xf aa aa]
 rw[eb,Xa];have hk12:=I.kind;cases b with
 |true=>have hpin:=E.2.1 (hbp.1 rfl);rw[Wc,QdC,Xe aa,Xe aa,Xa];refine Wd (.inr ⟨rfl,λci=>⟨M++[(a,a)],?_,⟨_,rfl⟩,.inr ab⟩⟩);exact J.keep B H hP hn (λc=>c.2 hpin.2) J.ss (λi _ _ _ _=>rfl) (λi g i1 T=>⟨(J.pgs i g i1 T).1,(J.pgs i g i1 T).2.1,(J.pgs i g i1 T).2.2.1⟩) (λh2=>aa) rfl rfl rfl rfl rfl ci
 |false=>
 have hnp:¬((pg h0.p (pgi h0.c a)).k=1/\(pg h0.p (pgi h0.c a)).P>0):=λh=>by have:=hbp.2 (E.2.2 h);cases this
 rw[Wa,XQ A.2.2.1 aa,Xa];by_cases Q:(pg h0.p (pgi h0.c a)).k=2
 .rw[Xl (L.1.trans Q),Wc,Xe aa,Xa,Xf (n:=pgi h0.c a+1) aa aa];have G:OV h0.c w.h.p:=by have h:=J.ss.proper hN hb B.gx.ep (ws:=h0.w) rfl (b:=-1) (.inl rfl);exact Xcg hN (h:=⟨h0.c,h0.w,w.h.p,h0.s,-1⟩) ⟨hb.1,by rw[J.ss.1];exact hb.2⟩ h
  refine WQ (Xii w a (ps:=w.h.p) aa N (pgi h0.c a+1) _ aa aa aa ((SameK.refl _).set A.2.2.1 aa _ _)) λqs eqs hqs=>?_;have hrun:=XsN (w:=w) G (by rw[z.spc];exact R) A.2.2.1 aa (L.1.trans Q) hqs.1 eqs;have V:=λj hj=>Xf2 w a N (pgi h0.c a+1) _ qs aa eqs j hj;have e2:=λx hx=>ZQ (ps:=w.h.p) (j:=x) ⟨(pg w.h.p (pgi h0.c a)).k,wI (1-w.h.s),(pg w.h.p (pgi h0.c a)).u,(pg w.h.p (pgi h0.c a)).P⟩ A.2.2.1 aa hx;rw[Ww]at V;have hpq:∀i,0<=i->(pg w.h.p i).k≠3->pg qs i=if i=pgi h0.c a then⟨(pg w.h.p (pgi h0.c a)).k,wI (1-w.h.s),(pg w.h.p (pgi h0.c a)).u,(pg w.h.p (pgi h0.c a)).P⟩else pg w.h.p i:=λi g hk=>by
   rcases V i g with⟨⟨a1,a2,a3⟩,_⟩|⟨_,b⟩
   .exfalso;have:=a3 i a1 (Uo _);rw[e2 i g,Wg aa]at this;exact hk this
   rw[b,e2 i g]
  have hp3:∀i,0<=i->(pg qs i).u=(pg w.h.p i).u/\(pg qs i).k=(pg w.h.p i).k/\(pg qs i).P=(pg w.h.p i).P:=λi g=>by have hk:=hqs.2 i g;refine⟨hk.2,hk.1,?_⟩;rcases V i g with⟨_,b⟩|⟨_,b⟩<;>rw[b,e2 i g]<;>split<;>(try rename_i h;subst h)<;>rfl
  rw[QdC,Xe (by show w.q.length*8<=_;omega),Xe (by show(w.q.length+1)*8<=_;omega),Xa];refine Wd (.inr ⟨rfl,λci=>⟨M++[(a,a)],?_,⟨_,rfl⟩,.inr ab⟩⟩);have kk:∀i,0<=i->i<(h0.p.length:Int)->(pg h0.p i).k≠3->(pg w.h.p i).k≠3:=λi g i1 h=>by
   by_cases T:i∈w.t
   .rw[(J.tk B T).2.2.1];omega
   rw[(J.pgs i g i1 T).1];exact h
  exact J.keep B H hP hn (λc=>by have:=c.1;omega) (J.ss.trans hrun.ss) (λi g i1 h1 h2=>by
   rw[hpq i g (kk i g i1 h2),Wg]
   rintro rfl
   rcases h1 with h|h
   .exact h rfl
   .exact h Q)
   (λi g i1 T=>by have q:=hp3 i g;have p:=J.pgs i g i1 T;exact⟨q.2.1.trans p.1,q.1.trans p.2.1,q.2.2.trans p.2.2.1⟩)
   (λ_=>by rw[hpq _ A.2.2.1 (by rw[L.1];omega),Wj rfl];exact hwsp) rfl rfl rfl rfl rfl ci
 have W:(pg h0.p (pgi h0.c a)).k=1:=aa;rw[Xh (by rw[L.1];exact Q),Wa];have hcp:cpy h0 a:=⟨W,λh=>hnp ⟨W,h⟩⟩
 have hsz:=(hs.good (List.ne_nil_of_mem A.2.1)).sz hs.st A.2.1 W;have Y:=XJ w.h.w a;have esz:szA w.h.w a=szA h0.w a:=JQ hsm;have hvc:=Xi.1 hp.conf;rw[K9,Xa,Yr,Xa];have e1:Xy (Z0 (wd w.h.w a))=szA w.h.w a:=Y.1;rw[e1];refine WQ (Xg0 hN hb hp z (n:=szA w.h.w a) Y.2.1 aa) λy ey hy=>?_;cases hy2:y.2.2 with
 |false=>exact Wd (.inl rfl)
 |true=>
 obtain⟨j,u,pq⟩:=hy hy2;have cw:=Xij hp z ho A.2.1 rfl Y.2.1 pq (wU (wU (4*y.2.1)+2));obtain⟨i1,i2,_⟩:=cw;rw[Wl,Wa,pq.words];have en:szA w.h.w a=(((szA w.h.w a).toNat:Nat):Int):=aa;have hmv:=Xjd (N:=N) U y.2.1 a (szA w.h.w a).toNat aa aa;rw[←en,Wj ⟨i1,i2⟩]at hmv;have ol:=XcP i1 i2;have hr1:y.2.1<4294967296:=by have:=i2.2;have:=hb.1;omega
 rw[hmv,Xa,Xdu,Xa,Wg aa];rw[Vb (by rw[ol];exact U) aa,Xa];have hin2:inW (ovr w.h.w ((w.h.w.drop (ix a)).take (szA w.h.w a).toNat) (ix y.2.1)) a:=by unfold inW;rw[ol];exact hin
 rw[Wj hin2];have Z:=pq.queue;have G:OV h0.c w.h.p:=by have h:=J.ss.proper hN hb B.gx.ep (ws:=h0.w) rfl (b:=-1) (.inl rfl);exact Xcg hN (h:=⟨h0.c,h0.w,w.h.p,h0.s,-1⟩) ⟨hb.1,by rw[J.ss.1];exact hb.2⟩ h
 have hpc:=XpM G (by rw[z.spc];exact R) (λj hj=>(z.tk j hj).2.2.1) aa pq;refine Uk (by rw[Z];omega) (Uk (by rw[Z];omega) (Wd (.inr ⟨rfl,λci=>⟨M++[(a,y.2.1)],?_,⟨_,rfl⟩,.inr ab⟩⟩)));exact(J.copy B H hP hn hcp esz pq (J.ss.trans hpc.ss) (by rfl) (by rfl) (by rfl) (by rw[←Z]) (by exact pq.old) ci).1
end
def R2{α β:Type}(r:α->β->Prop)(l:List α)(m:List β):Prop:=m.length=l.length/\∀(k:Nat) (a:α) (b:β),l[k]? = some a->m[k]? = some b->r a b
section
variable {α β:Type}{r s:α->β->Prop}{l:List α}{m:List β}{a:α}{b:β}
def R2.nil(r:α->β->Prop):R2 r [] []:=⟨rfl,λk a b h=>by simp at h⟩
def R2.mono(h:R2 r l m)(e:∀a b,r a b->s a b):R2 s l m:=⟨h.1,λk a b x y=>e a b (h.2 k a b x y)⟩
def R2.mono_mem(h:R2 r l m)(e:∀a∈l,∀b∈m,r a b->s a b):R2 s l m:=⟨h.1,λk a b x y=>e a (WW x) b (WW y) (h.2 k a b x y)⟩
def R2.app{g:List α}{j:List β}(h:R2 r l m)(o:R2 r g j):R2 r (l++g) (m++j):=by
 refine⟨by simp[h.1,o.1],λk x y e f=>?_⟩;by_cases p:k<l.length
 .rw[WU p]at e;rw[WU (by rw[h.1];exact p)]at f;exact h.2 k x y e f
 rw[Ug aa]at e;rw[Ug (by rw[h.1];omega),h.1]at f;exact o.2 _ x y e f
def R2.one(h:r a b):R2 r [a] [b]:=⟨rfl,λk x y e f=>by
 cases k with
 |zero=>simp at e f;rw[←e,←f];exact h
 |succ k=>simp at e⟩
def R2.snoc(h:R2 r l m)(e:r a b):R2 r (l++[a]) (m++[b]):=h.app (.one e)
def R2.cons(e:r a b)(h:R2 r l m):R2 r (a::l) (b::m):=(R2.one e).app h
def R2.unc(h:R2 r (a::l) m):∃b m',m=b::m'/\r a b/\R2 r l m':=by
 cases m with
 |nil=>have:=h.1;simp at this
 |cons b m'=>refine⟨b,m',rfl,h.2 0 a b rfl rfl,by have:=h.1;simpa using this,λk x y e f=>h.2 (k+1) x y (by simpa using e) (by simpa using f)⟩
def R2.take(h:R2 r l m)(n:Nat):R2 r (l.take n) (m.take n):=by
 refine⟨by simp[h.1],λk x y e f=>?_⟩;rw[Ua]at e f;split at e
 .rename_i g;rw[Wj g]at f;exact h.2 k x y e f
 cases e
def R2.drop(h:R2 r l m)(n:Nat):R2 r (l.drop n) (m.drop n):=by refine⟨by simp[h.1],λk x y e f=>?_⟩;rw[UC]at e f;exact h.2 _ x y e f
def R2.memr(h:R2 r l m)(hb:b∈m):∃a∈l,r a b:=by obtain⟨k,e,rfl⟩:=Wv hb;have f:=h.1;exact⟨l[k],Wt aa,h.2 k _ _ (Wb aa) (Wb e)⟩
def R2.meml(h:R2 r l m)(e:a∈l):∃b∈m,r a b:=by obtain⟨k,f,rfl⟩:=Wv e;have g:=h.1;exact⟨m[k],Wt aa,h.2 k _ _ (Wb f) (Wb aa)⟩
def R2.get(h:R2 r l m){k:Nat}(e:l[k]? = some a):∃b,m[k]? = some b/\r a b:=by have f:=(Iq.1 e).1;have g:=h.1;exact⟨m[k],Wb aa,h.2 k _ _ e (Wb aa)⟩
def R2.set(h:R2 r l m)(k:Nat)(j:r a b):R2 r (l.set k a) (m.set k b):=by
 refine⟨by simp[h.1],λi x y e f=>?_⟩;rw[UJ]at e f;by_cases g:k=i
 .rw[Wj g]at e f;split at e
  .split at f
   .cases e;cases f;exact j
   cases f
  cases e
 rw[Wg g]at e f;exact h.2 i x y e f
end
def rel.mono{M M':List (Int×Int)}{a b:Int}(h:rel M a b)(e:∃t,M'=M++t):rel M' a b:=by obtain⟨t,rfl⟩:=e;exact h.imp id λh=>WX _ h
def Xag{d:WH}:∀{k:Nat} {i:Int},(Yd d k i).Pairwise (·<·)
 |0,i=>.nil
 |k+1,i=>by
  rw[Yd];split
  .exact IL.2 ⟨λx e=>by have:=Ja e;omega,Xag⟩
  exact Xag
def Xnp(d:WH):(XN d).Pairwise (·<·):=by
 unfold XN;split
 .exact Xag
 exact .nil
section
variable {N:Nat}{h0:Wp}{S:List Int}{P:Int->Prop}{w:W8}{M:List (Int×Int)}{D:Int->Prop}
def JX.cong(J:JX N h0 S P w M D){w':W8}(f:w'.h.p=w.h.p)(e:w'.h.w=w.h.w)(e3:w'.t=w.t)(e4:w'.q=w.q)(g:w'.o=w.o)(ci:CI h0 S w'){D':Int->Prop}(j:∀x,D' x↔D x):JX N h0 S P w' M D':=by have:D'=D:=funext λx=>propext (j x);subst this;refine⟨ci,by rw[f];exact J.ss,by rw[e];exact J.tu,by rw[g];exact J.ol,by rw[e4];exact J.q,J.l,J.n1,by rw[f,e,e3];exact J.k,by rw[e];exact J.hd,by rw[e];exact J.fl,by rw[e];exact J.o,J.d,by rw[f,e3];exact J.t,by rw[f,e3];exact J.pgs⟩
def JX.store(J:JX N h0 S P w M D)(B:BX N h0 S){p:Int×Int}(hp:p∈M){j v:Int}(j0:0<=j)(j1:j<(hdA h0.w p.1).n)(Y:rel M (wd h0.w (p.1+1+j)) v):inW w.h.w (p.2+1+j)/\∀{w':W8},w'.h.p=w.h.p->w'.h.w=w.h.w.set (ix (p.2+1+j)) v->w'.t=w.t->w'.q=w.q->w'.o=w.o->CI h0 S w'->JX N h0 S P w' M (λx=>D x\/x=p.2+1+j):=by
 obtain⟨O,s,A⟩:=J.ci.obj;have g:=J.geo A hp;have ez:szA h0.w p.1=(hdA h0.w p.1).n+1:=rfl;have hf:=A.fit p.2 g.1;have I:inW w.h.w (p.2+1+j):=by unfold inW;omega
 refine⟨I,λL Z e3 e4 e5 ci=>?_⟩;rename_i w';have E:∀x,4096<=x->wd w'.h.w x=if x=p.2+1+j then v else wd w.h.w x:=λx z=>by rw[Z];exact XdA I z
 have ne:∀y,O y->y≠p.2->∀x,y<=x->x<y+s y->x≠p.2+1+j:=λy hy h x R h2' e=>by have:=A.apart y p.2 hy g.1 h;omega
 have K:∀q∈M,q.2≠p.2+1+j:=λq u e=>by
  have T:=J.geo A u;have:=(XJ h0.w q.1).2.1;by_cases h:q.2=p.2
  .omega
  exact ne q.2 T.1 h q.2 (Uo _) aa e
 refine⟨ci,by rw[L];exact J.ss,?_,by rw[e5];exact J.ol,by rw[e4];exact J.q,J.l,J.n1,λq u=>?_,λq u=>?_,λq u k k0 k1=>?_,λx x0 z=>?_,λx z=>?_,by rw[L,e3];exact J.t,by rw[L,e3];exact J.pgs⟩
 .intro x z;rw[Z]at z;rcases W7 z with z|z
  .exact J.tu x z
  rw[z];rcases Y with⟨_,h⟩|h
  .rw[h];exact⟨aa,aa⟩
  have:=J.rng B h;exact⟨by dsimp only at this;omega,by dsimp only at this;omega⟩
 .rw[L,e3];rcases J.k q u with k|⟨k1,k2,k3⟩
  .exact .inl k
  refine .inr ⟨k1,?_,k3⟩;have G:=B.at_ (J.l q u).1;have oq:=A.old q.1 G.2.1;have:q.1≠p.2:=λe=>by
   have R:=J.q_old B (J.l q u).1 hp e.symm;have E:=J.fn u (q:=(q.1,q.1)) (by rw[←R];exact hp) rfl;rcases J.k p hp with k|⟨_,_,i,hi,g1,g2⟩
   .rw[R]at k;exact k.2 k1
   have H:=J.hd q u;rw[E]at H k2;dsimp only at H k2;have:=G.1.ok;have U:=Xf3 (Xno J.tu q.1) (by rw[H];exact this);rw[k2]at U;have V:=J.rng B u;rw[E]at V;dsimp only at V;have:=(XiD (v:=q.1) aa aa).1;rw[this]at U;cases U
  rw[E q.1 G.2.2.2.2,Wg (ne q.1 oq.1 this q.1 (Uo _) (by have:=(A.fit _ oq.1).2.1;omega))];exact k2
 .rw[E q.2 (by have:=J.rng B u;omega),Wg (K q u)];exact J.hd q u
 .have f:=J.fl q u k k0 k1;have V:=J.rng B u;rw[E _ aa];by_cases Q:q.2+1+k=p.2+1+j
  .rw[Wj Q];have T:=J.geo A u;have ezq:szA h0.w q.1=(hdA h0.w q.1).n+1:=rfl;have W:q.2=p.2:=by apply Classical.byContradiction;intro h;exact ne q.2 T.1 h (q.2+1+k) aa aa Q
   have:=J.inj u hp W;subst this;have:k=j:=aa;subst this;exact⟨λh=>absurd (.inr rfl) h,λ_=>Y⟩
  rw[Wg Q];exact⟨λh=>f.1 λh'=>h (.inl h'),λh=>h.elim f.2 λh=>absurd h Q⟩
 .rw[E x x0,Wg]
  .exact J.o x x0 z
  intro e;exact(z p hp).2 ⟨aa,aa⟩
 rcases z with z|z
 .exact J.d x z
 exact⟨p,hp,aa,aa⟩
def XjK(hN:NB N)(B:BX N h0 S)(rs:List Int)(L:rs.length<=1000000)(H:∀r∈rs,r=0\/Obb h0 r/\P r):∀(n k:Nat) (w:W8) (M:List (Int×Int)) (out:List Int),k<=rs.length->rs.length-k<n->JX N h0 S P w M D->R2 (rel M) (rs.take k) out ->
 Ok (QbD N rs n (k:Int) w.h.c.W w.h.c.p w.h.w w.h.p w.h.s w.h.b w.o w.t w.q w.d w.r.j w.r.K w.r.F w.r.E w.r.f w.r.y out) λe=>match e with
  |.ret r=>r.2.2=3
  |.nxt t=>∃(w':W8) (M':List (Int×Int)) (u:List Int),JX N h0 S P w' M' D/\w'.d=w.d/\(∃t,M'=M++t)/\R2 (rel M') rs u/\t=(w'.h.c.W,w'.h.c.p,w'.h.w,w'.h.p,w'.h.s,w'.h.b,w'.o,w'.t,w'.q,w'.d,w'.r.j,w'.r.K,w'.r.F,w'.r.E,w'.r.f,w'.r.y,u)
 |0,k,w,M,out,_,O,_,_=>by omega
 |n+1,k,w,M,out,hk,O,J,z=>by
  rw[QbD];by_cases g:k<rs.length;rotate_left
  .rw[Wh aa,Wa];exact Wd ⟨w,M,out,J,rfl,⟨[],ab⟩,by rwa[Ur aa]at z,rfl⟩
  rw[Xm g,Wc,Xc,Wb g,Xa,Xg aa];have A:=z.1;rw[Wx]at A;refine WQ (XqJ hN B J (H _ (Wt g))) λy _ Q=>?_;rcases Q with R|⟨h0,M',J',⟨t,rfl⟩,x,G⟩
  .rw[R];exact Wd rfl
  rw[h0];refine Uk aa ((XjK hN B rs L H n (k+1) y.1 (M++t) (out++[y.2.1]) aa aa J' ?_).mono λe I=>?_)
  .rw[UT,Wb g];exact(z.mono λa b h=>h.mono ⟨t,rfl⟩).snoc x
  cases e with
  |ret r=>exact I
  |nxt t'=>obtain⟨w',M',o',c1,T,⟨U,V⟩,Y,Z⟩:=I;exact⟨w',M',o',c1,T.trans G,⟨t++U,by rw[V,W0]⟩,Y,Z⟩
def XjL(hN:NB N)(B:BX N h0 S){p:Int×Int}(hP:∀j∈XN (hdA h0.w p.1),wd h0.w (p.1+1+j)=0\/P (wd h0.w (p.1+1+j))):∀(n k:Nat) (w:W8) (M:List (Int×Int)) (D:Int->Prop),k<=(XN (hdA h0.w p.1)).length->(XN (hdA h0.w p.1)).length-k<n->p∈M->JX N h0 S P w M D->(∀j∈(XN (hdA h0.w p.1)).drop k,¬D (p.2+1+j)) ->
 Ok (QbL N p.2 (XN (hdA h0.w p.1)) n (k:Int) w.h.c.W w.h.c.p w.h.w w.h.p w.h.s w.h.b w.o w.t w.q w.d w.r.j w.r.K w.r.F w.r.E w.r.f w.r.y) λe=>match e with
  |.ret r=>r.2.2=3
  |.nxt t=>∃(w':W8) (M':List (Int×Int)),JX N h0 S P w' M' (λx=>D x\/∃j∈(XN (hdA h0.w p.1)).drop k,x=p.2+1+j)/\w'.d=w.d/\(∃t,M'=M++t)/\t=(w'.h.c.W,w'.h.c.p,w'.h.w,w'.h.p,w'.h.s,w'.h.b,w'.o,w'.t,w'.q,w'.d,w'.r.j,w'.r.K,w'.r.F,w'.r.E,w'.r.f,w'.r.y)
 |0,k,w,M,D,_,hn,_,_,_=>by omega
 |n+1,k,w,M,D,hk,hn,hp,J,T=>by
  have U:=hN;unfold NB at U;have hkl:=Xaw (hdA h0.w p.1);rw[QbL];by_cases z:k<(XN (hdA h0.w p.1)).length;rotate_left
  .rw[Wh aa,Wa];refine Wd ⟨w,M,J.cong rfl rfl rfl rfl rfl J.ci λx=>?_,rfl,⟨[],ab⟩,rfl⟩;rw[WN aa];simp
  rw[Xm z,Wc,Xc,Wb z,Xa,Xg aa];have hdr:=Wm z;have G:=(Xnp (hdA h0.w p.1)).drop (i:=k);have V:=Wt z;rw[hdr,IL]at G;rw[hdr]at T;have H:=YC V;have u:(XN (hdA h0.w p.1))[k]∈XN (hdA h0.w p.1):=V;generalize ej:(XN (hdA h0.w p.1))[k]=j at G T H u V;have Y:=(J.l p hp).1;have Z:=B.gx.pt p.1 Y j u;have hPj:=hP j u;have hr:=J.rng B hp;have A:=(XO (Jy (wd h0.w p.1))).2.2.2;have A:(hdA h0.w p.1).n<=255:=A;have hfl:=J.fl p hp j H.1 H.2;have hst:=λv hv=>(J.store B hp H.1 H.2 (v:=v) hv)
  rw[Xz (n:=p.2+1) aa aa,Xz (n:=j) aa aa,Xz (n:=p.2+1+j) aa aa];have hin:inW w.h.w (p.2+1+j):=by obtain⟨O,s,Q⟩:=J.ci.obj;have g:=J.geo Q hp;have hf:=Q.fit p.2 g.1;have ez:szA h0.w p.1=(hdA h0.w p.1).n+1:=rfl;unfold inW;omega
  rw[YX (J.ci.wl B.st.hb),Xa,Wj hin];have ew:w.h.w.getD (ix (p.2+1+j)) 0=wd h0.w (p.1+1+j):=hfl.1 (T j (IM));rw[ew];refine WQ (XqJ hN B J (a:=wd h0.w (p.1+1+j)) ?_) λy _ hy=>?_
  .rcases Z with h|h
   .exact .inl h
   rcases hPj with h'|h'
   .exact .inl h'
   exact .inr ⟨h,h'⟩
  rcases hy with h3|⟨hz,M',J',⟨t,rfl⟩,R,hsc⟩
  .rw[h3];exact Wd rfl
  rw[hz];have I:p∈M++t:=WX _ hp;have st:=J'.store B I H.1 H.2 R;rw[Vb (J'.ci.wl B.st.hb) aa,Xa,Wj st.1];obtain⟨O,s,Q⟩:=J'.ci.obj;have g:=J'.geo Q I;have ez:szA h0.w p.1=(hdA h0.w p.1).n+1:=rfl;have sq:=Xjk J'.ci Q g.1 (x:=p.2+1+j) aa aa y.2.1;have J2:=st.2 (w':={y.1 with h:={y.1.h with w:=y.1.h.w.set (ix (p.2+1+j)) y.2.1}}) rfl rfl rfl rfl rfl sq.2.1;refine(XjL hN B hP n (k+1) {y.1 with h:={y.1.h with w:=y.1.h.w.set (ix (p.2+1+j)) y.2.1}} (M++t) _ aa aa I J2 λi L h=>?_).mono λe he=>?_
  .rcases h with h|h
   .exact T i (WC _ L) h
   have:=G.1 i L;omega
  cases e with
  |ret r=>exact he
  |nxt t'=>
   obtain⟨w',M',c1,c2,⟨t2,c3⟩,c5⟩:=he;refine⟨w',M',c1.cong rfl rfl rfl rfl rfl c1.ci λx=>?_,c2.trans hsc,⟨t++t2,by rw[c3,W0]⟩,c5⟩;rw[hdr,ej];simp only[Us];constructor
   .rintro(h|⟨i,rfl|L,e⟩)
    .exact .inl (.inl h)
    .exact .inl (.inr e)
    exact .inr ⟨i,L,e⟩
   rintro((h|h)|⟨i,L,e⟩)
   .exact .inl h
   .exact .inr ⟨j,.inl rfl,h⟩
   exact .inr ⟨i,.inr L,e⟩
end
def Dn(h:Wp)(M:List (Int×Int))(k:Nat)(x:Int):Prop:=∃(i:Nat) (p:Int×Int) (j:Int),i<k/\M[i]? = some p/\j∈XN (hdA h.w p.1)/\x=p.2+1+j
section
variable {N:Nat}{h0:Wp}{S:List Int}{P:Int->Prop}{w:W8}{M:List (Int×Int)}
def XrE(hN:NB N)(B:BX N h0 S)(I:∀a,Obb h0 a->P a->∀j∈XN (hdA h0.w a),wd h0.w (a+1+j)=0\/P (wd h0.w (a+1+j))){k:Nat}(J:JX N h0 S P w M (Dn h0 M k))(V:w.d=k)(hk:k<=M.length):
 Ok (QeI N w) λr=>r.2.2=3\/(r.2.2=0/\((k=M.length/\r.1=w/\r.2.1=false)\/(k<M.length/\r.2.1=true/\∃M',JX N h0 S P r.1 M' (Dn h0 M' (k+1))/\r.1.d=((k+1:Nat):Int)/\∃t,M'=M++t))):=by
 have K:=hN;unfold NB at K;have hql:=J.ci.ql B.st.hb;have o:w.q.length=M.length:=by rw[J.q,UK]
 rw[QeI,V,o];by_cases f:k<M.length;rotate_left
 .rw[Wi aa];exact Wd (.inr ⟨rfl,.inl ⟨aa,rfl,rfl⟩⟩)
 have z:M[k]∈M:=Wt f;have L:Xd w.q (k:Int)=some M[k].2:=by rw[Xc,J.q,IQ,Wb f];rfl
 have hr:=J.rng B z;obtain⟨O,s,G⟩:=J.ci.obj;have g:=J.geo G z;have hf:=G.fit _ g.1;have Q:inW w.h.w M[k].2:=by unfold inW;omega
 have ehd:Z0 (w.h.w.getD (ix M[k].2) 0)=hdA h0.w M[k].1:=by show Z0 (wd w.h.w M[k].2)=_;rw[J.hd _ z];rfl
 have W:=J.l _ z;rw[Wh aa,Wa,L,Xa,Qec,YX (J.ci.wl B.st.hb),Xa,Wj Q,K9,Xa,Xa,ehd,XgP aa,Xa];have R:∀j∈(XN (hdA h0.w M[k].1)).drop 0,¬Dn h0 M k (M[k].2+1+j):=by
  rintro j u ⟨i,q,j',A,H,E,e⟩;have u:=YC (Ud u);have E:=YC E;have o:q∈M:=WW H;have gq:=J.geo G o;have e1:szA h0.w M[k].1=(hdA h0.w M[k].1).n+1:=rfl;have e2:szA h0.w q.1=(hdA h0.w q.1).n+1:=rfl;have T:q.2=M[k].2:=by apply Classical.byContradiction;intro h;have:=G.apart _ _ gq.1 g.1 h;omega
  have:=J.inj o z T;have Y:=J.n1;rw[List.Nodup,Iv,Uf]at Y;have:=Y i k aa f A;obtain⟨_,H⟩:=Iq.1 H;rw[H]at this;simp_all
 have Z:=XjL hN B (p:=M[k]) (I _ W.1 W.2) N 0 w M (Dn h0 M k) aa (by have:=Xaw (hdA h0.w M[k].1);omega) z J R;rw[show((0:Nat):Int)=0 from rfl,V]at Z;refine Oa Z (λa q=>Wd (.inl q)) λt q=>?_;obtain⟨w',M',c1,c2,⟨t2,c3⟩,rfl⟩:=q;have e:wI (w'.d+1)=((k+1:Nat):Int):=by rw[c2,Xg aa]
 refine Wd (.inr ⟨rfl,.inr ⟨f,rfl,M',c1.cong (by rfl) (by rfl) (by rfl) (by rfl) (by rfl) ?_ λx=>?_,e,t2,c3⟩⟩)
 .have ci:=c1.ci;obtain⟨O,s,h⟩:=ci.obj;exact⟨ci.conf,ci.wlen,ci.plen,ci.spc,ci.old,ci.tk,ci.tnd,ci.knd,ci.qnd,O,s,⟨h.old,h.queue,h.fit,h.apart,h.taken,h.free⟩⟩
 rw[WL];have y:∀i,i<M.length->M'[i]? = M[i]?:=λi A=>by rw[c3,WU A]
 constructor
 .rintro⟨i,p,j,A,hp,u,e⟩;rw[y i aa]at hp;by_cases U:i=k
  .subst U;rw[Wb f]at hp;obtain rfl:=WT hp;exact .inr ⟨j,u,e⟩
  exact .inl ⟨i,p,j,aa,hp,u,e⟩
 rintro(⟨i,p,j,A,hp,u,e⟩|⟨j,u,e⟩)
 .exact⟨i,p,j,aa,by rw[y i aa];exact hp,u,e⟩
 exact⟨k,M[k],j,aa,by rw[y k f,Wb f],u,e⟩
def XqK(hN:NB N)(B:BX N h0 S)(e:∀a,Obb h0 a->P a->∀j∈XN (hdA h0.w a),wd h0.w (a+1+j)=0\/P (wd h0.w (a+1+j))):∀(n k:Nat) (w:W8) (M:List (Int×Int)),JX N h0 S P w M (Dn h0 M k)->w.d=k->k<=M.length->100001-k<n ->
 Ok (Qcs N n w.h.c.W w.h.c.p w.h.w w.h.p w.h.s w.h.b w.o w.t w.q w.d w.r.j w.r.K w.r.F w.r.E w.r.f w.r.y) λr=>r.2=3\/(r.2=0/\∃M',JX N h0 S P r.1 M' (Dn h0 M' M'.length)/\∃t,M'=M++t)
 |0,k,w,M,_,_,_,L=>by omega
 |n+1,k,w,M,J,O,Q,L=>by
  refine WQ (XrE hN B e J O Q) λy _ g=>?_;rcases g with u|⟨x,g⟩
  .rw[u];exact Wd (.inl rfl)
  rw[x,show((0:Int) != 0)=false from rfl,Wa];rcases g with⟨H,z,u⟩|⟨H,z,M',J',A,t,ht⟩
  .rw[u,z];subst H;exact Wd (.inr ⟨rfl,M,J,[],ab⟩)
  rw[z];have R:=J'.ci.ql B.st.hb;have T:y.1.q.length=M'.length:=by rw[J'.q,UK]
  have I:M.length<=M'.length:=by rw[ht,Wu];omega
  refine(XqK hN B e n (k+1) y.1 M' J' A aa aa).mono λr U=>?_;rcases U with h|⟨h,M2,J2,V,G⟩
  .exact .inl h
  exact .inr ⟨h,M2,J2,t++V,by rw[G,ht,W0]⟩
end
section
variable {N:Nat}{h0:Wp}{S:List Int}{P:Int->Prop}{w:W8}{M:List (Int×Int)}{D:Int->Prop}
def XsO(hN:NB N)(hb:HB h0)(g:GX N h0):∃S,BX N h0 S/\Qaj N h0=some (Y7 h0 S,0):=by obtain⟨S,L,j,mS,eS,eL,rfl,mL⟩:=Xba hN hb g.ep g.ps;have⟨b,eb,e⟩:=Jd hN hb;rw[(Vj hN hb).2 g]at eb;obtain rfl:=WT eb;have f:=e rfl;exact⟨S,⟨g,⟨hb,λ_=>f,λ_=>f.prop,j⟩,mS,f.prop⟩,eL⟩
def Xd6(f:List Int×Int)(q:h0.p.length<=100000):∀(n k:Nat) (v:List WJ),k<=h0.p.length->h0.p.length-k<n->v.length=h0.p.length->(∀j:Nat,k<=j->pg v j=pg h0.p j) ->
 ∃r,Qch N h0 f n (k:Int) v=some r/\r.length=h0.p.length/\∀j:Nat,pg r j=if j<k\/¬((pg h0.p j).k=1/\(pg h0.p j).P>0)then pg v j else⟨1,wI (1-h0.s),(pg h0.p j).u,(pg h0.p j).P⟩
 |0,k,v,_,y,_,_=>by omega
 |n+1,k,v,H,y,e,g=>by
  rw[Qch,Xe aa,e];by_cases h:k<h0.p.length
  .rw[Xm h,Wc,XQ (ps:=v) (i:=(k:Int)) aa aa,Xa,Xg aa];simp only[Xa,g k (Uu k)];by_cases I:(pg h0.p k).k=1/\(pg h0.p k).P>0
   .have z:=λx:Nat=>ZQ (ps:=v) (i:=(k:Int)) (j:=(x:Int)) ⟨(pg h0.p k).k,wI (1-h0.s),(pg h0.p k).u,(pg h0.p k).P⟩ aa aa aa;obtain⟨r,A,B,E⟩:=Xd6 f q n (k+1) (v.set (k:Int).toNat ⟨(pg h0.p k).k,wI (1-h0.s),(pg h0.p k).u,(pg h0.p k).P⟩) aa aa (by rw[Ww];exact e) λj o=>by rw[z j,Wg aa];exact g j aa
    grind
   have⟨r,A,B,E⟩:=Xd6 f q n (k+1) v aa aa e λj o=>g j aa;grind
  obtain rfl:k=h0.p.length:=aa;rw[Xv,Wa];refine⟨v,rfl,e,λj=>?_⟩;by_cases G:j<h0.p.length\/¬((pg h0.p j).k=1/\(pg h0.p j).P>0)
  .simp_all
  exfalso;apply G;right;intro t;have:pg h0.p j=Z8:=by unfold pg;rw[We,W3 aa];rfl
  rw[this]at t;exact absurd t.1 ae
def XpN(hN:NB N)(ht:HT h0)(B:BX N h0 S)(eL:Qaj N h0=some (Y7 h0 S,0)):∃w,Qeb N h0=some (w,0)/\JX N h0 S P w [] (Dn h0 [] 0)/\w.d=0:=by
 have hb:=B.st.hb;have E:=hb.2;have hp:=B.hp;have G:=hp.space;have hw:wI (1-h0.s)=1-h0.s:=Xf aa aa;have e:=Xcg hN hb B.gx.ep;have⟨r,q,t,H⟩:=Xd6 (N:=N) (h0:=h0) (Y7 h0 S,0) aa N 0 h0.p aa (by unfold NB at hN;omega) rfl λ_ _=>rfl;rw[show((0:Nat):Int)=0 from rfl]at q;have g:∀j,0<=j->((pg h0.p j).k=1/\(pg h0.p j).P>0/\(pg r j)=⟨1,1-h0.s,(pg h0.p j).u,(pg h0.p j).P⟩)\/(¬((pg h0.p j).k=1/\(pg h0.p j).P>0)/\pg r j=pg h0.p j):=λj y=>by
  obtain⟨m,rfl⟩:∃m:Nat,j=m:=⟨j.toNat,aa⟩
  have:=H m;by_cases o:(pg h0.p m).k=1/\(pg h0.p m).P>0
  .rw[Wg (by simp[o]),hw]at this;exact .inl ⟨o.1,o.2,this⟩
  rw[Wj (.inr o)]at this;exact .inr ⟨o,this⟩
 have I:SameK h0.p r:=⟨t,λj y=>by
  rcases g j y with⟨a,_,b⟩|⟨_,b⟩<;>rw[b]
  .exact⟨a.symm,rfl⟩
  .exact⟨rfl,rfl⟩⟩
 have ci:=Xg1 hb hp B.st.st (w:=⟨⟨h0.c,h0.w,r,h0.s,h0.b⟩,Y7 h0 S,[],[],0,⟨0,0,0,0,0,0⟩⟩) rfl rfl rfl I List.filter_sublist rfl rfl;refine⟨⟨⟨h0.c,h0.w,r,h0.s,h0.b⟩,Y7 h0 S,[],[],0,⟨0,0,0,0,0,0⟩⟩,?_,⟨ci,?_,ht.tw,rfl,rfl,ab,ab,ab,ab,ab,λ_ _ _=>rfl,λx J=>?_,λi z=>by simp at z,λi f i1 _=>?_⟩,rfl⟩
 .rw[Qeb,B.gx.ep,Xa,Wl,Wa,(Vj hN hb).2 B.gx,Xa,Wl,Wa,eL,Xa,Xe aa,q,Xa]
 .refine Xd0 e t (λi f i1=>?_) λi m f K L O U=>?_
  .have hb:=e.hd i f i1;rcases g i f with⟨a,_,b⟩|⟨_,b⟩
   .have:=(hb aa).k1 a;have:=(hb aa).pn;rw[b];exact .inl ⟨aa,rfl,⟨by show 0<=1-h0.s;omega,by show 1-h0.s<=1;omega⟩,ag,by dsimp only;omega,by dsimp only;omega⟩
   rw[b];exact .inr ⟨rfl,rfl,rfl,.inl rfl⟩
  have tl:=((e.hd i f aa aa).k2 K).2.2 m L O;have Q:pg r (i+m)=pg h0.p (i+m):=by
   rcases g (i+m) aa with⟨a,_⟩|⟨_,b⟩
   .omega
   exact b
  have R:pg r i=pg h0.p i:=by
   rcases g i f with⟨a,_⟩|⟨_,b⟩
   .omega
   exact b
  rw[Q,R];exact tl.2.1
 .obtain⟨i,p,j,z,_⟩:=J;omega
 have A:=B.gx.sp i f i1;show(pg r i).k=_/\(pg r i).u=_/\(pg r i).P=_/\(_->(pg r i).s=_)/\(_->(pg r i).s=_)/\(_->pg r i=_)
 rcases g i f with⟨a,c,b⟩|⟨c,b⟩
 .rw[b,Wj c];exact⟨a.symm,rfl,rfl,λ_=>rfl,λh=>aa,λh=>aa⟩
 rw[b];refine⟨rfl,rfl,rfl,λh=>?_,λh=>?_,λ_=>rfl⟩
 .rw[Wg (λT=>c ⟨h,T⟩)];exact A aa
 rw[Wg ab];exact A aa
def JX.upd(J:JX N h0 S P w M D)(sc:Int)(f:UI):JX N h0 S P ⟨w.h,w.o,w.t,w.q,sc,f⟩ M D:=by
 have ci:=J.ci;obtain⟨O,s,h⟩:=ci.obj;have e:CI h0 S ⟨w.h,w.o,w.t,w.q,sc,f⟩:=⟨ci.conf,ci.wlen,ci.plen,ci.spc,ci.old,ci.tk,ci.tnd,ci.knd,ci.qnd,O,s,⟨h.old,h.queue,h.fit,h.apart,h.taken,h.free⟩⟩
 exact J.cong (by rfl) (by rfl) (by rfl) (by rfl) (by rfl) e λ_=>Iff.rfl
def wk(M:List (Int×Int))(a b:Int):Prop:=(a=0/\b=0)\/(a,b)∈M\/(a∉M.map (·.1)/\b=0)
def XpO(hN:NB N)(B:BX N h0 S)(J:JX N h0 S P w M D){a:Int}(o:Obb h0 a):∃b,QdE N w a=some b/\wk M a b:=by
 have t:=hN;unfold NB at t;have H:=J.ci.ql B.st.hb;have A:=B.at_ o;rw[QdE,Ym a aa aa,Xa];cases E:w.q.contains a with
 |true=>have G:=Yp E;rw[J.q]at G;obtain⟨p,j,e⟩:=WG.1 G;have:=J.q_old B o j e;exact⟨a,rfl,.inr (.inl (by rw[←this];exact j))⟩
 |false=>
 have u:inW w.h.w a:=by have:=A.1.rng;have:=B.hp.words;have:=J.ci.wlen;unfold inW;omega
 rw[Wa,YX (J.ci.wl B.st.hb),Xa,Wj u,Xau,Xa];dsimp only;rw[show w.h.w.getD (ix a) 0=wd w.h.w a from rfl];by_cases y:a∈M.map (·.1)
 .obtain⟨b,g⟩:=KO y;have K:=J.rng B g;rcases J.k _ g with⟨k,_⟩|⟨_,k,_⟩
  .exfalso;apply YR E;rw[J.q];exact WG.2 ⟨(a,b),g,k⟩
  have f:=XiD (v:=b) aa aa;have k:wd w.h.w a=wU (wU (4*b)+2):=k;rw[k,f.1,Wj rfl];exact⟨b,by rw[f.2.1],.inr (.inl g)⟩
 have z:=J.same B o y (x:=a) (Uo _) (by have:=(XJ h0.w a).2.1;omega);have I:=Xf3 (Xno J.tu a) (by rw[z];exact A.1.ok);rw[I];exact⟨_,rfl,.inr (.inr ⟨y,rfl⟩)⟩
def Xnq(hN:NB N)(B:BX N h0 S)(ws:List Int)(x:ws.length<=1000000)(hw:∀r∈ws,r=0\/Obb h0 r)(o:W8×List Int×Int)(e:W8×Int)(J:JX N h0 S P e.1 M D):∀(n k:Nat) (c:Int) (out:List Int),k<=ws.length->ws.length-k<n->R2 (wk M) (ws.take k) out->Ok (QaU N ws o e n (k:Int) c out) λr=>R2 (wk M) ws r.2
 |0,k,c,out,_,z,_=>by omega
 |n+1,k,c,out,A,z,p=>by
  rw[QaU];by_cases f:k<ws.length;rotate_left
  .rw[Wh aa,Wa];exact Wd (by rwa[Ur aa]at p)
  have q:=p.1;rw[Wx]at q;rw[Xm f,Wc,Xc,Wb f,Xa,Xg aa];have next:∀t b,wk M ws[k] b->Ok (QaU N ws o e n ((k+1:Nat):Int) t (out++[b])) λr=>R2 (wk M) ws r.2:=λt b hb=>by refine Xnq hN B ws x hw o e J n (k+1) t (out++[b]) aa aa ?_;rw[UT,Wb f];exact p.snoc hb
  by_cases g:ws[k]=0
  .rw[g];refine IP (Uk aa (next _ _ (.inl ⟨g,rfl⟩)))
  have u:=(hw _ (Wt f)).resolve_left g;rw[Xn g,Xr,Wc];have Jc:=J.upd e.1.d (UI.mk e.1.r.j e.1.r.K e.1.r.F e.1.r.E c e.1.r.y);obtain⟨b,eb,hb⟩:=XpO hN B Jc u;rw[Xa,eb,Xa];exact IP (Wo (λ_=>Uk aa (next _ _ hb)) λ_=>Uk aa (next _ _ hb))
end
def XcE(h:Wp)(M:List (Int×Int))(a:Int):Prop:=Obb h a/\a∉M.map (·.1)/\(pg h.p (pgi h.c a)).k=1/\(pg h.p (pgi h.c a)).P>0
def XhE(h:Wp)(a:Int):Int:=Kz ⟨0,(hdA h.w a).n,0⟩
def XqL{d:Int}(h:0<=d/\d<=255):XM ⟨0,d,0⟩=true:=by unfold XM;simp_all
section
variable {N:Nat}{h0:Wp}{S:List Int}{P:Int->Prop}{w:W8}{M:List (Int×Int)}{D:Int->Prop}
def XcX(ws:List Int)(a:Int):0<=(hdA ws a).n/\(hdA ws a).n<=255/\szA ws a=(hdA ws a).n+1:=by have:=XO (Jy (wd ws a));exact⟨this.2.2.1,this.2.2.2,rfl⟩
def Xf4(hN:NB N)(B:BX N h0 S)(J:JX N h0 S P w M D):∀(n k:Nat) (v:List Int) (c:Int),k<=w.o.length->w.o.length-k<n->v.length=h0.w.length->(∀x∈v,tU x)->(∀a∈w.o.drop k,XcE h0 M a->wd v a=wd h0.w a) ->
 ∃u Q,QaJ N w n (k:Int) v c=some (u,Q)/\u.length=h0.w.length/\(∀x∈u,tU x)/\(∀a∈w.o.drop k,XcE h0 M a->wd u a=XhE h0 a/\∀j,0<=j->j<(hdA h0.w a).n->wd u (a+1+j)=0)/\∀x,4096<=x->(∀a∈w.o.drop k,XcE h0 M a->¬(a<=x/\x<a+szA h0.w a))->wd u x=wd v x
 |0,k,v,c,_,hn,_,_,_=>by omega
 |n+1,k,v,c,hk,hn,hv,tv,hw=>by
  have hN':=hN;unfold NB at hN';have hb1:=B.st.hb.1;have V:=J.ci;have hql:=V.ql B.st.hb;have htl:=V.tl B.st.hb;have hol:=V.old.length_le;have hsl:=B.st.st.len;rw[QaJ];by_cases h:k<w.o.length;rotate_left
  .rw[Wh aa,Wa,WN aa];exact⟨v,c,rfl,hv,tv,ab,λ_ _ _=>rfl⟩
  have hdr:=Wm h;have z:w.o[k]∈w.o:=Wt h;have I:=(B.st.st.obj.pw.sublist V.old).drop (i:=k);rw[hdr]at hw I⊢;rw[IL]at I;rw[Xm h,Wc,Xc,Wb h,Xa,Xg aa];generalize w.o[k]=a at z hw I⊢;have haS:a∈S:=V.old.subset z;have L:Obb h0 a:=by rw[J.ol]at z;unfold Y7 at z;rw[W6]at z;exact⟨(B.mS a).1 z.1,by have:=z.2;simp[Kv,fnd]at this;exact this⟩
  have hA:=B.at_ L;have hfit:=JK B.hp hA.1;have hof:QcI N w.h.c a=some (pgi h0.c a,pgo h0.c a,0):=by rw[VK,V.conf,B.hp.conf,Wg ab,Wj hA.1.rng];rfl
  obtain⟨b,eb,G⟩:=XqI (N:=N) (w:=⟨⟨w.h.c,v,w.h.p,w.h.s,w.h.b⟩,w.o,w.t,w.q,w.d,⟨w.r.j,w.r.K,c,w.r.E,w.r.f,w.r.y⟩⟩) hN htl (pgi h0.c a);have G:b=true↔Prm w (pgi h0.c a):=G;rw[(J.prm B L).2]at G;rw[hof,Xa,eb,Xa];have skip:¬XcE h0 M a->∃u Q,QaJ N w n ((k+1:Nat):Int) v c=some (u,Q)/\u.length=h0.w.length/\(∀x∈u,tU x)/\(∀x∈a::w.o.drop (k+1),XcE h0 M x->wd u x=XhE h0 x/\∀j,0<=j->j<(hdA h0.w x).n->wd u (x+1+j)=0)/\∀x,4096<=x->(∀y∈a::w.o.drop (k+1),XcE h0 M y->¬(y<=x/\x<y+szA h0.w y))->wd u x=wd v x:=λhd=>by
   obtain⟨u,Q,e1,e2,e3,e4,e5⟩:=Xf4 hN B J n (k+1) v c aa aa hv tv λx g=>hw x (WC _ g);refine⟨u,Q,e1,e2,e3,λx g A=>?_,λx R g=>e5 x R λy Y=>g y (WC _ Y)⟩;rcases Us.1 g with rfl|g
   .exact absurd A hd
   exact e4 x g A
  cases Z:b with
  |false=>exact skip λd=>by have:=G.2 d.2.2;rw[Z]at this;cases this
  |true=>
   have O:=G.1 Z;rw[Wl,Wa,Xa,Ym a aa aa,Xa];cases hqv:w.q.contains a with
   |true=>have W:=Yp hqv;rw[J.q]at W;obtain⟨p,hpm,e⟩:=WG.1 W;have:=J.q_old B L hpm e;exact skip λd=>d.2.1 (WG.2 ⟨p,hpm,by rw[this]⟩)
   |false=>
    have hq:=YR hqv;have hd:XcE h0 M a:=by
     refine⟨L,λW=>?_,O⟩;obtain⟨b,hab⟩:=KO W;rcases J.k _ hab with⟨k1,_⟩|⟨k1,_⟩
     .exact hq (by rw[J.q];exact WG.2 ⟨(a,b),hab,k1⟩)
     exact k1.2 O.2
    have ewd:=hw a ab hd;have hl:=XcX h0.w a;have eL:(Z0 (wd v a)).n=(hdA h0.w a).n:=by rw[ewd];rfl
    rw[Wa,Xa,Qec,YX (by show v.length<=_;unfold BIG;omega),Xa,Wj (by show inW v a;unfold inW;omega),K9,Xa,Xa];rw[show v.getD (ix a) 0=wd v a from rfl,eL,Xbu,Wj (XqL aa),Xa,Xa,Xe aa,Xe aa];have H:([Kz ⟨0,(hdA h0.w a).n,0⟩]++List.replicate (hdA h0.w a).n.toNat (0:Int)).length=(hdA h0.w a).n.toNat+1:=by simp
    rw[Va (by unfold BIG;omega) (by rw[H];unfold BIG;omega) (by rw[H];omega),H,Wj (by unfold YZ;omega),Xa];have hi:ix a+([Kz ⟨0,(hdA h0.w a).n,0⟩]++List.replicate (hdA h0.w a).n.toNat (0:Int)).length<=v.length:=by rw[H];unfold ix;omega
    have hlen:=Kf hi;have T:∀x,4096<=x->wd (ovr v ([Kz ⟨0,(hdA h0.w a).n,0⟩]++List.replicate (hdA h0.w a).n.toNat (0:Int)) (ix a)) x=if a<=x/\x<a+szA h0.w a then(if x=a then XhE h0 a else 0)else wd v x:=λx g=>by
     unfold wd;rw[Xbt hi,H];by_cases hr:a<=x/\x<a+szA h0.w a
     .rw[Wj hr,Wj (by unfold ix;omega)];by_cases U:x=a
      .rw[Wj U,U,IE];rfl
      rw[Wg U];obtain⟨m,W⟩:∃m,ix x-ix a=m+1:=⟨ix x-ix a-1,by unfold ix;omega⟩
      rw[W,We,List.singleton_append,Iz,UG];split<;>rfl
     rw[Wg hr,Wg (by unfold ix;omega)]
    have tv':∀x∈ovr v ([Kz ⟨0,(hdA h0.w a).n,0⟩]++List.replicate (hdA h0.w a).n.toNat (0:Int)) (ix a),tU x:=λx g=>by
     unfold ovr at g;simp only[Ws,WM]at g;rcases g with(g|g|g)|g
     .exact tv x (Uc g)
     .rw[g];unfold Kz;exact J9 _
     .rw[(IW.1 g).2];exact⟨aa,aa⟩
     exact tv x (Ud g)
    have apart:∀b∈w.o.drop (k+1),a+szA h0.w a<=b:=λb hb=>I.1 b hb;obtain⟨u,Q,e1,e2,e3,e4,e5⟩:=Xf4 hN B J n (k+1) _ (wI (c+1)) aa aa (hlen.trans hv) tv' λx g A=>by have h1:=apart x g;rw[T x aa,Wg aa];exact hw x (WC _ g) A
    have low:∀x,4096<=x->x<a+szA h0.w a->wd u x=if a<=x then(if x=a then XhE h0 a else 0)else wd v x:=λx R x1=>by
     rw[e5 x R λy Y _ h=>by have:=apart y Y;omega,T x R];by_cases g:a<=x
     .rw[Wj ⟨g,x1⟩,Wj g]
     rw[Wg aa,Wg g]
    refine⟨u,Q,e1,e2,e3,λx g A=>?_,λx R g=>?_⟩
    .rcases Us.1 g with rfl|g
     .refine⟨by rw[low x hA.2.2.2.2 aa,Wj (Uo _),Wj rfl],λj j0 j1=>?_⟩;rw[low _ aa aa,Wj aa,Wg aa]
     exact e4 x g A
    rw[e5 x R λy Y=>g y (WC _ Y),T x R,Wg (g a ab hd)]
def XqM{w:W8}(j:List WJ)(q:WJ)(i c:Int)(hp:UP h0)(t:w.h.c=h0.c)(u:0<=i)(g1:i<h0.c.p):∀(n:Nat) (k:Int) (v:List Int),0<=k->k<=h0.c.W->(65-k).toNat<n->v.length=h0.w.length->(∀x∈v,tU x) ->
 ∃r,Qby N w j q i c n k v=some r/\r.length=h0.w.length/\(∀x∈r,tU x)/\∀x,4096<=x->wd r x=if Xb h0.c i k<=x/\x<Xb h0.c i h0.c.W then 0 else wd v x
 |0,k,v,_,_,E,_,_=>by omega
 |n+1,k,v,k0,k1,E,y,z=>by
  have G:=Xi.1 hp.conf;have L:=XV hp.conf u g1;have hw:=hp.words;rw[Qby,t];have f:∀o,Xb h0.c i o=4096+i*h0.c.W+o:=λ_=>rfl;by_cases A:k<h0.c.W
  .rw[Wi A,Wc,Xf (n:=k+1) aa aa,Xf (n:=i*h0.c.W) aa aa,Xf (n:=i*h0.c.W+k) aa aa,X7 aa aa,Xa];have eix:(i*h0.c.W+k).toNat=ix (Xb h0.c i k):=by rw[f];unfold ix;omega
   rw[eix];have g:inW v (Xb h0.c i k):=by rw[f];unfold inW;omega
   obtain⟨r,H,I,J,K⟩:=XqM j q i c hp t u g1 n (k+1) (v.set (ix (Xb h0.c i k)) 0) aa aa aa (by rw[Ww];exact y) λx e=>by
    rcases W7 e with e|e
    .exact z x e
    rw[e];exact⟨aa,aa⟩
   refine⟨r,H,I,J,λx e=>?_⟩;rw[K x e,XdA g e,f,f,f];by_cases B:x=4096+i*h0.c.W+k
   .rw[Wg aa,Wj B,Wj aa]
   rw[Wg B];congr 1;apply propext;omega
  rw[Wh A,Wa];exact⟨v,rfl,y,z,λx e=>by rw[Wg (by rw[f,f];omega)]⟩
def ZE(w:W8)(j:Int):Prop:=(pg w.h.p j).k≠0/\(pg w.h.p j).s=w.h.s
def XiE(hN:NB N){w:W8}(hb:HB h0)(hp:UP h0)(L:w.h.c=h0.c)(A:w.h.p.length=h0.p.length):∀(n:Nat) (i c:Int) (v:List Int) (ps:List WJ),0<=i->i<=h0.p.length->(h0.p.length-i).toNat<n->v.length=h0.w.length->(∀x∈v,tU x)->ps.length=h0.p.length->(∀j,i<=j->pg ps j=pg w.h.p j) ->
 ∃u g f,Qa4 N w n i c v ps=some (u,g,f)/\g.length=h0.w.length/\(∀x∈g,tU x)/\f.length=h0.p.length/\(∀j,0<=j->(i<=j/\j<h0.p.length/\ZE w j->pg f j=Z8)/\(¬(i<=j/\j<h0.p.length/\ZE w j)->pg f j=pg ps j))/\∀x,4096<=x->((∃j,i<=j/\j<h0.p.length/\ZE w j/\Xb h0.c j 0<=x/\x<Xb h0.c j h0.c.W)->wd g x=0)/\((¬∃j,i<=j/\j<h0.p.length/\ZE w j/\Xb h0.c j 0<=x/\x<Xb h0.c j h0.c.W)->wd g x=wd v x)
 |0,i,c,v,ps,_,_,hn,_,_,_,_=>by omega
 |n+1,i,c,v,ps,O,gi,hn,Q,R,o,z=>by
  have T:=hN;unfold NB at T;have hb2:=hb.2;have hpp:=hp.pages;have hvc:=Xi.1 hp.conf;rw[Qa4,Xe aa,o];by_cases G:i<h0.p.length;rotate_left
  .rw[Wh G,Wa];exact⟨c,v,ps,rfl,Q,R,o,λj _=>⟨λh=>aa,λ_=>rfl⟩,λx _=>⟨λ⟨j,a,b,_⟩=>aa,λ_=>rfl⟩⟩
  rw[Wi G,Wc,XQ O aa,Xa,z i (Uo _),Xf (n:=i+1) aa aa];have skip:¬ZE w i->∃u g f,Qa4 N w n (i+1) c v ps=some (u,g,f)/\g.length=h0.w.length/\(∀x∈g,tU x)/\f.length=h0.p.length/\(∀j,0<=j->(i<=j/\j<h0.p.length/\ZE w j->pg f j=Z8)/\(¬(i<=j/\j<h0.p.length/\ZE w j)->pg f j=pg ps j))/\∀x,4096<=x->((∃j,i<=j/\j<h0.p.length/\ZE w j/\Xb h0.c j 0<=x/\x<Xb h0.c j h0.c.W)->wd g x=0)/\((¬∃j,i<=j/\j<h0.p.length/\ZE w j/\Xb h0.c j 0<=x/\x<Xb h0.c j h0.c.W)->wd g x=wd v x):=λH=>by
   obtain⟨u,g,f,e1,B,e3,e4,Y,Z⟩:=XiE hN hb hp L A n (i+1) c v ps aa aa aa Q R o λj h=>z j aa;have ne:∀j,i<=j->ZE w j->i+1<=j:=λj h z=>by
    by_cases e:j=i
    .rw[e]at z;exact absurd z H
    omega
   refine⟨u,g,f,e1,B,e3,e4,λj t=>⟨λh=>(Y j t).1 ⟨ne j h.1 h.2.2,h.2⟩,λh=>(Y j t).2 λU=>h ⟨aa,U.2⟩⟩,λx q=>⟨λ⟨j,a,b,d,e⟩=>(Z x q).1 ⟨j,ne j a d,b,d,e⟩,λh=>(Z x q).2 λ⟨j,a,b⟩=>h ⟨j,aa,b⟩⟩⟩
  by_cases k0:(pg w.h.p i).k=0
  .rw[Xl k0,Wc];exact skip λh=>h.1 k0
  rw[Xh k0,Wa];by_cases I:(pg w.h.p i).s=w.h.s;rotate_left
  .rw[Xn I,Wc];exact skip λh=>I h.2
  have H:ZE w i:=⟨k0,I⟩
  obtain⟨r,r1,r2,r3,r4⟩:=XqM (N:=N) (w:=w) ps (pg w.h.p i) i c hp L O aa N 0 v aa aa aa Q R;rw[show((pg w.h.p i).s != w.h.s)=false by simpa using I,Wa,Xa,r1,Xa];have B:=λx J=>ZQ (ps:=ps) (j:=x) ⟨0,0,0,0⟩ O aa J;obtain⟨u,g,f,f1,f2,f3,f4,V,K⟩:=XiE hN hb hp L A n (i+1) (wI (c+1)) r (ps.set i.toNat ⟨0,0,0,0⟩) aa aa aa r2 r3 (by rw[Ww];exact o) λj h=>by rw[B j aa,Wg aa];exact z j aa
  refine⟨u,g,f,f1,f2,f3,f4,λj t=>⟨λh=>?_,λh=>?_⟩,λx q=>⟨λ⟨j,a,b,d,e⟩=>?_,λh=>?_⟩⟩
  .by_cases y:j=i
   .rw[(V j t).2 aa,B j t,Wj y];rfl
   exact(V j t).1 ⟨aa,h.2⟩
  .rw[(V j t).2 λU=>h ⟨aa,U.2⟩,B j t,Wg];rintro rfl;exact h ⟨Uo _,G,H⟩
  .by_cases y:j=i
   .subst y;by_cases J:∃E,j+1<=E/\E<h0.p.length/\ZE w E/\Xb h0.c E 0<=x/\x<Xb h0.c E h0.c.W
    .exact(K x q).1 J
    rw[(K x q).2 J,r4 x q,Wj e]
   exact(K x q).1 ⟨j,aa,b,d,e⟩
  rw[(K x q).2 λ⟨j,a,b⟩=>h ⟨j,aa,b⟩,r4 x q,Wg λe=>h ⟨i,Uo _,G,H,e⟩]
end
section
variable {N:Nat}{h0:Wp}{S:List Int}{P:Int->Prop}{w:W8}{M:List (Int×Int)}{D:Int->Prop}
def OV.nxt{c:Uj}{ps:List WJ}(s:OV c ps){i n:Int}(j:0<=i)(g:(pg ps i).k≠3)(e:n=if(pg ps i).k=2 then XI c (pg ps i).u else 1)(A:1<=n)(o:i+n<ps.length):(pg ps (i+n)).k≠3:=by
 intro p;obtain⟨k,k0,k1,q,k2,B⟩:=s.tl (i+n) aa o p;have t:=(q.k2 k2).2.2;have x:=s.hd i j aa g;by_cases y:k<i
 .have:=(t (i-k) aa aa).1;rw[show k+(i-k)=i by omega]at this;exact g this
 by_cases z:k=i
 .subst z;rw[Wj k2]at e;omega
 by_cases f:(pg ps i).k=2
 .rw[Wj f]at e;have:=((x.k2 f).2.2 (k-i) aa aa).1;rw[show i+(k-i)=k by omega]at this;omega
 rw[Wg f]at e;omega
def Xe7{h:Wp}(j:h.p.length<=100000)(hN:1000000<N)(s:OV h.c h.p):∀(n i:Nat),i<=h.p.length->h.p.length-i<n->(i<h.p.length->(pg h.p (i:Int)).k≠3)->Qac N h n (i:Int)=some (.nxt ())
 |0,i,_,q,_=>by omega
 |n+1,i,x,q,o=>by
  rw[Qac];by_cases f:i<h.p.length;rotate_left
  .rw[Wh aa,Wa]
  have b:=s.hd (i:Int) aa aa (o f);have sp:=XbL (c:=h.c) f;have e:=sp.2 b;have t:=sp.1.2 b;have ep:=Kh f;have u:=Xaa (c:=h.c) f (p:=h.p[i]);rw[Xm f,Wc,Ku j hN f,Xa];generalize Yf h.c h.p i h.p[i]=m at *;rw[show((m:Int)==0)=false by simp_all,Wa,Xf aa aa,show(i:Int)+(m:Int)=((i+m:Nat):Int) by omega];refine Xe7 j hN s n (i+m) aa aa λy=>?_;have:=s.nxt (i:=(i:Int)) (n:=(m:Int)) aa (o f) (by
   rw[ep]
   by_cases g:h.p[i].k=2
   .rw[Wj g]at e⊢
    have:=(b.k2 (by rw[ep];exact g)).1
    rw[ep]at this
    omega
   .rw[Wg g]at e⊢;omega) aa aa
  rwa[show(i:Int)+(m:Int)=((i+m:Nat):Int) by omega]at this
def JR(hN:NB N){h:Wp}(hb:HB h)(hp:O1 h)(s:OV h.c h.p):Qab N h=some true:=by
 have f:1000000<N:=by unfold NB at hN;omega
 have g:0<h.p.length->(pg h.p (0:Int)).k≠3:=λj k=>by obtain⟨k,k0,k1,_⟩:=s.tl 0 aa aa k;omega
 have e:=Xe7 (N:=N) hb.2 f s N 0 aa (by have:=hb.2;omega) g;have e:Qac N h N 0=some (.nxt ()):=e;rw[←YU hb.2 f,KJ hp,e,Xa,Xo]
def JX.spn(J:JX N h0 S P w M D)(hN:NB N)(B:BX N h0 S):OV h0.c w.h.p:=by have h:=J.ss.proper hN B.st.hb B.gx.ep (ws:=h0.w) rfl (b:=-1) (.inl rfl);exact Xcg hN (h:=⟨h0.c,h0.w,w.h.p,h0.s,-1⟩) ⟨B.st.hb.1,by rw[J.ss.1];exact B.st.hb.2⟩ h
structure FX(h0:Wp)(w:W8)(M:List (Int×Int))(v v':List Int)(ps:List WJ):Prop where
 fd:∀a,XcE h0 M a->wd v a=XhE h0 a/\∀j,0<=j->j<(hdA h0.w a).n->wd v (a+1+j)=0
 fo:∀x:Int,4096<=x->(∀a,XcE h0 M a->¬(a<=x/\x<a+szA h0.w a))->wd v x=wd w.h.w x
 pl:ps.length=h0.p.length
 vl:v'.length=h0.w.length
 pz:∀j,0<=j->j<(h0.p.length:Int)->ZE w j->pg ps j=Z8
 pk:∀j,0<=j->j<(h0.p.length:Int)->¬ZE w j->pg ps j=pg w.h.p j
 wz:∀x:Int,4096<=x->x<4096+h0.w.length->ZE w (pgi h0.c x)->wd v' x=0
 wk:∀x:Int,4096<=x->x<4096+h0.w.length->¬ZE w (pgi h0.c x)->wd v' x=wd v x
def JX.fz(J:JX N h0 S P w M D)(hN:NB N)(B:BX N h0 S){i:Int}(j:0<=i)(i1:i<(h0.p.length:Int)):
 (i∈w.t->¬ZE w i)/\(i∉w.t->((pg h0.p i).k=0->¬ZE w i)/\((pg h0.p i).k=1->(ZE w i↔¬(pg h0.p i).P>0))/\((pg h0.p i).k=2->(ZE w i↔Xb h0.c i 0∉M.map (·.1)))):=by
 have u:=B.hp.space;have f:=J.ci.spc;refine⟨λg h=>?_,λg=>?_⟩
 .have:=(J.t i g).2.2.1;have:=h.2;omega
 have p:=J.pgs i j i1 g;unfold ZE;rw[p.1,f];refine⟨λh o=>o.1 h,λh=>?_,λh=>?_⟩
 .rw[p.2.2.2.1 h,h];split<;>rename_i e
  .exact⟨λq=>aa,λq=>absurd e q⟩
  exact⟨λ_=>e,λ_=>⟨aa,rfl⟩⟩
 rw[p.2.2.2.2.1 h,h];split<;>rename_i e
 .exact⟨λq=>aa,λq=>absurd e q⟩
 exact⟨λ_=>e,λ_=>⟨aa,rfl⟩⟩
def JX.fza(J:JX N h0 S P w M D)(hN:NB N)(B:BX N h0 S){a x:Int}(j:I5 h0 a)(E:a<=x)(G:x<a+szA h0.w a):pgi h0.c x∉w.t/\pgi h0.c a∉w.t/\(ZE w (pgi h0.c x)↔ZE w (pgi h0.c a)):=by
 obtain⟨⟨u,H,I,o⟩,U,V⟩:=XcV B.hp j E G;have W:=j.kind;have K:=B.hp.pages;have L:=Yv (a:=x) B.hp.conf (by have:=B.hp.words;omega);have Y:=Yv B.hp.conf j.rng;have g:pgi h0.c a∉w.t:=λh=>by have:=(J.t _ h).1;omega
 by_cases O:pgi h0.c x=pgi h0.c a
 .rw[O];exact⟨g,g,Iff.rfl⟩
 have Z:=o (pgi h0.c x) aa (Uo _);have nx:∀m,pgi h0.c a<m->m<=pgi h0.c x->m∉w.t:=λm e f h=>by have:=(J.t _ h).1;have:=o m e f;omega
 have nxx:=nx _ aa (Uo _);have kw:∀m,pgi h0.c a<m->m<=pgi h0.c x->(pg w.h.p m).k=3:=λm e f=>by rw[(J.pgs m aa aa (nx m e f)).1];exact o m e f
 have Q:(pg w.h.p (pgi h0.c a)).k≠3:=by rw[(J.pgs _ u aa g).1];exact I
 have y:=J.ci.plen;obtain⟨k,k0,k1,R,k2,k4⟩:=(J.spn hN B).tl (pgi h0.c x) L.2.1 aa (kw _ aa (Uo _));have z:=(R.k2 k2).2.2;have T:HeadP w.h (pgi h0.c x) k:=⟨k0,aa,aa,λm e f=>by
  have:=(z (m-k) aa aa).1
  rwa[show k+(m-k)=m by omega]at this⟩
 have q:HeadP w.h (pgi h0.c x) (pgi h0.c a):=⟨u,H,Q,kw⟩
 have:=T.fn q;subst this;have A:=(z (pgi h0.c x-pgi h0.c a) aa aa).2.1;rw[show pgi h0.c a+(pgi h0.c x-pgi h0.c a)=pgi h0.c x by omega]at A;refine⟨nxx,g,?_⟩;unfold ZE;rw[A,kw _ aa (Uo _),k2];constructor<;>exactλh=>⟨aa,h.2⟩
def JX.fzm(J:JX N h0 S P w M D)(hN:NB N)(B:BX N h0 S){p:Int×Int}(hp:p∈M){x:Int}(q:p.2<=x)(y:x<p.2+szA h0.w p.1):¬ZE w (pgi h0.c x)/\4096<=x/\x<4096+h0.w.length:=by
 have A:=(J.l p hp).1;have g:=B.at_ A;rcases J.k p hp with⟨k1,k2⟩|⟨k1,_,i,E,I,K⟩
 .rw[k1]at q y;have f:=J.fza hN B g.1 q y;have G:=XcV B.hp g.1 q y;refine⟨?_,G.2⟩;rw[f.2.2];have z:=(J.fz hN B g.2.2.1 g.2.2.2.1).2 f.2.1;rcases g.1.kind with j|j
  .rw[z.2.1 j];exactλh=>k2 ⟨j,h⟩
  rw[z.2.2 j];intro h;apply h;have e:=(Yv B.hp.conf g.1.rng).1;rw[(g.1.large j).1]at e;rw[←e];exact WG.2 ⟨p,hp,rfl⟩
 have t:=J.tk B E;have L:Xb h0.c i 0=4096+i*h0.c.W+0:=rfl;have O:Xb h0.c i (pg w.h.p i).u=4096+i*h0.c.W+(pg w.h.p i).u:=rfl;have H:=B.hp.pages;have Q:=XV B.hp.conf (i:=i) t.1 aa;have hw:=B.hp.words;have:=(Yu (c:=h0.c) B.hp.conf (p:=i) (o:=x-Xb h0.c i 0) aa aa).1;rw[show Xb h0.c i (x-Xb h0.c i 0)=x by unfold Xb;omega]at this;rw[this];exact⟨(J.fz hN B t.1 t.2.1).1 E,aa,aa⟩
def JX.kw(J:JX N h0 S P w M D)(hN:NB N)(B:BX N h0 S){v o:List Int}{ps:List WJ}(F:FX h0 w M v o ps){p:Int×Int}(hp:p∈M){x:Int}(q:p.2<=x)(t:x<p.2+szA h0.w p.1):wd o x=wd w.h.w x:=by have f:=J.fzm hN B hp q t;rw[F.wk x f.2.1 f.2.2 f.1];refine F.fo x f.2.1 λa hd z=>?_;obtain⟨O,s,j⟩:=J.ci.obj;have g:=J.geo j hp;have u:=B.at_ hd.1;have y:=j.old a u.2.1;have:p.2≠a:=λe=>hd.2.1 (by have:=J.q_old B hd.1 hp e;exact WG.2 ⟨p,hp,by rw[this]⟩);have:=j.apart p.2 a g.1 y.1 this;omega
end
def Chn.tr{ws f:List Int}:∀{l:List Int} {p q:Int},Chn ws p l q->(∀a∈l,okH (wd f a)=true/\szA f a=szA ws a)->Chn f p l q
 |[],_,_,h,_=>h
 |a::l,p,q,⟨e,j,h⟩,hw=>by have g:=hw a ab;exact⟨e,g.1,by rw[g.2];exact h.tr λb hb=>hw b (WC _ hb)⟩
def CM.chn{h:Wp}{M:List (Int×Int)}{vs:List Int}(hw:∀p∈M,okH (wd vs p.2)=true/\szA vs p.2=szA h.w p.1):∀{l:List Int} {p q:Int},CM h M p l q->Chn vs p l q/\∀b∈l,∃a,(a,b)∈M/\cpy h a
 |[],_,_,e=>⟨e,ab⟩
 |b::l,p,q,⟨e,a,g,o,t⟩=>by
  subst e;have j:=hw _ g;have r:=t.chn hw;refine⟨⟨rfl,j.1,by rw[j.2];exact r.1⟩,λx f=>?_⟩;rcases Us.1 f with rfl|f
  .exact⟨a,g,o⟩
  exact r.2 x f
def CM.cov{h:Wp}{M:List (Int×Int)}{x:Int}:∀{l:List Int} {p q:Int},CM h M p l q->p<=x->x<q->∃b∈l,∃a,(a,b)∈M/\b<=x/\x<b+szA h.w a
 |[],p,q,e,f,g=>by have e:p=q:=e;omega
 |b::l,p,q,⟨e,a,g1,g2,g3⟩,f,g=>by
  subst e;by_cases j:x<b+szA h.w a
  .exact⟨b,ab,a,g1,f,j⟩
  obtain⟨c,o,r⟩:=g3.cov aa g;exact⟨c,WC _ o,r⟩
def XjM{d:WH}(g:XM d=true)(ht:tW d.Map):okH (Kz d)=true/\Z0 (Kz d)=d/\Kz d≠0:=by
 have hb:=XO g;have o:=ht;unfold tW at o;have e:Kz d=1+4*d.k+16*d.n+d.Map*65536:=by unfold Kz;have s:∀x:Int,JT .u64 x 16=wU (x*65536):=λ_=>rfl;rw[s];simp only[Xdr];omega
 have tu:tU (Kz d):=by rw[e];exact⟨aa,aa⟩
 have j:Xb3 (Kz d)=d:=by rw[XcT tu,e];obtain⟨k,l,m⟩:=d;dsimp only at *;congr 1<;>omega
 have f:okH (Kz d)=true:=by unfold okH;rw[j,g];simp
 exact⟨f,by unfold Z0;rw[Wj f,j],by rw[e];omega⟩
def XrF(h:Wp)(a:Int):okH (XhE h a)=true/\Z0 (XhE h a)=⟨0,(hdA h.w a).n,0⟩:=by have e:=XcX h.w a;have:=XjM (d:=⟨0,(hdA h.w a).n,0⟩) (XqL aa) ⟨by show(0:Int)<=0;omega,by show(0:Int)<=_;omega⟩;exact⟨this.1,this.2.1⟩
section
variable {N:Nat}{h0:Wp}{S:List Int}{P:Int->Prop}{w:W8}{M:List (Int×Int)}{D:Int->Prop}{v v':List Int}{ps:List WJ}
def JX.q_st(J:JX N h0 S P w M D)(B:BX N h0 S){a:Int}(j:Stt h0 a){p:Int×Int}(hp:p∈M)(e:p.2=a):p=(a,a):=by
 rcases J.k p hp with⟨k,_⟩|⟨_,_,i,g,k1,k2⟩
 .exact Prod.ext (by rw[←k,e]) e
 exfalso;have t:=J.tk B g;have x:=(XJ h0.w p.1).2.1;have f:=j.at_ B.hp;have y:Xb h0.c i 0=4096+i*h0.c.W+0:=rfl;have z:Xb h0.c i (pg w.h.p i).u=4096+i*h0.c.W+(pg w.h.p i).u:=rfl;have:=(Yu (c:=h0.c) B.hp.conf (p:=i) (o:=a-Xb h0.c i 0) aa aa).1;rw[show Xb h0.c i (a-Xb h0.c i 0)=a by unfold Xb;omega]at this;have q:=f.kind;rw[this]at q;have:=(J.t i g).1;omega
def JX.nw(J:JX N h0 S P w M D)(B:BX N h0 S){a:Int}(j:Stt h0 a)(x:(hdA h0.w a).k=0)(F:FX h0 w M v v' ps)(z:¬ZE w (pgi h0.c a)):wd v' a=wd h0.w a:=by
 have q:=j.at_ B.hp;have t:=q.rng;have hw:=B.hp.words;have u:=(B.mS a).2 j;obtain⟨O,s,f⟩:=J.ci.obj;have y:=f.old a u;have A:=(XJ h0.w a).2.1;rw[F.wk a t.1 aa z,F.fo a t.1 λb hb E=>?_]
 .refine J.o a t.1 λp hp=>?_;have G:=(J.l p hp).1;have n1:a≠p.1:=λe=>G.2 (by rw[←e];exact x);refine⟨n1,λE=>?_⟩;have g:=J.geo f hp;have n2:p.2≠a:=λe=>n1 (by have:=J.q_st B j hp e;rw[this]);have:=f.apart p.2 a g.1 y.1 n2;omega
 have H:=B.at_ hb.1;have ob:=f.old b H.2.1;have n1:a≠b:=λe=>hb.1.2 (by rw[←e];exact x);have:=f.apart a b y.1 ob.1 n1;omega
def JX.hdr(J:JX N h0 S P w M D)(hN:NB N)(B:BX N h0 S)(F:FX h0 w M v v' ps){a:Int}(o:Stt h0 a)(y:(pg h0.p (pgi h0.c a)).k=1)(hp:(pg h0.p (pgi h0.c a)).P>0):okH (wd v' a)=true/\szA v' a=szA h0.w a/\((∃p∈M,p.2=a)\/(hdA v' a).k=0):=by
 have g:=o.at_ B.hp;have z:=g.rng;have hw:=B.hp.words;have I:=B.hp.pages;have q:=Yv B.hp.conf z;have u:pgi h0.c a∉w.t:=λh=>by have:=(J.t _ h).1;omega
 have A:¬ZE w (pgi h0.c a):=λh=>(((J.fz hN B q.2.1 aa).2 u).2.1 y).1 h hp;by_cases j:(hdA h0.w a).k=0
 .have e:=J.nw B o j F A;refine⟨by rw[e];exact g.ok,JQ e,.inr ?_⟩;unfold hdA at j⊢;rw[e];exact j
 by_cases E:a∈M.map (·.1)
 .obtain⟨b,f⟩:=KO E;rcases J.k _ f with⟨k1,_⟩|⟨k1,_⟩
  .have k1:b=a:=k1;subst k1;have e:=J.kw hN B F f (x:=b) (Uo _) (by have:=(XJ h0.w b).2.1;show b<b+szA h0.w b;omega);have e:=e.trans (J.hd _ f);exact⟨by rw[e];exact g.ok,JQ e,.inl ⟨_,f,rfl⟩⟩
  exact absurd hp k1.2
 have hd:XcE h0 M a:=⟨⟨o,j⟩,E,y,hp⟩
 have e:=(F.fd a hd).1;have G:wd v' a=XhE h0 a:=by rw[F.wk a z.1 aa A];exact e
 have fo:=XrF h0 a;have H:hdA v' a=⟨0,(hdA h0.w a).n,0⟩:=by unfold hdA;rw[G];exact fo.2
 exact⟨by rw[G];exact fo.1,by unfold szA;rw[H],.inr (by rw[H])⟩
def JX.pars(J:JX N h0 S P w M D)(hN:NB N)(B:BX N h0 S)(F:FX h0 w M v v' ps){H:Wp}(K:H.c=h0.c)(L:H.w=v')(ep:H.p=ps){i:Int}(q:0<=i)(i1:i<(h0.p.length:Int)):
 ∃l,OE H i l/\(∀b∈l,XcD H i b/\((∃p∈M,p.2=b)\/(hdA H.w b).k=0))/\(i∈w.t->∀p∈M,Xb h0.c i 0<=p.2->p.2<Xb h0.c i (pg w.h.p i).u->p.2∈l)/\(i∉w.t->¬ZE w i->∀m,OE h0 i m->m=l):=by
 have T:=(B.hp.pgs i q i1).kind;have j:∀p∈M,wd v' p.2=wd h0.w p.1:=λp hp=>by have:=(XJ h0.w p.1).2.1;rw[J.kw hN B F hp (x:=p.2) (Uo _) aa];exact J.hd p hp
 by_cases y:ZE w i
 .have e:=F.pz i q i1 y;rw[←ep]at e;refine⟨[],⟨λ_=>rfl,λk=>?_,λk=>?_⟩,ab,λA=>absurd y ((J.fz hN B q i1).1 A),λ_ h=>absurd y h⟩
  .rw[e]at k;exact absurd k ae
  rw[e]at k;exact absurd k ae
 have e:=F.pk i q i1 y;rw[←ep]at e;by_cases A:i∈w.t
 .have t:=J.t i A;have tk:=J.tk B A;obtain⟨l,W⟩:=t.2.2.2;have c:=W.chn (vs:=v') λp hp=>by have R:=B.at_ (J.l p hp).1;exact⟨by rw[j p hp];exact R.1.ok,JQ (j p hp)⟩
  refine⟨l,⟨λk=>?_,λk=>?_,λk=>?_⟩,λb hb=>?_,λ_ p hp Z h2=>?_,λh=>absurd A h⟩
  .rw[e,tk.2.2.1]at k;omega
  .rw[L,K,e];exact c.1
  .rw[e,tk.2.2.1]at k;omega
  .obtain⟨a,f,hc⟩:=c.2 b hb;refine⟨⟨λ_=>?_,λk=>by rw[e,tk.2.2.1]at k;omega⟩,.inl ⟨_,f,rfl⟩⟩;have E:=(J.l _ f).1;obtain⟨m,U,am⟩:=E.1.pars B.hp;have R:=B.at_ E;have:=(B.gx.cl _ m R.2.2.1 R.2.2.2.1 U a am).1 hc.1;have es:szA v' b=szA h0.w a:=JQ (j _ f);rw[L,es,K];exact this
  obtain⟨b,hb,a,f,b1,b2⟩:=W.cov Z h2;have:p.2=b:=by apply Classical.byContradiction;intro hn;obtain⟨O,s,I⟩:=J.ci.obj;have g1:=J.geo I hp;have g2:=J.geo I f;have:=I.apart p.2 b g1.1 g2.1 hn;have:=(XJ h0.w p.1).2.1;dsimp only at g2;omega
  rw[this];exact hb
 have p:=J.pgs i q i1 A;have z:=(J.fz hN B q i1).2 A;obtain⟨l,pl⟩:=B.gx.ps i q i1;have G:∀a∈l,Stt h0 a/\I5 h0 a/\pgi h0.c a=i:=λa E=>⟨⟨i,l,q,i1,pl,E⟩,pl.at_ B.hp q i1 E⟩
 refine⟨l,⟨λk=>?_,λk=>?_,λk=>?_⟩,λb hb=>?_,λh=>absurd h A,λ_ _ m U=>U.fn T pl⟩
 .rw[e,p.1]at k;exact pl.none k
 .rw[e,p.1]at k;have o:(pg h0.p i).P>0:=Classical.byContradiction λh=>y ((z.2.1 k).2 h);rw[L,K,e,p.2.1];refine(pl.small k).tr λa E=>?_;have g:=G a E;have:=J.hdr hN B F g.1 (by rw[g.2.2];exact k) (by rw[g.2.2];exact o);exact⟨this.1,this.2.1⟩
 .rw[e,p.1]at k;obtain⟨rfl,I,Y⟩:=pl.large k;have V:Xb h0.c i 0∈M.map (·.1):=Classical.byContradiction λh=>y ((z.2.2 k).2 h);obtain⟨b,f⟩:=KO V;have g:=G (Xb h0.c i 0) ab;have hb:b=Xb h0.c i 0:=by
   rcases J.k _ f with⟨k1,_⟩|⟨k1,_⟩
   .exact k1
   have:=k1.1;dsimp only at this;rw[g.2.2,k]at this;omega
  subst hb;have:=j _ f;dsimp only at this;rw[K,L,e,p.2.1];exact⟨rfl,by rw[this];exact I,by rw[JQ this];exact Y⟩
 have g:=G b hb;have cl:=B.gx.cl i l q i1 pl b hb;have Q:=g.2.1.kind;rw[g.2.2]at Q;unfold XcD;rw[L,K,e,p.1];rcases Q with k|k
 .have o:(pg h0.p i).P>0:=Classical.byContradiction λh=>y ((z.2.1 k).2 h);have:=J.hdr hN B F g.1 (by rw[g.2.2];exact k) (by rw[g.2.2];exact o);exact⟨⟨λ_=>by rw[this.2.1];exact cl.1 k,λh=>aa⟩,this.2.2⟩
 obtain⟨rfl,I,Y⟩:=pl.large k;rw[WM.1 hb]at g cl⊢;have V:Xb h0.c i 0∈M.map (·.1):=Classical.byContradiction λh=>y ((z.2.2 k).2 h);obtain⟨b,f⟩:=KO V;have hb:b=Xb h0.c i 0:=by
  rcases J.k _ f with⟨k1,_⟩|⟨k1,_⟩
  .exact k1
  have:=k1.1;dsimp only at this;rw[g.2.2,k]at this;omega
 subst hb;have:=j _ f;dsimp only at this;refine⟨⟨λh=>aa,λ_=>?_⟩,.inl ⟨_,f,rfl⟩⟩;unfold hdA;rw[this];exact cl.2 k
end
structure O2(N:Nat)(h0:Wp)(P:Int->Prop)(M:List (Int×Int))(h:Wp):Prop where
 gx:GX N h
 cf:h.c=h0.c
 sp:h.s=1-h0.s
 wl:h.w.length=h0.w.length
 pl:h.p.length=h0.p.length
 n1:(M.map (·.1)).Nodup
 n2:(M.map (·.2)).Nodup
 l:∀p∈M,Obb h0 p.1/\P p.1
 ob:∀b,Obb h b↔b∈M.map (·.2)
 hd:∀p∈M,hdA h.w p.2=hdA h0.w p.1
 f1:∀p∈M,∀j,0<=j->j<(hdA h0.w p.1).n->j∉XN (hdA h0.w p.1)->wd h.w (p.2+1+j)=wd h0.w (p.1+1+j)
 f2:∀p∈M,∀j∈XN (hdA h0.w p.1),rel M (wd h0.w (p.1+1+j)) (wd h.w (p.2+1+j))
 pn:∀i,0<=i->i<(h0.p.length:Int)->((pg h0.p i).k=2->(pg h0.p i).P>0->Xb h0.c i 0∈M.map (·.1))->(pg h.p i).P=(pg h0.p i).P
 kp:∀p∈M,(pg h0.p (pgi h0.c p.1)).P>0->p.2=p.1
def Xbc{α:Type}(q:α->Bool):∀(l m:List α),l.length=m.length->(∀(i:Nat) (e:i<l.length) (f:i<m.length),q l[i]=true->q m[i]=true)->l.countP q<=m.countP q
 |[],m,_,_=>by simp
 |a::l,[],h,_=>by simp at h
 |a::l,b::m,h,g=>by
  have h0:=g 0 ab ab;have j:=Xbc q l m (by simpa using h) λi e f=>by have:=g (i+1) (by simpa using e) (by simpa using f);simpa using this
  rw[U4,U4];simp only[List.getElem_cons_zero]at h0;cases o:q a with
  |false=>simp;omega
  |true=>rw[h0 o];simp;exact j
section
variable {N:Nat}{h0:Wp}{S:List Int}{P:Int->Prop}{w:W8}{M:List (Int×Int)}{v v':List Int}{ps:List WJ}
def Xd7{h f:Wp}{a b:Int}(e:hdA f.w b=hdA h.w a):Kw f b=Kw h a:=by unfold Kw szA;rw[e]
def JX.fin(J:JX N h0 S P w M (Dn h0 M M.length))(hN:NB N)(B:BX N h0 S)(F:FX h0 w M v v' ps){h':Wp}(ec:h'.c=h0.c)(R:h'.w=v')(ep:h'.p=ps)(es:h'.s=1-h0.s)(hbp:h'.b = -1\/h'.b∈w.t):O2 N h0 P M h':=by
 have y:=B.hp;have hsp0:=y.space;have hpl0:=y.pages;have hw0:=y.words;have hvc:=Xi.1 y.conf;have hb0:=B.st.hb;have spn:=J.spn hN B;have hwsp:=J.ci.spc;have hwpl:=J.ci.plen;have hb':HB h':=⟨by rw[R,F.vl];exact hb0.1,by rw[ep,F.pl];exact hb0.2⟩
 have wspc:∀i,0<=i->i<(h0.p.length:Int)->0<=(pg w.h.p i).s/\(pg w.h.p i).s<=1:=λi g i1=>by
  by_cases G:(pg w.h.p i).k=3
  .obtain⟨k,k0,k1,I,k2,k4⟩:=spn.tl i g aa G;have:=((I.k2 k2).2.2 (i-k) aa aa).2.1;rw[show k+(i-k)=i by omega]at this;have:=I.sp;omega
  exact(spn.hd i g aa G).sp
 have pgq:∀i,0<=i->i<(h0.p.length:Int)->(pg h'.p i=Z8/\ZE w i)\/(pg h'.p i=pg w.h.p i/\¬ZE w i):=λi g i1=>by
  by_cases u:ZE w i
  .exact .inl ⟨by rw[ep];exact F.pz i g i1 u,u⟩
  exact .inr ⟨by rw[ep];exact F.pk i g i1 u,u⟩
 have spn':OV h'.c h'.p:=by
  rw[ec];have lp:h'.p.length=h0.p.length:=by rw[ep,F.pl]
  refine⟨λi g i1 G=>?_,λi g i1 G=>?_⟩
  .rw[lp]at i1;rcases pgq i g i1 with⟨e,u⟩|⟨e,u⟩
   .refine⟨?_,?_,λ_=>e,λk=>?_,λk=>?_,?_⟩<;>rw[e]at *<;>simp[Z8]at *
   rw[e]at G;have b:=spn.hd i g aa G;refine⟨by rw[e];exact b.sp,by rw[e];exact b.pn,by rw[e];exact b.k0,by rw[e];exact b.k1,λk=>?_,by rw[e];exact b.kd⟩;rw[e]at k⊢;have k2:=b.k2 k;refine⟨k2.1,aa,λm m0 m1=>?_⟩;have t:=k2.2.2 m m0 m1;rcases pgq (i+m) aa aa with⟨_,hz'⟩|⟨e',_⟩
   .exfalso;exact u ⟨aa,by have:=hz'.2;omega⟩
   rw[e'];exact t
  rw[lp]at i1;rcases pgq i g i1 with⟨e,u⟩|⟨e,u⟩
  .rw[e]at G;exact absurd G ae
  rw[e]at G;obtain⟨k,k0,k1,I,k2,k4⟩:=spn.tl i g aa G;have t:=(I.k2 k2).2.2;have ti:=(t (i-k) aa aa).2.1;rw[show k+(i-k)=i by omega]at ti;have hzk:¬ZE w k:=λh=>u ⟨aa,by have:=h.2;omega⟩;have V:pg h'.p k=pg w.h.p k:=by
   rcases pgq k k0 aa with⟨_,h⟩|⟨e,_⟩
   .exact absurd h hzk
   exact e
  refine⟨k,k0,k1,⟨by rw[V];exact I.sp,by rw[V];exact I.pn,by rw[V];exact I.k0,by rw[V];exact I.k1,λ_=>?_,by rw[V];exact I.kd⟩,by rw[V];exact k2,by rw[V];exact k4⟩;have kk:=I.k2 k2;rw[V];refine⟨kk.1,aa,λm m0 m1=>?_⟩;have tm:=t m m0 m1;rcases pgq (k+m) aa aa with⟨_,hz'⟩|⟨e',_⟩
  .exfalso;exact hzk ⟨aa,by have:=hz'.2;omega⟩
  rw[e'];exact tm
 have pre:O1 h':=by
  refine⟨by rw[ec];exact y.conf,by rw[R,ec,F.vl];exact hw0,by rw[ep,ec,F.pl];exact hpl0,by rw[es];omega,?_⟩;rcases hbp with h|h
  .exact .inl h
  right;have t:=J.tk B h;have:pg h'.p h'.b=pg w.h.p h'.b:=by rw[ep];exact F.pk _ t.1 t.2.1 ((J.fz hN B t.1 t.2.1).1 h)
  rw[this];exact⟨t.1,by rw[ep,F.pl];exact t.2.1,t.2.2.1⟩
 have epr:=JR hN hb' pre spn';have hp':=XL hN hb' epr;have pars:=λi g i1=>J.pars hN B F ec R ep (i:=i) g i1;have lp:h'.p.length=h0.p.length:=by rw[ep,F.pl]
 have hkw:∀p∈M,wd h'.w p.2=wd h0.w p.1:=λp hp=>by have:=(XJ h0.w p.1).2.1;rw[R,J.kw hN B F hp (x:=p.2) (Uo _) aa];exact J.hd p hp
 have U:∀p∈M,hdA h'.w p.2=hdA h0.w p.1:=λp hp=>by unfold hdA;rw[hkw p hp]
 have st_of:∀p∈M,Stt h' p.2:=λp hp=>by
  have H:=(J.l p hp).1;have hA:=B.at_ H;rcases J.k p hp with⟨k1,k2⟩|⟨k1,_,i,A,G,k4⟩
  .obtain⟨m,pm,am⟩:=H.1.pars y;obtain⟨l,pl,_,_,l2⟩:=pars _ hA.2.2.1 hA.2.2.2.1;have f:=J.fzm hN B hp (x:=p.2) (Uo _) (by have:=(XJ h0.w p.1).2.1;omega);rw[k1]at f⊢;have:=(J.prm B H).1;rw[l2 this f.1 m pm]at am;exact⟨_,l,hA.2.2.1,by rw[lp];exact hA.2.2.2.1,pl,am⟩
  have t:=J.tk B A;obtain⟨l,pl,_,l1,_⟩:=pars i t.1 t.2.1;exact⟨i,l,t.1,by rw[lp];exact t.2.1,pl,l1 A p hp G (by have:=(XJ h0.w p.1).2.1;omega)⟩
 have ob:∀b,Obb h' b↔b∈M.map (·.2):=λb=>by
  constructor
  .rintro⟨⟨i,l,g,i1,pl,hb⟩,hk⟩;rw[lp]at i1;obtain⟨l',pl',q,_,_⟩:=pars i g i1;have:=pl.fn (hp'.pgs i g (by rw[lp];exact i1)).kind pl';subst this;rcases(q b hb).2 with⟨p,hp,e⟩|h
   .exact WG.2 ⟨p,hp,e⟩
   exact absurd h hk
  intro hb;obtain⟨p,hp,rfl⟩:=WG.1 hb;exact⟨st_of p hp,by rw[U p hp];exact(J.l p hp).1.2⟩
 have f1:∀p∈M,∀j,0<=j->j<(hdA h0.w p.1).n->j∉XN (hdA h0.w p.1)->wd h'.w (p.2+1+j)=wd h0.w (p.1+1+j):=λp hp j j0 j1 W=>by
  have ez:szA h0.w p.1=(hdA h0.w p.1).n+1:=rfl;rw[R,J.kw hN B F hp (x:=p.2+1+j) aa aa];refine(J.fl p hp j j0 j1).1 ?_;rintro⟨i,q,j',A,T,hj',e⟩;have hqm:q∈M:=WW T;have r':=YC hj';have ezq:szA h0.w q.1=(hdA h0.w q.1).n+1:=rfl;obtain⟨O,s,ho⟩:=J.ci.obj;have g1:=J.geo ho hp;have g2:=J.geo ho hqm;have:q.2=p.2:=by apply Classical.byContradiction;intro hn;have:=ho.apart _ _ g2.1 g1.1 hn;omega
  have:=J.inj hqm hp this;subst this;rw[show j=j' by omega]at W;exact W hj'
 have f2:∀p∈M,∀j∈XN (hdA h0.w p.1),rel M (wd h0.w (p.1+1+j)) (wd h'.w (p.2+1+j)):=λp hp j W=>by have ez:szA h0.w p.1=(hdA h0.w p.1).n+1:=rfl;have r:=YC W;rw[R,J.kw hN B F hp (x:=p.2+1+j) aa aa];obtain⟨i,A,e⟩:=Wv hp;exact(J.fl p hp j r.1 r.2).2 ⟨i,p,j,A,by rw[Wb A,e],W,rfl⟩
 have zfree:∀i,0<=i->i<(h0.p.length:Int)->(pg h0.p i).k=0->(pg h0.p i).P=0:=λi g i1 k=>by rw[(y.pgs i g i1).free k];rfl
 have K:∀i,0<=i->i<(h0.p.length:Int)->¬ZE w i->(pg h'.p i).P=(pg h0.p i).P:=λi g i1 u=>by
  have e:pg h'.p i=pg w.h.p i:=by
   rcases pgq i g i1 with⟨_,h⟩|⟨e,_⟩
   .exact absurd h u
   exact e
  rw[e];by_cases A:i∈w.t
  .have t:=J.t i A;rw[t.2.1,zfree i g i1 t.1]
  exact(J.pgs i g i1 A).2.2.1
 refine⟨⟨epr,λi g i1=>?_,λi g i1 k=>?_,λi l g i1 pl a ha=>?_,λx x0 Y=>?_,λb hb j W=>?_,?_⟩,ec,es,by rw[R,F.vl],lp,J.n1,?_,J.l,ob,U,f1,f2,λi g i1 hl=>?_,λp hp h=>?_⟩
 .rw[lp]at i1;obtain⟨l,pl,_⟩:=pars i g i1;exact⟨l,pl⟩
 .rw[lp]at i1;rcases pgq i g i1 with⟨e,_⟩|⟨e,u⟩
  .rw[e]at k;exact absurd rfl k
  rw[e]at k⊢;have:=wspc i g i1;have:(pg w.h.p i).s≠w.h.s:=λh=>u ⟨k,h⟩;rw[es];omega
 .rw[lp]at i1;obtain⟨l',pl',q,_,_⟩:=pars i g i1;have:=pl.fn (hp'.pgs i g (by rw[lp];exact i1)).kind pl';subst this;exact(q a ha).1
 ·
  have x1:x<4096+h0.w.length:=by have:=Xnn x0 Y;rw[R,F.vl]at this;exact this
  rw[R]at Y;have u:¬ZE w (pgi h0.c x):=λh=>Y (F.wz x x0 x1 h);rw[F.wk x x0 x1 u]at Y;have seen:∀p∈M,p.2<=x->x<p.2+szA h0.w p.1->∃a,Stt h' a/\a<=x/\x<a+Kw h' a:=λp hp L Z=>by refine⟨p.2,st_of p hp,L,?_⟩;rw[Xd7 (U p hp)];unfold Kw;rw[Wg (J.l p hp).1.2];exact Z
  have prom:∀a,Stt h0 a->(pg h0.p (pgi h0.c a)).k=1->(pg h0.p (pgi h0.c a)).P>0->Stt h' a:=λa ha hk Q=>by
   have E:=ha.at_ y;have q:=Yv y.conf E.rng;have hnt:pgi h0.c a∉w.t:=λh=>by have:=(J.t _ h).1;omega
   obtain⟨m,pm,am⟩:=ha.pars y;obtain⟨l,pl,_,_,l2⟩:=pars _ q.2.1 aa;have hzz:¬ZE w (pgi h0.c a):=λh=>(((J.fz hN B q.2.1 aa).2 hnt).2.1 hk).1 h Q;rw[l2 hnt hzz m pm]at am;exact⟨_,l,q.2.1,by rw[lp];omega,pl,am⟩
  by_cases hd:∃a,XcE h0 M a/\a<=x/\x<a+szA h0.w a
  .obtain⟨a,hd,L,Z⟩:=hd;have fd:=F.fd a hd;have ez:szA h0.w a=(hdA h0.w a).n+1:=rfl;have hxa:x=a:=by apply Classical.byContradiction;intro hn;have:=fd.2 (x-a-1) aa aa;rw[show a+1+(x-a-1)=x by omega]at this;exact Y this
   subst hxa;refine⟨x,prom x hd.1.1 hd.2.2.1 hd.2.2.2,Uo _,?_⟩;have:1<=Kw h' x:=(XfT h' x).1;omega
  rw[F.fo x x0 λa L Z=>hd ⟨a,L,Z⟩]at Y;by_cases hs:∃p∈M,p.2<=x/\x<p.2+szA h0.w p.1
  .obtain⟨p,hp,L,Z⟩:=hs;exact seen p hp L Z
  by_cases L:∃p∈M,x=p.1
  .obtain⟨p,hp,rfl⟩:=L;rcases J.k p hp with⟨k1,_⟩|⟨k1,_⟩
   .exact absurd ⟨p,hp,aa,by have:=(XJ h0.w p.1).2.1;omega⟩ hs
   have H:=(J.l p hp).1;have hA:=B.at_ H;exact absurd ((((J.fz hN B hA.2.2.1 hA.2.2.2.1).2 (J.prm B H).1).2.1 k1.1).2 k1.2) u
  rw[J.o x x0 λp hp=>⟨λe=>L ⟨p,hp,e⟩,λe=>hs ⟨p,hp,e⟩⟩]at Y;obtain⟨a,sa,a1,a2⟩:=B.gx.dt x x0 Y;have E:=sa.at_ y;have q:=Yv y.conf E.rng;have hext:=Xf1 h0 a;have fz:=J.fza hN B E a1 aa;rw[fz.2.2]at u;have z:=(J.fz hN B q.2.1 aa).2 fz.2.1;obtain⟨m,pm,am⟩:=sa.pars y;by_cases hf:(hdA h0.w a).k=0
  .have hk1:(pg h0.p (pgi h0.c a)).k=1:=by
    rcases E.kind with k|k
    .exact k
    exact absurd hf ((B.gx.cl _ m q.2.1 aa pm a am).2 k)
   have Q:(pg h0.p (pgi h0.c a)).P>0:=Classical.byContradiction λh=>u ((z.2.1 hk1).2 h);have e:=J.nw B sa hf F u;refine⟨a,prom a sa hk1 Q,a1,?_⟩;have:Kw h' a=Kw h0 a:=Xd7 (by rw[R];unfold hdA;rw[e]);omega
  by_cases hm:a∈M.map (·.1)
  .obtain⟨b,hab⟩:=KO hm;rcases J.k _ hab with⟨k1,_⟩|⟨k1,_⟩
   .have k1:b=a:=k1;subst k1;exact absurd ⟨_,hab,a1,by dsimp only;omega⟩ hs
   exact absurd ((z.2.1 k1.1).2 k1.2) u
  rcases E.kind with k|k
  .have Q:(pg h0.p (pgi h0.c a)).P>0:=Classical.byContradiction λh=>u ((z.2.1 k).2 h);exact absurd ⟨a,⟨⟨sa,hf⟩,hm,k,Q⟩,a1,aa⟩ hd
  have e:=q.1;rw[(E.large k).1]at e;exact absurd ((z.2.2 k).2 (by rw[←e];exact hm)) u
 .rw[ob]at hb;obtain⟨p,hp,rfl⟩:=WG.1 hb;rw[U p hp]at W;rcases f2 p hp j W with h|h
  .exact .inl h.2
  exact .inr ((ob _).2 (WG.2 ⟨_,h,rfl⟩))
 .have hcr:=B.gx.cr;rw[ec];refine Int.le_trans (Int.ofNat_le.2 (Xbc K1 h'.p h0.p lp λi L Z T=>?_)) hcr;rw[←Kh L]at T;rw[←Kh Z];unfold K1 at T⊢;rw[Wr,decide_eq_true_iff,beq_iff_eq]at T⊢;rcases pgq (i:Int) aa aa with⟨e,_⟩|⟨e,u⟩
  .rw[e]at T;exact absurd T.1 ae
  rw[K _ aa aa u]at T;refine⟨?_,T.2⟩;have hk:=T.1;rw[e]at hk;by_cases A:(i:Int)∈w.t
  .have:=(J.t _ A).1;have:=zfree (i:Int) aa aa this;omega
  rw[(J.pgs _ aa aa A).1]at hk;exact hk
 .have:=J.ci.qnd;rw[J.q]at this;exact this
 .by_cases u:ZE w i
  .have e:pg h'.p i=Z8:=by rw[ep];exact F.pz i g i1 u
   rw[e];have A:i∉w.t:=λA=>(J.fz hN B g i1).1 A u;have z:=(J.fz hN B g i1).2 A;have pk:=y.pgs i g i1;have h4:=pk.kind;have hpp:=pk.pins;show(0:Int)=_;by_cases k0:(pg h0.p i).k=0
   .exact(zfree i g i1 k0).symm
   by_cases k1:(pg h0.p i).k=1
   .have:=(z.2.1 k1).1 u;omega
   by_cases k2:(pg h0.p i).k=2
   .have h5:=(z.2.2 k2).1 u;apply Classical.byContradiction;intro hn;exact h5 (hl k2 aa)
   have G:(pg h0.p i).k=3:=aa;obtain⟨k,q0,q1,I,q2,q4⟩:=(Xcg hN hb0 B.gx.ep).tl i g i1 G;have:=((I.k2 q2).2.2 (i-k) aa aa).2.2.2;rw[show k+(i-k)=i by omega]at this;omega
  exact K i g i1 u
 rcases J.k p hp with⟨k1,_⟩|⟨k1,_⟩
 .exact k1
 exact absurd h k1.2
end
section
variable {N:Nat}{h0:Wp}{P:Int->Prop}
def Qn9(hN:NB N)(ht:HT h0)(gx:GX N h0){rs ws:List Int}(lr:rs.length<=1000000)(lw:ws.length<=1000000)(T:∀r∈rs,r=0\/Obb h0 r/\P r)(hw:∀r∈ws,r=0\/Obb h0 r)(Z:∀a,Obb h0 a->P a->∀j∈XN (hdA h0.w a),wd h0.w (a+1+j)=0\/P (wd h0.w (a+1+j))):
 Ok (Qdd N h0 rs ws) λr=>r.2.2.2.2=3\/(r.2.2.2.2=0/\HT r.1/\∃M,O2 N h0 P M r.1/\R2 (rel M) rs r.2.1/\R2 (wk M) ws r.2.2.1):=by
 have hN':=hN;unfold NB at hN';have hb:=ht.hb;obtain⟨S,B,eL⟩:=XsO hN hb gx;have hp:=B.hp;have hsp:=hp.space;obtain⟨b1,er,hb1⟩:=Xbb hN ht lr gx;obtain⟨b2,ew,hb2⟩:=Xbb hN ht lw gx;rw[hb1.2 λr h=>(T r h).imp id And.left]at er;rw[hb2.2 hw]at ew;obtain⟨w0,ebg,J0,hs0⟩:=XpN (P:=P) hN ht B eL;rw[Qdd,gx.ep,Xa,Wl,Wa];refine IP ?_;rw[er,Xa,Wl,Wa,ew,Xa,Wl,Wa,ebg,Xa];have hroots:Ok (QeT N w0 rs) λr=>r.2.2=3\/(r.2.2=0/\∃M,JX N h0 S P r.1 M (Dn h0 M 0)/\r.1.d=0/\R2 (rel M) rs r.2.1):=by have hx:=XjK (D:=Dn h0 [] 0) hN B rs lr T N 0 w0 [] [] aa aa J0 (R2.nil _);refine Oa hx (λa q=>Wd (.inl q)) λt q=>?_;obtain⟨w',M',o',c1,c2,_,c4,rfl⟩:=q;refine Wd (.inr ⟨rfl,M',c1.cong (by rfl) (by rfl) (by rfl) (by rfl) (by rfl) c1.ci λx=>?_,c2.trans hs0,c4⟩);exact⟨λ⟨i,p,j,hi,_⟩=>aa,λ⟨i,p,j,hi,_⟩=>aa⟩
 refine WQ hroots λU _ hy5=>?_;rcases hy5 with h3|⟨z,M1,J1,hs1,hrr⟩
 .rw[h3];exact Wd (.inl rfl)
 rw[z,show((0:Int) != 0)=false from rfl,Wa];have L:Ok (QfU N U.1) λr=>r.2=3\/(r.2=0/\∃M',JX N h0 S P r.1 M' (Dn h0 M' M'.length)/\∃t,M'=M1++t):=
  WQ (XqK hN B Z N 0 U.1 M1 J1 hs1 aa aa) λr _ T=>Wd T
 refine WQ L λf _ hy6=>?_;rcases hy6 with h3|⟨hz6,M,J,hM⟩
 .rw[h3];exact Wd (.inl rfl)
 rw[hz6,show((0:Int) != 0)=false from rfl,Wa];refine WQ (Xnq hN B ws lw hw U f J N 0 _ [] aa aa (R2.nil _)) λg _ O=>?_;have J':=J.upd f.1.d (UI.mk f.1.r.j f.1.r.K f.1.r.F f.1.r.E g.1 f.1.r.y);have G:=J.ci.wlen;have u:=J.ci.plen;have hol:=J.ci.old.length_le;have hsl:=B.st.st.len;obtain⟨v,c,f1,f2,f3,f4,f5⟩:=Xf4 hN B J' N 0 f.1.h.w f.1.r.F aa (by show f.1.o.length-0<N;omega) G J.tu λa ha hd=>J.same B hd.1 hd.2.1 (Uo _) (by have:=(XJ h0.w a).2.1;omega);rw[WL]at f4 f5;have f1:QaJ N (W8.mk f.1.h f.1.o f.1.t f.1.q f.1.d (UI.mk f.1.r.j f.1.r.K f.1.r.F f.1.r.E g.1 f.1.r.y)) N 0 f.1.h.w f.1.r.F=some (v,c):=f1;have hdO:∀a,XcE h0 M a->a∈f.1.o:=λa hd=>by rw[J.ol];unfold Y7;rw[W6];exact⟨(B.at_ hd.1).2.1,by simp[Kv,fnd,hd.1.2]⟩
 rw[Qfm];dsimp only;rw[f1,Xa,Xa];obtain⟨c',v',ps,g1,g2,g3,g4,g5,g6⟩:=XiE hN (w:=W8.mk (Wp.mk f.1.h.c v f.1.h.p f.1.h.s f.1.h.b) f.1.o f.1.t f.1.q f.1.d (UI.mk f.1.r.j f.1.r.K c f.1.r.E g.1 f.1.r.y)) hb hp J.ci.conf u N 0 f.1.r.E v f.1.h.p aa aa (by have:=hb.2;omega) f2 f3 u λ_ _=>rfl;have hb1':=hb.1;have hb2':=hb.2;rw[Qfl];dsimp only;rw[Xe aa,Xe aa,g1,Xa,Xa];dsimp only;have hw0:=hp.words;have hpl0:=hp.pages;have hvc:=Xi.1 hp.conf;have F:FX h0 f.1 M v v' ps:=by
  have pgx:∀x:Int,4096<=x->x<4096+h0.w.length->∀j,0<=j->(Xb h0.c j 0<=x/\x<Xb h0.c j h0.c.W↔j=pgi h0.c x):=λx A V j H=>by
   have q:=Yv (a:=x) hp.conf aa;have I:∀i o,Xb h0.c i o=4096+i*h0.c.W+o:=λ_ _=>rfl;constructor
   .rintro⟨h1,h2⟩;rw[I]at h1 h2;have:=(Yu (c:=h0.c) hp.conf (p:=j) (o:=x-Xb h0.c j 0) (by rw[I];omega) (by rw[I];omega)).1;rw[show Xb h0.c j (x-Xb h0.c j 0)=x by unfold Xb;omega]at this;exact this.symm
   rintro rfl;have e:=q.1;rw[I]at e;rw[I,I];omega
  refine⟨λa hd=>f4 a (hdO a hd) hd,λx A hx=>f5 x A λa _ hd=>hx a hd,g4,g2,λj H j1 z=>(g5 j H).1 ⟨H,j1,z⟩,λj H j1 z=>(g5 j H).2 λh=>z h.2.2,λx A V z=>?_,λx A V z=>?_⟩
  .have q:=Yv (a:=x) hp.conf aa;have:=(pgx x A V _ q.2.1).2 rfl;exact(g6 x A).1 ⟨pgi h0.c x,q.2.1,aa,z,this.1,this.2⟩
  refine(g6 x A).2 ?_;rintro⟨j,H,j1,Q,h1,h2⟩;have:=(pgx x A V j H).1 ⟨h1,h2⟩;rw[this]at Q;exact z Q
 have esp:wI (1-f.1.h.s)=1-h0.s:=by rw[J.ci.spc,Xf aa aa]
 have fin:∀Y:Int,Y = -1\/Y∈f.1.t->Ok (some ((Wp.mk f.1.h.c v' ps (wI (1-f.1.h.s)) Y),U.2.1,g.2,(UI.mk f.1.r.j f.1.r.K c c' g.1 f.1.r.y),0)) λr:Wp×List Int×List Int×UI×Int=>r.2.2.2.2=3\/(r.2.2.2.2=0/\HT r.1/\∃M,O2 N h0 P M r.1/\R2 (rel M) rs r.2.1/\R2 (wk M) ws r.2.2.1):=λY hbp=>
  Wd (.inr ⟨rfl,⟨⟨by show v'.length<=_;omega,by show ps.length<=_;omega⟩,g3⟩,M,J.fin hN B F J.ci.conf rfl rfl esp hbp,hrr.mono λ_ _ h=>h.mono hM,O⟩)
 refine IP (Wo (λR=>?_) λ_=>fin _ (.inl rfl));have R:0<(f.1.t.length:Int):=WA R;have htl:=J.ci.tl hb;rw[Xf aa aa];exact Ok.get aa aa λp hp=>fin _ (.inr (YI hp))
end
def eR(r:Int->Int->Prop)(a b:Ul):Prop:=b.G=a.G/\b.V=a.V/\(a.V=true->r a.a b.a)/\(a.V=false->b.a=a.a)
def sR(r:Int->Int->Prop)(a b:UW):Prop:=b.J=a.J/\b.V=a.V/\(a.V=true->r a.a b.a)/\(a.V=false->b.a=a.a)
def Xd8{α β σ:Type}{q:σ->Nat->α->Bool}{p:σ->Nat->β->Bool}{f:σ->α->σ}{g:σ->β->σ}:∀{l:List α} {m:List β} {s:σ} {k:Nat},R2 (λa b=>(∀s k,p s k b=q s k a)/\∀s,g s b=f s a) l m->YY p g s k m=YY q f s k l
 |[],m,s,k,h=>by
  have:=h.1;cases m with
  |nil=>rfl
  |cons b m=>simp at this
 |a::l,m,s,k,h=>by obtain⟨b,o,rfl,e,j⟩:=h.unc;rw[YY,YY,e.1,e.2,Xd8 j]
def R2.filt{α β:Type}{r:α->β->Prop}{p:α->Bool}{q:β->Bool}:∀{l:List α} {m:List β},R2 (λa b=>q b=p a/\(p a=true->r a b)) l m->R2 r (l.filter p) (m.filter q)
 |[],m,h=>by
  have:=h.1;cases m with
  |nil=>exact R2.nil _
  |cons b m=>simp at this
 |a::l,m,h=>by
  obtain⟨b,j,rfl,⟨e,g⟩,f⟩:=h.unc;cases hp:p a with
  |false=>rw[UL (by simp[hp]),UL (by simp[e,hp])];exact f.filt
  |true=>rw[UH hp,UH (by rw[e,hp])];exact R2.cons (g hp) f.filt
def R2.map{α β γ δ:Type}{r:α->β->Prop}{s:γ->δ->Prop}{f:α->γ}{g:β->δ}{l:List α}{m:List β}(h:R2 r l m)(q:∀a b,r a b->s (f a) (g b)):R2 s (l.map f) (m.map g):=by
 refine⟨by simp[h.1],λk x y e j=>?_⟩;rw[IQ]at e j;cases o:l[k]? with
 |none=>rw[o]at e;cases e
 |some a=>
  cases p:m[k]? with
  |none=>rw[p]at j;cases j
  |some b=>rw[o]at e;rw[p]at j;cases e;cases j;exact q a b (h.2 k a b o p)
def OF{r:Int->Int->Prop}{l m:List Ul}(h:R2 (eR r) l m):R2 r (Xp l) (Xp m):=
 R2.map (r:=λa b=>r a.a b.a) (R2.filt (h.mono λa b q=>⟨q.2.1,q.2.2.1⟩)) λ_ _ q=>q
def OS{r:Int->Int->Prop}{l m:List UW}(h:R2 (sR r) l m):R2 r (XC l) (XC m):=
 R2.map (r:=λa b=>r a.a b.a) (R2.filt (h.mono λa b q=>⟨q.2.1,q.2.2.1⟩)) λ_ _ q=>q
def R2.all{α β:Type}{p:α->Bool}{q:β->Bool}:∀{l:List α} {m:List β},R2 (λa b=>q b=p a) l m->m.all q=l.all p
 |[],m,h=>by
  have:=h.1;cases m with
  |nil=>rfl
  |cons b m=>simp at this
 |a::l,m,h=>by obtain⟨b,g,rfl,e,f⟩:=h.unc;rw[U7,U7,e,R2.all f]
def R2.countP{α β:Type}{p:α->Bool}{q:β->Bool}:∀{l:List α} {m:List β},R2 (λa b=>q b=p a) l m->m.countP q=l.countP p
 |[],m,h=>by
  have:=h.1;cases m with
  |nil=>rfl
  |cons b m=>simp at this
 |a::l,m,h=>by obtain⟨b,g,rfl,e,f⟩:=h.unc;rw[U4,U4,e,R2.countP f]
def KP{r:Int->Int->Prop}{l m:List Ul}(h:R2 (eR r) l m):X8 m=X8 l:=by
 unfold X8;rw[R2.all (p:=Jz) (q:=Jz) (h.mono λa b q=>?_),h.1];unfold Jz;rw[q.1,q.2.1];cases e:a.V with
 |true=>rfl
 |false=>rw[q.2.2.2 e]
def Ky{r:Int->Int->Prop}{a b:WD}(j:∀x y,r x y->(y=0↔x=0))(e:b.x=a.x)(f:b.i=a.i)(h:R2 (sR r) a.S b.S):Yn b=Yn a:=by
 have o:stB b.i b.S=stB a.i a.S:=by
  unfold stB;rw[f];refine Xd8 (h.mono λx y q=>⟨λs k=>?_,λs=>q.1⟩);unfold stQ;rw[q.1,q.2.1];have:(y.a != 0)=(x.a != 0):=by
   cases g:x.V with
   |false=>rw[q.2.2.2 g]
   |true=>have:=j _ _ (q.2.2.1 g);grind
  rw[this]
 have t:Xb5 b=Xb5 a:=by
  unfold Xb5;rw[e];congr 1;funext u i p;have et:toL b i=toL a i:=by unfold toL;rw[e,h.1]
  unfold Xg3 YL;rw[et];have:=(h.drop p.O.toNat).take ((toL a i).toNat-p.O.toNat);rw[R2.countP (p:=λx:UW=>x.V) (q:=λx:UW=>x.V) (this.mono λ_ _ q=>q.2.1)]
 unfold Yn;rw[e,f,h.1,←o,t,f]
section
variable {N:Nat}{r:Int->Int->Prop}
def Xd9(E:List Ul)(B:E.length<=1000000)(rs:List Int)(f:rs.length<=1000000):∀(n k c:Nat) (v:List Ul),k<=E.length->E.length-k<n->v.length=E.length->v.drop k=E.drop k->c<=rs.length->R2 r (Xp (E.drop k)) (rs.drop c) ->
 ∃t,QbA N rs n (c:Int) (k:Int) v=some (v.take k++t)/\R2 (eR r) (E.drop k) t
 |0,k,c,v,_,H,_,_,_,_=>by omega
 |n+1,k,c,v,T,H,u,hd,J,h=>by
  rw[QbA,Xe aa,u];by_cases g:k<E.length;rotate_left
  .obtain rfl:k=E.length:=aa;rw[Xv,Wa,WN aa];exact⟨[],by rw[Ia,Ur aa],R2.nil _⟩
  have hdr:=Wm g;have x:=Wm (show k<v.length by omega);have K:=hd;rw[x,hdr]at hd;obtain⟨I,j⟩:=IC hd;have y:v.take (k+1)=v.take k++[v[k]]:=by rw[UT,Wb aa];rfl
  rw[Xm g,Wc,Xc,Wb aa,Xa,I,Xg (k:=k) aa];rw[hdr]at h⊢;cases p:E[k].V with
  |false=>
   rw[Wa];have z:Xp (E[k]::E.drop (k+1))=Xp (E.drop (k+1)):=by unfold Xp;rw[UL (by simp[p])]
   rw[z]at h;obtain⟨t,e,ht⟩:=Xd9 E B rs f n (k+1) c v aa aa u j J h;refine⟨E[k]::t,by rw[e,y,I,W0];rfl,R2.cons ⟨rfl,rfl,(λh=>by rw[p]at h;cases h),λ_=>rfl⟩ ht⟩
  |true=>
   have z:Xp (E[k]::E.drop (k+1))=E[k].a::Xp (E.drop (k+1)):=by unfold Xp;rw[UH p];rfl
   rw[z]at h;obtain⟨b,U,q,L,O⟩:=h.unc;have o:c<rs.length:=by apply Classical.byContradiction;intro H;rw[WN aa]at q;cases q
   rw[Wm o]at q;obtain⟨Q,R⟩:=IC q;rw[Wc,Xc,Wb o,Xa,Xa,Xg (k:=c) aa];obtain⟨t,e,ht⟩:=Xd9 E B rs f n (k+1) (c+1) (v.set k ⟨E[k].G,rs[c],E[k].V⟩) aa aa (by rw[Ww];exact u) (by rw[UZ aa];exact j) aa (by rw[R];exact O);have A:(v.set k ⟨E[k].G,rs[c],E[k].V⟩).take (k+1)=v.take k++[⟨E[k].G,rs[c],E[k].V⟩]:=by rw[UT,UJ,Wj rfl,Wj aa,IH aa];rfl
   rw[show(k:Int).toNat=k from rfl,e,A,W0];exact⟨_,rfl,R2.cons ⟨rfl,rfl,λ_=>by rw[Q];exact L,λh=>by rw[p]at h;cases h⟩ ht⟩
def Xf5(hN:NB N){t:W4}(ht:TB t)(g:X8 t.e=true){rs:List Int}(h:R2 r (Xp t.e) rs):∃m,QcD N t rs=some (m,0)/\R2 (eR r) t.e m.e:=by
 have f:1000000<N:=by unfold NB at hN;omega
 have o:=KS g;have:=Xax t.e;have p:=h.1;obtain⟨m,e,j⟩:=Xd9 (N:=N) (r:=r) t.e aa rs aa N 0 0 t.e aa aa rfl rfl aa (by rw[WL,WL];exact h);rw[show((0:Nat):Int)=0 from rfl,Ot,Um]at e;rw[WL]at j;refine⟨⟨m⟩,?_,j⟩;rw[QcD,ZF ht f,g,Xa,Wl,Wa,Yk ht f,g,Wc,Xa,Xe aa,p];simp;rw[Xe aa,e,Xa]
def Xea(a:WD)(G:a.S.length<=1000000)(rs:List Int)(g:rs.length<=1000000)(u:∀x∈rs,x≠0):∀(n k c:Nat) (v:List UW),k<=a.S.length->a.S.length-k<n->v.length=a.S.length->v.drop k=a.S.drop k->c<=rs.length->R2 r (XC (a.S.drop k)) (rs.drop c) ->
 ∃t,Qbz N a rs n (c:Int) (k:Int) v=some (.nxt (v.take k++t))/\R2 (sR r) (a.S.drop k) t
 |0,k,c,v,_,H,_,_,_,_=>by omega
 |n+1,k,c,v,T,H,y,hd,K,h=>by
  rw[Qbz,Xe aa,y];by_cases j:k<a.S.length;rotate_left
  .obtain rfl:k=a.S.length:=aa;rw[Xv,Wa,WN aa];exact⟨[],by rw[Ia,Ur aa],R2.nil _⟩
  have hdr:=Wm j;have z:=Wm (show k<v.length by omega);rw[z,hdr]at hd;obtain⟨I,o⟩:=IC hd;have A:v.take (k+1)=v.take k++[v[k]]:=by rw[UT,Wb aa];rfl
  rw[Xm j,Wc,Xc,Wb aa,Xa,I,Xg (k:=k) aa];rw[hdr]at h⊢;cases p:a.S[k].V with
  |false=>
   rw[WY,Wc];have B:XC (a.S[k]::a.S.drop (k+1))=XC (a.S.drop (k+1)):=by unfold XC;rw[UL (by simp[p])]
   rw[B]at h;obtain⟨t,e,ht⟩:=Xea a G rs g u n (k+1) c v aa aa y o K h;refine⟨a.S[k]::t,by rw[e,A,I,W0];rfl,R2.cons ⟨rfl,rfl,(λh=>by rw[p]at h;cases h),λ_=>rfl⟩ ht⟩
  |true=>
   have B:XC (a.S[k]::a.S.drop (k+1))=a.S[k].a::XC (a.S.drop (k+1)):=by unfold XC;rw[UH p];rfl
   rw[B]at h;obtain⟨b,U,q,L,O⟩:=h.unc;have f:c<rs.length:=by apply Classical.byContradiction;intro H;rw[WN aa]at q;cases q
   rw[Wm f]at q;obtain⟨Q,R⟩:=IC q;rw[Wl,Wa,Xc,Wb f,Xa,Xh (u _ (Wt f)),Wa,Xa,Xa,Xg (k:=c) aa];obtain⟨t,e,ht⟩:=Xea a G rs g u n (k+1) (c+1) (v.set k ⟨a.S[k].J,rs[c],a.S[k].V⟩) aa aa (by rw[Ww];exact y) (by rw[UZ aa];exact o) aa (by rw[R];exact O);have E:(v.set k ⟨a.S[k].J,rs[c],a.S[k].V⟩).take (k+1)=v.take k++[⟨a.S[k].J,rs[c],a.S[k].V⟩]:=by rw[UT,UJ,Wj rfl,Wj aa,IH aa];rfl
   rw[show(k:Int).toNat=k from rfl,e,E,W0];exact⟨_,rfl,R2.cons ⟨rfl,rfl,λ_=>by rw[Q];exact L,λh=>by rw[p]at h;cases h⟩ ht⟩
def XpP(hN:NB N){a:WD}(j:LBp a)(g:Yn a=true){rs:List Int}(h:R2 r (XC a.S) rs)(p:∀x∈rs,x≠0):∃m,Qd6 N a rs=some (⟨m,a.x,a.i⟩,0)/\R2 (sR r) a.S m:=by
 have f:1000000<N:=by unfold NB at hN;omega
 have q:=(Ys.1 g).slots;have:=(Ys.1 g).iss;have:=Xb7 a.S;have t:=h.1;obtain⟨m,e,o⟩:=Xea (N:=N) (r:=r) a aa rs aa p N 0 0 a.S aa aa rfl rfl aa (by rw[WL,WL];exact h);rw[show((0:Nat):Int)=0 from rfl,Ot,Um]at e;rw[WL]at o;refine⟨m,?_,o⟩;rw[Qd6,Kc j f,g,Xa,Wl,Wa,Zw j f,g,Wc,Xa,t];simp;rw[Xe aa,e,Xa,Xo]
end
structure O7(N:Nat)(x y:Uw)(P:Int->Prop)(M:List (Int×Int)):Prop where
 et:ET y
 vx:VX N y
 ch:O2 N x.h P M y.h
 rt:R2 (rel M) x.R y.R
 ls:R2 (sR (rel M)) x.l.S y.l.S
 lc:y.l.x=x.l.x/\y.l.i=x.l.i
 gl:R2 (eR (rel M)) x.g.e y.g.e
 we:R2 (eR (wk M)) x.v.e y.v.e
 pi:y.P=x.P
 st:∀r∈JF x,r=0\/r∈M.map (·.1)
 ps:∀p∈x.P,(p.a,p.a)∈M
def Xf6{c:Uj}:∀{l:List UQ},(∀p∈l,1<=p.M)->∀i,0<=Zt c l i
 |[],_,_=>by simp[Zt]
 |p::l,h,i=>by have:=Xf6 (c:=c) (l:=l) (λq e=>h q (WC _ e)) i;have:=h p ab;rw[Zt];split<;>omega
def Xeb{c:Uj}:∀{l:List UQ},(∀p∈l,1<=p.M)->∀p∈l,0<Zt c l (pgi c p.a)
 |[],_,p,hp=>by simp at hp
 |q::l,h,p,hp=>by
  have f:=Xf6 (c:=c) (l:=l) λq e=>h q (WC _ e);have g:=h q ab;rw[Zt];rcases Us.1 hp with rfl|hp
  .have:=f (pgi c p.a);rw[Wj rfl];omega
  have:=Xeb (c:=c) (l:=l) (λq e=>h q (WC _ e)) p hp;split<;>omega
def XjN{c:Uj}:∀{l:List UQ} {i:Int},0<Zt c l i->∃p∈l,pgi c p.a=i
 |[],i,h=>by simp[Zt]at h
 |q::l,i,h=>by
  rw[Zt]at h;by_cases e:pgi c q.a=i
  .exact⟨q,ab,e⟩
  rw[Wg e]at h;obtain⟨p,hp,e⟩:=XjN (c:=c) (l:=l) (i:=i) aa;exact⟨p,WC _ hp,e⟩
def MX.col{N:Nat}{h u:Wp}{pins:List UQ}{P:Int->Prop}{M:List (Int×Int)}(m:MX N h pins)(c:O2 N h P M u)(hp:UP h)(x:∀p∈pins,p.a∈M.map (·.1)):MX N u pins/\∀p∈pins,(p.a,p.a)∈M:=by
 have z:∀p∈pins,1<=p.M:=λp hp=>(m.ob p hp).2.1;have g:∀p∈pins,(p.a,p.a)∈M:=λp f=>by obtain⟨b,hb⟩:=KO (x p f);have j:=(m.ob p f).1.1.at_ hp;have q:=Yv hp.conf j.rng;have A:=hp.pages;have B:=m.sm _ q.2.1 aa;have:=Xeb (c:=h.c) z p f;have:=c.kp _ hb (by dsimp only;omega);dsimp only at this;rw[this]at hb;exact hb
 refine⟨⟨c.gx,m.len,λp f=>⟨(c.ob _).2 (WG.2 ⟨_,g p f,rfl⟩),(m.ob p f).2⟩,m.nd,λi t i1=>?_⟩,g⟩;rw[c.pl]at i1;rw[c.pn i t i1 λk2 o=>?_,c.cf]
 .exact m.sm i t i1
 rw[m.sm i t i1]at o;obtain⟨p,f,e⟩:=XjN o;have j:=(m.ob p f).1.1.at_ hp;have q:=Yv hp.conf j.rng;have:=(j.large (by rw[e];exact k2)).1;have y:=q.1;rw[this,e]at y;rw[←y];exact x p f
section
variable {N:Nat}{x:Uw}
def Xnr(s:List Int)(f:Wp×List Int×List Int×UI×Int)(g j:List Int)(p:WD×Int)(q t:W4×Int)(y:x.P.length<=1000000)(u:∀k(z:k<x.P.length),Xd f.2.1 (wI (wI (wI ((x.R.length:Int)+(g.length:Int))+(j.length:Int))+(k:Int)))=some x.P[k].a):∀(n k:Nat) (v:List UQ),k<=x.P.length->x.P.length-k<n->v=x.P.take k->Qa6 N x f g j p q t n (k:Int) v=some x.P
 |0,k,v,_,A,_=>by omega
 |n+1,k,v,z,A,o=>by
  rw[Qa6];by_cases e:k<x.P.length
  .have B:v.length<=1000000:=by rw[o,Wx];omega
   rw[Xm e,Wc,u k e,Xa,Xc,Wb e,Xa,Xe aa,Xg aa];exact Xnr s f g j p q t y u n (k+1) _ aa aa (by rw[UT,Wb e,o];rfl)
  rw[Wh aa,Wa,o,Ur aa]
def R2.rel_ob{h:Wp}{M:List (Int×Int)}(e:∀b,Obb h b↔b∈M.map (·.2)){l m:List Int}(r:R2 (rel M) l m):∀b∈m,b=0\/Obb h b:=λb hb=>by
 obtain⟨a,f,h⟩:=r.memr hb;rcases h with h|h
 .exact .inl h.2
 exact .inr ((e b).2 (WG.2 ⟨_,h,rfl⟩))
def XrG(hN:NB N)(ht:ET x)(vx:VX N x){P:Int->Prop}(V:∀a,Obb x.h a->P a->∀j∈XN (hdA x.h.w a),wd x.h.w (a+1+j)=0\/P (wd x.h.w (a+1+j)))(hP:∀r∈JF x,r=0\/P r):Ok (Qcf N x) λr=>r.2.2=3\/(r.2.2=0/\∃M,O7 N x r.1 P M):=by
 have z:1000000<N:=by unfold NB at hN;omega
 have u:=ht.eb;have W:=ZW u.loc;have h2:=YD x.g.e;have h5:=YD x.v.e;have h3:=u.pins;have h4:=u.roots;rw[vx.loc,Wc]at W;rw[vx.glo,Wc]at h2;rw[vx.wea,Wc]at h5;have hp64:=vx.mx.len;have gx:=vx.mx.gx;have hp:=XL hN u.heap gx.ep;have H:JF x=((x.R++XC x.l.S)++Xp x.g.e)++x.P.map (·.a):=by unfold JF;rw[vx.loc,vx.glo];rfl
 have hll:(JF x).length=x.R.length+(XC x.l.S).length+(Xp x.g.e).length+x.P.length:=by rw[H];simp only[Wu,UK]
 have Y:∀r∈JF x,r=0\/Obb x.h r:=λr o=>by
  rw[H]at o;simp only[Ws]at o;rcases o with((o|o)|o)|o
  .exact vx.rr r o
  .exact vx.rl r o
  .exact vx.rg r o
  obtain⟨p,hp,rfl⟩:=WG.1 o;exact .inr (vx.mx.ob p hp).1
 rw[Qcf,(Vk hN ht).2 vx,Xa,Wl,Wa,XdY hN u,Xa,Yk u.wea z,vx.wea,Wc,Xa];refine WQ (Qn9 hN ht.ht gx (P:=P) (rs:=JF x) (ws:=Xp x.v.e) aa aa (λr o=>?_) vx.rw_ V) λy _ hy=>?_
 .rcases Y r o with h|h
  .exact .inl h
  rcases hP r o with Z|Z
  .exact .inl Z
  exact .inr ⟨h,Z⟩
 rcases hy with h|⟨hz,A,M,c,o,hw⟩
 .rw[h];exact Wd (.inl rfl)
 rw[hz,show((0:Int) != 0)=false from rfl,Wa];have hs1:=o.1;generalize hs:y.2.1=s at *;generalize hk:XC x.l.S=f at *;generalize hm:Xp x.g.e=t at *;have en:(x.R.length:Int).toNat=x.R.length:=rfl;have w1:wI ((x.R.length:Int)+(f.length:Int))=((x.R.length+f.length:Nat):Int):=by rw[Xf aa aa];omega
 have w2:wI (((x.R.length+f.length:Nat):Int)+(t.length:Int))=((x.R.length+f.length+t.length:Nat):Int):=by rw[Xf aa aa];omega
 have t1:((x.R.length+f.length:Nat):Int).toNat=x.R.length+f.length:=rfl;have t2:((x.R.length+f.length+t.length:Nat):Int).toNat=x.R.length+f.length+t.length:=rfl;have r1:R2 (rel M) x.R (s.take x.R.length):=by have:=o.take x.R.length;rwa[H,W0,W0,List.take_left]at this
 have r2:R2 (rel M) f ((s.drop x.R.length).take f.length):=by have:=(o.drop x.R.length).take f.length;rwa[H,W0,W0,List.drop_left,List.take_left]at this
 have r3:R2 (rel M) t ((s.drop (x.R.length+f.length)).take t.length):=by
  have:=(o.drop (x.R.length+f.length)).take t.length;have e:(JF x).drop (x.R.length+f.length)=t++x.P.map (·.a):=by rw[H,W0,←Wu,List.drop_left]
  rwa[e,List.take_left]at this
 have r4:R2 (rel M) (x.P.map (·.a)) (s.drop (x.R.length+f.length+t.length)):=by
  have:=o.drop (x.R.length+f.length+t.length);have e:(JF x).drop (x.R.length+f.length+t.length)=x.P.map (·.a):=by rw[H,←Wu,←Wu,List.drop_left]
  rwa[e]at this
 have hpm:∀p∈x.P,p.a∈M.map (·.1):=λp I=>by
  obtain⟨b,_,hb⟩:=r4.meml (WG.2 ⟨p,I,rfl⟩);rcases hb with h|h
  .have:=((vx.mx.ob p I).1.1.at_ hp).rng;omega
  exact XcW h
 have B:=vx.mx.col c hp hpm;have nz:∀a b,rel M a b->(b=0↔a=0):=λa b h=>by
  rcases h with h|h
  .exact⟨λ_=>h.1,λ_=>h.2⟩
  have W:=((c.l _ h).1.1.at_ hp).rng;have h2:=(((c.ob b).2 (WG.2 ⟨_,h,rfl⟩)).1.at_ (XL hN A.hb c.gx.ep)).rng;dsimp only at W;exact⟨λe=>aa,λe=>aa⟩
 have lz:∀v∈f,v≠0:=λv J=>by rw[←hk]at J;unfold XC at J;obtain⟨p,hp,rfl⟩:=WG.1 J;have hp:=W6.1 hp;obtain⟨q,hq,eq⟩:=Wv hp.1;exact(Xb6 (Ys.1 vx.loc).st (i:=q) (p:=p) (by rw[Wb hq,eq])).2.2.2.1 hp.2
 have lz':∀v∈(s.drop x.R.length).take f.length,v≠0:=λv J e=>by obtain⟨a,O,h⟩:=r2.memr J;exact lz a O ((nz a v h).1 e)
 obtain⟨ml,e1,Q⟩:=XpP hN u.loc vx.loc (by rw[hk];exact r2) lz';obtain⟨mg,e2,K⟩:=Xf5 hN u.glo vx.glo (by rw[hm];exact r3);obtain⟨mw,e3,T⟩:=Xf5 hN u.wea vx.wea hw;rw[Zw u.loc z,vx.loc,Wc,hk,Xa,Yk u.glo z,vx.glo,Wc,hm,Xa,w1,w2,t1,t2,en];rw[Xe aa,Xe aa,Xe aa,Xe aa,show x.R.length+f.length-x.R.length=f.length by omega,e1,Xa,Xe aa,show x.R.length+f.length+t.length-(x.R.length+f.length)=t.length by omega,e2,Xa,e3,Xa];have L:=Xnr (N:=N) (x:=x) s y f t (⟨ml,x.l.x,x.l.i⟩,0) (mg,0) (mw,0) h3 (λk E=>by
  rw[hs,w1,w2,Xf aa aa,show((x.R.length+f.length+t.length:Nat):Int)+(k:Int)=((x.R.length+f.length+t.length+k:Nat):Int) by omega,Xc,←UC]
  obtain⟨b,eb,hb⟩:=r4.get (k:=k) (a:=x.P[k].a) (by rw[IQ,Wb E];rfl)
  rw[eb]
  have hsf:=B.2 _ (Wt E)
  rcases hb with h|h
  .have:=((vx.mx.ob _ (Wt E)).1.1.at_ hp).rng;omega
  .have hn:=c.n1
   have:b=x.P[k].a:=by
    rw[List.Nodup,Iv,Uf]at hn
    obtain⟨i,hi,ei⟩:=Wv h
    obtain⟨j,hj,U⟩:=Wv hsf
    rcases IR i j with g|g|g
    .exact absurd (by rw[ei,U]) (hn i j hi hj g)
    .subst g;rw[ei]at U;exact congrArg Prod.snd U
    .exact absurd (by rw[ei,U]) (hn j i hj hi g)
   rw[this]) N 0 [] aa aa rfl
 rw[show((0:Nat):Int)=0 from rfl]at L;rw[L,Xa];have hgz:∀r∈Xp mg.e,r≠0:=λr G e=>by obtain⟨a,O,h⟩:=(OF K).memr G;exact vx.gz a O ((nz a r h).1 e)
 refine Wd (.inr ⟨rfl,M,⟨⟨⟨A.hb,⟨by show ml.length<=_;rw[Q.1];exact u.loc.1,u.loc.2⟩,by show mg.e.length<=_;rw[K.1];exact u.glo,by show mw.e.length<=_;rw[T.1];exact u.wea,h3,by show(s.take x.R.length).length<=_;rw[r1.1];exact h4⟩,A.tw⟩,⟨B.1,?_,?_,?_,hgz,r1.rel_ob c.ob,(OS Q).rel_ob c.ob,(OF K).rel_ob c.ob,?_⟩,c,r1,Q,⟨rfl,rfl⟩,K,T,rfl,λr G=>?_,B.2⟩⟩)
 .exact(Ky (a:=x.l) (b:=⟨ml,x.l.x,x.l.i⟩) nz rfl rfl Q).trans vx.loc
 .exact(KP K).trans vx.glo
 .exact(KP T).trans vx.wea
 .intro b hb;obtain⟨a,O,h⟩:=(OF T).memr hb;rcases h with h|h|h
  .exact .inl h.2
  .exact .inr ((c.ob b).2 (WG.2 ⟨_,h,rfl⟩))
  exact .inl h.2
 obtain⟨b,_,h⟩:=o.meml G;rcases h with h|h
 .exact .inl h.1
 exact .inr (XcW h)
end
structure O9(N:Nat)(h h2:Wp)(a:Int)(d:WH):Prop where
 ep:Qab N h2=some true
 cf:h2.c=h.c
 sp:h2.s=h.s
 wl:h2.w.length=h.w.length
 pl:h2.p.length=h.p.length
 vd:XM d=true/\tW d.Map/\d.k≠0
 w:∀x:Int,4096<=x->wd h2.w x=if x=a then Kz d else wd h.w x
 z:∀x:Int,a<=x->x<a+(d.n+1)->4096<=x/\wd h.w x=0
 pa:0<=pgi h.c a/\pgi h.c a<(h.p.length:Int)
 st:∀b,Stt h b->b≠a/\¬(b<=a/\a<b+szA h.w b)
 po:∀i,0<=i->i<(h.p.length:Int)->i≠pgi h.c a->pg h2.p i=pg h.p i\/(pg h.p i).k=0/\(pg h2.p i).k=3/\(pg h2.p i).s=h.s/\(pg h2.p i).P=0
 pp:(pg h2.p (pgi h.c a)).P=(pg h.p (pgi h.c a)).P/\(pg h2.p (pgi h.c a)).s=h.s /\
  (((pg h.p (pgi h.c a)).k=1/\(pg h2.p (pgi h.c a)).k=1/\a=Xb h.c (pgi h.c a) (pg h.p (pgi h.c a)).u/\(pg h2.p (pgi h.c a)).u=(pg h.p (pgi h.c a)).u+(d.n+1)/\d.n+1<=smC h.c) \/
   ((pg h.p (pgi h.c a)).k=0/\a=Xb h.c (pgi h.c a) 0/\(pg h2.p (pgi h.c a)).u=d.n+1/\((pg h2.p (pgi h.c a)).k=1/\d.n+1<=smC h.c\/(pg h2.p (pgi h.c a)).k=2)))
structure O8(N:Nat)(h h2:Wp)(a:Int)(d:WH):Prop where
 gx:GX N h2
 cf:h2.c=h.c
 sp:h2.s=h.s
 wl:h2.w.length=h.w.length
 pl:h2.p.length=h.p.length
 ge:4096<=a
 hd:hdA h2.w a=d
 zf:∀j,0<=j->j<d.n->wd h2.w (a+1+j)=0
 ob:∀b,Obb h2 b↔Obb h b\/b=a
 fr:¬Obb h a
 w:∀b,Obb h b->∀x,b<=x->x<b+szA h.w b->wd h2.w x=wd h.w x
 pn:∀i,0<=i->i<(h.p.length:Int)->(pg h2.p i).P=(pg h.p i).P
section
variable {N:Nat}{h h2:Wp}{a:Int}{d:WH}
def O9.new(q:O9 N h h2 a d)(g:GX N h)(hN:NB N)(hb:HB h):O8 N h h2 a d:=by
 have hp:=XL hN hb g.ep;have hb2:HB h2:=⟨by rw[q.wl];exact hb.1,by rw[q.pl];exact hb.2⟩
 have V:=XL hN hb2 q.ep;obtain⟨v1,v2,v3⟩:=q.vd;have vl:=XO v1;have ge:4096<=a:=(q.z a (Uo _) aa).1;have ed:=XjM v1 v2;have H:wd h2.w a=Kz d:=by rw[q.w a ge,Wj rfl]
 have E:hdA h2.w a=d:=by unfold hdA;rw[H];exact ed.2.1
 have sza:szA h2.w a=d.n+1:=by unfold szA;rw[E]
 have keep:∀b,Stt h b->wd h2.w b=wd h.w b:=λb u=>by have:=(u.at_ hp).rng;rw[q.w b this.1,Wg (q.st b u).1]
 have Y:∀b,Stt h b->hdA h2.w b=hdA h.w b:=λb u=>by unfold hdA;rw[keep b u]
 have ks:∀b,Stt h b->szA h2.w b=szA h.w b:=λb u=>JQ (keep b u);have kk:∀i,0<=i->i<(h.p.length:Int)->0<=(pg h.p i).k/\(pg h.p i).k<=3:=λi t i1=>(hp.pgs i t i1).kind;have pars:∀i l,0<=i->i<(h.p.length:Int)->OE h i l->OE h2 i (if i=pgi h.c a then l++[a]else l):=λi l t i1 pl=>by
  have L:∀b∈l,Stt h b:=λb hb=>⟨i,l,t,i1,pl,hb⟩
  by_cases A:i=pgi h.c a
  .rw[Wj A];subst A;rcases q.pp.2.2 with⟨y,K,O,Z,p5⟩|⟨y,K,O,Z⟩
   .refine⟨λk=>aa,λ_=>?_,λk=>aa⟩;rw[q.cf,Z];have c1:=(pl.small y).congr (vs:=h2.w) λb hb=>keep b (L b hb);rw[←O]at c1;refine c1.app ⟨rfl,by rw[H];exact ed.1,?_⟩;show a+szA h2.w a=_;rw[sza];have e1:∀o,Xb h.c (pgi h.c a) o=4096+pgi h.c a*h.c.W+o:=λ_=>rfl;rw[e1]at O⊢;omega
   rw[pl.none (.inl y),Um];refine⟨λk=>aa,λ_=>?_,λ_=>?_⟩
   .rw[q.cf,O,←K];refine⟨rfl,by rw[H];exact ed.1,?_⟩;show a+szA h2.w a=_;rw[sza];have e1:∀o,Xb h.c (pgi h.c a) o=4096+pgi h.c a*h.c.W+o:=λ_=>rfl;rw[e1]at K⊢;omega
   rw[q.cf,O,←K,H,sza];exact⟨rfl,ed.1,rfl⟩
  rw[Wg A];rcases q.po i t i1 A with e|⟨y,K,_⟩
  .refine⟨λk=>pl.none (by rw[←e];exact k),λk=>?_,λk=>?_⟩
   .rw[q.cf,e];rw[e]at k;exact(pl.small k).congr λb hb=>keep b (L b hb)
   rw[e]at k;obtain⟨rfl,h1,h2'⟩:=pl.large k;have:=L (Xb h.c i 0) ab;rw[q.cf,e,keep _ this,ks _ this];exact⟨rfl,h1,h2'⟩
  rw[pl.none (.inl y)];exact⟨λ_=>rfl,λk=>aa,λk=>aa⟩
 have G:∀b,Stt h2 b↔Stt h b\/b=a:=λb=>by
  constructor
  .rintro⟨i,l,t,i1,pl,f⟩;rw[q.pl]at i1;obtain⟨m,B⟩:=g.ps i t i1;have:=pl.fn (V.pgs i t (by rw[q.pl];exact i1)).kind (pars i m t i1 B);subst this;split at f
   .rcases Ws.1 f with f|f
    .exact .inl ⟨i,m,t,i1,B,f⟩
    exact .inr (WM.1 f)
   exact .inl ⟨i,m,t,i1,B,f⟩
  rintro(⟨i,l,t,i1,pl,f⟩|rfl)
  .refine⟨i,_,t,by rw[q.pl];exact i1,pars i l t i1 pl,?_⟩;split
   .exact WX _ f
   exact f
  obtain⟨m,B⟩:=g.ps _ q.pa.1 q.pa.2;have:=pars _ m q.pa.1 q.pa.2 B;rw[Wj rfl]at this;exact⟨_,_,q.pa.1,by rw[q.pl];exact q.pa.2,this,ab⟩
 have Q:∀b,Obb h2 b↔Obb h b\/b=a:=λb=>by
  constructor
  .rintro⟨I,U⟩;rcases(G b).1 I with I|I
   .rw[Y b I]at U;exact .inl ⟨I,U⟩
   exact .inr I
  rintro(⟨I,U⟩|rfl)
  .exact⟨(G b).2 (.inl I),by rw[Y b I];exact U⟩
  exact⟨(G b).2 (.inr rfl),by rw[E];exact v3⟩
 have ww:∀b,Stt h b->∀x,b<=x->x<b+szA h.w b->wd h2.w x=wd h.w x:=λb u x x0 x1=>by have:=(u.at_ hp).rng;rw[q.w x aa,Wg];rintro rfl;exact(q.st b u).2 ⟨x0,x1⟩
 have pins:∀i,0<=i->i<(h.p.length:Int)->(pg h2.p i).P=(pg h.p i).P:=λi t i1=>by
  by_cases A:i=pgi h.c a
  .rw[A];exact q.pp.1
  rcases q.po i t i1 A with e|⟨y,_,_,Z⟩
  .rw[e]
  rw[Z,(hp.pgs i t i1).free y];rfl
 have zf:∀j,0<=j->j<d.n->wd h2.w (a+1+j)=0:=λj j0 j1=>by rw[q.w _ aa,Wg aa];exact(q.z _ aa aa).2
 refine⟨⟨q.ep,λi t i1=>?_,λi t i1 k=>?_,λi l t i1 pl b f=>?_,λx x0 hx=>?_,λb R j hj=>?_,?_⟩,q.cf,q.sp,q.wl,q.pl,ge,E,zf,Q,λho=>(q.st a ho.1).1 rfl,λb R=>ww b R.1,pins⟩
 .rw[q.pl]at i1;obtain⟨m,B⟩:=g.ps i t i1;exact⟨_,pars i m t i1 B⟩
 .rw[q.pl]at i1;rw[q.sp];by_cases A:i=pgi h.c a
  .rw[A];exact q.pp.2.1
  rcases q.po i t i1 A with e|⟨_,_,O,_⟩
  .rw[e]at k⊢;exact g.sp i t i1 k
  exact O
 .rw[q.pl]at i1;obtain⟨m,B⟩:=g.ps i t i1;have:=pl.fn (V.pgs i t (by rw[q.pl];exact i1)).kind (pars i m t i1 B);subst this;have old:∀b∈m,XcD h2 i b:=λb T=>by
   have u:Stt h b:=⟨i,m,t,i1,B,T⟩
   have c:=g.cl i m t i1 B b T;have hat:=B.at_ hp t i1 T;have U:=hat.1.kind;rw[hat.2]at U;unfold XcD;rw[Y b u,ks b u,q.cf];by_cases A:i=pgi h.c a
   .rcases q.pp.2.2 with⟨y,K,_⟩|⟨y,_⟩
    .rw[←A]at y K;exact⟨λ_=>c.1 y,λk=>aa⟩
    rw[←A]at y;omega
   rcases q.po i t i1 A with e|⟨y,_⟩
   .rw[e];exact c
   omega
  split at f
  .rename_i A;rcases Ws.1 f with f|f
   .exact old b f
   rw[WM.1 f];unfold XcD;rw[E,sza,q.cf];refine⟨λk=>?_,λ_=>v3⟩;rcases q.pp.2.2 with⟨y,K,_,_,p5⟩|⟨y,_,_,⟨_,p5⟩|Z⟩
   .exact p5
   .exact p5
   rw[A]at k;omega
  exact old b f
 .rw[q.w x x0]at hx;by_cases hxa:x=a
  .refine⟨a,(G a).2 (.inr rfl),aa,?_⟩;have:=(XfT h2 a).1;omega
  rw[Wg hxa]at hx;obtain⟨b,sb,b1,b2⟩:=g.dt x x0 hx;exact⟨b,(G b).2 (.inl sb),b1,by rw[Xd7 (Y b sb)];exact b2⟩
 .rcases(Q b).1 R with ho|rfl
  .rw[Y b ho.1]at hj;have hr:=YC hj;have ez:szA h.w b=(hdA h.w b).n+1:=rfl;rw[ww b ho.1 (b+1+j) aa aa];rcases g.pt b ho j hj with e|e
   .exact .inl e
   exact .inr ((Q _).2 (.inl e))
  rw[E]at hj;have hr:=YC hj;exact .inl (zf j hr.1 hr.2)
 rw[q.cf];refine Int.le_trans (Int.ofNat_le.2 (Xbc K1 h2.p h.p q.pl λi h1 h3 J=>?_)) g.cr;rw[←Kh h1]at J;rw[←Kh h3];unfold K1 at J⊢;rw[Wr,decide_eq_true_iff,beq_iff_eq]at J⊢;have hpi:=pins (i:Int) aa aa;rw[hpi]at J;refine⟨?_,J.2⟩;have zk:(pg h.p (i:Int)).k=0->False:=λk=>by have:=(hp.pgs (i:Int) aa aa).free k;rw[this]at J;exact absurd J.2 ae
 by_cases A:(i:Int)=pgi h.c a
 .rcases q.pp.2.2 with⟨y,_⟩|⟨y,_⟩
  .rw[A];exact y
  exact(zk (by rw[A];exact y)).elim
 rcases q.po (i:Int) aa aa A with e|⟨y,_⟩
 .rw[e]at J;exact J.1
 exact(zk y).elim
end
section
variable {N:Nat}{h:Wp}{d:WH}
def GX.nocov(g:GX N h)(hp:UP h){x:Int}(y:4096<=x)(G:x<4096+h.w.length)(f:(pg h.p (pgi h.c x)).k=0\/(pg h.p (pgi h.c x)).k=1/\(pg h.p (pgi h.c x)).u<=pgo h.c x):(∀b,Stt h b->¬(b<=x/\x<b+szA h.w b))/\wd h.w x=0:=by
 have t:∀b,Stt h b->¬(b<=x/\x<b+szA h.w b):=by
  rintro b j ⟨b0,b1⟩;have e:=j.at_ hp;obtain⟨H,I,J,z⟩:=(XcV hp e b0 b1).1;have q:pgi h.c b=pgi h.c x:=by apply Classical.byContradiction;intro K;have:=z (pgi h.c x) aa (Uo _);omega
  have A:=e.kind;rw[q]at A;rcases f with f|⟨f,L⟩
  .omega
  have:=e.small (by rw[q];exact f);have eb:=(Yv hp.conf e.rng).1;have B:=(Yv (a:=x) hp.conf (by have:=hp.words;omega)).1;rw[q]at this eb;have E:∀o,Xb h.c (pgi h.c x) o=4096+pgi h.c x*h.c.W+o:=λ_=>rfl;rw[E]at eb B;omega
 refine⟨t,Classical.byContradiction λhw=>?_⟩;obtain⟨b,j,b0,b1⟩:=g.dt x y hw;have:=Xf1 h b;exact t b j ⟨b0,aa⟩
def Xns(hN:NB N){e:Wp}(hb:HB e)(ep:Qab N e=some true)(o:XM d=true){a:Int}(z:4096<=a)(A:a+(d.n+1)<=4096+e.w.length):∃ws,QcE N e a d=some (⟨e.c,ws,e.p,e.s,e.b⟩,0)/\ws.length=e.w.length/\(∀x:Int,4096<=x->wd ws x=if x=a then Kz d else if a<x/\x<a+(d.n+1)then 0 else wd e.w x)/\((∀x∈e.w,tU x)->∀x∈ws,tU x):=by
 have u:=hb.1;have vl:=XO o;have g:([Kz d]++List.replicate d.n.toNat (0:Int)).length=d.n.toNat+1:=by simp
 have q:ix a+([Kz d]++List.replicate d.n.toNat (0:Int)).length<=e.w.length:=by rw[g];unfold ix;omega
 refine⟨ovr e.w ([Kz d]++List.replicate d.n.toNat (0:Int)) (ix a),?_,Kf q,λx f=>?_,λtu x f=>?_⟩
 .rw[QcE,Xbu,Wj o,ep,Xa,Xa,Wl,Wa];dsimp only;rw[show((0:Int) != 0)=false from rfl,Wa,Xe aa,Xe aa,Va (by unfold BIG;omega) (by rw[g];unfold BIG;omega) (by rw[g];unfold NB at hN;omega),g,Wj (by unfold YZ;omega),Xa];rfl
 .unfold wd;rw[Xbt q,g];by_cases j:x=a
  .rw[Wj j,Wj (by rw[j];omega),j,IE];rfl
  rw[Wg j];by_cases t:a<x/\x<a+(d.n+1)
  .rw[Wj t,Wj (by unfold ix;omega)];obtain⟨m,y⟩:∃m,ix x-ix a=m+1:=⟨ix x-ix a-1,by unfold ix;omega⟩
   rw[y,We,List.singleton_append,Iz,UG];split<;>rfl
  rw[Wg t,Wg (by unfold ix;omega)]
 unfold ovr at f;simp only[Ws,WM]at f;rcases f with(f|f|f)|f
 .exact tu x (Uc f)
 .rw[f];unfold Kz;exact J9 _
 .rw[(IW.1 f).2];exact⟨aa,aa⟩
 exact tu x (Ud f)
def VD(hN:NB N){e:Wp}(hb:HB e)(ep:Qab N e=some true){ws:List Int}(hw:ws.length=e.w.length):Qab N ⟨e.c,ws,e.p,e.s,e.b⟩=some true:=
 Xaf hN hb ep rfl (λ_ _=>rfl) hw (XL hN hb ep).bump
def XpQ{ps l:List WJ}{j:Nat}(f:j+l.length<=ps.length)(i:Int)(g:0<=i):pg (KZ ps l j) i=if(j:Int)<=i/\i<(j:Int)+l.length then l.getD (i-j).toNat Z8 else pg ps i:=by
 obtain⟨m,rfl⟩:∃m:Nat,i=m:=⟨i.toNat,aa⟩
 unfold pg;rw[We,show(m:Int).toNat=m from rfl,Xhv f m];by_cases e:m<j
 .rw[Wj e,Wg aa,We]
 rw[Wg e];by_cases h2:m<j+l.length
 .rw[Wj h2,Wj aa,We,show((m:Int)-j).toNat=m-j by omega]
 rw[Wg h2,Wg aa,We]
def XqN(hN:NB N)(ht:HT h)(g:GX N h)(H:XM d=true)(tm:tW d.Map)(I:d.k≠0)(hnd:XI h.c (Xy d)≠-1):Ok (QeJ N h d) λr=>r.2.2=3\/(r.2.2=0/\HT r.1/\O9 N h r.1 r.2.1 d):=by
 have R:1000000<N:=by unfold NB at hN;omega
 have hb:=ht.hb;have hl:=hb.2;have eb:=g.ep;have hp:=XL hN hb eb;have hcv:=Xi.1 hp.conf;have hvb:=XO H;have hpages:=hp.pages;have hw:=hp.words;have hsp:=hp.space;have hs:Xy d=d.n+1:=by unfold Xy;rw[Wj H]
 have hnr:=JJ h.c (Xy d);have⟨u,eu,hu⟩:=Xdw (N:=N) (ps:=h.p) aa aa;have⟨f1,J,_⟩:=KR (N:=N) (ps:=h.p) 1 aa aa;rw[QeJ,eb,Xa,Wl,Wa,Xne R,Xa,H,Xn I,Xn hnd];rw[show(!(true&&(true&&true)))=false from rfl,Wa,Yr,Xa,Jb aa,Xa,XkZ hN hb hp (n:=Xy d) ⟨aa,aa⟩ eu J,Xa,Xr];by_cases z:XI h.c (Xy d)=0
 ·
  rw[z,Wh aa,Wa];have T:Xy d<=smC h.c:=by
   unfold XI at z;rw[Wj ⟨hp.conf,aa⟩]at z;unfold smC;rw[Wj hp.conf];by_cases U:Xy d<=h.c.W / 4
   .exact U
   exfalso;rw[Wg U]at z;revert z;split<;>(try omega)<;>split<;>(try omega)<;>split<;>(try omega)<;>split<;>omega
  have hn:1<=Xy d/\Xy d<=h.c.W:=by refine⟨aa,?_⟩;unfold smC at T;rw[Wj hp.conf]at T;omega
  cases t:XkY N h (Xy d) u f1 with
  |none=>exact Wd (.inl rfl)
  |some ja=>
   obtain⟨j,o⟩:=ja;have⟨q1,q2,q3,q4⟩:=XrA hN hb eb hn J t;have hm:=XV hp.conf (i:=(j:Int)) aa aa;have y:=Xnf hb (Xy d) j o;have ea:Xb h.c (j:Int) o=4096+j*h.c.W+o:=rfl;have eqa:=Yu (c:=h.c) hp.conf (p:=(j:Int)) (o:=o) q2 aa;have B:(pg h.p (j:Int)).k=1/\o=(pg h.p (j:Int)).u\/(pg h.p (j:Int)).k=0/\o=0:=by
    unfold XkY at t;split at t
    .cases t;rename_i hc;have K:0<=h.b/\h.b<h.p.length/\(pg h.p h.b).k=1:=by
      rcases hp.bump with G|G
      .omega
      exact G
     have hbn:(h.b.toNat:Int)=h.b:=aa;rw[hbn];exact .inl ⟨K.2.2,rfl⟩
    split at t
    .cases t;rename_i hc;have q:RunOK h.p f1 1:=by
      rcases(KR (N:=N) (ps:=h.p) 1 aa aa).get_eq J with G|G
      .omega
      exact G
     have:=q.2.2.2 0 aa aa;rw[Int.add_zero]at this;rw[show(f1.toNat:Int)=f1 by omega];exact .inr ⟨this,rfl⟩
    cases t
   obtain⟨ws,i1,i2,i3,i4⟩:=Xns hN y q4 H (a:=Xb h.c (j:Int) o) aa (by show _<=4096+(h.w.length:Int);omega);dsimp only;rw[Wl,Wa];have V:QcE N (Wp.mk (Uj.mk h.c.W h.c.p) h.w (ZG h (Xy d) j o).p h.s (j:Int)) (Xb h.c (j:Int) o) d=_:=i1;have Y:QcE N (Wp.mk (Uj.mk (ZG h (Xy d) j o).c.W (ZG h (Xy d) j o).c.p) (ZG h (Xy d) j o).w (ZG h (Xy d) j o).p (ZG h (Xy d) j o).s (ZG h (Xy d) j o).b) (Xb h.c (j:Int) o) d=_:=i1;rw[Y,Xa];have epr:=VD hN y q4 i2;have e2:=λi E=>ZQ (ps:=h.p) (i:=(j:Int)) (j:=i) ⟨1,h.s,o+Xy d,(pg h.p (j:Int)).P⟩ aa aa E;have epg:∀i,0<=i->pg (ZG h (Xy d) j o).p i=if i=(j:Int)then⟨1,h.s,o+Xy d,(pg h.p (j:Int)).P⟩else pg h.p i:=λi E=>e2 i E
   have cov:∀x,Xb h.c (j:Int) o<=x->x<Xb h.c (j:Int) o+(d.n+1)->(∀b,Stt h b->¬(b<=x/\x<b+szA h.w b))/\wd h.w x=0:=λx A Z=>by
    have ex:=Yu (c:=h.c) hp.conf (p:=(j:Int)) (o:=x-Xb h.c (j:Int) 0) (by unfold Xb at *;omega) (by unfold Xb at *;omega);rw[show Xb h.c (j:Int) (x-Xb h.c (j:Int) 0)=x by unfold Xb;omega]at ex;refine g.nocov hp aa aa ?_;rw[ex.1,ex.2];rcases B with⟨k1,L⟩|⟨k0,L⟩
    .exact .inr ⟨k1,by rw[←L];unfold Xb at *;omega⟩
    exact .inl k0
   refine Wd (.inr ⟨rfl,⟨⟨by show ws.length<=_;rw[i2];exact hb.1,y.2⟩,i4 ht.tw⟩,⟨epr,rfl,rfl,i2,?_,⟨H,tm,I⟩,λx A=>?_,λx A Z=>have A:Xb h.c (j:Int) o<=x:=A;⟨aa,(cov x A Z).2⟩,by rw[eqa.1];omega,λb sb=>?_,λi E i1 hi=>?_,?_⟩⟩)
   .show(h.p.set j _).length=_;rw[Ww]
   .rw[i3 x A];split
    .rfl
    split
    .rename_i hx;exact((cov x (Int.le_of_lt hx.1) hx.2).2).symm
    rfl
   .have c:=(cov (Xb h.c (j:Int) o) (Uo _) aa).1 b sb;exact⟨λe=>have e:b=Xb h.c (j:Int) o:=e;c ⟨aa,by have:=(XJ h.w b).2.1;omega⟩,c⟩
   .rw[eqa.1]at hi;left;show pg (ZG h (Xy d) j o).p i=_;rw[epg i E,Wg hi]
   rw[eqa.1];show(pg (ZG h (Xy d) j o).p (j:Int)).P=_/\(pg (ZG h (Xy d) j o).p (j:Int)).s=_/\(_/\(pg (ZG h (Xy d) j o).p (j:Int)).k=1/\_/\(pg (ZG h (Xy d) j o).p (j:Int)).u=_/\_\/_/\_/\(pg (ZG h (Xy d) j o).p (j:Int)).u=_/\((pg (ZG h (Xy d) j o).p (j:Int)).k=1/\_\/(pg (ZG h (Xy d) j o).p (j:Int)).k=2))
   rw[epg (j:Int) aa,Wj rfl];refine⟨rfl,rfl,?_⟩;rcases B with⟨k1,L⟩|⟨k0,L⟩
   .exact .inl ⟨k1,rfl,by rw[L],by rw[←L,←hs],aa⟩
   exact .inr ⟨k0,by rw[L],by show o+Xy d=_;omega,.inl ⟨rfl,aa⟩⟩
 
 have⟨k,hk⟩:∃k:Nat,XI h.c (Xy d)=(k:Int):=⟨(XI h.c (Xy d)).toNat,aa⟩
 have O:=Xjh hp.conf (w:=Xy d) aa;rw[hk]at O z hnr⊢;have⟨f,ef,hf⟩:=KR (N:=N) (ps:=h.p) (k:Int) aa aa;have hlim:0<=VO h.c/\VO h.c<=16:=by unfold VO;rw[Wj hp.conf];omega
 rw[Wi (show(k:Int)>0 by omega),Wc,QeV,ef,Xa];by_cases h1:f<0
 .rw[Wi h1,Wc,Xa];exact Wd (.inl rfl)
 rw[Wh h1,Wa,eu,Xa,XfJ,Xa,Xf (n:=u+(k:Int)) aa aa];by_cases h2:u+(k:Int)>VO h.c
 .rw[Wi h2,Wc,Xa];exact Wd (.inl rfl)
 have q:RunOK h.p f (k:Int):=by
  rcases hf with G|G
  .omega
  exact G
 obtain⟨j,rfl⟩:∃j:Nat,f=(j:Int):=⟨f.toNat,aa⟩
 have hfit:=q.2.2.1;rw[Wh h2,Wa,Xni R hl hp aa aa hk q,Xa,Xa];have hpr:=XiC hN hb eb aa q hk;have y:=Xnj hb (Xy d) (j:=j) (k:=k) aa aa;have hm:=XV hp.conf (i:=(j:Int)) aa aa;have hmul:((j:Int)+(k:Int))*h.c.W<=h.c.p*h.c.W:=UF aa aa;rw[Ou]at hmul;have ea0:Xb h.c (j:Int) 0=4096+j*h.c.W+0:=rfl;have eqa:=Yu (c:=h.c) hp.conf (p:=(j:Int)) (o:=0) aa aa;obtain⟨ws,i1,i2,i3,i4⟩:=Xns hN y hpr H (a:=Xb h.c (j:Int) 0) aa (by show _<=4096+(h.w.length:Int);omega);have ea:wU (wI (4096+wI ((j:Int)*h.c.W)))=Xb h.c (j:Int) 0:=by rw[ea0,Xf (n:=(j:Int)*h.c.W) aa aa,Xf (n:=4096+(j:Int)*h.c.W) aa aa,Xz aa aa];omega
 have V:QcE N (Wp.mk (Uj.mk h.c.W h.c.p) h.w (Kg h (Xy d) j k).p h.s h.b) (Xb h.c (j:Int) 0) d=_:=i1;dsimp only;rw[ea,Wl,Wa,V,Xa];have epr:=VD hN y hpr i2;have Q:(WJ.mk 2 h.s (Xy d) 0::List.replicate (k-1) (WJ.mk 3 h.s 0 0)).length=k:=by simp;omega
 have epg:∀i,0<=i->pg (Kg h (Xy d) j k).p i=if(j:Int)<=i/\i<(j:Int)+k then(WJ.mk 2 h.s (Xy d) 0::List.replicate (k-1) (WJ.mk 3 h.s 0 0)).getD (i-j).toNat Z8 else pg h.p i:=λi E=>by have:=XpQ (ps:=h.p) (l:=WJ.mk 2 h.s (Xy d) 0::List.replicate (k-1) (WJ.mk 3 h.s 0 0)) (j:=j) (by rw[Q];omega) i E;rw[Q]at this;exact this
 have k0:(pg h.p (j:Int)).k=0:=by have:=q.2.2.2 0 aa aa;rwa[Int.add_zero]at this
 have cov:∀x,Xb h.c (j:Int) 0<=x->x<Xb h.c (j:Int) 0+(d.n+1)->(∀b,Stt h b->¬(b<=x/\x<b+szA h.w b))/\wd h.w x=0:=λx A Z=>by
  have rx:=Yv (a:=x) hp.conf aa;have e1:∀i o,Xb h.c i o=4096+i*h.c.W+o:=λ_ _=>rfl;have ex:=rx.1;rw[e1]at ex;have lo:(j:Int)<=pgi h.c x:=by apply Classical.byContradiction;intro hn;have:=Vw hp.conf (i:=pgi h.c x) (j:=(j:Int)) (o:=h.c.W) (p:=0) aa aa aa;rw[e1,e1]at this;omega
  have hi:pgi h.c x<(j:Int)+k:=by apply Classical.byContradiction;intro hn;have:((j:Int)+k)*h.c.W<=pgi h.c x*h.c.W:=UF aa aa;rw[Ou]at this;omega
  refine g.nocov hp aa aa (.inl ?_);have:=q.2.2.2 (pgi h.c x-j) aa aa;rwa[show(j:Int)+(pgi h.c x-j)=pgi h.c x by omega]at this
 refine Wd (.inr ⟨rfl,⟨⟨by show ws.length<=_;rw[i2];exact hb.1,y.2⟩,i4 ht.tw⟩,⟨epr,rfl,rfl,i2,?_,⟨H,tm,I⟩,λx A=>?_,λx A Z=>have A:Xb h.c (j:Int) 0<=x:=A;⟨aa,(cov x A Z).2⟩,by rw[eqa.1];omega,λb sb=>?_,λi E i1 hi=>?_,?_⟩⟩)
 .exact Xae (by rw[Q];omega)
 .rw[i3 x A];split
  .rfl
  split
  .rename_i hx;exact((cov x (Int.le_of_lt hx.1) hx.2).2).symm
  rfl
 .have c:=(cov (Xb h.c (j:Int) 0) (Uo _) aa).1 b sb;exact⟨λe=>have e:b=Xb h.c (j:Int) 0:=e;c ⟨aa,by have:=(XJ h.w b).2.1;omega⟩,c⟩
 .rw[eqa.1]at hi;show pg (Kg h (Xy d) j k).p i=_\/_/\(pg (Kg h (Xy d) j k).p i).k=3/\(pg (Kg h (Xy d) j k).p i).s=_/\(pg (Kg h (Xy d) j k).p i).P=_;rw[epg i E];by_cases hr:(j:Int)<=i/\i<(j:Int)+k
  .right;have kf:=q.2.2.2 (i-j) aa aa;rw[show(j:Int)+(i-j)=i by omega]at kf;obtain⟨m,hm'⟩:∃m,(i-(j:Int)).toNat=m+1:=⟨(i-(j:Int)).toNat-1,aa⟩
   rw[Wj hr,hm',We,Iz,UG,Wj aa];exact⟨kf,rfl,rfl,rfl⟩
  rw[Wg hr];exact .inl rfl
 rw[eqa.1];show(pg (Kg h (Xy d) j k).p (j:Int)).P=_/\(pg (Kg h (Xy d) j k).p (j:Int)).s=_/\(_/\(pg (Kg h (Xy d) j k).p (j:Int)).k=1/\_/\(pg (Kg h (Xy d) j k).p (j:Int)).u=_/\_\/_/\_/\(pg (Kg h (Xy d) j k).p (j:Int)).u=_/\((pg (Kg h (Xy d) j k).p (j:Int)).k=1/\_\/(pg (Kg h (Xy d) j k).p (j:Int)).k=2))
 rw[epg (j:Int) aa,Wj aa,Int.sub_self];have hz:(pg h.p (j:Int)).P=0:=by rw[(hp.pgs (j:Int) aa aa).free k0];rfl
 exact⟨hz.symm,rfl,.inr ⟨k0,rfl,hs,.inr rfl⟩⟩
end
section
variable {N:Nat}{h:Wp}{a:Int}
def Xec(hN:NB N)(hb:HB h)(g:GX N h){a b:Int}(y:Stt h a)(o:Stt h b)(p:a≠b):a+szA h.w a<=b\/b+szA h.w b<=a:=by
 obtain⟨S,L,z,mS,_⟩:=Xba hN hb g.ep g.ps;have e:=z.obj.pw;rw[Uf]at e;obtain⟨i,t,q⟩:=Wv ((mS a).2 y);obtain⟨j,u,f⟩:=Wv ((mS b).2 o);rcases IR i j with l|l|l
 .have:=e i j t u l;rw[q,f]at this;exact .inl this
 .subst l;rw[q]at f;exact absurd f p
 have:=e j i u t l;rw[q,f]at this;exact .inr this
def GX.words(g:GX N h)(hN:NB N)(hb:HB h){h2:Wp}(cf:h2.c=h.c)(sp:h2.s=h.s)(wl:h2.w.length=h.w.length)(pl:h2.p.length=h.p.length)(ep:Qab N h2=some true)(B:∀i,0<=i->i<(h.p.length:Int)->(pg h2.p i).k=(pg h.p i).k/\(pg h2.p i).u=(pg h.p i).u/\(pg h2.p i).s=(pg h.p i).s)(hw:∀b,Stt h b->wd h2.w b=wd h.w b)(V:∀x:Int,4096<=x->wd h2.w x=wd h.w x\/∃b,Obb h b/\b<=x/\x<b+szA h.w b)(H:∀a,Obb h a->∀j∈XN (hdA h.w a),wd h2.w (a+1+j)=0\/Obb h (wd h2.w (a+1+j)))(I:((h2.p.countP K1:Nat):Int)<=h.c.p / 4):GX N h2/\(∀b,Obb h2 b↔Obb h b)/\∀b,Stt h2 b↔Stt h b:=by
 have hp:=XL hN hb g.ep;have J:HB h2:=⟨by rw[wl];exact hb.1,by rw[pl];exact hb.2⟩
 have y:=XL hN J ep;have E:∀b,Stt h b->hdA h2.w b=hdA h.w b:=λb q=>by unfold hdA;rw[hw b q]
 have O:∀b,Stt h b->szA h2.w b=szA h.w b:=λb q=>JQ (hw b q);have pars:∀i l,0<=i->i<(h.p.length:Int)->OE h i l->OE h2 i l:=λi l f i1 p=>by
  have G:∀b∈l,Stt h b:=λb hb=>⟨i,l,f,i1,p,hb⟩
  have e:=B i f i1;refine⟨λk=>p.none (by rw[←e.1];exact k),λk=>?_,λk=>?_⟩
  .rw[cf,e.2.1];exact(p.small (by rw[←e.1];exact k)).congr λb hb=>hw b (G b hb)
  obtain⟨rfl,W,K⟩:=p.large (by rw[←e.1];exact k);have:=G (Xb h.c i 0) ab;rw[cf,e.2.1,hw _ this,O _ this];exact⟨rfl,W,K⟩
 have st:∀b,Stt h2 b↔Stt h b:=λb=>by
  constructor
  .rintro⟨i,l,f,i1,p,o⟩;rw[pl]at i1;obtain⟨m,z⟩:=g.ps i f i1;have:=p.fn (y.pgs i f (by rw[pl];exact i1)).kind (pars i m f i1 z);subst this;exact⟨i,l,f,i1,z,o⟩
  rintro⟨i,l,f,i1,p,o⟩;exact⟨i,l,f,by rw[pl];exact i1,pars i l f i1 p,o⟩
 have ob:∀b,Obb h2 b↔Obb h b:=λb=>by
  constructor
  .rintro⟨q,L⟩;have:=(st b).1 q;exact⟨this,by rw[←E b this];exact L⟩
  rintro⟨q,L⟩;exact⟨(st b).2 q,by rw[E b q];exact L⟩
 refine⟨⟨ep,λi f i1=>?_,λi f i1 k=>?_,λi l f i1 p b o=>?_,λx Q R=>?_,λb t j T=>?_,by rw[cf];exact I⟩,ob,st⟩
 .rw[pl]at i1;obtain⟨m,z⟩:=g.ps i f i1;exact⟨m,pars i m f i1 z⟩
 .rw[pl]at i1;have e:=B i f i1;rw[sp,e.2.2];exact g.sp i f i1 (by rw[←e.1];exact k)
 .rw[pl]at i1;obtain⟨m,z⟩:=g.ps i f i1;have:=p.fn (y.pgs i f (by rw[pl];exact i1)).kind (pars i m f i1 z);subst this;have q:Stt h b:=⟨i,l,f,i1,z,o⟩
  have c:=g.cl i l f i1 z b o;unfold XcD;rw[E b q,O b q,cf,(B i f i1).1];exact c
 .rcases V x Q with e|⟨b,t,b1,b2⟩
  .rw[e]at R;obtain⟨b,U,b1,b2⟩:=g.dt x Q R;exact⟨b,(st b).2 U,b1,by rw[Xd7 (E b U)];exact b2⟩
  refine⟨b,(st b).2 t.1,b1,?_⟩;rw[Xd7 (E b t.1)];unfold Kw;rw[Wg t.2];exact b2
 have A:=(ob b).1 t;rw[E b A.1]at T;rcases H b A j T with e|e
 .exact .inl e
 exact .inr ((ob _).2 e)
structure Sd(N:Nat)(h h2:Wp)(a i v:Int):Prop where
 ht:HT h2
 gx:GX N h2
 cf:h2.c=h.c
 sp:h2.s=h.s
 pl:h2.p=h.p
 ob:∀b,Obb h2 b↔Obb h b
 hd:∀b,Obb h b->hdA h2.w b=hdA h.w b
 w:∀x:Int,4096<=x->wd h2.w x=if x=a+1+i then v else wd h.w x
def Xed(hN:NB N)(ht:HT h)(g:GX N h)(A:Obb h a){i v:Int}(T:0<=i)(i1:i<(hdA h.w a).n)(K:i∈XN (hdA h.w a)->v=0\/Obb h v)(L:tU v):∃h2,Qci N h a i v=some (h2,0)/\Sd N h h2 a i v:=by
 have hb:=ht.hb;have hp:=XL hN hb g.ep;have t:=A.1.at_ hp;have U:=t.rng;have V:=JK hp t;have W:szA h.w a=(hdA h.w a).n+1:=rfl;have I:=(XcX h.w a).2.1;have hw:=hp.words;have O:=hb.1;have y:inW h.w (a+1+i):=by unfold inW;omega
 have o:∀x:Int,4096<=x->wd (h.w.set (ix (a+1+i)) v) x=if x=a+1+i then v else wd h.w x:=λx z=>XdA y z
 have nst:∀b,Stt h b->b≠a+1+i:=λb B e=>by
  by_cases u:b=a
  .omega
  have:=Xec hN hb g B A.1 u;have:=(XJ h.w b).2.1;omega
 have E:Qab N ⟨h.c,h.w.set (ix (a+1+i)) v,h.p,h.s,h.b⟩=some true:=VD hN hb g.ep (by rw[Ww]);have q:=g.words (h2:=⟨h.c,h.w.set (ix (a+1+i)) v,h.p,h.s,h.b⟩) hN hb rfl rfl (by show(h.w.set _ _).length=_;rw[Ww]) rfl E (λ_ _ _=>⟨rfl,rfl,rfl⟩) (λb B=>by
  show wd (h.w.set _ _) b=_
  rw[o b (B.at_ hp).rng.1,Wg (nst b B)]) (λx Q=>by
  show wd (h.w.set _ _) x=_\/_
  rw[o x Q]
  split
  .exact .inr ⟨a,A,aa,aa⟩
  .exact .inl rfl) (λb f j G=>by
  show wd (h.w.set _ _) _=0\/Obb h (wd (h.w.set _ _) _)
  have R:=YC G
  have ezb:szA h.w b=(hdA h.w b).n+1:=rfl
  have:=(f.1.at_ hp).rng
  rw[o _ aa]
  by_cases J:b+1+j=a+1+i
  .rw[Wj J]
   by_cases u:b=a
   .subst u
    have:j=i:=aa
    subst this
    exact K G
   .have:=Xec hN hb g f.1 A.1 u
    omega
  .rw[Wg J];exact g.pt b f j G) g.cr
 have H:=XcU hN hb g.ep t;refine⟨⟨h.c,h.w.set (ix (a+1+i)) v,h.p,h.s,h.b⟩,?_,⟨⟨by show(h.w.set _ _).length<=_;rw[Ww];exact hb.1,hb.2⟩,λx z=>?_⟩,q.1,rfl,rfl,rfl,q.2.1,λb f=>?_,o⟩
 .rw[Qci,QcT,Xcf hN hb g.ep t H A.2,Xa];dsimp only;rw[show((0:Int) != 0)=false from rfl,Wa,Wh aa,Wa,Wh aa,Wa,Xz (n:=a+1) aa aa,Xz (n:=i) aa aa,Xz (n:=a+1+i) aa aa,YX (by unfold BIG;omega),Xa,Wj y,Xa];dsimp only;rw[show((0:Int) != 0)=false from rfl,Wa,Vb (by unfold BIG;omega) (by unfold NB at hN;omega),Xa,Wj y]
 .rcases W7 z with z|z
  .exact ht.tw x z
  rw[z];exact L
 unfold hdA;show Z0 (wd (h.w.set _ _) b)=_;rw[o b (f.1.at_ hp).rng.1,Wg (nst b f.1)]
def OV.pins{c:Uj}{ps:List WJ}(s:OV c ps){j:Int}(y:0<=j)(z:j<ps.length)(I:(pg ps j).k=1\/(pg ps j).k=2){q:Int}(A:0<=q)(B:q<=2147483647):OV c (ps.set j.toNat ⟨(pg ps j).k,(pg ps j).s,(pg ps j).u,q⟩):=by
 have p:=λi f=>ZQ (ps:=ps) (i:=j) (j:=i) ⟨(pg ps j).k,(pg ps j).s,(pg ps j).u,q⟩ y z f;have e3:∀i,0<=i->(pg (ps.set j.toNat ⟨(pg ps j).k,(pg ps j).s,(pg ps j).u,q⟩) i).k=(pg ps i).k/\(pg (ps.set j.toNat ⟨(pg ps j).k,(pg ps j).s,(pg ps j).u,q⟩) i).s=(pg ps i).s/\(pg (ps.set j.toNat ⟨(pg ps j).k,(pg ps j).s,(pg ps j).u,q⟩) i).u=(pg ps i).u/\(i≠j->(pg (ps.set j.toNat ⟨(pg ps j).k,(pg ps j).s,(pg ps j).u,q⟩) i)=pg ps i):=λi f=>by
  rw[p i f];split
  .rename_i h;subst h;exact⟨rfl,rfl,rfl,λh=>absurd rfl h⟩
  exact⟨rfl,rfl,rfl,λ_=>rfl⟩
 have spb:∀i,0<=i->i<(ps.length:Int)->O6 c ps i->O6 c (ps.set j.toNat ⟨(pg ps j).k,(pg ps j).s,(pg ps j).u,q⟩) i:=λi f i1 b=>by
  have e:=e3 i f;refine⟨by rw[e.2.1];exact b.sp,?_,λk=>?_,λk=>?_,λk=>?_,by rw[e.1];exact b.kd⟩
  .rw[p i f];split
   .exact⟨A,B⟩
   exact b.pn
  .rw[e.1]at k;have:i≠j:=λh=>by rw[h]at k;omega
   rw[e.2.2.2 this];exact b.k0 k
  .rw[e.1]at k;rw[e.2.2.1];exact b.k1 k
  rw[e.1]at k;have k2:=b.k2 k;rw[e.2.2.1,e.2.1,Ww];refine⟨k2.1,k2.2.1,λm g o=>?_⟩;have t:=k2.2.2 m g o;have:i+m≠j:=λh=>by rw[h]at t;omega
  rw[(e3 (i+m) aa).2.2.2 this];exact t
 refine⟨λi f i1 k=>?_,λi f i1 k=>?_⟩
 .rw[Ww]at i1;rw[(e3 i f).1]at k;exact spb i f i1 (s.hd i f i1 k)
 rw[Ww]at i1;rw[(e3 i f).1]at k;obtain⟨m,g,o,E,G,H⟩:=s.tl i f i1 k;exact⟨m,g,o,spb m g aa E,by rw[(e3 m g).1];exact G,by rw[(e3 m g).2.2.1];exact H⟩
structure OZ(N:Nat)(h h2:Wp):Prop where
 ht:HT h2
 gx:GX N h2
 cf:h2.c=h.c
 sp:h2.s=h.s
 wd:h2.w=h.w
 ob:∀b,Obb h2 b↔Obb h b
def XjO(hN:NB N)(ht:HT h)(g:GX N h)(K:Obb h a){by_:Int}(L:0<=(pg h.p (pgi h.c a)).P+by_)(O:(pg h.p (pgi h.c a)).P+by_<=2147483647)(Q:(pg h.p (pgi h.c a)).k=1->(pg h.p (pgi h.c a)).P+by_>0->(pg h.p (pgi h.c a)).P>0\/((h.p.countP K1:Nat):Int)<h.c.p / 4):
 ∃h2,QbR N h a by_=some h2/\OZ N h h2/\h2.p.length=h.p.length/\∀i,0<=i->(pg h2.p i).P=if i=pgi h.c a then(pg h.p i).P+by_ else(pg h.p i).P:=by
 have hb:=ht.hb;have R:=hb.2;have hp:=XL hN hb g.ep;have z:=K.1.at_ hp;have⟨T,G,H⟩:=Je (N:=N) hp z;have U:=z.kind;have V:=(hp.pgs _ G H).pins;generalize Y:pgi h.c a=j at *;have J:=λi A=>ZQ (ps:=h.p) (i:=j) (j:=i) ⟨(pg h.p j).k,(pg h.p j).s,(pg h.p j).u,(pg h.p j).P+by_⟩ G H A;have spn:=(Xcg hN hb g.ep).pins G H U L O;have f:(h.p.set j.toNat ⟨(pg h.p j).k,(pg h.p j).s,(pg h.p j).u,(pg h.p j).P+by_⟩).length=h.p.length:=Ww;have pre:O1 ⟨h.c,h.w,h.p.set j.toNat ⟨(pg h.p j).k,(pg h.p j).s,(pg h.p j).u,(pg h.p j).P+by_⟩,h.s,h.b⟩:=by
  refine⟨hp.conf,hp.words,by rw[f];exact hp.pages,hp.space,?_⟩;rcases hp.bump with o|o
  .exact .inl o
  right;rw[f];refine⟨o.1,o.2.1,?_⟩;show(pg (h.p.set _ _) h.b).k=1;rw[J _ o.1];split
  .rename_i e;rw[←e];exact o.2.2
  exact o.2.2
 have B:HB ⟨h.c,h.w,h.p.set j.toNat ⟨(pg h.p j).k,(pg h.p j).s,(pg h.p j).u,(pg h.p j).P+by_⟩,h.s,h.b⟩:=⟨hb.1,by rw[f];exact hb.2⟩
 have epr:=JR hN B pre spn;have E:((((h.p.set j.toNat ⟨(pg h.p j).k,(pg h.p j).s,(pg h.p j).u,(pg h.p j).P+by_⟩).countP K1:Nat)):Int)<=h.c.p / 4:=by
  have W:=g.cr;have t:j.toNat<h.p.length:=aa;rw[Ic,Wj t,Og,U4];have I:h.p.countP K1=(h.p.take j.toNat).countP K1+((h.p.drop (j.toNat+1)).countP K1+if K1 h.p[j.toNat]=true then 1 else 0):=by
   conv=>lhs;rw[←Ig j.toNat h.p]
   rw[Og,Wm t,U4]
  have epj:pg h.p j=h.p[j.toNat]:=by have:=Kh t;rwa[show(j.toNat:Int)=j by omega]at this
  rw[←epj]at I;by_cases y:K1 ⟨(pg h.p j).k,(pg h.p j).s,(pg h.p j).u,(pg h.p j).P+by_⟩=true
  .rw[Wj y];unfold K1 at y;rw[Wr,decide_eq_true_iff,beq_iff_eq]at y;rcases Q y.1 y.2 with o|o
   .have:K1 (pg h.p j)=true:=by unfold K1;rw[Wr,decide_eq_true_iff,beq_iff_eq];exact⟨y.1,o⟩
    rw[Wj this]at I;omega
   split at I<;>omega
  rw[Wg y];split at I<;>omega
 have q:=g.words (h2:=⟨h.c,h.w,h.p.set j.toNat ⟨(pg h.p j).k,(pg h.p j).s,(pg h.p j).u,(pg h.p j).P+by_⟩,h.s,h.b⟩) hN hb rfl rfl rfl f epr (λi A i1=>by
  show(pg (h.p.set _ _) i).k=_/\(pg (h.p.set _ _) i).u=_/\(pg (h.p.set _ _) i).s=_
  rw[J i A]
  split
  .rename_i e;rw[e];exact⟨rfl,rfl,rfl⟩
  .exact⟨rfl,rfl,rfl⟩) (λ_ _=>rfl) (λ_ _=>.inl rfl) g.pt E
 refine⟨⟨h.c,h.w,h.p.set j.toNat ⟨(pg h.p j).k,(pg h.p j).s,(pg h.p j).u,(pg h.p j).P+by_⟩,h.s,h.b⟩,?_,⟨⟨B,ht.tw⟩,q.1,rfl,rfl,rfl,q.2.1⟩,f,λi A=>?_⟩
 .rw[QbR,Xe aa,T,Xa,XQ G H,Xa,Xa,Xf aa aa]
 show(pg (h.p.set _ _) i).P=_;rw[J i A];split
 .rename_i e;rw[e]
 rfl
end
section
variable {N:Nat}{h:Wp}{a:Int}{pins:List UQ}{c:Uj}
def XbM:∀{l m:List UQ} {i:Int},Zt c (l++m) i=Zt c l i+Zt c m i
 |[],m,i=>by simp[Zt]
 |p::l,m,i=>by rw[IA,Zt,Zt,XbM];omega
def Xf7:∀{l:List UQ},(∀p∈l,p.M<=1000)->∀i,Zt c l i<=1000*l.length
 |[],_,i=>by simp[Zt]
 |p::l,h,i=>by have:=Xf7 (l:=l) (λq e=>h q (WC _ e)) i;have:=h p ab;rw[Zt,Uq];split<;>omega
def Xbd{l:List UQ}{k:Nat}(e:k<l.length)(i:Int):Zt c l i=Zt c (l.take k) i+(if pgi c l[k].a=i then l[k].M else 0)+Zt c (l.drop (k+1)) i:=by
 conv=>lhs;rw[←Ig k l,Wm e]
 rw[XbM,Zt];omega
def XhF{l:List UQ}{k:Nat}(e:k<l.length){p:UQ}(hp:p.a=l[k].a)(i:Int):Zt c (l.set k p) i=Zt c l i+if pgi c l[k].a=i then p.M-l[k].M else 0:=by have f:=Xbd (c:=c) (l:=l.set k p) (k:=k) (by rw[Ww];exact e) i;have h2:=Xbd (c:=c) e i;rw[List.getElem_set_self,IH (Uu _),UZ aa,hp]at f;rw[f,h2];split<;>omega
def XiF{l:List UQ}{k:Nat}(e:k<l.length)(i:Int):Zt c (l.eraseIdx k) i=Zt c l i-if pgi c l[k].a=i then l[k].M else 0:=by rw[Xbd e i,Ik,XbM];split<;>omega
def VE{α:Type}{p:α->Bool}{l:List α}(h:0<=Zj p l):∃(k:Nat) (f:k<l.length),Zj p l=k/\p l[k]=true:=by
 unfold Zj at h⊢;cases e:l.findIdx? p with
 |none=>rw[e]at h;exact absurd h ae
 |some k=>rw[U0]at e;obtain⟨f,g,_⟩:=e;exact⟨k,f,rfl,g⟩
def XiG{α:Type}{p:α->Bool}{l:List α}(h:Zj p l<0):∀x∈l,p x=false:=by
 unfold Zj at h;cases e:l.findIdx? p with
 |none=>rw[List.findIdx?_eq_none_iff]at e;exactλx f=>by have:=e x f;simpa using this
 |some k=>rw[e]at h;exact absurd h (by show¬(k:Int)<0;omega)
def fiP(pins:List UQ)(a:Int):Int:=Zj (λp=>p.a==a) pins
def Xnt(pins:List UQ)(a:Int):List UQ:=if 0<=fiP pins a then pins.set (fiP pins a).toNat ⟨(pins.getD (fiP pins a).toNat ⟨0,0⟩).a,(pins.getD (fiP pins a).toNat ⟨0,0⟩).M+1⟩else pins++[⟨a,1⟩]
def Xnu(pins:List UQ)(a:Int):List UQ:=if(pins.getD (fiP pins a).toNat ⟨0,0⟩).M=1 then pins.eraseIdx (fiP pins a).toNat else pins.set (fiP pins a).toNat ⟨(pins.getD (fiP pins a).toNat ⟨0,0⟩).a,(pins.getD (fiP pins a).toNat ⟨0,0⟩).M-1⟩
def XjP(hN:NB N)(hb:HB h)(g:GX N h)(j:Obb h a):Qds N h a=some true:=by
 have e:=hN;unfold NB at e;obtain⟨S,L,o,mS,eS,eL,rfl,mL⟩:=Xba hN hb g.ep g.ps;have f:(Y7 h S).length<=4096:=by have p:=o.len;have:(Y7 h S).length<=S.length:=List.length_filter_le _ _;omega
 rw[Qds,eL,Xa];dsimp only;rw[Ym a aa aa,Xa,show(Y7 h S).contains a=true by rw[Ub];exact(mL a).2 j]
def Xk3(hN:NB N)(hb:HB h)(g:GX N h)(t:Obb h a):∃b,QcF N h a=some b/\(b=true↔(pg h.p (pgi h.c a)).k=1/\(pg h.p (pgi h.c a)).P=0/\h.c.p / 4<=((h.p.countP K1:Nat):Int)):=by
 have o:=hN;unfold NB at o;have hp:=XL hN hb g.ep;have z:=hb.2;have A:=Xi.1 hp.conf;have⟨B,E,G⟩:=Je (N:=N) hp (t.1.at_ hp);have H:∀(n k c:Nat),k<=h.p.length->h.p.length-k<n->c<=k->Qbo N h a n (c:Int) (k:Int)=some (((c+(h.p.drop k).countP K1:Nat):Int)):=by
  intro n;induction n with
  |zero=>intro k c _ I;omega
  |succ n u=>
   intro k c O I Q;rw[Qbo];by_cases f:k<h.p.length;case neg=>rw[Wh aa,Wa,WN aa];simp
   have:=u (k+1) c aa aa aa;have:=u (k+1) (c+1) aa aa aa;rw[Xm f,Wc,Xc,Wb f,Xa,Xg aa,Xg aa,Wm f,U4];simp only[Xa];unfold K1 at *;cases J:(h.p[k].k==1)<;>cases K:decide (h.p[k].P>0)<;>simp_all<;>omega
 have y:Qbo N h a N 0 0=some (((0+(h.p.drop 0).countP K1:Nat):Int)):=H N 0 0 aa aa aa;rw[WL,Ue]at y;have L:wI (h.c.p.tdiv 4)=h.c.p / 4:=by rw[U3 aa,Xf aa aa]
 rw[QcF,(Vj hN hb).2 g,Xa,Wl,Wa,XjP hN hb g t,Xa,Wl,Wa,y,Xa,B,Xa,XQ E G,Xa,L];by_cases j:(pg h.p (pgi h.c a)).k=1;rotate_left
 .rw[Xh j];exact⟨false,rfl,(λe=>by cases e),λq=>absurd q.1 j⟩
 by_cases h2:(pg h.p (pgi h.c a)).P=0;rotate_left
 .rw[Xl j,Xh h2];exact⟨false,rfl,(λe=>by cases e),λq=>absurd q.2.1 h2⟩
 rw[Xl j,Xl h2];exact⟨_,rfl,by rw[decide_eq_true_iff];exact⟨λq=>⟨j,h2,aa⟩,λq=>aa⟩⟩
def MX.moved(m:MX N h pins){h2:Wp}(q:OZ N h h2)(g:h2.p.length=h.p.length){ps:List UQ}(f:ps.length<=64)(e:∀p∈ps,Obb h p.a/\1<=p.M/\p.M<=1000)(j:(ps.map (·.a)).Nodup)(o:∀i,0<=i->i<(h.p.length:Int)->(pg h2.p i).P=Zt h.c ps i):MX N h2 ps:=
 ⟨q.gx,f,λp hp=>⟨(q.ob _).2 (e p hp).1,(e p hp).2⟩,j,λi t i1=>by rw[g]at i1;rw[q.cf];exact o i t i1⟩
def Xnv(hN:NB N)(ht:HT h)(m:MX N h pins)(u:Obb h a):Ok (Qfh N h pins a) λr=>r.2.2.2=18\/(r.2.2.2=0/\OZ N h r.1/\MX N r.1 r.2.1/\r.2.1=Xnt pins a/\r.2.2.1=a+1/\(0<=fiP pins a->(pins.getD (fiP pins a).toNat ⟨0,0⟩).M≠1000)/\(fiP pins a<0->pins.length≠64)):=by
 have G:=hN;unfold NB at G;have hb:=ht.hb;have g:=m.gx;have hp:=XL hN hb g.ep;have z:=u.1.at_ hp;have hr:=z.rng;have⟨eh,Y,Z⟩:=Je (N:=N) hp z;have H:=m.len;have hpm:=XV hp.conf (i:=0) aa (by have:=Xi.1 hp.conf;omega);obtain⟨b,ec,I⟩:=Xk3 hN hb g u;have V:=m.sm _ Y Z;have hnn:=Xf6 (c:=h.c) (l:=pins) (λp hp=>(m.ob p hp).2.1) (pgi h.c a);have hle:=Xf7 (c:=h.c) (l:=pins) (λp hp=>(m.ob p hp).2.2) (pgi h.c a);rw[Qfh,(XaJ hN hb pins).2 m,Xa,Wl,Wa,Xh aa,Wa,XjP hN hb g u,Xa,Wl,Wa,XfY pins a aa aa,Xa,Xr];rw[show Zj (λp:UQ=>p.a==a) pins=fiP pins a from rfl,ec];simp only[Xa];have cnt:b=false->∃h2,QbR N h a 1=some h2/\OZ N h h2/\h2.p.length=h.p.length/\∀i,0<=i->(pg h2.p i).P=if i=pgi h.c a then(pg h.p i).P+1 else(pg h.p i).P:=λJ=>
  XjO hN ht g u aa aa λk _=>by
   by_cases hz:(pg h.p (pgi h.c a)).P=0
   .right
    apply Classical.byContradiction;intro hn
    have:=I.2 ⟨k,hz,aa⟩
    rw[J]at this;cases this
   .left;omega
 by_cases K:0<=fiP pins a
 .obtain⟨k,E,L,O⟩:=VE K;have L:fiP pins a=k:=L;have Q:pins.getD k ⟨0,0⟩=pins[k]:=by rw[We,Wb E];rfl
  have R:pins[k].a=a:=by simpa using O
  have T:=m.ob _ (Wt E);unfold Xnt;rw[Wj K,L,show(k:Int).toNat=k from rfl,Q,Wi aa,Wc,Xc,Wb E,Xa];by_cases f:pins[k].M=1000
  .rw[Xl f,Wc];exact Wd (.inl rfl)
  rw[Xh f,Wa,Wh aa,Wa];cases q:b with
  |true=>exact Wd (.inl rfl)
  |false=>
   obtain⟨h2,U,A,pl,ps⟩:=cnt q;rw[Wa,Xe aa,Xr,Wc,Xa,Xa,U];dsimp only;rw[Xa,Xf aa aa,Xz aa aa];refine Wd (.inr ⟨rfl,A,?_,rfl,rfl,λ_=>f,λh=>aa⟩);refine m.moved A pl (by show(pins.set k _).length<=64;rw[Ww];exact H) (λp hp=>?_) ?_ λi B i1=>?_
   .rcases W7 hp with hp|hp
    .exact m.ob p hp
    rw[hp];exact⟨T.1,by show 1<=pins[k].M+1;omega,by show pins[k].M+1<=1000;omega⟩
   .show((pins.set k _).map _).Nodup;rw[List.map_set];have:(pins.map (·.a)).set k pins[k].a=pins.map (·.a):=by
     apply List.ext_getElem
     .simp
     intro i h1 h2;rw[List.getElem_set];split
     .rename_i e;subst e;simp
     rfl
    dsimp only;rw[this];exact m.nd
   show _=Zt h.c (pins.set k _) i;rw[XhF (p:=⟨pins[k].a,pins[k].M+1⟩) E rfl,R,ps i B,m.sm i B i1];by_cases j:i=pgi h.c a
   .rw[Wj j,Wj j.symm];dsimp only;omega
   rw[Wg j,Wg (λe=>j e.symm)];omega
 have t:=XiG (p:=λp:UQ=>p.a==a) (l:=pins) (by have:Zj (λp:UQ=>p.a==a) pins=fiP pins a:=rfl;omega);unfold Xnt;rw[Wg K,Wh aa,Wa,Wi aa,Wc];by_cases o:pins.length=64
 .rw[show((pins.length:Int)==64)=true by rw[o];rfl,Wc];exact Wd (.inl rfl)
 rw[Xh (show¬(pins.length:Int)=64 by omega),Wa];cases q:b with
 |true=>exact Wd (.inl rfl)
 |false=>
  obtain⟨h2,U,A,pl,ps⟩:=cnt q;rw[Wa,Xe aa,Xr,Wa,Xe aa,U];dsimp only;rw[Xa,Xz aa aa];refine Wd (.inr ⟨rfl,A,?_,rfl,rfl,λh=>aa,λ_=>o⟩);refine m.moved A pl (by show(pins++[(UQ.mk a 1)]).length<=64;rw[Wu];simp;omega) (λp hp=>?_) ?_ λi B i1=>?_
  .rcases Ws.1 hp with hp|hp
   .exact m.ob p hp
   rw[WM.1 hp];exact⟨u,by show(1:Int)<=1;omega,by show(1:Int)<=1000;omega⟩
  .show((pins++[(UQ.mk a 1)]).map _).Nodup;rw[UV,U6];refine⟨m.nd,ab,λx hx y W e=>?_⟩;simp only[UA,U9,WM]at W;obtain⟨p,hp,e'⟩:=WG.1 hx;have:=t p hp;rw[e',e,W]at this;simp at this
  show _=Zt h.c (pins++[(UQ.mk a 1)]) i;rw[XbM,Zt,Zt,ps i B,m.sm i B i1];by_cases j:i=pgi h.c a
  .rw[Wj j,Wj j.symm];dsimp only;omega
  rw[Wg j,Wg (λe=>j e.symm)];omega
def Xnw(hN:NB N)(ht:HT h)(m:MX N h pins)(K:Obb h a):Ok (Qdf N h pins a) λr=>(r.2.2=12/\fiP pins a<0)\/(r.2.2=0/\0<=fiP pins a/\OZ N h r.1/\MX N r.1 r.2.1/\r.2.1=Xnu pins a):=by
 have z:=hN;unfold NB at z;have hb:=ht.hb;have g:=m.gx;have hp:=XL hN hb g.ep;have q:=K.1.at_ hp;have Z:=q.rng;have⟨eh,R,T⟩:=Je (N:=N) hp q;have A:=m.len;have L:=m.sm _ R T;have U:=Xf7 (c:=h.c) (l:=pins) (λp hp=>(m.ob p hp).2.2) (pgi h.c a);rw[Qdf,(XaJ hN hb pins).2 m,Xa,Wl,Wa,Xh aa,Wa,XfY pins a aa aa,Xa];rw[show Zj (λp:UQ=>p.a==a) pins=fiP pins a from rfl];by_cases O:fiP pins a<0
 .rw[Wi O,Wc];exact Wd (.inl ⟨rfl,O⟩)
 have B:0<=fiP pins a:=aa;obtain⟨k,j,E,G⟩:=VE (p:=λp:UQ=>p.a==a) (l:=pins) B;have E:fiP pins a=k:=E;have H:pins.getD k ⟨0,0⟩=pins[k]:=by rw[We,Wb j];rfl
 have o:pins[k].a=a:=by simpa using G
 have I:=m.ob _ (Wt j);have t:=Xeb (c:=h.c) (l:=pins) (λp hp=>(m.ob p hp).2.1) _ (Wt j);rw[o]at t;obtain⟨h2,Q,y,pl,ps⟩:=XjO hN ht g K (by_:=-1) aa aa λk V=>.inl aa;unfold Xnu;rw[E,show(k:Int).toNat=k from rfl,H,Wh aa,Wa,Xe aa,Xc,Wb j,Xa,Xa,Xf (n:=pins[k].M-1) aa aa,Xc,Ip j,Xa];dsimp only;by_cases J:pins[k].M=1
 .rw[Wj J,Xl aa,Wc,Xe aa,Xg aa,Xe aa,show((k+1:Nat):Int).toNat=k+1 from rfl,Xe aa,Q,Xa];have W:(((((pins.set k (UQ.mk pins[k].a (pins[k].M-1))).take k)++(((pins.set k (UQ.mk pins[k].a (pins[k].M-1))).drop (k+1)).take (pins.length-(k+1))))++((pins.set k (UQ.mk pins[k].a (pins[k].M-1))).drop (k+(pins.length-(k+1))))).take (k+(pins.length-(k+1))))=pins.eraseIdx k:=by
   have Y:((pins.set k (UQ.mk pins[k].a (pins[k].M-1))).take k++((pins.set k (UQ.mk pins[k].a (pins[k].M-1))).drop (k+1)).take (pins.length-(k+1))).length=k+(pins.length-(k+1)):=by rw[Wu,Wx,Wx,WR,Ww];omega
   rw[IN aa,Ur aa,Ur (l:=List.drop _ _) (by rw[WR,Ww];omega),IH (Uu _),UZ aa,Ik]
  rw[W];refine Wd (.inr ⟨rfl,aa,y,?_,rfl⟩);refine m.moved y pl (by show(pins.eraseIdx k).length<=64;have:=List.length_eraseIdx_le pins k;omega) (λp hp=>m.ob p (List.mem_of_mem_eraseIdx hp)) ?_ λi u i1=>?_
  .exact m.nd.sublist ((List.eraseIdx_sublist pins k).map _)
  show _=Zt h.c (pins.eraseIdx k) i;rw[XiF j,o,ps i u,m.sm i u i1];by_cases f:i=pgi h.c a
  .rw[Wj f,Wj f.symm];omega
  rw[Wg f,Wg (λe=>f e.symm)];omega
 rw[Wg J,Xh aa,Wa,Q,Xa];refine Wd (.inr ⟨rfl,aa,y,?_,rfl⟩);refine m.moved y pl (by show(pins.set k _).length<=64;rw[Ww];exact A) (λp hp=>?_) ?_ λi u i1=>?_
 .rcases W7 hp with hp|hp
  .exact m.ob p hp
  rw[hp];exact⟨I.1,by show 1<=pins[k].M-1;omega,by show pins[k].M-1<=1000;omega⟩
 .show((pins.set k _).map _).Nodup;rw[List.map_set];have:(pins.map (·.a)).set k pins[k].a=pins.map (·.a):=by
   apply List.ext_getElem
   .simp
   intro i J h2;rw[List.getElem_set];split
   .rename_i e;subst e;simp
   rfl
  dsimp only;rw[this];exact m.nd
 show _=Zt h.c (pins.set k _) i;rw[XhF (p:=⟨pins[k].a,pins[k].M-1⟩) j rfl,o,ps i u,m.sm i u i1];by_cases f:i=pgi h.c a
 .rw[Wj f,Wj f.symm];dsimp only;omega
 rw[Wg f,Wg (λe=>f e.symm)];omega
end
def XaK{α:Type}(f:α->Int):∀(l:List α) (s:Int),l.foldl (λ_ p=>f p) s=match l.getLast? with|some p=>f p|none=>s
 |[],s=>rfl
 |[x],s=>rfl
 |x::y::l,s=>by
  rw[List.foldl_cons,XaK f (y::l),List.getLast?_cons_cons];cases h:(y::l).getLast? with
  |none=>simp at h
  |some p=>rfl
def Xch{α:Type}{l:List α}{i:Nat}{q:α}(h:l[i]? = some q):(l.take (i+1)).getLast? = some q:=by rw[UT,h];simp
structure Sm(iss:List Int)(i:Nat)(p:UW):Prop where
 pos:0<p.J
 le:p.J<=(iss.length:Int)
 ix:iss.getD (p.J-1).toNat 0=i
 lv:p.V=true↔p.a≠0
def XaL{iss:List Int}{l:List UW}:stB iss l=true↔(∀i p,l[i]? = some p->Sm iss i p)/\∀i p q,l[i]? = some q->l[i+1]? = some p->q.J<p.J:=by
 constructor
 .intro h;refine⟨λi p hp=>?_,λi p q f hp=>?_⟩
  .have:=Xb6 h hp;exact⟨aa,this.2.1,this.2.2.1,this.2.2.2⟩
  have:=(YK l (0:Int) 0).1 h (i+1) p hp;rw[XaK,Xch f]at this;unfold stQ at this;simp at this;exact this.1
 rintro⟨j,h2⟩;refine(YK l (0:Int) 0).2 λi p hp=>?_;have e:=j i p hp;have t:(l.take i).foldl (λ_ (p:UW)=>p.J) 0<p.J:=by
  cases i with
  |zero=>simp;exact e.pos
  |succ i=>have u:=Xq hp;have f:=Wb (show i<l.length by omega);rw[XaK,Xch f];exact h2 i p _ f hp
 have y:=e.le;have o:=e.ix;have e3:=e.lv;unfold stQ;rw[Wr,Wr,Wr,Ue];refine⟨ah,ah,by rw[o];simp,?_⟩;cases g:p.V with
 |true=>rw[g]at e3;have:=e3.1 rfl;simp[this]
 | false=>rw[g] at e3;have:p.a=0:=Classical.byContradiction λ h=>by have:=e3.2 h;cases this
          simp[this]
structure Sl(n i:Nat)(p:U2):Prop where
 f0:0<=p.O
 fn:p.O<=(n:Int)
 c0:0<=p.C0
 c1:p.C0<=64
 z:i=0->p.O=0/\p.B0=true
def VG{n:Nat}{l:List U2}:neB n l=true↔(∀i p,l[i]? = some p->Sl n i p)/\∀i p q,l[i]? = some q->l[i+1]? = some p->q.O<=p.O:=by
 constructor
 .intro h;refine⟨λi p hp=>?_,λi p q f hp=>?_⟩
  .have:=JA h hp;exact⟨this.1,this.2.1,this.2.2.1,this.2.2.2.1,this.2.2.2.2.1⟩
  exact(JA h f).2.2.2.2.2 p hp
 rintro⟨g,h2⟩;refine(YK l (0:Int) 0).2 λi p hp=>?_;have e:=g i p hp;have o:(l.take i).foldl (λ_ (p:U2)=>p.O) 0<=p.O:=by
  cases i with
  |zero=>simp;exact e.f0
  |succ i=>have t:=Xq hp;have f:=Wb (show i<l.length by omega);rw[XaK,Xch f];exact h2 i p _ f hp
 have u:=e.fn;have y:=e.c0;have e3:=e.c1;have e4:=e.z;unfold neQ;rw[Wr,Wr,Wr,Wr,Ue];refine⟨?_,ah,ah,ah,ah⟩;by_cases j:i=0
 .have:=e4 j;simp[this.1,this.2]
 simp;left;omega
def KU{a:WD}:Xb5 a=true↔∀i p,a.x[i]? = some p->((YL a.S p.O.toNat (toL a i).toNat:Nat):Int)<=p.C0:=by unfold Xb5;rw[YK];refine forall_congr' λi=>forall_congr' λp=>imp_congr_right λ_=>?_;unfold Xg3;rw[Ue,UE,UR];omega
def O3.mono{a:WD}(h:O3 a){i j:Nat}{p q:U2}(hp:a.x[i]? = some p)(f:a.x[j]? = some q)(g:i<=j):p.O<=q.O:=by
 have o:=(VG.1 h.ne).2;obtain⟨k,rfl⟩:∃k,j=i+k:=⟨j-i,aa⟩
 clear g;induction k generalizing q with
 |zero=>rw[Oc,hp]at f;cases f;exact Uo _
 |succ k t=>have u:=Xq f;have e:=Wb (show i+k<a.x.length by omega);have y:=t e;have h2:=o (i+k) q _ e f;omega
def Xk4{l m:List UW}{f t:Nat}(h:t<=l.length):YL (l++m) f t=YL l f t:=by
 unfold YL;by_cases e:f<=l.length
 .rw[List.drop_append_of_le_length e,IN (by rw[WR];omega)]
 rw[show t-f=0 by omega];simp
def XjQ{a:WD}(h:a.x.length≠0):a.x[a.x.length-1]? = some (Z9 a):=by have e:=Wb (show a.x.length-1<a.x.length by omega);rw[e];unfold Z9;rw[We,e];rfl
def XbN{a:WD}{i:Nat}(h:a.x.length<=i+1):toL a i=(a.S.length:Int):=by unfold toL;rw[W3 aa]
def JG{a:WD}{i:Nat}{p:U2}(h:a.x[i+1]? = some p):toL a i=p.O:=by unfold toL;rw[h]
def Xnx{a:WD}{x:Int}(h:(Yh a x).2.2.2=0):Yn (Yh a x).1=true/\x≠0/\(Yh a x).1=⟨a.S++[⟨(a.i.length:Int)+1,x,true⟩],a.x,a.i++[(a.S.length:Int)]⟩/\(Yh a x).2.1=(a.S.length:Int)/\(Yh a x).2.2.1=(a.i.length:Int)+1:=by
 unfold Yh at h⊢;by_cases B:Yn a=false
 .rw[Wj B]at h;exact absurd h ae
 rw[Wg B]at h⊢;by_cases h2:x=0
 .rw[Wj h2]at h;exact absurd h ae
 rw[Wg h2]at h⊢;by_cases A:a.x.length=0
 .rw[Wj A]at h;exact absurd h ae
 rw[Wg A]at h⊢;by_cases E:(Z9 a).C0<=((YL a.S (Z9 a).O.toNat a.S.length:Nat):Int)
 .rw[Wj E]at h;exact absurd h ae
 rw[Wg E]at h⊢;by_cases G:a.i.length=4096
 .rw[Wj G]at h;exact absurd h ae
 rw[Wg G];refine⟨?_,h2,rfl,rfl,rfl⟩;have f:=Ys.1 (by simpa using B);have R:=f.slots;have T:=f.iss;obtain⟨H,K⟩:=XaL.1 f.st;obtain⟨n1,n2⟩:=VG.1 f.ne;refine Ys.2 ⟨ah,f.sc,λe=>absurd e A,λy o=>?_,XaL.2 ⟨λi p hp=>?_,λi p q t hp=>?_⟩,VG.2 ⟨λi p hp=>?_,n2⟩,KU.2 λi p hp=>?_⟩
 .rcases Ws.1 o with o|o
  .exact f.issr y o
  rw[WM.1 o];omega
 .dsimp only at hp⊢;by_cases g:i<a.S.length
  .rw[WU g]at hp;have e:=H i p hp;have I:=e.le;have U:=e.pos;refine⟨e.pos,by rw[Wu];simp;omega,?_,e.lv⟩;rw[We,WU aa,←We];exact e.ix
  rw[Ug aa]at hp;have j:i=a.S.length:=by apply Classical.byContradiction;intro u;rw[W3 ah]at hp;cases hp
  subst j;rw[IE]at hp;cases hp;refine⟨by dsimp only;omega,by rw[Wu];simp,?_,?_⟩
  .dsimp only;rw[show((a.i.length:Int)+1-1).toNat=a.i.length by omega,We,Ug aa,IE];rfl
  simp[h2]
 .dsimp only at t hp;by_cases g:i+1<a.S.length
  .rw[WU aa]at t;rw[WU g]at hp;exact K i p q t hp
  have j:i+1=a.S.length:=by apply Classical.byContradiction;intro u;rw[W3 ah]at hp;cases hp
  rw[WU aa]at t;rw[Ug aa,j,IE]at hp;cases hp;have:=(H i q t).le;dsimp only;omega
 .have e:=n1 i p hp;have I:=e.fn;exact⟨e.f0,by rw[Wu];simp;omega,e.c0,e.c1,e.z⟩
 dsimp only at hp⊢;have e:=n1 i p hp;have V:=e.f0;have I:=e.fn;have J:=KU.1 f.cap i p hp;by_cases L:a.x.length<=i+1
 .have Q:=Xq hp;have:i=a.x.length-1:=aa;rw[this,XjQ A]at hp;cases hp;rw[XbN (a:=WD.mk (a.S++[UW.mk ((a.i.length:Int)+1) x true]) a.x (a.i++[(a.S.length:Int)])) L];have:YL (a.S++[⟨(a.i.length:Int)+1,x,true⟩]) (Z9 a).O.toNat (((a.S++[(⟨(a.i.length:Int)+1,x,true⟩:UW)]).length:Nat):Int).toNat=YL a.S (Z9 a).O.toNat a.S.length+1:=by unfold YL;rw[List.drop_append_of_le_length aa,Ur ah,Ur (by rw[WR];omega),Og];simp
  rw[this];omega
 have u:=Wb (show i+1<a.x.length by omega);rw[JG u]at J;rw[JG (a:=WD.mk (a.S++[UW.mk ((a.i.length:Int)+1) x true]) a.x (a.i++[(a.S.length:Int)])) u];have:=(n1 (i+1) _ u).fn;rw[Xk4 aa];exact J
def Xeu{l:List UW}{k:Nat}{s:UW}(h:s.V=false):(l.set k s).countP (·.V)<=l.countP (·.V):=by
 by_cases e:k<l.length
 .rw[Ic,Wj e];conv=>rhs;rw[←Ig k l,Wm e]
  rw[Og,Og,U4,U4,h];simp
 rw[List.set_eq_of_length_le aa];exact Uu _
def Xny{a:WD}{i g:Int}(h:(Yx a i g).2=0):Yn a=true/\0<=i/\∃p,a.S[i.toNat]? = some p/\p.J=g/\p.V=true/\(Yx a i g).1=p.a:=Xay h
def Xnz{a:WD}{i g:Int}(h:(Z2 a i g).2=0):Yn (Z2 a i g).1=true/\(Z2 a i g).1=⟨a.S.set i.toNat ⟨g,0,false⟩,a.x,a.i⟩/\(Yx a i g).2=0:=by
 unfold Z2 at h⊢;by_cases z:(Yx a i g).2=0;rotate_left
 .rw[Wj z]at h;exact absurd h z
 rw[Wg (by simp[z])];refine⟨?_,rfl,z⟩;obtain⟨H,T,p,hp,ep,U,_⟩:=Xny z;have f:=Ys.1 H;obtain⟨I,K⟩:=XaL.1 f.st;have key:∀(j:Nat) (q:UW),(a.S.set i.toNat ⟨g,0,false⟩)[j]? = some q->∃t:UW,a.S[j]? = some t/\q.J=t.J/\(q=t\/q.V=false/\q.a=0):=λj q o=>by
  rw[UJ]at o;by_cases u:i.toNat=j
  .rw[Wj u]at o;split at o
   .cases o;exact⟨p,by rw[←u];exact hp,ep.symm,.inr ⟨rfl,rfl⟩⟩
   cases o
  rw[Wg u]at o;exact⟨q,o,rfl,.inl rfl⟩
 refine Ys.2 ⟨f.iss,f.sc,λe=>by show(a.S.set _ _).length=0;rw[Ww];exact f.none e,f.issr,XaL.2 ⟨λj q o=>?_,λj q r L o=>?_⟩,by show neB (a.S.set _ _).length _=true;rw[Ww];exact f.ne,KU.2 λj q o=>?_⟩
 .obtain⟨t,y,A,B⟩:=key j q o;have e:=I j t y;refine⟨by rw[A];exact e.pos,by rw[A];exact e.le,by rw[A];exact e.ix,?_⟩;rcases B with rfl|⟨G,h2⟩
  .exact e.lv
  simp[G,h2]
 .obtain⟨t,y,A,_⟩:=key _ q o;obtain⟨Q,E,B,_⟩:=key _ r L;rw[A,B];exact K j t Q E y
 have R:=KU.1 f.cap j q o;have et:toL ⟨a.S.set i.toNat ⟨g,0,false⟩,a.x,a.i⟩ j=toL a j:=by unfold toL;simp
 rw[et];refine Int.le_trans (Int.ofNat_le.2 ?_) R;unfold YL;show((a.S.set _ _).drop _ |>.take _).countP _<=_;by_cases G:q.O.toNat<=i.toNat
 .rw[List.drop_set,Wg aa,List.take_set];exact Xeu rfl
 rw[UZ aa];exact Uu _
def Xk5{a:WD}{c:Int}(h:(Y6 a c).2=0):Yn (Y6 a c).1=true/\(Y6 a c).1=⟨a.S,a.x++[⟨(a.S.length:Int),c,false⟩],a.i⟩:=by
 unfold Y6 at h⊢;by_cases u:Yn a=false\/c<0\/64<c
 .rw[Wj u]at h;exact absurd h ae
 rw[Wg u]at h⊢;by_cases h2:a.x.length=0
 .rw[Wj h2]at h;exact absurd h ae
 rw[Wg h2]at h⊢;by_cases z:a.x.length=64
 .rw[Wj z]at h;exact absurd h ae
 rw[Wg z];refine⟨?_,rfl⟩;have y:Yn a=true:=by
  cases B:Yn a with
  |true=>rfl
  |false=>exact absurd (.inl B) u
 have f:=Ys.1 y;have E:=f.sc;obtain⟨n1,n2⟩:=VG.1 f.ne;refine Ys.2 ⟨f.iss,ah,λe=>by simp at e,f.issr,f.st,VG.2 ⟨λi p hp=>?_,λi p q o hp=>?_⟩,KU.2 λi p hp=>?_⟩
 .dsimp only at hp;by_cases g:i<a.x.length
  .rw[WU g]at hp;exact n1 i p hp
  rw[Ug aa]at hp;have j:i=a.x.length:=by apply Classical.byContradiction;intro t;rw[W3 ah]at hp;cases hp
  subst j;rw[IE]at hp;cases hp;exact⟨by dsimp only;omega,Uo _,by dsimp only;omega,by dsimp only;omega,λe=>absurd e h2⟩
 .dsimp only at o hp;by_cases g:i+1<a.x.length
  .rw[WU aa]at o;rw[WU g]at hp;exact n2 i p q o hp
  have j:i+1=a.x.length:=by apply Classical.byContradiction;intro t;rw[W3 ah]at hp;cases hp
  rw[WU aa]at o;rw[Ug aa,j,IE]at hp;cases hp;exact(n1 i q o).fn
 dsimp only at hp⊢;by_cases g:i<a.x.length
 .rw[WU g]at hp;have G:=KU.1 f.cap i p hp;have et:toL ⟨a.S,a.x++[⟨(a.S.length:Int),c,false⟩],a.i⟩ i=toL a i:=by
   by_cases A:i+1<a.x.length
   .have t:=Wb A;rw[JG t,JG (p:=a.x[i+1]) (by show(a.x++_)[i+1]? = _;rw[WU A];exact t)]
   rw[XbN (a:=a) aa,JG (p:=⟨(a.S.length:Int),c,false⟩) (by show(a.x++_)[i+1]? = _;rw[Ug aa,show i+1-a.x.length=0 by omega];rfl)]
  rw[et];exact G
 rw[Ug aa]at hp;have j:i=a.x.length:=by apply Classical.byContradiction;intro t;rw[W3 ah]at hp;cases hp
 subst j;rw[IE]at hp;cases hp;rw[XbN ab];unfold YL;simp;omega
def XnA{a:WD}(h:(Yt a).2=0):Yn (Yt a).1=true/\(Yt a).1=⟨a.S.take (Z9 a).O.toNat,a.x.take (a.x.length-1),a.i⟩:=by
 unfold Yt at h⊢;by_cases j:Yn a=false
 .rw[Wj j]at h;exact absurd h ae
 rw[Wg j]at h⊢;by_cases h2:a.x.length=0
 .rw[Wj h2]at h;exact absurd h ae
 rw[Wg h2]at h⊢;by_cases o:(Z9 a).B0=true
 .rw[Wj o]at h;exact absurd h ae
 rw[Wg o];refine⟨?_,rfl⟩;have f:=Ys.1 (by simpa using j);have G:=f.sc;obtain⟨H,I⟩:=XaL.1 f.st;obtain⟨n1,n2⟩:=VG.1 f.ne;have ht:=XjQ h2;have et:=n1 _ _ ht;have T:=et.f0;have U:=et.fn;have B:a.x.length≠1:=λe=>by have:=et.z aa;exact o this.2
 have tk:∀{i:Nat} {p:U2},(a.x.take (a.x.length-1))[i]? = some p->a.x[i]? = some p/\i<a.x.length-1:=λ{i p} hp=>by
  rw[Ua]at hp;split at hp
  .exact⟨hp,ag⟩
  cases hp
 have t:∀{i:Nat} {p:UW},(a.S.take (Z9 a).O.toNat)[i]? = some p->a.S[i]? = some p:=λ{i p} hp=>by
  rw[Ua]at hp;split at hp
  .exact hp
  cases hp
 have sl:(a.S.take (Z9 a).O.toNat).length=(Z9 a).O.toNat:=by rw[Wx];omega
 refine Ys.2 ⟨f.iss,by rw[Wx];omega,λe=>by rw[Wx]at e;omega,f.issr,XaL.2 ⟨λi p hp=>H i p (t hp),λi p q u hp=>I i p q (t u) (t hp)⟩,VG.2 ⟨λi p hp=>?_,λi p q u hp=>n2 i p q (tk u).1 (tk hp).1⟩,KU.2 λi p hp=>?_⟩
 .obtain⟨hp,J⟩:=tk hp;have e:=n1 i p hp;have:=f.mono hp ht aa;exact⟨e.f0,by dsimp only;rw[sl];omega,e.c0,e.c1,e.z⟩
 obtain⟨y,J⟩:=tk hp;have E:=KU.1 f.cap i p y;have g:=Wb (show i+1<a.x.length by omega);rw[JG g]at E;have K:=n1 _ _ g;have V:=K.f0;have L:=f.mono g ht aa;have A:toL ⟨a.S.take (Z9 a).O.toNat,a.x.take (a.x.length-1),a.i⟩ i=a.x[i+1].O:=by
  by_cases Q:i+1<a.x.length-1
  .rw[JG (p:=a.x[i+1]) (by show(a.x.take _)[i+1]? = _;rw[Ua,Wj Q];exact g)]
  rw[XbN (by rw[Wx];omega)];dsimp only;rw[sl];have:i+1=a.x.length-1:=aa;have R:a.x[i+1]? = some (Z9 a):=by rw[this];exact ht
  rw[WT (g.symm.trans R)];omega
 rw[A];dsimp only;have:YL (a.S.take (Z9 a).O.toNat) p.O.toNat (a.x[i+1].O).toNat=YL a.S p.O.toNat (a.x[i+1].O).toNat:=by unfold YL;rw[List.drop_take,List.take_take,Nat.min_eq_left aa]
 rw[this];exact E
end Go.Sx
