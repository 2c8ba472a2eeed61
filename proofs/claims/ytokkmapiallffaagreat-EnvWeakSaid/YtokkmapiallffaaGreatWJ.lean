import Derived.Test.YtokkmapiallffaaGreatWI
set_option linter.all false
namespace Go.Sx
section
variable {N:Nat}{h:Wh}{a:Int}{pins:List UE}{c:WR}
def Xbz:∀{l m:List UE} {i:Int},ZI c (l++m) i=ZI c l i+ZI c m i
 |[],m,i=>by simp[ZI]
 |p::l,m,i=>by rw[List.cons_append,ZI,ZI,Xbz];omega
def Xgb:∀{l:List UE},(∀p∈l,p.M<=1000)->∀i,ZI c l i<=1000*l.length
 |[],_,i=>by simp[ZI]
 |p::l,h,i=>by have:=Xgb (l:=l) (λq hq=>h q (WU _ hq)) i;grind[ZI,Uu]
def Xa1{l:List UE}{k:Nat}(hk:k<l.length)(i:Int):ZI c l i=ZI c (l.take k) i+(if pgi c l[k].a=i then l[k].M else 0)+ZI c (l.drop (k+1)) i:=by
 conv=>lhs;rw[←U9 k l,Wm hk]
 rw[Xbz,ZI];omega
def XhN{l:List UE}{k:Nat}(hk:k<l.length){p:UE}(hp:p.a=l[k].a)(i:Int):ZI c (l.set k p) i=ZI c l i+if pgi c l[k].a=i then p.M-l[k].M else 0:=by have h1:=Xa1 (c:=c) (l:=l.set k p) (k:=k) (by rw[WL];exact hk) i;have h2:=Xa1 (c:=c) hk i;rw[List.getElem_set_self,IS (Un _),US ab,hp]at h1;omega
def XiR{l:List UE}{k:Nat}(hk:k<l.length)(i:Int):ZI c (l.eraseIdx k) i=ZI c l i-if pgi c l[k].a=i then l[k].M else 0:=by rw[Xa1 hk i,List.eraseIdx_eq_take_drop_succ,Xbz];omega
def Xd9{α:Type}{p:α->Bool}{l:List α}(h:0<=Zn p l):∃(k:Nat) (hk:k<l.length),Zn p l=k/\p l[k]=true:=by
 unfold Zn at h⊢;cases e:l.findIdx? p with
 |none=>simp_all
 |some k=>grind[UW]
def XiS{α:Type}{p:α->Bool}{l:List α}(h:Zn p l<0):∀x∈l,p x=false:=by unfold Zn at h;grind
def fiP(pins:List UE)(a:Int):Int:=Zn (λp=>p.a==a) pins
def XrY(pins:List UE)(a:Int):List UE:=if 0<=fiP pins a then pins.set (fiP pins a).toNat ⟨(pins.getD (fiP pins a).toNat ⟨0,0⟩).a,(pins.getD (fiP pins a).toNat ⟨0,0⟩).M+1⟩else pins++[⟨a,1⟩]
def Xs7(pins:List UE)(a:Int):List UE:=if(pins.getD (fiP pins a).toNat ⟨0,0⟩).M=1 then pins.eraseIdx (fiP pins a).toNat else pins.set (fiP pins a).toNat ⟨(pins.getD (fiP pins a).toNat ⟨0,0⟩).a,(pins.getD (fiP pins a).toNat ⟨0,0⟩).M-1⟩
def Xj8(hN:NB N)(hb:HB h)(g:GX N h)(ho:Obb h a):Qdw N h a=some true:=by
 have hN':=hN;unfold NB at hN';obtain⟨S,L,hS,mS,eS,eL,rfl,mL⟩:=XaY hN hb g.ep g.ps;have hlen:(Yn h S).length<=4096:=by have h1:=hS.len;have:(Yn h S).length<=S.length:=List.length_filter_le _ _;omega
 rw[Qdw,eL,Xa];dsimp only;rw[Yb a ab ab,Xa,show(Yn h S).contains a=true by simp_all]
def Xlu(hN:NB N)(hb:HB h)(g:GX N h)(ho:Obb h a):∃b,QcN N h a=some b/\(b=true↔(pg h.p (pgi h.c a)).k=1/\(pg h.p (pgi h.c a)).P=0/\h.c.p / 4<=((h.p.countP ZW:Nat):Int)):=by
 have hN':=hN;unfold NB at hN';have hp:=Xz hN hb g.ep;have hb2:=hb.2;have hvc:=Xh.1 hp.conf;have⟨eh,j0,j1⟩:=K3 (N:=N) hp (ho.1.at_ hp);have hl:∀(n k c:Nat),k<=h.p.length->h.p.length-k<n->c<=k->Qbp N h a n (c:Int) (k:Int)=some (((c+(h.p.drop k).countP ZW:Nat):Int)):=by
  intro n;induction n with
  |zero=>intro k c _ hn;omega
  |succ n ih=>
   intro k c hk hn hc;rw[Qbp];by_cases hlt:k<h.p.length;case neg=>rw[We ab,Wa,W5 ab];simp
   have:=ih (k+1) c ab ab ab;have:=ih (k+1) (c+1) ab ab ab;rw[Xl hlt,Wc,Xf,Wb hlt,Xa,Xg ab,Xg ab,Wm hlt,U4];simp only[Xa];unfold ZW at *;cases hk1:(h.p[k].k==1)<;>cases hk2:decide (h.p[k].P>0)<;>simp_all<;>omega
 have hx:Qbp N h a N 0 0=some (((0+(h.p.drop 0).countP ZW:Nat):Int)):=hl N 0 0 ab ab ab;have ed:wI (h.c.p.tdiv 4)=h.c.p / 4:=by rw[UT ab,Xe ab ab]
 rw[QcN,(Vg hN hb).2 g,Xa,Wi,Wa,Xj8 hN hb g ho,Xa,Wi,Wa,hx,Xa,eh,Xa,Xq j0 j1,Xa,ed];by_cases h1:(pg h.p (pgi h.c a)).k=1;rotate_left
 .rw[Xm h1];exact⟨false,rfl,(λe=>by cases e),λq=>absurd q.1 h1⟩
 by_cases h2:(pg h.p (pgi h.c a)).P=0;rotate_left
 .rw[Xv h1,Xm h2];exact⟨false,rfl,(λe=>by cases e),λq=>absurd q.2.1 h2⟩
 simp_all
def MX.moved(m:MX N h pins){h2:Wh}(q:OW N h h2)(hl:h2.p.length=h.p.length){ps:List UE}(h64:ps.length<=64)(hob:∀p∈ps,Obb h p.a/\1<=p.M/\p.M<=1000)(hn:(ps.map (·.a)).Nodup)(hs:∀i,0<=i->i<(h.p.length:Int)->(pg h2.p i).P=ZI h.c ps i):MX N h2 ps:=
 ⟨q.gx,h64,λp hp=>⟨(q.ob _).2 (hob p hp).1,(hob p hp).2⟩,hn,λi i0 i1=>by simp_all[hl,q.cf]⟩
def XnQ(hN:NB N)(ht:HT h)(m:MX N h pins)(ho:Obb h a):Ok (Qfl N h pins a) λr=>r.2.2.2=18\/(r.2.2.2=0/\OW N h r.1/\MX N r.1 r.2.1/\r.2.1=XrY pins a/\r.2.2.1=a+1/\(0<=fiP pins a->(pins.getD (fiP pins a).toNat ⟨0,0⟩).M≠1000)/\(fiP pins a<0->pins.length≠64)):=by
 have hN':=hN;unfold NB at hN';have hb:=ht.hb;have g:=m.gx;have hp:=Xz hN hb g.ep;have hat:=ho.1.at_ hp;have hr:=hat.rng;have⟨eh,j0,j1⟩:=K3 (N:=N) hp hat;have h64:=m.len;have hpm:=XO hp.conf (i:=0) ab (by have:=Xh.1 hp.conf;omega);have⟨b,ec,hbc⟩:=Xlu hN hb g ho;have hsum:=m.sm _ j0 j1;have hnn:=Xga (c:=h.c) (l:=pins) (λp hp=>(m.ob p hp).2.1) (pgi h.c a);have hle:=Xgb (c:=h.c) (l:=pins) (λp hp=>(m.ob p hp).2.2) (pgi h.c a);rw[Qfl,(Xav hN hb pins).2 m,Xa,Wi,Wa,Xm ab,Wa,Xj8 hN hb g ho,Xa,Wi,Wa,Xf0 pins a ab ab,Xa,XF];rw[show Zn (λp:UE=>p.a==a) pins=fiP pins a from rfl,ec];simp only[Xa];have cnt:b=false->∃h2,QbW N h a 1=some h2/\OW N h h2/\h2.p.length=h.p.length/\∀i,0<=i->(pg h2.p i).P=if i=pgi h.c a then(pg h.p i).P+1 else(pg h.p i).P:=λhbf=>
  Xj7 hN ht g ho ab ab λk _=>by
   grind
 by_cases hf:0<=fiP pins a
 .have⟨k,hk,ek,hpk⟩:=Xd9 hf;have ek:fiP pins a=k:=ek;have hgd:pins.getD k ⟨0,0⟩=pins[k]:=by rw[Wj,Wb hk];rfl
  have hpr:pins[k].a=a:=by simpa using hpk
  have hob:=m.ob _ (Wy hk);unfold XrY;rw[Wn hf,ek,show(k:Int).toNat=k from rfl,hgd,Wg ab,Wc,Xf,Wb hk,Xa];by_cases h1000:pins[k].M=1000
  .rw[Xv h1000,Wc];exact Wd (.inl rfl)
  rw[Xm h1000,Wa,We ab,Wa];cases hbv:b with
  |true=>exact Wd (.inl rfl)
  |false=>
   have⟨h2,e2,pq,pl,ps⟩:=cnt hbv;rw[Wa,Xb ab,XF,Wc,Xa,Xa,e2];dsimp only;rw[Xa,Xe ab ab,XE ab ab];refine Wd (.inr ⟨rfl,pq,?_,rfl,rfl,λ_=>h1000,λh=>ab⟩);refine m.moved pq pl (by simp_all) (λp hp=>?_) ?_ λi i0 i1=>?_
   .rcases WZ hp with hp|hp
    .exact m.ob p hp
    grind
   .rw[List.map_set];have:(pins.map (·.a)).set k pins[k].a=pins.map (·.a):=by
     apply Ol
     .simp
     grind
    rw[this];exact m.nd
   rw[XhN (p:=⟨pins[k].a,pins[k].M+1⟩) hk rfl,hpr,ps i i0,m.sm i i0 i1];grind
 have hnone:=XiS (p:=λp:UE=>p.a==a) (l:=pins) (by have:Zn (λp:UE=>p.a==a) pins=fiP pins a:=rfl;omega);unfold XrY;rw[Wk hf,We ab,Wa,Wg ab,Wc];by_cases h64':pins.length=64
 .rw[show((pins.length:Int)==64)=true by simp_all,Wc];exact Wd (.inl rfl)
 rw[Xm (show¬(pins.length:Int)=64 by omega),Wa];cases hbv:b with
 |true=>exact Wd (.inl rfl)
 |false=>
  have⟨h2,e2,pq,pl,ps⟩:=cnt hbv;rw[Wa,Xb ab,XF,Wa,Xb ab,e2];dsimp only;rw[Xa,XE ab ab];refine Wd (.inr ⟨rfl,pq,?_,rfl,rfl,λh=>ab,λ_=>h64'⟩);refine m.moved pq pl (by grind) (λp hp=>?_) ?_ λi i0 i1=>?_
  .rcases Wt.1 hp with hp|hp
   .exact m.ob p hp
   simp_all
  .rw[UO,UR];refine⟨m.nd,ac,λx hx y hy e=>?_⟩;grind
  rw[Xbz,ZI,ZI,ps i i0,m.sm i i0 i1];grind
def XnR(hN:NB N)(ht:HT h)(m:MX N h pins)(ho:Obb h a):Ok (Qdl N h pins a) λr=>(r.2.2=12/\fiP pins a<0)\/(r.2.2=0/\0<=fiP pins a/\OW N h r.1/\MX N r.1 r.2.1/\r.2.1=Xs7 pins a):=by
 have hN':=hN;unfold NB at hN';have hb:=ht.hb;have g:=m.gx;have hp:=Xz hN hb g.ep;have hat:=ho.1.at_ hp;have hr:=hat.rng;have⟨eh,j0,j1⟩:=K3 (N:=N) hp hat;have h64:=m.len;have hsum:=m.sm _ j0 j1;have hle:=Xgb (c:=h.c) (l:=pins) (λp hp=>(m.ob p hp).2.2) (pgi h.c a);rw[Qdl,(Xav hN hb pins).2 m,Xa,Wi,Wa,Xm ab,Wa,Xf0 pins a ab ab,Xa];rw[show Zn (λp:UE=>p.a==a) pins=fiP pins a from rfl];by_cases hf:fiP pins a<0
 .rw[Wg hf,Wc];exact Wd (.inl ⟨rfl,hf⟩)
 have hf':0<=fiP pins a:=ab;have⟨k,hk,ek,hpk⟩:=Xd9 (p:=λp:UE=>p.a==a) (l:=pins) hf';have ek:fiP pins a=k:=ek;have hgd:pins.getD k ⟨0,0⟩=pins[k]:=by rw[Wj,Wb hk];rfl
 have hpr:pins[k].a=a:=by simpa using hpk
 have hob:=m.ob _ (Wy hk);have hpos:=Xd7 (c:=h.c) (l:=pins) (λp hp=>(m.ob p hp).2.1) _ (Wy hk);rw[hpr]at hpos;obtain⟨h2,e2,pq,pl,ps⟩:=Xj7 hN ht g ho (by_:=-1) ab ab λk hpp=>.inl ab;unfold Xs7;rw[ek,show(k:Int).toNat=k from rfl,hgd,We ab,Wa,Xb ab,Xf,Wb hk,Xa,Xa,Xe (n:=pins[k].M-1) ab ab,Xf,List.getElem?_set_self hk,Xa];dsimp only;by_cases h1:pins[k].M=1
 .rw[Wn h1,Xv ab,Wc,Xb ab,Xg ab,Xb ab,show((k+1:Nat):Int).toNat=k+1 from rfl,Xb ab,e2,Xa];have er:(((((pins.set k (UE.mk pins[k].a (pins[k].M-1))).take k)++(((pins.set k (UE.mk pins[k].a (pins[k].M-1))).drop (k+1)).take (pins.length-(k+1))))++((pins.set k (UE.mk pins[k].a (pins[k].M-1))).drop (k+(pins.length-(k+1))))).take (k+(pins.length-(k+1))))=pins.eraseIdx k:=by
   have hl1:((pins.set k (UE.mk pins[k].a (pins[k].M-1))).take k++((pins.set k (UE.mk pins[k].a (pins[k].M-1))).drop (k+1)).take (pins.length-(k+1))).length=k+(pins.length-(k+1)):=by rw[WM,Wl,Wl,Wo,WL];omega
   rw[List.take_append_of_le_length ab,Uf ab,Uf (l:=List.drop _ _) ac,IS (Un _),US ab,List.eraseIdx_eq_take_drop_succ]
  rw[er];refine Wd (.inr ⟨rfl,ab,pq,?_,rfl⟩);refine m.moved pq pl (by grind) (λp hp=>m.ob p (List.mem_of_mem_eraseIdx hp)) ?_ λi i0 i1=>?_
  .exact m.nd.sublist ((List.eraseIdx_sublist pins k).map _)
  rw[XiR hk,hpr,ps i i0,m.sm i i0 i1];omega
 rw[Wk h1,Xm ab,Wa,e2,Xa];refine Wd (.inr ⟨rfl,ab,pq,?_,rfl⟩);refine m.moved pq pl (by simp_all) (λp hp=>?_) ?_ λi i0 i1=>?_
 .rcases WZ hp with hp|hp
  .exact m.ob p hp
  grind
 .rw[List.map_set];have:(pins.map (·.a)).set k pins[k].a=pins.map (·.a):=by
   apply Ol
   .simp
   grind
  rw[this];exact m.nd
 rw[XhN (p:=⟨pins[k].a,pins[k].M-1⟩) hk rfl,hpr,ps i i0,m.sm i i0 i1];grind
end
def Xaz{α:Type}(f:α->Int):∀(l:List α) (s:Int),l.foldl (λ_ p=>f p) s=match l.getLast? with|some p=>f p|none=>s
 |[],s=>rfl
 |[x],s=>rfl
 |x::y::l,s=>by rw[Iz,Xaz f (y::l),List.getLast?_cons_cons];rfl
def Xb5{α:Type}{l:List α}{i:Nat}{q:α}(h:l[i]? = some q):(l.take (i+1)).getLast? = some q:=by grind
structure So(iss:List Int)(i:Nat)(p:UI):Prop where
 pos:0<p.J
 le:p.J<=(iss.length:Int)
 ix:iss.getD (p.J-1).toNat 0=i
 lv:p.V=true↔p.a≠0
def XaA{iss:List Int}{l:List UI}:stB iss l=true↔(∀i p,l[i]? = some p->So iss i p)/\∀i p q,l[i]? = some q->l[i+1]? = some p->q.J<p.J:=by
 constructor
 .intro h;refine⟨λi p hp=>?_,λi p q hq hp=>?_⟩
  .have:=Xaj h hp;exact⟨ab,this.2.1,this.2.2.1,this.2.2.2⟩
  have:=(Ze l (0:Int) 0).1 h (i+1) p hp;rw[Xaz,Xb5 hq]at this;unfold stQ at this;simp_all
 rintro⟨h1,h2⟩;refine(Ze l (0:Int) 0).2 λi p hp=>?_;have e:=h1 i p hp;have hs:(l.take i).foldl (λ_ (p:UI)=>p.J) 0<p.J:=by
  cases i with
  |zero=>exact e.pos
  |succ i=>have hk:=XD hp;have hq:=Wb (show i<l.length by omega);rw[Xaz,Xb5 hq];exact h2 i p _ hq hp
 have e1:=e.le;have e2:=e.ix;have e3:=e.lv;unfold stQ;grind
structure Sm(n i:Nat)(p:UU):Prop where
 f0:0<=p.O
 fn:p.O<=(n:Int)
 c0:0<=p.C0
 c1:p.C0<=64
 z:i=0->p.O=0/\p.B0=true
def VC{n:Nat}{l:List UU}:neB n l=true↔(∀i p,l[i]? = some p->Sm n i p)/\∀i p q,l[i]? = some q->l[i+1]? = some p->q.O<=p.O:=by
 constructor
 .intro h;refine⟨λi p hp=>?_,λi p q hq hp=>?_⟩
  .have:=KM h hp;exact⟨this.1,this.2.1,this.2.2.1,this.2.2.2.1,this.2.2.2.2.1⟩
  exact(KM h hq).2.2.2.2.2 p hp
 rintro⟨h1,h2⟩;refine(Ze l (0:Int) 0).2 λi p hp=>?_;have e:=h1 i p hp;have hs:(l.take i).foldl (λ_ (p:UU)=>p.O) 0<=p.O:=by
  cases i with
  |zero=>exact e.f0
  |succ i=>have hk:=XD hp;have hq:=Wb (show i<l.length by omega);rw[Xaz,Xb5 hq];exact h2 i p _ hq hp
 have e1:=e.fn;have e2:=e.c0;have e3:=e.c1;have e4:=e.z;unfold neQ;grind
def KN{a:Ws}:XbR a=true↔∀i p,a.x[i]? = some p->((YW a.S p.O.toNat (toL a i).toNat:Nat):Int)<=p.C0:=by unfold XbR;rw[Ze];unfold Xg6;simp
def O0.mono{a:Ws}(h:O0 a){i j:Nat}{p q:UU}(hp:a.x[i]? = some p)(hq:a.x[j]? = some q)(hij:i<=j):p.O<=q.O:=by
 have hn:=(VC.1 h.ne).2;obtain⟨k,rfl⟩:∃k,j=i+k:=⟨j-i,ab⟩
 induction k generalizing q with
 |zero=>simp_all
 |succ k ih=>grind
def Xlv{l m:List UI}{f t:Nat}(h:t<=l.length):YW (l++m) f t=YW l f t:=by
 unfold YW;by_cases hf:f<=l.length
 .grind
 rw[show t-f=0 by omega];simp
def Xgc{a:Ws}(h:a.x.length≠0):a.x[a.x.length-1]? = some (Kc a):=by have e:=Wb (show a.x.length-1<a.x.length by omega);unfold Kc;grind
def Xea{a:Ws}{i:Nat}(h:a.x.length<=i+1):toL a i=(a.S.length:Int):=by unfold toL;simp_all
def Jy{a:Ws}{i:Nat}{p:UU}(h:a.x[i+1]? = some p):toL a i=p.O:=by unfold toL;rw[h]
def XnS{a:Ws}{x:Int}(h:(Z2 a x).2.2.2=0):Yx (Z2 a x).1=true/\x≠0/\(Z2 a x).1=⟨a.S++[⟨(a.i.length:Int)+1,x,true⟩],a.x,a.i++[(a.S.length:Int)]⟩/\(Z2 a x).2.1=(a.S.length:Int)/\(Z2 a x).2.2.1=(a.i.length:Int)+1:=by
 unfold Z2 at h⊢;by_cases h1:Yx a=false
 .simp_all
 rw[Wk h1]at h⊢;by_cases h2:x=0
 .simp_all
 rw[Wk h2]at h⊢;by_cases h3:a.x.length=0
 .simp_all
 rw[Wk h3]at h⊢;by_cases h4:(Kc a).C0<=((YW a.S (Kc a).O.toNat a.S.length:Nat):Int)
 .simp_all
 rw[Wk h4]at h⊢;by_cases h5:a.i.length=4096
 .simp_all
 rw[Wk h5];refine⟨?_,h2,rfl,rfl,rfl⟩;have f:=X9.1 (by simpa using h1);have hs:=f.slots;have hi:=f.iss;have⟨s1,s2⟩:=XaA.1 f.st;have⟨n1,n2⟩:=VC.1 f.ne;refine X9.2 ⟨by grind,f.sc,λe=>absurd e h3,λy hy=>?_,XaA.2 ⟨λi p hp=>?_,λi p q hq hp=>?_⟩,VC.2 ⟨λi p hp=>?_,n2⟩,KN.2 λi p hp=>?_⟩
 .rcases Wt.1 hy with hy|hy
  .exact f.issr y hy
  grind
 .by_cases hlt:i<a.S.length
  .rw[Uk hlt]at hp;have e:=s1 i p hp;have e1:=e.le;refine⟨e.pos,by grind,?_,e.lv⟩;rw[Wj,Uk ab,←Wj];exact e.ix
  rw[Uh ab]at hp;have hi0:i=a.S.length:=by apply Classical.byContradiction;intro hn;rw[WP ai]at hp;cases hp
  subst hi0;rw[Ie]at hp;cases hp;refine⟨by dsimp only;omega,ac,?_,?_⟩
  .rw[show((a.i.length:Int)+1-1).toNat=a.i.length by omega,Wj,Uh ab,Ie];rfl
  simp_all
 .by_cases hlt:i+1<a.S.length
  .grind
  have hi0:i+1=a.S.length:=by apply Classical.byContradiction;intro hn;rw[WP ai]at hp;cases hp
  rw[Uk ab]at hq;rw[Uh ab,hi0,Ie]at hp;have:=(s1 i q hq).le;grind
 .have e:=n1 i p hp;have e1:=e.fn;exact⟨e.f0,by grind,e.c0,e.c1,e.z⟩
 dsimp only at hp⊢;have e:=n1 i p hp;have e1:=e.fn;have hc:=KN.1 f.cap i p hp;by_cases hl:a.x.length<=i+1
 .have hik:=XD hp;have:i=a.x.length-1:=ab;rw[this,Xgc h3]at hp;cases hp;rw[Xea (a:=Ws.mk (a.S++[UI.mk ((a.i.length:Int)+1) x true]) a.x (a.i++[(a.S.length:Int)])) hl];have:YW (a.S++[⟨(a.i.length:Int)+1,x,true⟩]) (Kc a).O.toNat (((a.S++[(⟨(a.i.length:Int)+1,x,true⟩:UI)]).length:Nat):Int).toNat=YW a.S (Kc a).O.toNat a.S.length+1:=by unfold YW;rw[List.drop_append_of_le_length ab,Uf ai,Uf (by rw[Wo];omega),List.countP_append];simp
  grind
 have hn:=Wb (show i+1<a.x.length by omega);rw[Jy hn]at hc;rw[Jy (a:=Ws.mk (a.S++[UI.mk ((a.i.length:Int)+1) x true]) a.x (a.i++[(a.S.length:Int)])) hn];have:=(n1 (i+1) _ hn).fn;rw[Xlv ab];omega
def Xer{l:List UI}{k:Nat}{s:UI}(h:s.V=false):(l.set k s).countP (·.V)<=l.countP (·.V):=by
 by_cases hk:k<l.length
 .grind
 rw[List.set_eq_of_length_le ab];omega
def XnT{a:Ws}{i g:Int}(h:(Y2 a i g).2=0):Yx a=true/\0<=i/\∃p,a.S[i.toNat]? = some p/\p.J=g/\p.V=true/\(Y2 a i g).1=p.a:=Xam h
def XnU{a:Ws}{i g:Int}(h:(JO a i g).2=0):Yx (JO a i g).1=true/\(JO a i g).1=⟨a.S.set i.toNat ⟨g,0,false⟩,a.x,a.i⟩/\(Y2 a i g).2=0:=by
 unfold JO at h⊢;by_cases hg:(Y2 a i g).2=0;rotate_left
 .simp_all
 rw[Wk ab];refine⟨?_,rfl,hg⟩;have⟨hv,i0,p,hp,ep,hl,_⟩:=XnT hg;have f:=X9.1 hv;have⟨s1,s2⟩:=XaA.1 f.st;have key:∀(j:Nat) (q:UI),(a.S.set i.toNat ⟨g,0,false⟩)[j]? = some q->∃q':UI,a.S[j]? = some q'/\q.J=q'.J/\(q=q'\/q.V=false/\q.a=0):=λj q hq=>by grind
 refine X9.2 ⟨f.iss,f.sc,λe=>by rw[WL];exact f.none e,f.issr,XaA.2 ⟨λj q hq=>?_,λj q r hr hq=>?_⟩,by rw[WL];exact f.ne,KN.2 λj q hq=>?_⟩
 .have⟨q',hq',e1,e2⟩:=key j q hq;have e:=s1 j q' hq';refine⟨by rw[e1];exact e.pos,by rw[e1];exact e.le,by rw[e1];exact e.ix,?_⟩;rcases e2 with rfl|⟨h1,h2⟩
  .exact e.lv
  simp_all
 .grind
 have hc:=KN.1 f.cap j q hq;have et:toL ⟨a.S.set i.toNat ⟨g,0,false⟩,a.x,a.i⟩ j=toL a j:=by unfold toL;simp
 rw[et];refine Int.le_trans (Int.ofNat_le.2 ?_) hc;unfold YW;by_cases h1:q.O.toNat<=i.toNat
 .rw[List.drop_set,Wk ab,List.take_set];exact Xer rfl
 rw[US ab];omega
def Xlw{a:Ws}{c:Int}(h:(KG a c).2=0):Yx (KG a c).1=true/\(KG a c).1=⟨a.S,a.x++[⟨(a.S.length:Int),c,false⟩],a.i⟩:=by
 unfold KG at h⊢;by_cases h1:Yx a=false\/c<0\/64<c
 .simp_all
 rw[Wk h1]at h⊢;by_cases h2:a.x.length=0
 .simp_all
 rw[Wk h2]at h⊢;by_cases h3:a.x.length=64
 .simp_all
 rw[Wk h3];refine⟨?_,rfl⟩;have hv1:Yx a=true:=by
  cases hv:Yx a with
  |true=>rfl
  |false=>simp_all
 have f:=X9.1 hv1;have hsc:=f.sc;have⟨n1,n2⟩:=VC.1 f.ne;refine X9.2 ⟨f.iss,by grind,λe=>by grind,f.issr,f.st,VC.2 ⟨λi p hp=>?_,λi p q hq hp=>?_⟩,KN.2 λi p hp=>?_⟩
 .by_cases hlt:i<a.x.length
  .grind
  rw[Uh ab]at hp;have hi0:i=a.x.length:=by apply Classical.byContradiction;intro hn;rw[WP (by grind)]at hp;cases hp
  subst hi0;rw[Ie]at hp;cases hp;exact⟨ac,Ux _,by simp_all,by simp_all,λe=>absurd e h2⟩
 .by_cases hlt:i+1<a.x.length
  .grind
  have hi0:i+1=a.x.length:=by apply Classical.byContradiction;intro hn;rw[WP (by grind)]at hp;cases hp
  rw[Uk ab]at hq;rw[Uh ab,hi0,Ie]at hp;cases hp;exact(n1 i q hq).fn
 by_cases hlt:i<a.x.length
 .rw[Uk hlt]at hp;have hc:=KN.1 f.cap i p hp;have et:toL ⟨a.S,a.x++[⟨(a.S.length:Int),c,false⟩],a.i⟩ i=toL a i:=by
   by_cases hl:i+1<a.x.length
   .have hn:=Wb hl;rw[Jy hn,Jy (p:=a.x[i+1]) (by rw[Uk hl];exact hn)]
   rw[Xea (a:=a) ab,Jy (p:=⟨(a.S.length:Int),c,false⟩) (by rw[Uh ab,show i+1-a.x.length=0 by omega];rfl)]
  simp_all
 rw[Uh ab]at hp;have hi0:i=a.x.length:=by apply Classical.byContradiction;intro hn;rw[WP ai]at hp;cases hp
 subst hi0;rw[Ie]at hp;cases hp;unfold YW;simp_all
def XnV{a:Ws}(h:(Zv a).2=0):Yx (Zv a).1=true/\(Zv a).1=⟨a.S.take (Kc a).O.toNat,a.x.take (a.x.length-1),a.i⟩:=by
 unfold Zv at h⊢;by_cases h1:Yx a=false
 .simp_all
 rw[Wk h1]at h⊢;by_cases h2:a.x.length=0
 .simp_all
 rw[Wk h2]at h⊢;by_cases h3:(Kc a).B0=true
 .simp_all
 rw[Wk h3];refine⟨?_,rfl⟩;have f:=X9.1 (by simpa using h1);have hsc:=f.sc;have⟨s1,s2⟩:=XaA.1 f.st;have⟨n1,n2⟩:=VC.1 f.ne;have ht:=Xgc h2;have et:=n1 _ _ ht;have t1:=et.fn;have hlen:a.x.length≠1:=λe=>by have:=et.z ab;simp_all
 have tk:∀{i:Nat} {p:UU},(a.x.take (a.x.length-1))[i]? = some p->a.x[i]? = some p/\i<a.x.length-1:=λ{i p} hp=>by grind
 have ts:∀{i:Nat} {p:UI},(a.S.take (Kc a).O.toNat)[i]? = some p->a.S[i]? = some p:=λ{i p} hp=>by grind
 have sl:(a.S.take (Kc a).O.toNat).length=(Kc a).O.toNat:=by rw[Wl];omega
 refine X9.2 ⟨f.iss,by grind,λe=>by grind,f.issr,XaA.2 ⟨λi p hp=>s1 i p (ts hp),λi p q hq hp=>s2 i p q (ts hq) (ts hp)⟩,VC.2 ⟨λi p hp=>?_,λi p q hq hp=>n2 i p q (tk hq).1 (tk hp).1⟩,KN.2 λi p hp=>?_⟩
 .have⟨hp,hi⟩:=tk hp;have e:=n1 i p hp;have:=f.mono hp ht ab;exact⟨e.f0,by grind,e.c0,e.c1,e.z⟩
 have⟨hp',hi⟩:=tk hp;have hc:=KN.1 f.cap i p hp';have hn:=Wb (show i+1<a.x.length by omega);rw[Jy hn]at hc;have en:=n1 _ _ hn;have n0:=en.f0;have hle:=f.mono hn ht ab;have et':toL ⟨a.S.take (Kc a).O.toNat,a.x.take (a.x.length-1),a.i⟩ i=a.x[i+1].O:=by
  by_cases hl:i+1<a.x.length-1
  .rw[Jy (p:=a.x[i+1]) (by rw[Ut,Wn hl];exact hn)]
  rw[Xea (by rw[Wl];omega)];rw[sl];have:i+1=a.x.length-1:=ab;have e2:a.x[i+1]? = some (Kc a):=by rw[this];exact ht
  rw[WE (hn.symm.trans e2)];omega
 rw[et'];dsimp only;have:YW (a.S.take (Kc a).O.toNat) p.O.toNat (a.x[i+1].O).toNat=YW a.S p.O.toNat (a.x[i+1].O).toNat:=by unfold YW;rw[List.drop_take,List.take_take,I4 ab]
 omega
structure Sl(r:Int->Int->Prop)(a b:Ws):Prop where
 sc:b.x=a.x
 is_:b.i=a.i
 sl:R2 (sR r) a.S b.S
section
variable {r:Int->Int->Prop}{a b:Ws}{x y i g:Int}{s t:WG}
def R2.none{α β:Type}{r:α->β->Prop}{l:List α}{m:List β}(h:R2 r l m){k:Nat}(e:l[k]? = none):m[k]? = none:=by rw[List.getElem?_eq_none_iff]at e⊢;rw[h.1];omega
def XhO(h:(ZE t x).2.2.2=0):Yw (ZE t x).1.e=true/\∀r∈Xu (ZE t x).1.e,r∈Xu t.e\/r=x:=by
 unfold ZE at h⊢;by_cases hv:Yw t.e=false
 .simp_all
 rw[Wk hv]at h⊢;have hv:Yw t.e=true:=by simpa using hv
 have hv':=hv;unfold Yw at hv';rw[WI,W0,decide_eq_true_iff]at hv';have lt:∀{e:W8} {l:List W8},e∈l->e.V=true->e.a∈Xu l:=λhe hl=>WO.2 ⟨_,WY.2 ⟨he,hl⟩,rfl⟩;have tl:∀{q:Int} {l:List W8},q∈Xu l->∃e∈l,e.V=true/\e.a=q:=λhq=>by obtain⟨e,he,rfl⟩:=WO.1 hq;grind
 cases e:Xg9 t.e with
 |none=>
  rw[e]at h;dsimp only at h⊢;by_cases h64:t.e.length=64
  .rw[Wn h64]at h;exact absurd h ag
  rw[Wk h64];refine⟨?_,λq hq=>?_⟩
  .unfold Yw;rw[WI,W0,decide_eq_true_iff];refine⟨λz hz=>?_,ai⟩;rcases Wt.1 hz with hz|hz
   .exact hv'.1 z hz
   rw[Ud.1 hz];rfl
  grind
 |some k=>
  have hk:=e;unfold Xg9 at hk;rw[UW]at hk;obtain⟨hlt,hp,_⟩:=hk;rw[WI,decide_eq_true_iff]at hp;have hgd:t.e.getD k ⟨0,0,false⟩=t.e[k]:=by rw[Wj,Wb hlt];rfl
  dsimp only;rw[hgd];have hg:=hv'.1 _ (Wy hlt);unfold Ju at hg;simp at hg;refine⟨?_,λq hq=>?_⟩
  .unfold Yw;rw[WI,W0,decide_eq_true_iff];refine⟨λz hz=>?_,by rw[WL];exact hv'.2⟩;rcases WZ hz with hz|hz
   .exact hv'.1 z hz
   rw[hz];unfold Ju;simp;omega
  grind
def XhP(h:(Ke t i g).2=0):Yw (Ke t i g).1.e=true/\∀r∈Xu (Ke t i g).1.e,r∈Xu t.e:=by
 unfold Ke at h⊢;by_cases hg:(Y1 t.e i g).2=0;rotate_left
 .simp_all
 rw[Wk ab];have ok:=Vc hg;have⟨hv,_,p,hp,ep,_,_⟩:=ok;have hv':=hv;unfold Yw at hv';rw[WI,W0,decide_eq_true_iff]at hv';have hgn:=hv'.1 p (W7 hp);unfold Ju at hgn;refine⟨?_,λq hq=>?_⟩
 .unfold Yw;rw[WI,W0,decide_eq_true_iff];refine⟨λz hz=>?_,by simp_all⟩;rcases WZ hz with hz|hz
  .simp_all
  unfold Ju;simp_all
 obtain⟨z,hz,rfl⟩:=WO.1 hq;have hz2:=WY.1 hz;rcases WZ hz2.1 with h1|h1
 .exact WO.2 ⟨z,WY.2 ⟨h1,hz2.2⟩,rfl⟩
 simp_all
def Xlx(l m:List UI):XL (l++m)=XL l++XL m:=by unfold XL;simp
def Xly{l:List UI}{k:Nat}{s:UI}(hs:s.V=false):∀q∈XL (l.set k s),q∈XL l:=λq hq=>by
 obtain⟨z,hz,rfl⟩:=WO.1 hq;have hz2:=WY.1 hz;rcases WZ hz2.1 with h1|h1
 .exact WO.2 ⟨z,WY.2 ⟨h1,hz2.2⟩,rfl⟩
 simp_all
def XiT{l:List UI}{k:Nat}:∀q∈XL (l.take k),q∈XL l:=λq hq=>by obtain⟨z,hz,rfl⟩:=WO.1 hq;have hz2:=WY.1 hz;exact WO.2 ⟨z,WY.2 ⟨WS hz2.1,hz2.2⟩,rfl⟩
end
def JA(x:Um)(v:Int):Int×Int:=
 if v=0 then(0,0)else if(YF v).2≠0 then(0,(YF v).2)else
 if(YF v).1.Tag=1 then Y2 x.l (YF v).1.Index (YF v).1.J else
 if(YF v).1.Tag=2 then Y1 x.g.e (YF v).1.Index (YF v).1.J else Y1 x.v.e (YF v).1.Index (YF v).1.J
def thE(x:Um)(v:Int):Int×Int:=if(JA x v).2=0/\(JA x v).1=0 then(0,5)else JA x v
structure Ow(N k:Nat)(x:Um):Prop where
 et:ET x
 vx:VX N x
 iss:x.l.i.length<=k
 sc:x.l.x.length≠0
 cp:Cap x.h
def SV(N k:Nat)(y:Um×Int×Int):Prop:=y.2.2=0->Ow N k y.1
structure CV(N k:Nat)(x:Um)(a b c:Int):Prop where
 s:Ow N k x
 hN:NB N
 ta:tU a
 tb:tU b
 tc:tU c
def ZX{e f:Int}(h:e=f):(e != f)=false:=by grind
def XrZ{l:Ws}(h:Yx l=true):LBp l:=by have f:=X9.1 h;have:=f.slots;have:=f.iss;have:=f.sc;exact⟨ab,ab,ab⟩
def Xq3{t:WG}(h:Yw t.e=true):TB t:=by have:=Jv h;unfold TB;omega
section
variable {N k:Nat}{x:Um}
def Xj9(hN:NB N)(ht:ET x)(vx:VX N x){v:Int}(tv:tU v):QaY N x v=some (JA x v):=by
 have hN':1000000<N:=by unfold NB at hN;omega
 have hx:=ht.eb;rw[QaY,(Xaw hN ht).2 vx,Xa,Wi,Wa,XfP tv,JA];by_cases hz:v=0
 .rw[Xv hz,Wn hz];rfl
 rw[Xm hz,Wa,Xa,Wk hz];by_cases hd:(YF v).2=0;rotate_left
 .rw[Xn hd,Wn hd];rfl
 rw[show((YF v).2 != 0)=false by simp[hd],Wa,Wk (by simp[hd]),XcG hx.loc hN',Vv hx.glo hN',Vv hx.wea hN',Xa,Xa,Xa];grind
def Xr0(hN:NB N)(ht:ET x)(vx:VX N x){v:Int}(tv:tU v):QbV N x v=some (thE x v):=by rw[QbV,Xj9 hN ht vx tv,Xa,thE];grind
def XcQ(vx:VX N x){v:Int}(h:(JA x v).2=0):(JA x v).1=0\/Obb x.h (JA x v).1:=by
 unfold JA at h⊢;by_cases h0:v=0
 .simp_all
 rw[Wk h0]at h⊢;by_cases h1:(YF v).2≠0
 .simp_all
 rw[Wk h1]at h⊢;by_cases h2:(YF v).1.Tag=1
 .rw[Wn h2]at h⊢;have⟨_,_,p,hp,_,hl,e⟩:=Xam h;rw[e];exact vx.rl _ (WO.2 ⟨p,WY.2 ⟨W7 hp,hl⟩,rfl⟩)
 rw[Wk h2]at h⊢;by_cases h3:(YF v).1.Tag=2
 .rw[Wn h3]at h⊢;have⟨_,_,p,hp,_,hl,e⟩:=Vc h;rw[e];exact vx.rg _ (WO.2 ⟨p,WY.2 ⟨W7 hp,hl⟩,rfl⟩)
 rw[Wk h3]at h⊢;have⟨_,_,p,hp,_,hl,e⟩:=Vc h;rw[e];exact vx.rw_ _ (WO.2 ⟨p,WY.2 ⟨W7 hp,hl⟩,rfl⟩)
def XnW{v:Int}(h0:v≠0)(h:(JA x v).2=0):(YF v).2=0/\((YF v).1.Tag=1->(Y2 x.l (YF v).1.Index (YF v).1.J).2=0)/\((YF v).1.Tag=2->(Y1 x.g.e (YF v).1.Index (YF v).1.J).2=0)/\((YF v).1.Tag=3->(Y1 x.v.e (YF v).1.Index (YF v).1.J).2=0):=by unfold JA at h;grind
def Ow.up{k':Nat}(s:Ow N k x)(h:k<=k'):Ow N k' x:=⟨s.et,s.vx,UK s.iss h,s.sc,s.cp⟩
def Ow.tabs{k':Nat}(s:Ow N k x){L:Ws}{G W:WG}(v1:Yx L=true)(v2:Yw G.e=true)(v3:Yw W.e=true)(m0:∀r∈Xu G.e,r≠0)(m1:∀r∈XL L.S,r=0\/Obb x.h r)(m2:∀r∈Xu G.e,r=0\/Obb x.h r)(m3:∀r∈Xu W.e,r=0\/Obb x.h r)(i:L.i.length<=k')(sc:L.x.length≠0):Ow N k' ⟨x.h,L,G,W,x.P,x.R⟩:=
 ⟨⟨⟨s.et.eb.heap,XrZ v1,Xq3 v2,Xq3 v3,s.et.eb.pins,s.et.eb.roots⟩,s.et.tw⟩,⟨s.vx.mx,v1,v2,v3,m0,s.vx.rr,m1,m2,m3⟩,i,sc,s.cp⟩
def Ow.locs{k':Nat}(s:Ow N k x){L:Ws}(v1:Yx L=true)(m1:∀r∈XL L.S,r=0\/Obb x.h r)(i:L.i.length<=k')(sc:L.x.length≠0):Ow N k' ⟨x.h,L,x.g,x.v,x.P,x.R⟩:=
 s.tabs v1 s.vx.glo s.vx.wea s.vx.gz m1 s.vx.rg s.vx.rw_ i sc
def Ow.heap(s:Ow N k x){h2:Wh}{pins:List UE}(ht:HT h2)(mx:MX N h2 pins)(ob:∀b,Obb x.h b->Obb h2 b)(cp:Cap h2):Ow N k ⟨h2,x.l,x.g,x.v,pins,x.R⟩:=by have ob2:∀r,r=0\/Obb x.h r->r=0\/Obb h2 r:=λr h=>h.imp (λz=>z) (ob r);have hl:=mx.len;exact⟨⟨⟨ht.hb,s.et.eb.loc,s.et.eb.glo,s.et.eb.wea,by grind,s.et.eb.roots⟩,ht.tw⟩,⟨mx,s.vx.loc,s.vx.glo,s.vx.wea,s.vx.gz,λr hr=>ob2 r (s.vx.rr r hr),λr hr=>ob2 r (s.vx.rl r hr),λr hr=>ob2 r (s.vx.rg r hr),λr hr=>ob2 r (s.vx.rw_ r hr)⟩,s.iss,s.sc,cp⟩
def Ow.put(s:Ow N k x){h2:Wh}{o i v:Int}(q:Sb N x.h h2 o i v):Ow N k ⟨h2,x.l,x.g,x.v,x.P,x.R⟩:=
 s.heap q.ht ⟨q.gx,s.vx.mx.len,λp hp=>⟨(q.ob _).2 (s.vx.mx.ob p hp).1,(s.vx.mx.ob p hp).2⟩,s.vx.mx.nd,λj j0 j1=>by rw[q.pl]at j1⊢;rw[q.cf];exact s.vx.mx.sm j j0 j1⟩ (λb=>(q.ob b).2) (s.cp.cong q.cf (λb=>(q.ob b).1) (λb hb=>by unfold szA;rw[q.hd b hb]) (by rw[q.pl];exact Un _))
def Ow.add(hN:NB N)(s:Ow N k x){h2:Wh}{o:Int}{d:Wx}(ht:HT h2)(q:O8 N x.h h2 o d):Ow N k ⟨h2,x.l,x.g,x.v,x.P,x.R⟩:=
 s.heap ht ⟨q.gx,s.vx.mx.len,λp hp=>⟨(q.ob _).2 (.inl (s.vx.mx.ob p hp).1),(s.vx.mx.ob p hp).2⟩,s.vx.mx.nd,λj j0 j1=>by rw[q.pl]at j1;rw[q.pn j j0 j1,q.cf];exact s.vx.mx.sm j j0 j1⟩ (λb h=>(q.ob b).2 (.inl h)) (q.gx.cap (Xz hN ht.hb q.gx.ep) (by rw[q.cf];exact q.us))
def Ow.pins(s:Ow N k x){h2:Wh}{pins:List UE}(q:OW N x.h h2)(mx:MX N h2 pins):Ow N k ⟨h2,x.l,x.g,x.v,pins,x.R⟩:=s.heap q.ht mx (λb=>(q.ob b).2) (s.cp.cong q.cf (λb=>(q.ob b).1) (λb _=>by rw[q.wd]) q.us)
def XnX(hN:NB N)(s:Ow N k x):Ok (Qbx N x) λr=>r.2.2=0/\Ow N k r.1/\r.1.h.c=x.h.c/\r.1.l.x=x.l.x/\r.1.l.i=x.l.i/\r.1.P=x.P/\R2 (λa b:UI=>b.J=a.J/\b.V=a.V) x.l.S r.1.l.S:=by refine Ok.mono (XnO hN s.et s.vx s.cp (P:=λ_=>True) (λ_ _ _ _ _=>.inr trivial) λ_ _=>.inr trivial) λr hr=>?_;obtain⟨h,M,c⟩:=hr;exact⟨h,⟨c.et,c.vx,by rw[c.lc.2];exact s.iss,by rw[c.lc.1];exact s.sc,c.ch.cap hN c.et.eb.heap s.cp⟩,c.ch.cf,c.lc.1,c.lc.2,c.pi,c.ls.mono λ_ _ e=>⟨e.1,e.2.1⟩⟩
def XcR(hN:NB N)(s:Ow N k x){r:Int}(hr:r=0\/Obb x.h r):Ok (QcB N x r) (SV N (k+1)):=by
 have hN':1000000<N:=by unfold NB at hN;omega
 rw[QcB,Xal s.et.eb.loc hN',Xa];by_cases h0:r=0
 .rw[Xv h0];exact Wd λ_=>s.up ab
 rw[Xm h0,Wa];by_cases he:(Z2 x.l r).2.2.2=0;rotate_left
 .rw[Xn he,Wc,Qab,Xa];exact Wd λe=>absurd e he
 have⟨e,ee,_⟩:=YT (N:=N) (Iu.mk 1 (Z2 x.l r).2.1 (Z2 x.l r).2.2.1);rw[ZX he,Wa,ee,Xa];have nv:=XnS he;refine Wd λ_=>s.locs nv.1 (λt ht=>?_) ?_ ?_
 .rw[nv.2.2.1]at ht;rw[Xlx]at ht;rcases Wt.1 ht with ht|ht
  .exact s.vx.rl t ht
  have:t=r:=by unfold XL at ht;simpa using ht
  simp_all
 .rw[nv.2.2.1];have:=s.iss;simp_all
 rw[nv.2.2.1];exact s.sc
end
section
variable {N k:Nat}{x:Um}{a b c:Int}
def CV.n6(h:CV N k x a b c):1000000<N:=by have:=h.hN;unfold NB at this;omega
def CV.ev(h:CV N k x a b c):QbF N x=some true:=(Xaw h.hN h.s.et).2 h.s.vx
def CV.hp(h:CV N k x a b c):Uy x.h:=Xz h.hN h.s.et.eb.heap h.s.vx.mx.gx.ep
def CV.res(h:CV N k x a b c){v:Int}(tv:tU v):QaY N x v=some (JA x v):=Xj9 h.hN h.s.et h.s.vx tv
def CV.th(h:CV N k x a b c):QbV N x a=some (thE x a):=Xr0 h.hN h.s.et h.s.vx h.ta
def CV.obj(h:CV N k x a b c)(e:(thE x a).2=0):Obb x.h (thE x a).1/\Qb7 N x.h (thE x a).1=some (hdA x.h.w (thE x a).1,0):=by
 have ho:Obb x.h (thE x a).1:=by
  unfold thE at e⊢;split at e
  .omega
  rename_i hn;rw[Wk hn];rcases XcQ h.s.vx e with q|q
  .exact absurd ⟨e,q⟩ hn
  omega
 have hat:=ho.1.at_ h.hp;have hb:=h.s.et.eb.heap;have ep:=h.s.vx.mx.gx.ep;exact⟨ho,XdP h.hN hb ep hat (Xbx h.hN hb ep hat) ho.2⟩
def CV.same(h:CV N k x a b c){v e:Int}:SV N (k+1) (x,v,e):=λ_=>h.s.up ab
def Yh{y:Um}{v e:Int}(he:e≠0):SV N k (y,v,e):=λz=>absurd z he
def CV.fld(h:CV N k x a b c)(rf:Bool):(∃e,e≠0/\Qc0 N x a b rf=some (0,0,e)) \/
 ∃o,o=(thE x a).1/\(thE x a).2=0/\Qc0 N x a b rf=some (o,b,0)/\Obb x.h o/\0<=b/\b<(hdA x.h.w o).n/\(b∈XW (hdA x.h.w o)↔rf=true)/\Qc1 N x.h o b=some (wd x.h.w (o+1+b),0):=by
 rw[Qc0,h.th,Xa];by_cases e1:(thE x a).2=0;rotate_left
 .grind
 have⟨ho,o4⟩:=h.obj e1;have hl:=Xf8 x.h.w (thE x a).1;have b0:=h.tb.1;rw[ZX e1,Wa,o4,Xa,XE (n:=(hdA x.h.w (thE x a).1).n) ab ab];by_cases e2:b>=(hdA x.h.w (thE x a).1).n
 .simp_all
 have hwb:wI b=b:=Xe ab ab;rw[We e2,Wa,hwb,JC,Xa];by_cases e3:Jt (hdA x.h.w (thE x a).1) b=rf;rotate_left
 .grind
 rw[e3];have hp:=h.hp;have hat:=ho.1.at_ hp;have hb:=h.s.et.eb.heap;have hf:=KE hp hat;have hr:=hat.rng;have hb1:=hb.1;refine .inr ⟨(thE x a).1,rfl,e1,ac,ho,b0,ab,?_,?_⟩
 .rw[Xat (Jl x.h _),e3];simp_all
 rw[Qc1,o4,Xa];rw[show((0:Int) != 0)=false from rfl,Wa,We ab,Wa,We ab,Wa,XE (n:=(thE x a).1+1) ab ab,XE (n:=b) ab ab,XE (n:=(thE x a).1+1+b) ab ab,Yp (by unfold BIG;omega),Xa,Wn (by unfold inW;omega)];rfl
end
section
variable {N k:Nat}{x:Um}{a b c:Int}
def v45(h:CV N k x a b c){op:Int}(ho:op=4\/op=5):Ok (Qag N x op a b c) (SV N (k+1)):=by
 have main:Ok (QcD N x op a b) (SV N (k+1)):=by
  have e1:QcD N x op a b=bnd (QbV N x a) λy2=>
   bif (y2.2 != 0)then(bnd (Qab N y2.2) λy3=>some (y3.1,y3.2.1,y3.2.2))
   else bnd (Qb7 N x.h y2.1) λy4=>
   bif (op==4)then some (x,(wU y4.1.n),0)else some (x,(wU y4.1.k),0):=by
   rw[QcD]
   rcases ho with rfl|rfl<;>simp only[XF,Int.reduceBEq,Wc,Wa]
  rw[e1,h.th,Xa];by_cases he:(thE x a).2=0;rotate_left
  .rw[Xn he,Wc,Qab,Xa];exact Wd (Yh he)
  rw[ZX he,Wa,(h.obj he).2,Xa];exact Wp (λ_=>Wd h.same) λ_=>Wd h.same
 have⟨y,ey,hy⟩:=main;refine⟨y,?_,hy⟩;rw[Qag,h.ev,Xa];rcases ho with rfl|rfl<;>simp only[XF,Int.reduceBEq,Wc,Wa,Wi,ey,Xa]
def v10(h:CV N k x a b c):Ok (Qag N x 10 a b c) (SV N (k+1)):=by
 rw[Qag,h.ev,Xa];simp only[XF,Int.reduceBEq,Wc,Wa,Wi,QcD,h.res h.ta,h.res h.tb,Xa,Qab];by_cases e1:(JA x a).2=0;rotate_left
 .rw[Xn e1,Wc,Xa];exact Wd (Yh e1)
 rw[ZX e1,Wa];by_cases e2:(JA x b).2=0;rotate_left
 .rw[Xn e2,Wc,Xa];exact Wd (Yh e2)
 rw[ZX e2,Wa];cases ((JA x a).1==(JA x b).1)<;>simp only[Wc,Wa,Xa]<;>exact Wd h.same
def v11(h:CV N k x a b c):Ok (Qag N x 11 a b c) (SV N (k+1)):=by
 rw[Qag,h.ev,Xa];simp only[XF,Int.reduceBEq,Wc,Wa,Wi,QcD,h.res h.ta,Xa,Qab];by_cases e1:(JA x a).2=0;rotate_left
 .rw[Xn e1,Wc,Xa];exact Wd (Yh e1)
 have⟨y,l2,l3⟩:=XcR h.hN h.s (XcQ h.s.vx e1);rw[ZX e1,Wa,l2,Xa,Xa];exact Wd l3
def v13(h:CV N k x a b c):Ok (Qag N x 13 a b c) (SV N (k+1)):=by
 rw[Qag,h.ev,Xa];simp only[XF,Int.reduceBEq,Wc,Wa,Wi,Qdk,h.th,Xa];by_cases e1:(thE x a).2=0;rotate_left
 .rw[Xn e1,Wc,Qab,Xa,Xa];exact Wd (Yh e1)
 have o:=(h.obj e1).1;rw[ZX e1,Wa,show(WG.mk x.g.e)=x.g from rfl,JE h.s.et.eb.glo h.n6,Xa];by_cases e2:(ZE x.g (thE x a).1).2.2.2=0;rotate_left
 .rw[Xn e2,Wc,Qab,Xa,Xa];exact Wd (Yh e2)
 have⟨e,ee,_⟩:=YT (N:=N) (Iu.mk 2 (ZE x.g (thE x a).1).2.1 (ZE x.g (thE x a).1).2.2.1);rw[ZX e2,Wa,ee,Xa,Xa];have nv:=XhO e2;have hr:=(o.1.at_ h.hp).rng;refine Wd λ_=>h.s.tabs h.s.vx.loc nv.1 h.s.vx.wea (λr hr'=>?_) h.s.vx.rl (λr hr'=>?_) h.s.vx.rw_ (by have:=h.s.iss;omega) h.s.sc
 .rcases nv.2 r hr' with h'|h'
  .exact h.s.vx.gz r h'
  omega
 rcases nv.2 r hr' with h'|h'
 .exact h.s.vx.rg r h'
 simp_all
def v15(h:CV N k x a b c):Ok (Qag N x 15 a b c) (SV N (k+1)):=by
 rw[Qag,h.ev,Xa];simp only[XF,Int.reduceBEq,Wc,Wa,Wi,Qdk,h.th,Xa];by_cases e1:(thE x a).2=0;rotate_left
 .rw[Xn e1,Wc,Qab,Xa,Xa];exact Wd (Yh e1)
 have o:=(h.obj e1).1;rw[ZX e1,Wa,show(WG.mk x.v.e)=x.v from rfl,JE h.s.et.eb.wea h.n6,Xa];by_cases e2:(ZE x.v (thE x a).1).2.2.2=0;rotate_left
 .rw[Xn e2,Wc,Qab,Xa,Xa];exact Wd (Yh e2)
 have⟨e,ee,_⟩:=YT (N:=N) (Iu.mk 3 (ZE x.v (thE x a).1).2.1 (ZE x.v (thE x a).1).2.2.1);rw[ZX e2,Wa,ee,Xa,Xa];have nv:=XhO e2;refine Wd λ_=>h.s.tabs h.s.vx.loc h.s.vx.glo nv.1 h.s.vx.gz h.s.vx.rl h.s.vx.rg (λr hr'=>?_) (by have:=h.s.iss;omega) h.s.sc;rcases nv.2 r hr' with h'|h'
 .exact h.s.vx.rw_ r h'
 simp_all
def Xuk(h:CV N k x a b c){op:Int}(ho:op=12\/op=14\/op=16):Ok (QdK N x op a) (SV N (k+1)):=by
 rw[QdK];simp only[XF,h.res h.ta,XfP h.ta,Xa];by_cases e0:a=0
 .rw[Xv e0,Wc,Qab,Xa];exact Wd (Yh ag)
 rw[Xm e0,Wa];by_cases e1:(JA x a).2=0;rotate_left
 .rw[Xn e1,Wc,Qab,Xa];exact Wd (Yh e1)
 have tg:=XnW e0 e1;have hk:k<=k+1:=ab;have hi:=UK h.s.iss hk;rw[ZX e1,Wa];rcases ho with rfl|rfl|rfl
 .by_cases e2:(YF a).1.Tag=1;rotate_left
  .rw[Xn e2,Wc,Qab,Xa];exact Wd (Yh ag)
  have hd:(JO x.l (YF a).1.Index (YF a).1.J).2=0:=by unfold JO;rw[Wk ab]
  have dv:=XnU hd;rw[ZX e2,Wa,XfL h.s.et.eb.loc h.n6,Xa];refine Wd λ_=>h.s.locs dv.1 (λr hr=>?_) (by simp_all) (by rw[dv.2.1];exact h.s.sc);rw[dv.2.1]at hr;exact h.s.vx.rl r (Xly rfl r hr)
 .by_cases e2:(YF a).1.Tag=2;rotate_left
  .rw[Xn e2,Wc,Qab,Xa];exact Wd (Yh ag)
  have hd:(Ke x.g (YF a).1.Index (YF a).1.J).2=0:=by unfold Ke;rw[Wk ab]
  have dv:=XhP hd;rw[ZX e2,Wa,Xan h.s.et.eb.glo h.n6,Xa];exact Wd λ_=>h.s.tabs h.s.vx.loc dv.1 h.s.vx.wea (λr hr=>h.s.vx.gz r (dv.2 r hr)) h.s.vx.rl (λr hr=>h.s.vx.rg r (dv.2 r hr)) h.s.vx.rw_ hi h.s.sc
 by_cases e2:(YF a).1.Tag=3;rotate_left
 .rw[Xn e2,Wc,Qab,Xa];exact Wd (Yh ag)
 have hd:(Ke x.v (YF a).1.Index (YF a).1.J).2=0:=by unfold Ke;rw[Wk ab]
 have dv:=XhP hd;rw[ZX e2,Wa,Xan h.s.et.eb.wea h.n6,Xa];exact Wd λ_=>h.s.tabs h.s.vx.loc h.s.vx.glo dv.1 h.s.vx.gz h.s.vx.rl h.s.vx.rg (λr hr=>h.s.vx.rw_ r (dv.2 r hr)) hi h.s.sc
def v17(h:CV N k x a b c):Ok (Qag N x 17 a b c) (SV N (k+1)):=by
 rw[Qag,h.ev,Xa];simp only[XF,Int.reduceBEq,Wc,Wa,Wi,QdL,Xa];by_cases e0:a>64
 .rw[Wg e0,Wc,Qab,Xa,Xa];exact Wd (Yh ag)
 have ha:=h.ta.1;have hwa:wI a=a:=Xe ab ab;rw[We e0,Wa,hwa,Xbk h.s.et.eb.loc h.n6,Xa];by_cases e1:(KG x.l a).2=0;rotate_left
 .rw[Xn e1,Wc,Qab,Xa,Xa];exact Wd (Yh e1)
 have pv:=Xlw e1;rw[ZX e1,Wa,Xa];refine Wd λ_=>h.s.locs pv.1 (λr hr=>?_) (by have:=h.s.iss;grind) (by simp_all);rw[pv.2]at hr;exact h.s.vx.rl r hr
def Xs8(s:Ow N k x)(e:(Zv x.l).2=0):Ow N k ⟨x.h,(Zv x.l).1,x.g,x.v,x.P,x.R⟩:=by
 have pv:=XnV e;refine s.locs pv.1 (λr hr=>?_) (by rw[pv.2];exact s.iss) ?_
 .rw[pv.2]at hr;exact s.vx.rl r (XiT r hr)
 rw[pv.2];rw[Wl];unfold Zv at e;split at e
 .omega
 rw[Wk s.sc]at e;split at e
 .omega
 rename_i hb;have hsc:=s.sc;intro h0;have h1:x.l.x.length=1:=ab;have g:=Xgc hsc;rw[h1]at g;exact hb ((KM (X9.1 s.vx.loc).ne g).2.2.2.2.1 rfl).2
def v18(h:CV N k x a b c):Ok (Qag N x 18 a b c) (SV N (k+1)):=by
 rw[Qag,h.ev,Xa];simp only[XF,Int.reduceBEq,Wc,Wa,Wi,QdL,h.res h.ta,Xa];by_cases e1:(JA x a).2=0;rotate_left
 .rw[Xn e1,Wc,Qab,Xa,Xa];exact Wd (Yh e1)
 rw[ZX e1,Wa,XcH h.s.et.eb.loc h.n6,Xa];by_cases e2:(Zv x.l).2=0;rotate_left
 .rw[Xn e2,Wc,Qab,Xa,Xa];exact Wd (Yh e2)
 have⟨y,l2,l3⟩:=XcR h.hN (Xs8 h.s e2) (XcQ h.s.vx e1);rw[ZX e2,Wa,l2,Xa,Xa];exact Wd l3
def v6(h:CV N k x a b c):Ok (Qag N x 6 a b c) (SV N (k+1)):=by
 rw[Qag,h.ev,Xa];simp only[XF,Int.reduceBEq,Wc,Wa,Wi,Qc2];rcases h.fld false with⟨e,e0,e1⟩|⟨o,_,_,e1,ho,b0,b1,hp,e4⟩
 .rw[e1,Xa,Xn e0,Wc,Qab,Xa,Xa];exact Wd (Yh e0)
 rw[e1,Xa];rw[show((0:Int) != 0)=false from rfl,Wa,e4,Xa,Xa];exact Wd h.same
def v7(h:CV N k x a b c):Ok (Qag N x 7 a b c) (SV N (k+1)):=by
 rw[Qag,h.ev,Xa];simp only[XF,Int.reduceBEq,Wc,Wa,Wi,Qc2];rcases h.fld false with⟨e,e0,e1⟩|⟨o,_,_,e1,ho,b0,b1,hp,e4⟩
 .rw[e1,Xa,Xn e0,Wc,Qab,Xa,Xa];exact Wd (Yh e0)
 have⟨h2,es,q⟩:=Xd8 h.hN h.s.et.ht h.s.vx.mx.gx ho b0 b1 (v:=c) (λq=>absurd (hp.1 q) ag) h.tc;rw[e1,Xa];rw[show((0:Int) != 0)=false from rfl,Wa,e4,Xa,es,Xa,Xa];exact Wd λ_=>(h.s.put q).up ab
def v9(h:CV N k x a b c):Ok (Qag N x 9 a b c) (SV N (k+1)):=by
 rw[Qag,h.ev,Xa];simp only[XF,Int.reduceBEq,Wc,Wa,Wi,Qc2];rcases h.fld true with⟨e,e0,e1⟩|⟨o,_,_,e1,ho,b0,b1,hp,e4⟩
 .rw[e1,Xa,Xn e0,Wc,Qab,Xa,Xa];exact Wd (Yh e0)
 rw[e1,Xa];rw[show((0:Int) != 0)=false from rfl,Wa,e4,Xa,h.res h.tc,Xa];by_cases er:(JA x c).2=0;rotate_left
 .rw[Xn er,Wc,Qab,Xa,Xa];exact Wd (Yh er)
 have hob:=XcQ h.s.vx er;have tv:tU (JA x c).1:=by
  rcases hob with q|q
  .simp_all
  have hp:=h.hp;have:=(q.1.at_ hp).rng;have hm:=XO hp.conf (i:=0) ab (by have:=Xh.1 hp.conf;omega);exact⟨ab,ab⟩
 have⟨h2,es,q⟩:=Xd8 h.hN h.s.et.ht h.s.vx.mx.gx ho b0 b1 (v:=(JA x c).1) (λ_=>hob) tv;rw[ZX er,Wa,es,Xa,Xa];exact Wd λ_=>(h.s.put q).up ab
def v8(h:CV N k x a b c):Ok (Qag N x 8 a b c) (SV N (k+1)):=by
 rw[Qag,h.ev,Xa];simp only[XF,Int.reduceBEq,Wc,Wa,Wi,Qc2];rcases h.fld true with⟨e,e0,e1⟩|⟨o,_,_,e1,ho,b0,b1,hp,e4⟩
 .rw[e1,Xa,Xn e0,Wc,Qab,Xa,Xa];exact Wd (Yh e0)
 have⟨y,l2,l3⟩:=XcR h.hN h.s (h.s.vx.mx.gx.pt o ho b (hp.2 rfl));rw[e1,Xa];rw[show((0:Int) != 0)=false from rfl,Wa,e4,Xa,l2,Xa,Xa];exact Wd l3
def v19(h:CV N k x a b c):Ok (Qag N x 19 a b c) (SV N (k+1)):=by
 rw[Qag,h.ev,Xa];simp only[XF,Int.reduceBEq,Wc,Wa,Wi,QeQ,h.th,Xa];by_cases e1:(thE x a).2=0;rotate_left
 .rw[Xn e1,Wc,Qab,Xa,Xa];exact Wd (Yh e1)
 rw[ZX e1,Wa];have⟨y,ey,hy⟩:=XnQ h.hN h.s.et.ht h.s.vx.mx (h.obj e1).1;rw[ey,Xa];rcases hy with h18|⟨h0,pq,mx,_⟩
 .rw[h18,show((18:Int) != 0)=true from rfl,Wc,Qab,Xa,Xa];exact Wd (Yh ag)
 rw[h0,show((0:Int) != 0)=false from rfl,Wa,Xa];exact Wd λ_=>(h.s.pins pq mx).up ab
def v20(h:CV N k x a b c):Ok (Qag N x 20 a b c) (SV N (k+1)):=by
 rw[Qag,h.ev,Xa];simp only[XF,Int.reduceBEq,Wc,Wa,Wi,QeQ,h.th,Xa];by_cases e1:(thE x a).2=0;rotate_left
 .rw[Xn e1,Wc,Qab,Xa,Xa];exact Wd (Yh e1)
 rw[ZX e1,Wa];have⟨y,ey,hy⟩:=XnR h.hN h.s.et.ht h.s.vx.mx (h.obj e1).1;rw[ey,Xa];rcases hy with⟨h12,_⟩|⟨h0,_,pq,mx,_⟩
 .rw[h12,show((12:Int) != 0)=true from rfl,Wc,Qab,Xa,Xa];exact Wd (Yh ag)
 rw[h0,show((0:Int) != 0)=false from rfl,Wa,Xa];exact Wd λ_=>(h.s.pins pq mx).up ab
def QoK(hN:NB N)(s:Ow N k x){d:Wx}(hv:XN d=true)(tm:tW d.Map)(hkd:d.k≠0)(hnd:XH x.h.c (XM d)≠-1):Ok (Qel N x d) λy=>y.2.2=3\/(y.2.2=0/\∃x1,Ow N k x1/\x1.l.x=x.l.x/\x1.l.i=x.l.i/\R2 (λa b:UI=>b.J=a.J/\b.V=a.V) x.l.S x1.l.S/\HT y.1.h/\O8 N x1.h y.1.h y.2.1 d/\y.1=⟨y.1.h,x1.l,x1.g,x1.v,x1.P,x1.R⟩):=by
 rw[Qel,(Xaw hN s.et).2 s.vx,Xa,Wi,Wa];have gx:=s.vx.mx.gx;have⟨y,ey,hy⟩:=Xq2 hN s.et.ht gx hv tm hkd hnd;rw[ey,Xa,XF];rcases hy with h3|⟨h0,ht,q⟩
 .rw[h3,show((3:Int)==3)=true from rfl,Wc];refine WJ (XnX hN s) λy3 _ hy3=>?_;obtain⟨e0,s',hcf,l1,l2,_,l4⟩:=hy3;rw[e0,show((0:Int) != 0)=false from rfl,Wa];have⟨y4,ey4,hy4⟩:=Xq2 hN s'.et.ht s'.vx.mx.gx hv tm hkd (by simp_all);rw[ey4,Xa];rcases hy4 with e4|⟨e4,ht4,q4⟩
  .rw[e4];exact Wd (.inl rfl)
  rw[e4];dsimp only;exact Wd (.inr ⟨rfl,y3.1,s',l1,l2,l4,ht4,q4.new s'.vx.mx.gx hN s'.et.eb.heap,rfl⟩)
 rw[h0,show((0:Int)==3)=false from rfl,Wa];dsimp only;exact Wd (.inr ⟨rfl,x,s,rfl,rfl,⟨rfl,λk a b h1 h2=>by simp_all⟩,ht,q.new gx hN s.et.eb.heap,rfl⟩)
def Xul(h:CV N k x a b c){op:Int}(ho:op=1\/op=2\/op=3):Ok (Qag N x op a b c) (SV N (k+1)):=by
 have h10:10<=N:=by have:=h.n6;omega
 have⟨dd,ed,hdd⟩:=XdE (N:=N) op h.ta h.tb;have main:Ok (QdH N x op a b) (SV N (k+1)):=by
  rw[QdH];by_cases hpn:x.P.length>0
  .rw[Wg ab,Wc,Qab,Xa];exact Wd (Yh ag)
  rw[We ab,Wa,ed,Xa,XF];by_cases hok:okW op a b;rotate_left
  .rw[We hok,Ui,Wc,Qab,Xa];exact Wd (Yh ag)
  have hd:=hdd hok;rw[Wg hok,Wi,Wa,XjL h10,Xa,hd];cases hA:Xcn x.h.c (hdW op a b)with
  |false=>rw[Ui,Wc,Qab,Xa];exact Wd (Yh ag)
  |true=>
  rw[Wi,Wa,Xal h.s.et.eb.loc h.n6,Xa];by_cases hl:(Z2 x.l 1).2.2.2=0;rotate_left
  .rw[Xn hl,Wc,Qab,Xa];exact Wd (Yh hl)
  rw[ZX hl,Wa];unfold Xcn at hA;rw[WI,WI,bne_iff_ne,bne_iff_ne]at hA;obtain⟨a1,a2,a3⟩:=hA;have tm:tW (hdW op a b).Map:=by
   unfold hdW;dsimp only;split
   .rename_i h1;have:=hok.2 h1;have:=h.tb.1;exact⟨ab,ab⟩
   simp
  obtain⟨y,ey,hy⟩:=QoK h.hN h.s a1 tm a2 a3;rw[ey,Xa];rcases hy with h3|⟨h0,x1,s1,_,_,_,ht,q,ex⟩
  .rw[h3,show((3:Int) != 0)=true from rfl,Wc,Qab,Xa];exact Wd (Yh ag)
  have s2:=s1.add h.hN ht q;rw[←ex]at s2;obtain⟨r,l2,l3⟩:=XcR h.hN s2 (r:=y.2.1) (.inr ((q.ob _).2 (.inr rfl)));rw[h0,show((0:Int) != 0)=false from rfl,Wa,l2,Xa];exact Wd l3
 have⟨y,ey,hy⟩:=main;refine⟨y,?_,hy⟩;rw[Qag,h.ev,Xa];rcases ho with rfl|rfl|rfl<;>simp only[XF,Int.reduceBEq,Wc,Wa,Wi,ey,Xa]
def Xqh(h:CV N k x a b c){op:Int}(ho:op<1\/20<op):Ok (Qag N x op a b c) (SV N (k+1)):=by have f:∀n:Int,1<=n->n<=20->(op==n)=false:=λn h1 h2=>Xm ab;refine⟨(⟨zHp,⟨[],[],[]⟩,⟨[]⟩,⟨[]⟩,[],[]⟩,0,1),?_,Yh ag⟩;rw[Qag,h.ev,Xa];simp only[Wi,Wa,XF,f 1 ab ab,f 2 ab ab,f 3 ab ab,f 4 ab ab,f 5 ab ab,f 6 ab ab,f 7 ab ab,f 8 ab ab,f 9 ab ab,f 10 ab ab,f 11 ab ab,f 12 ab ab,f 13 ab ab,f 14 ab ab,f 15 ab ab,f 16 ab ab,f 17 ab ab,f 18 ab ab,f 19 ab ab,f 20 ab ab,Qab,Xa]
def Xr1(h:CV N k x a b c)(op:Int):Ok (Qag N x op a b c) (SV N (k+1)):=by
 by_cases ho:op<1\/20<op
 .exact Xqh h ho
 by_cases hd:op=12\/op=14\/op=16
 .have⟨y,ey,hy⟩:=Xuk h hd;refine⟨y,?_,hy⟩;rw[Qag,h.ev,Xa];rcases hd with rfl|rfl|rfl<;>simp only[XF,Int.reduceBEq,Wc,Wa,Wi,ey,Xa]
 by_cases h1:op=1\/op=2\/op=3
 .exact Xul h h1
 by_cases h4:op=4\/op=5
 .exact v45 h h4
 have:op=6\/op=7\/op=8\/op=9\/op=10\/op=11\/op=13\/op=15\/op=17\/op=18\/op=19\/op=20:=ab;rcases this with rfl|rfl|rfl|rfl|rfl|rfl|rfl|rfl|rfl|rfl|rfl|rfl
 .exact v6 h
 .exact v7 h
 .exact v8 h
 .exact v9 h
 .exact v10 h
 .exact v11 h
 .exact v13 h
 .exact v15 h
 .exact v17 h
 .exact v18 h
 .exact v19 h
 exact v20 h
end
def Xaa(c:WR):Wh:=⟨c,List.replicate (c.p*c.W).toNat 0,List.replicate c.p.toNat ⟨0,0,0,0⟩,0,-1⟩
section
variable {N:Nat}{c:WR}
def VG{α:Type}(n k:Nat)(a:α):(List.replicate n a).getD k a=a:=by grind
def Xqi(a:Int):wd (Xaa c).w a=0:=VG _ _ _
def VD(i:Int):pg (Xaa c).p i=Zb:=VG _ _ _
def Xgd(hv:X8 c=true):HB (Xaa c):=by
 have hvc:=Xh.1 hv;have hm:=XO hv (i:=0) ab ab;refine⟨?_,?_⟩
 .unfold Xaa;grind
 unfold Xaa;grind
def XnY(hv:X8 c=true):((Xaa c).p.length:Int)=c.p:=by have hvc:=Xh.1 hv;unfold Xaa;grind
def Xqj(hN:NB N)(hv:X8 c=true):GX N (Xaa c):=by
 have hvc:=Xh.1 hv;have hm:=XO hv (i:=0) ab ab;have hl:=XnY hv;have pars:∀i,Ov (Xaa c) i []:=λi=>⟨λ_=>rfl,λh=>by rw[VD]at h;exact absurd h ag,λh=>by rw[VD]at h;exact absurd h ag⟩
 have pu:∀i l,Ov (Xaa c) i l->l=[]:=λi l p=>p.none (.inl (by rw[VD];rfl));have nst:∀a,¬Stt (Xaa c) a:=λa ⟨i,l,_,_,p,h⟩=>by grind
 refine⟨JT hN (Xgd hv) ⟨hv,?_,?_,by unfold Xaa;simp,.inl rfl⟩ ⟨λi _ _ _=>?_,λi _ _ h=>?_⟩,λi _ _=>⟨[],pars i⟩,λi _ _ h=>?_,λi l _ _ p a ha=>?_,λx _ h=>?_,λa h=>absurd h.1 (nst a),?_⟩
 .unfold Xaa;grind
 .exact hl
 .constructor<;>simp[VD,Zb]
 .rw[VD]at h;exact absurd h ag
 .rw[VD]at h;exact absurd rfl h
 .grind
 .exact absurd (Xqi x) h
 have:(Xaa c).p.countP ZW=0:=by rw[List.countP_eq_zero];intro p hp;rw[(IG.1 hp).2];decide
 rw[this];show(0:Int)<=c.p / 4;omega
def XnZ(hN:NB N)(hv:X8 c=true){n:Int}(n0:0<=n)(n1:n<=60):Ow N 0 ⟨Xaa c,⟨[],[⟨0,n,true⟩],[]⟩,⟨[]⟩,⟨[]⟩,[],[]⟩:=by
 have gx:=Xqj hN hv;have lv:Yx (⟨[],[⟨0,n,true⟩],[]⟩:Ws)=true:=by unfold Yx Xm3 stB neB XbR;simp[YP,neQ,Xg6,YW];omega
 refine⟨⟨⟨Xgd hv,⟨ac,ac,ac⟩,Xbl,Xbl,ac,ac⟩,?_⟩,⟨⟨gx,ac,ac,ac,λi _ _=>?_⟩,lv,rfl,rfl,by simp[Xu],ac,by simp[XL],by simp[Xu],by simp[Xu]⟩,ac,ac,gx.cap (Xz hN (Xgd hv) gx.ep) ?_⟩
 .intro x hx;rw[(IG.1 hx).2];simp
 .rw[VD];rfl
 have hvc:=Xh.1 hv;have e:(Xaa c).p.countP Yc=0:=by rw[List.countP_eq_zero];intro p hp;rw[(IG.1 hp).2];decide
 rw[e];show(0:Int)<=c.p / 4;omega
def Xr2{t:IB}{m:Int}(h:TA m t)(hm:m+5<=1000000):Ok (Qfb N t) λr=>TA (m+2) r.2/\X8 r.1=true:=by refine Uz (nxp h ab ab ab) λy hy=>Ok.get hy.1 hy.2.1 λp hp=>Uz (nxp hy.2.2 ab ab ab) λz hz=>Ok.get hz.1 hz.2.1 λq hq=>Wd ⟨hz.2.2.le ab,?_⟩;have hp':=YC hp;have hq':=YC hq;simp at hp' hq';grind[Xh]
def Xqk(hN:NB N){t:IB}{m:Int}(h:TA m t)(hm:m+5<=1000000):Ok (Qbh N t) λr=>PB 0 r.1/\TA (m+3) r.2/\Ow N 0 r.1.N:=by
 have hs:=XnG (N:=N) h hm;suffices main:Ok (Qbh N t) λr=>Ow N 0 r.1.N by obtain⟨r,e,h1⟩:=main;obtain⟨r',e',h2⟩:=hs;rw[e]at e';cases e';exact⟨r,e,h2.1,h2.2,h1⟩
 refine Uz (Xr2 h hm) λy1 h1=>?_;have hv:=h1.2;have hvc:=Xh.1 hv;have hm:=XO hv (i:=0) ab ab;have e:=Xe (n:=y1.1.p*y1.1.W) ab ab;have e1:QeJ N y1.1=some (⟨Xaa y1.1,⟨[],[],[]⟩,⟨[]⟩,⟨[]⟩,[],[]⟩,0):=by rw[QeJ,QfV,Zm,Xa,hv,Wi,Wa,e,Xb ab,Xb ab,Xa];rfl
 rw[e1,Xa];refine Uz (XhD _) λy3 _=>Uz (nxp h1.1 ab ab ab) λy4 h4=>Wd ?_;rw[Xe (n:=4+y4.1) ab ab];exact XnZ hN hv ab ab
end
section
variable {N k:Nat}{p:Io}
def Xum(hN:NB N)(hp:PB k p)(hk:k<=200){d:Ou}(td:VZ d)(s:Ow N k p.N):Ok (QbQ N p d) λr=>PB (k+1) r.1/\Ow N (k+1) r.1.N:=by
 have hd:=Xs5 hN hp ab td;have w2:=hp.w2;have s1:Ow N (k+1) p.N:=s.up ab;suffices main:Ok (QbQ N p d) λr=>Ow N (k+1) r.1.N by obtain⟨r,e,h1⟩:=main;obtain⟨r',e',h2⟩:=hd;rw[e]at e';cases e';exact⟨r,e,h2,h1⟩
 refine Wp (λ_=>?_) λ_=>?_
 .refine Uz (XnX hN s) λy1 h1=>Ir (Wp (λh0=>Uz (V3 hN hp.wor hp.ty.2.1) λy2 _=>Wd ?_) λ_=>Wd s1);exact h1.2.1.up ab
 refine WJ (Xr1 (⟨s,hN,td.1,td.2.1,td.2.2⟩:CV N k p.N d.A d.B d.C) d.Op) λy ey hy=>Uz (XnE _ _ _ _ _) λy27 _=>Uz (Xho hN hp.wor ab hp.ty.2.1 d.Op td.1 td.2.1 td.2.2 y27) λy28 _=>?_;have k2:∀w:WQ,Ok (α:=Io×Int×Int) (bif (y.2.2==0)then(bif (y.2.1 != 0)then(grd (p.w.length*8<=140737488355328) <| grd ((p.w.length+1)*8<=140737488355328) <| some ((Io.mk y.1 w (p.w++[y.2.1])),y.2.1,y.2.2))else some ((Io.mk y.1 w p.w),y.2.1,y.2.2))else some ((Io.mk p.N w p.w),y.2.1,y.2.2)) λr=>Ow N (k+1) r.1.N:=λw=>
  Wp (λh0=>Uw (Ub ab (Ub ab (Wd (hy (by simp_all))))) (Wd (hy (by simp_all)))) λ_=>Wd s1
 exact Ir (Uw (k2 y28.1) (k2 p.z))
end
def plT(p:Io):Int×Int×List Int×List Wr×Int×Int×List UI×List UU×List Int×List W8×List W8×List UE×List Int×Int×Int×List In×List UI×List UU×List Int×List W8×List W8×List IA×List Int×List Int:=(p.N.h.c.W,p.N.h.c.p,p.N.h.w,p.N.h.p,p.N.h.s,p.N.h.b,p.N.l.S,p.N.l.x,p.N.l.i,p.N.g.e,p.N.v.e,p.N.P,p.N.R,p.z.c.W,p.z.c.p,p.z.T,p.z.l.S,p.z.l.x,p.z.l.i,p.z.g.e,p.z.v.e,p.z.m,p.z.R,p.w)
section
variable {N:Nat}{M:Int}
def Xka(hN:NB N)(hM:M<=200):∀(n:Nat) (i:Int) (t:IB) (p:Io) (k:Nat),0<=i->i<=M->(M-i).toNat<n->(k:Int)=i->PB k p->TA (10+20*i) t->Ow N k p.N ->
 Ok (QfZ N M n i t.L t.at_ p.N.h.c.W p.N.h.c.p p.N.h.w p.N.h.p p.N.h.s p.N.h.b p.N.l.S p.N.l.x p.N.l.i p.N.g.e p.N.v.e p.N.P p.N.R p.z.c.W p.z.c.p p.z.T p.z.l.S p.z.l.x p.z.l.i p.z.g.e p.z.v.e p.z.m p.z.R p.w) λr=>∃(p':Io) (k':Nat),(k':Int)<=M/\PB k' p'/\Ow N k' p'.N/\r=plT p'
 |0,i,t,p,k,_,_,hn,_,_,_,_=>by omega
 |n+1,i,t,p,k,h0,hi,hn,hk,hp,ht,hs=>by
  have stop:Ok (some (plT p)) λr=>∃(p':Io) (k':Nat),(k':Int)<=M/\PB k' p'/\Ow N k' p'.N/\r=plT p':=
   Wd ⟨p,k,ab,hp,hs,rfl⟩
  refine Wp (λhc=>?_) λ_=>stop
  have hc:i<M:=Wv hc;rw[Qf6,Xa];refine Wp (λ_=>?_) λ_=>stop
  have w1:=hp.w1;have w2:=hp.w2;have dty:=λr (e:QcT N p t=some r)=>Qh6 (N:=N) hp.ty r e;rw[Xe (n:=i+1) ab ab];refine WJ (Xqa (p:=p) (t:=t) w1 ab ht ab) λy e hy=>?_;refine Uz (Xum hN hp ab (dty y e) hs) λz hz=>?_;exact Xka hN hM n (i+1) y.2 z.1 (k+1) ab ab ab ab hz.1 (hy.le ab) hz.2
def Xr3(hN:NB N)(h0:0<=M)(hM:M<=200)(l:List Int):Ok (Qhe N l M) λp=>∃k:Nat,(k:Int)<=M/\PB k p/\Ow N k p.N:=by have hN':=hN;unfold NB at hN';refine Uz (Xqk (m:=0) hN ⟨ac,ac⟩ ab) λy hy=>Uz (Xka hN hM N 0 y.2 y.1 0 ab ab ab rfl hy.1 (hy.2.1.le ab) hy.2.2) λz hz=>Wd ?_;obtain⟨p',k',h1,h2,h3,rfl⟩:=hz;exact⟨k',h1,h2,h3⟩
end
structure OI(h:Wh)(o:List Int):Prop where
 nd:o.Nodup
 a:∀a∈o,Obb h a
section
variable {N:Nat}{h:Wh}{L:List Int}
def OI.len{o:List Int}(i:OI h o)(hp:Uy h):o.length<=4096:=by have hm:=XO hp.conf (i:=0) ab (by have:=Xh.1 hp.conf;omega);have:=JI (m:=K5 4096 4096) i.nd λa ha=>Zc.2 (by have:=((i.a a ha).1.at_ hp).rng;omega);rwa[Vh]at this
def OI.ad1{o:List Int}(i:OI h o){r:Int}(hr:r=0\/Obb h r):OI h (ad1 o r):=by
 by_cases hn:r=0\/r∈o
 .rw[JJ hn];exact i
 rw[Xay (λe=>hn (.inl e)) λe=>hn (.inr e)];refine⟨UR.2 ⟨i.nd,ac,λx hx y hy e=>?_⟩,λa ha=>?_⟩
 .simp at hy;subst hy;subst e;exact hn (.inr hx)
 rcases Wt.1 ha with ha|ha
 .exact i.a a ha
 simp at ha;subst ha;exact hr.resolve_left λe=>hn (.inl e)
def Xge(hp:Uy h){F:Nat->Int->List Int->Option (Ex Unit (List Int))}{rs:List Int}(hr:∀r∈rs,r=0\/Obb h r)(hs:∀n k(hk:k<rs.length)v,v.length<=4096->F (n+1) (k:Int) v=F n ((k+1:Nat):Int) (ad1 v rs[k]))(he:∀n v,F (n+1) (rs.length:Int) v=some (.nxt v)):∀(n k:Nat) (v:List Int),OI h v->k<=rs.length->rs.length-k<n->F n (k:Int) v=some (.nxt (Xb3 v (rs.drop k)))/\OI h (Xb3 v (rs.drop k))
 |0,k,v,_,_,hn=>by omega
 |n+1,k,v,o,hk,hn=>by
  by_cases hlt:k<rs.length
  .rw[hs n k hlt v (o.len hp),Wm hlt];exact Xge hp hr hs he n (k+1) _ (o.ad1 (hr _ (Wy hlt))) ab ab
  obtain rfl:k=rs.length:=ab;rw[List.drop_length];exact⟨he n v,o⟩
def Xn0{d:Wx}{l ws:List Int}{a:Int}(hl:l.length<=255)(f3:∀(j:Nat) (hj:j<l.length),l[j]=wd ws (a+1+j)):∀(n k:Nat) (v:List Int),k<=l.length->l.length-k<n->v.length<=k->Qd4 N (d,0) (l,0) n (k:Int) v=some (v++(Ye d (l.length-k) k).map λj=>wd ws (a+1+j))
 |0,k,v,_,hn,_=>by omega
 |n+1,k,v,hk,hn,hv=>by
  rw[Qd4];by_cases h:k<l.length
  .rw[Wg (by show(k:Int)<(l.length:Nat);omega),Wc,JC,Xa,Xf,Xg ab,show l.length-k=l.length-(k+1)+1 by omega,Ye];rw[Wb h,Xa,f3 k h];cases hp:Jt d (k:Int)with
   |true=>rw[Wc,Xb ab,Xn0 hl f3 n (k+1) _ ab ab ai];simp
   |false=>rw[Wa,Xn0 hl f3 n (k+1) _ ab ab ab];simp
  rw[We (by show¬(k:Int)<(l.length:Nat);omega),Wa,show l.length-k=0 by omega,Ye];simp
def Xr4(hN:NB N)(hb:HB h)(g:GX N h){a:Int}(ho:Obb h a):QgR N h a=some (rfs h a)/\(rfs h a).length<=255:=by have hp:=Xz hN hb g.ep;have hat:=ho.1.at_ hp;have ev:=Xbx hN hb g.ep hat;have⟨l,f1,f2,f3⟩:=Xe0 hN hb g.ep hat ev ho.2;have hv:=Jl h a;have h255:=XQ hv;have e:=Xn0 (N:=N) (d:=hdA h.w a) ab f3 N 0 [] ab (by unfold NB at hN;omega) ac;have hl:(hdA h.w a).n.toNat=l.length:=ab;refine⟨?_,by have:=J9 (hdA h.w a);unfold rfs;rw[Ug];omega⟩;rw[show((0:Nat):Int)=0 from rfl]at e;rw[QgR,XdP hN hb g.ep hat ev ho.2,Xa,f1,Xa,e,Xa];unfold rfs XW;rw[Wn hv,hl];simp
def GX.rfs(g:GX N h){a:Int}(ho:Obb h a):∀r∈rfs h a,r=0\/Obb h r:=λr hr=>by obtain⟨j,hj,rfl⟩:=WO.1 hr;exact g.pt a ho j hj
def Xn1(hN:NB N)(hb:HB h)(g:GX N h)(hL:∀a,a∈L↔Obb h a)(hl:L.length<=4096):∀(m k:Nat) (o:List Int),OI h o->k<=o.length->4097-k<m ->
 Qes N h (L,0) m true (k:Int) o=some (true,Xb4 h m k o)/\OI h (Xb4 h m k o)
 |0,k,o,_,_,hm=>by omega
 |m+1,k,o,i,hk,hm=>by
  have hN':1000000<N:=by unfold NB at hN;omega
  have hp:=Xz hN hb g.ep;have hlen:=i.len hp;rw[Qes,Wc,Xb ab,Xb4];by_cases hkl:k<o.length;case neg=>
   rw[We ab,Wa,WP ab]
   exact⟨rfl,i⟩
  have ho:=i.a _ (Wy hkl);have⟨er,hr⟩:=Xr4 hN hb g ho;rw[Wg ab,Wc,Xf,Wb hkl,Xa,er,Xa,XF];have⟨e,i'⟩:=Xge hp (F:=Qcp N h (L,0) (rfs h o[k]) (k:Int)) (g.rfs ho) (λn j hj u hu=>by
   rw[Qcp,Wg ab,Wc,Xf,Wb hj]
   simp only[Xa]
   rw[Yb _ ab ab,Yb _ ab ab,Xg ab]
   by_cases h0:(rfs h o[k])[j]=0
   .rw[Xv h0,Wc,JJ (.inl h0)]
   rw[Xm h0,Wa,Xa,UF.2 ((hL _).2 ((g.rfs ho _ (Wy hj)).resolve_left h0)),Wi,Wa,Xa]
   by_cases hmm:(rfs h o[k])[j]∈u
   .rw[UF.2 hmm,Wi,Wa,JJ (.inr hmm)]
   .rw[show u.contains (rfs h o[k])[j]=false by simpa using hmm,Ui,Wc,Xay h0 hmm,Xb ab]) (λn u=>by rw[Qcp,We ab,Wa]) N 0 o i (IO _) ab
  rw[show((0:Nat):Int)=0 from rfl]at e;rw[e,Xa,Xo,Xg ab];refine Xn1 hN hb g hL hl m (k+1) _ i' ?_ ab;have:=XhK (rfs h o[k]) o;rw[W3];omega
def Xn2(hN:NB N)(hb:HB h)(g:GX N h){rs:List Int}(hl:rs.length<=1000000)(hr:∀r∈rs,r=0\/Obb h r):Qgp N h rs=some (Xb4 h N 0 (Xb3 [] rs),0)/\OI h (Xb4 h N 0 (Xb3 [] rs)):=by
 have hN':1000000<N:=by unfold NB at hN;omega
 have hp:=Xz hN hb g.ep;obtain⟨S,L,hS,_,_,eL,rfl,hL⟩:=XaY hN hb g.ep g.ps;have hLl:(Yn h S).length<=4096:=by have:=hS.len;have:(Yn h S).length<=S.length:=List.length_filter_le _ _;omega
 have⟨e,i⟩:=Xge hp (F:=Qco N h rs (Yn h S,0)) hr (λn j hj u hu=>by
  rw[Qco,Wg ab,Wc,Xf,Wb hj]
  simp only[Xa]
  rw[Yb _ ab ab,Yb _ ab ab,Xg ab]
  by_cases h0:rs[j]=0
  .rw[Xv h0,Wc,JJ (.inl h0)]
  rw[Xm h0,Wa,Xa,UF.2 ((hL _).2 ((hr _ (Wy hj)).resolve_left h0)),Wi,Wa,Xa]
  by_cases hmm:rs[j]∈u
  .rw[UF.2 hmm,Wi,Wa,JJ (.inr hmm)]
  .rw[show u.contains rs[j]=false by simpa using hmm,Ui,Wc,Xay h0 hmm,Xb ab]) (λn u=>by rw[Qco,We ab,Wa]) N 0 [] ⟨ac,ac⟩ (IO _) ab
 have⟨e3,i3⟩:=Xn1 hN hb g hL hLl N 0 _ i (IO _) ab;rw[W3]at e e3 i3;refine⟨?_,i3⟩;rw[show((0:Nat):Int)=0 from rfl]at e e3;rw[Qgp,g.ep,Xa,Wi,Wa,eL,Xa,show(((Yn h S,(0:Int)).2) != 0)=false from rfl,Wa,XF,e,Xa,Xo];dsimp only;rw[e3,Xa,Wi,Wa]
end
section
variable {N:Nat}{x y:Um}{h h2:Wh}{P:Int->Prop}{M:List (Int×Int)}
def OJ.nz(c:OJ N h P M h2)(hN:NB N)(hb:HB h)(hb2:HB h2)(g:GX N h){p:Int×Int}(hp:p∈M):p.1≠0/\p.2≠0:=by have h1:=((c.l p hp).1.1.at_ (Xz hN hb g.ep)).rng;have h2:=(((c.ob p.2).2 (WO.2 ⟨p,hp,rfl⟩)).1.at_ (Xz hN hb2 c.gx.ep)).rng;omega
def OJ.rfs(c:OJ N h P M h2){p:Int×Int}(hp:p∈M):R2 (rel M) (rfs h p.1) (rfs h2 p.2):=by
 unfold Sx.rfs;rw[c.hd p hp];refine⟨ac,λk a b ha hb=>?_⟩;rw[Ii]at ha hb;cases e:(XW (hdA h.w p.1))[k]? with
 |none=>rw[e]at ha;cases ha
 |some j=>rw[e]at ha hb;cases ha;cases hb;exact c.f2 p hp j (W7 e)
def OH.str(c:OH N x y P M)(vx:VX N x):R2 (rel M) (Zw x) (Zw y):=by unfold Zw;rw[vx.loc,vx.glo,c.vx.loc,c.vx.glo,c.pi];refine((c.rt.app (OP c.ls)).app (OE c.gl)).app ⟨ac,λk a b ha hb=>?_⟩;rw[ha]at hb;cases hb;obtain⟨p,hp,rfl⟩:=WO.1 (W7 ha);exact .inr (c.ps p hp)
end
section
variable {N:Nat}{h0:Wh}{l:List Int}
def KeepW.trans{a b c:Wu}(h1:KeepW a b)(h2:KeepW b c):KeepW a c:=by unfold KeepW at *;grind
def QN(l:List Int)(w:Wu):Prop:=l=[]->w.q=[]
def Xql(hN:NB N){w w':Wu}{a to:Int}(hl:w.o=[])(hq:w.q=[])(e:QaD N w a=some (w',to,0)):w'.q=[]:=by unfold NB at hN;rw[QaD,hl,hq,Yb a ac ai,Xa,Xa]at e;grind
def Xn3(hN:NB N)(hs:Start N h0 l){w:Wu}{O:Int->Prop}{s:Int->Int}(hc:CI h0 l w)(ho:Oz h0 l w O s)(hh:OC h0 l w)(hn:QN l w){a:Int}(ta:tU a):
 (∃r w2,QaD N w a=some r/\r.2.2≠0/\Qa0 N w a=some (0,r.2.2,w2)) \/
 ∃w' to,QaD N w a=some (w',to,0)/\OQ h0 l w w' O s/\OC h0 l w'/\tU to/\(a≠0->to≠0)/\KeepW w w'/\QN l w'/\Qa0 N w a=some (to,0,w'):=by
 rcases XrU hN hs hc ho hh ta with h|⟨w',to,er,hq,hh',tt,tz,hkw,eg⟩
 .simp_all
 exact .inr ⟨w',to,er,hq,hh',tt,tz,hkw,λh=>Xql hN (List.sublist_nil.1 (h▸hc.old)) (hn h) er,eg⟩
def NZ(rs out:List Int):Prop:=∀(i:Nat) (y:Int),out[i]? = some y->∀(x:Int),rs[i]? = some x->x≠0->y≠0
def NZ.push{rs out:List Int}(h:NZ rs out){y:Int}(hy:∀x,rs[out.length]? = some x->x≠0->y≠0):NZ rs (out++[y]):=by
 intro i z hz x hx;by_cases hi:i<out.length
 .rw[Uk hi]at hz;exact h i z hz x hx
 grind
def zWk:Wu:=Wu.mk zHp [] [] [] 0 (WV.mk 0 0 0 0 0 0)
def Xkb(hN:NB N)(hs:Start N h0 l){rs:List Int}(hl:rs.length<=1000000)(ht:∀x∈rs,tU x):∀(n k:Nat) (w:Wu) (out:List Int),k<=rs.length->rs.length-k<n->CI h0 l w->OC h0 l w->QN l w->out.length=k->NZ rs out ->
 (∃e,e≠0/\Qd1 N rs n k w.h.c.W w.h.c.p w.h.s w.h.b w.d w.r.j w.r.K w.r.F w.r.E w.r.f w.r.y w.h.w w.h.p w.o w.t w.q out=some (.ret (zWk,[],e)) /\
  Qa3 N rs n k w.h.c.W w.h.c.p w.h.w w.h.p w.h.s w.h.b w.o w.t w.q w.d w.r.j w.r.K w.r.F w.r.E w.r.f w.r.y out=some (.ret (zWk,[],e))) \/
 ∃w' out',CI h0 l w'/\OC h0 l w'/\QN l w'/\KeepW w w'/\out'.length=rs.length/\NZ rs out' /\
  Qd1 N rs n k w.h.c.W w.h.c.p w.h.s w.h.b w.d w.r.j w.r.K w.r.F w.r.E w.r.f w.r.y w.h.w w.h.p w.o w.t w.q out=some (.nxt (w'.h.c.W,w'.h.c.p,w'.h.s,w'.h.b,w'.d,w'.r.j,w'.r.K,w'.r.F,w'.r.E,w'.r.f,w'.r.y,w'.h.w,w'.h.p,w'.o,w'.t,w'.q,out')) /\
  Qa3 N rs n k w.h.c.W w.h.c.p w.h.w w.h.p w.h.s w.h.b w.o w.t w.q w.d w.r.j w.r.K w.r.F w.r.E w.r.f w.r.y out=some (.nxt (w'.h.c.W,w'.h.c.p,w'.h.w,w'.h.p,w'.h.s,w'.h.b,w'.o,w'.t,w'.q,w'.d,w'.r.j,w'.r.K,w'.r.F,w'.r.E,w'.r.f,w'.r.y,out'))
 |0,k,w,out,_,hn,_,_,_,_,_=>by omega
 |n+1,k,w,out,hk,hn,hc,hh,hqn,ho,hz=>by
  rw[Qd1,Qa3];by_cases h:k<rs.length
  .have htx:=ht _ (Wy h);rw[Xl h,Wc,Wc,Xf,Wb h,Xa,Xa,Xg ab];have⟨O,s,hob⟩:=hc.obj;have eta:(⟨⟨⟨w.h.c.W,w.h.c.p⟩,w.h.w,w.h.p,w.h.s,w.h.b⟩,w.o,w.t,w.q,w.d,⟨w.r.j,w.r.K,w.r.F,w.r.E,w.r.f,w.r.y⟩⟩:Wu)=w:=rfl;rcases Xn3 hN hs hc hob hh hqn htx with⟨r,w2,er,e0,eg⟩|⟨w',to,er,hq,hh',tt,tz,hkw',hqn',eg⟩
   .refine .inl ⟨r.2.2,e0,?_,?_⟩
    .rw[eg,Xa,Xn e0,Wc];rfl
    rw[er,Xa,Xn e0,Wc];rfl
   rw[eg,er,Xa,Xa,show((0:Int) != 0)=false from rfl,Wa,Wa,Xb ab,Xb ab];rcases Xkb hN hs hl ht n (k+1) w' (out++[to]) ab ab hq.ci hh' hqn' (by simp_all) (hz.push λx hx hx0=>tz (by simp_all))with h|⟨w'',o'',c1,c2,c6,c3,c4,c5,e1,e2⟩
   .simp_all
   exact .inr ⟨w'',o'',c1,c2,c6,hkw'.trans c3,c4,c5,e1,e2⟩
  obtain rfl:k=rs.length:=ab;rw[XG,Wa,Wa];exact .inr ⟨w,out,hc,hh,hqn,rfl,ho,hz,rfl,rfl⟩
def Xn4(hN:NB N)(hs:Start N h0 l){w:Wu}(hc:CI h0 l w)(hh:OC h0 l w)(hqn:QN l w){rs:List Int}(hl:rs.length<=1000000)(ht:∀x∈rs,tU x):
 (∃e,e≠0/\Qfv N w rs=some (zWk,[],e)/\QcY N w rs=some (zWk,[],e)) \/
 ∃w' out,CI h0 l w'/\OC h0 l w'/\QN l w'/\KeepW w w'/\out.length=rs.length/\NZ rs out/\Qfv N w rs=some (w',out,0)/\QcY N w rs=some (w',out,0):=by
 have hN':=hN;unfold NB at hN';rw[Qfv,QcY];simp only[Qac,Qad,QaN,Xa];have hr:=Xkb hN hs hl ht N 0 w [] ab ab hc hh hqn rfl (λi y e=>by grind);rw[show((0:Nat):Int)=0 from rfl]at hr;rcases hr with⟨e,e0,e1,e2⟩|⟨w',out,c1,c2,c6,c3,c4,c5,e1,e2⟩
 .simp_all[e1,Xa,Xy,e2]
 exact .inr ⟨w',out,c1,c2,c6,c3,c4,c5,by rw[e1,Xa,Xo],by rw[e2,Xa,Xo]⟩
end
section
variable {N:Nat}{h0:Wh}{l:List Int}
def Xqm{w:Wu}{O:Int->Prop}{s:Int->Int}(ho:Oz h0 l w O s)(hh:OC h0 l w){p x:Int}(hp:O p)(h1:p<x)(h2:x<p+s p){v:Int}(tv:tU v):
 OC h0 l {w with h:={w.h with w:=w.h.w.set (ix x) v}}:=by
 have hf:=ho.fit p hp;have hin:inW w.h.w x:=by unfold inW;omega
 have wd1:∀b,O b->wd (w.h.w.set (ix x) v) b=wd w.h.w b:=λb hb=>by
  have:b≠x:=by
   rintro rfl;by_cases he:b=p
   .omega
   have:=ho.apart b p hb hp he;have:=ho.fit b hb;omega
  rw[XbQ hin (ho.fit b hb).1,Wk this]
 refine⟨λb hb=>?_,λb hb hq hf=>?_,λb hb hf=>?_,λy hy=>?_,hh.ss,hh.k1,hh.pr,λb hb hf=>?_,hh.bm,hh.ol⟩
 .rw[wd1 b (ho.queue b hb)];exact hh.q b hb
 .rw[wd1 b (ho.old b hb).1]at hf⊢;exact hh.old b hb hq hf
 .rw[wd1 b (ho.old b hb).1]at hf⊢;exact hh.fw b hb hf
 .rcases WZ hy with hy|hy
  .exact hh.ws y hy
  simp_all
 rw[wd1 b (ho.old b hb).1];exact hh.hw b hb hf
def XhQ(hN:NB N)(hs:Start N h0 l){p z u:Int}{ks:List Int}(hkl:ks.length<=255)(hpi:wI (wI (pgi h0.c p*h0.c.W)+u)=p-4096)(hp0:4096<=p)(hz0:1<=z)(hz1:z<=256)(hz:p-4096+z<=h0.w.length):
 ∀(n k:Nat) (w:Wu) (O:Int->Prop) (s:Int->Int),k<=ks.length->ks.length-k<n->CI h0 l w->Oz h0 l w O s->OC h0 l w->QN l w->O p->(∀k∈ks,0<=k/\k<255/\k+1<s p/\k+1<z) ->
 (∃e,e≠0/\(∃t,Qe3 N h0.c.W z (pgi h0.c p,u,0) ks n k w.h.c.W w.h.c.p w.h.s w.h.b w.d w.r.j w.r.K w.r.F w.r.E w.r.f w.r.y w.h.w w.h.p w.o w.t w.q=some (.ret (e,t))) /\
  Qbd N p ks n k w.h.c.W w.h.c.p w.h.w w.h.p w.h.s w.h.b w.o w.t w.q w.d w.r.j w.r.K w.r.F w.r.E w.r.f w.r.y=some (.ret (zWk,false,e))) \/
 ∃w',CI h0 l w'/\OC h0 l w'/\QN l w'/\KeepW w w'/\w.q.length<=w'.q.length /\
  Qe3 N h0.c.W z (pgi h0.c p,u,0) ks n k w.h.c.W w.h.c.p w.h.s w.h.b w.d w.r.j w.r.K w.r.F w.r.E w.r.f w.r.y w.h.w w.h.p w.o w.t w.q=some (.nxt (w'.h.c.W,w'.h.c.p,w'.h.s,w'.h.b,w'.d,w'.r.j,w'.r.K,w'.r.F,w'.r.E,w'.r.f,w'.r.y,w'.h.w,w'.h.p,w'.o,w'.t,w'.q)) /\
  Qbd N p ks n k w.h.c.W w.h.c.p w.h.w w.h.p w.h.s w.h.b w.o w.t w.q w.d w.r.j w.r.K w.r.F w.r.E w.r.f w.r.y=some (.nxt (w'.h.c.W,w'.h.c.p,w'.h.w,w'.h.p,w'.h.s,w'.h.b,w'.o,w'.t,w'.q,w'.d,w'.r.j,w'.r.K,w'.r.F,w'.r.E,w'.r.f,w'.r.y))
 |0,k,w,O,s,_,hn,_,_,_,_,_,_=>by omega
 |n+1,k,w,O,s,hi,hn,hc,ho,hh,hqn,hp,hk=>by
  have hN':=hN;unfold NB at hN';have hb1:=hs.hb.1;rw[Qe3,Qbd];by_cases h:k<ks.length
  .have⟨k0,k1,k2,k3⟩:=hk _ (Wy h);have hwl:=hc.wlen;have eta:(⟨⟨⟨w.h.c.W,w.h.c.p⟩,w.h.w,w.h.p,w.h.s,w.h.b⟩,w.o,w.t,w.q,w.d,⟨w.r.j,w.r.K,w.r.F,w.r.E,w.r.f,w.r.y⟩⟩:Wu)=w:=rfl;have ex:ix (p+1+ks[k])=(p-4096).toNat+(1+ks[k]).toNat:=by unfold ix;omega
   have gp:∀ws:List Int,ws.length=h0.w.length->KP ws (p-4096).toNat ((p-4096+z).toNat-(p-4096).toNat) (1+ks[k])=some (wd ws (p+1+ks[k])):=by intro ws hw;rw[XcM ab ab ab];unfold wd;rw[ex,Wj,Wb ab];rfl
   rw[eta,Xl h,Wc,Wc,Xf,Wb h,Xa,Xa,Xg ab];rw[hpi,Xe (n:=p-4096+z) ab ab,Xe (n:=1+ks[k]) ab ab,gp _ hwl,Xa];rw[XE (n:=p+1) ab ab,XE (n:=ks[k]) ab ab,XE (n:=p+1+ks[k]) ab ab];rw[Yp (hc.wl hs.hb),Xa,Wn (by unfold inW;omega)];rw[show w.h.w.getD (ix (p+1+ks[k])) 0=wd w.h.w (p+1+ks[k])from rfl];rcases Xn3 hN hs hc ho hh hqn (Xcp hh.ws (p+1+ks[k]))with⟨r,w2,er,e0,eg⟩|⟨w',to,er,q,hh',tt,tz,hkw,hqn',eg⟩
   .refine .inl ⟨r.2.2,e0,?_,?_⟩
    .simp[eg,Xa,Xn,e0,Wc]
    rw[er,Xa,Xn e0,Wc];rfl
   have⟨O',s',ho',hx⟩:=q.ob;have⟨hp',hs'⟩:=hx p hp;have st:=XfH q.ci ho' hp' (x:=p+1+ks[k]) ab ab to;have sh:=Xqm ho' hh' hp' (x:=p+1+ks[k]) ab ab tt;rw[eg,er,Xa,Xa,show((0:Int) != 0)=false from rfl,Wa,Wa];rw[gp _ q.ci.wlen,Xa,KK (q.ci.wl hs.hb) ab,Xa,Wn st.1,←ex];rcases XhQ hN hs hkl hpi hp0 hz0 hz1 hz n (k+1) {w' with h:={w'.h with w:=w'.h.w.set (ix (p+1+ks[k])) to}} O' s' ab ab st.2.1 st.2.2 sh hqn' hp' (λk' hk'=>by simp_all)with h|⟨w'',c1,c2,c3,c4,c5,c6,c7⟩
   .grind
   exact .inr ⟨w'',c1,c2,c3,KeepW.trans (b:={w' with h:={w'.h with w:=w'.h.w.set (ix (p+1+ks[k])) to}}) (by unfold KeepW at hkw⊢;grind) c4,UK q.ql c5,c6,c7⟩
  obtain rfl:k=ks.length:=ab;rw[XG,Wa,Wa];exact .inr ⟨w,hc,hh,hqn,rfl,Un _,rfl,rfl⟩
theorem Xs9(n:Int):wI n=if n % 18446744073709551616>=9223372036854775808 then n % 18446744073709551616-18446744073709551616 else n % 18446744073709551616:=by have e1:IntKind.bits .i64=64:=rfl;have e2:IntKind.signed .i64=true:=rfl;simp[wI,IntKind.wrap,e1,e2]
def Xta(a b:Int):wI (wI a+b)=wI (a+b):=by grind[Xs9]
def Xun(a b:Int):wI (a+wI b)=wI (a+b):=by rw[Int.add_comm a,Xta,Int.add_comm b]
def Xn5(hN:NB N)(hs:Start N h0 l):∀(n:Nat) (w:Wu),CI h0 l w->OC h0 l w->QN l w->0<=w.d->w.d<=w.q.length->(100001-w.d).toNat<n ->
 (∃e,e≠0/\Qe4 N n w.h.c.W w.h.c.p w.h.s w.h.b w.d w.r.j w.r.K w.r.F w.r.E w.r.f w.r.y w.h.w w.h.p w.o w.t w.q=some (zWk,e) /\
  QbP N n w.h.c.W w.h.c.p w.h.w w.h.p w.h.s w.h.b w.o w.t w.q w.d w.r.j w.r.K w.r.F w.r.E w.r.f w.r.y=some (zWk,e)) \/
 ∃w',CI h0 l w'/\OC h0 l w'/\QN l w' /\
  Qe4 N n w.h.c.W w.h.c.p w.h.s w.h.b w.d w.r.j w.r.K w.r.F w.r.E w.r.f w.r.y w.h.w w.h.p w.o w.t w.q=some (w',0) /\
  QbP N n w.h.c.W w.h.c.p w.h.w w.h.p w.h.s w.h.b w.o w.t w.q w.d w.r.j w.r.K w.r.F w.r.E w.r.f w.r.y=some (w',0)
 |0,w,_,_,_,_,_,hn=>by omega
 |n+1,w,hc,hh,hqn,g0,g1,hn=>by
  have hN':=hN;unfold NB at hN';have hb:=hs.hb;have hql:=hc.ql hb;have hwl:=hc.wl hb;have hww:=hc.wlen;have hb1:=hb.1;have eta:(⟨⟨⟨w.h.c.W,w.h.c.p⟩,w.h.w,w.h.p,w.h.s,w.h.b⟩,w.o,w.t,w.q,w.d,⟨w.r.j,w.r.K,w.r.F,w.r.E,w.r.f,w.r.y⟩⟩:Wu)=w:=rfl;have etc:(⟨w.h.c.W,w.h.c.p⟩:WR)=h0.c:=hc.conf;rw[Qe4,QbP,eta,Qea,XF,etc,We (p:=w.d<0) ab,Wa,Xb ab];by_cases hlt:w.d<w.q.length;rotate_left
  .rw[Wg (p:=w.d>=_) ab,Wc,Wc,Xa];exact .inr ⟨w,hc,hh,hqn,rfl,rfl⟩
  rw[We (p:=w.d>=_) ab,Wa,Wa,Yi g0 hlt,Xa,Xa];have hpm:w.q[w.d.toNat]'ab∈w.q:=Wy _;generalize w.q[w.d.toNat]'ab=p at hpm⊢;have hne:l≠[]:=λe=>by rw[hqn e]at hpm;grind
  have hp:=hs.prop hne;have hwd0:=hp.words;have⟨O,s,ho⟩:=hc.obj;have hOp:=ho.queue p hpm;have hf:=ho.fit p hOp;have hok:=hh.q p hpm;have hrng:4096<=p/\p<4096+h0.c.p*h0.c.W:=ab;have⟨o1,o2⟩:=XjW (N:=N) hp.conf hrng;have tw:=Xcp hh.ws p;have hsw:=XI w.h.w p;have e1:XM (Zj (wd w.h.w p))=szA w.h.w p:=hsw.1;have gp:∀n:Nat,1<=n->KP w.h.w (p-4096).toNat n 0=some (wd w.h.w p):=by intro n hn;rw[XcM ab ab ab];unfold wd ix;rw[Wj,Wb ab];simp
  rw[Qdi,Yp hwl,Xa,Wn (by unfold inW;omega),ZN,Xa,Xa,Xdh ab,Xa];rw[show w.h.w.getD (ix p) 0=wd w.h.w p from rfl];rw[o1,Xa];have ecp:w.h.c.W=h0.c.W:=by rw[hc.conf]
  rw[ecp,show((0:Int) != 0)=false from rfl,Wa,Xb ab,o2,Xe (n:=(w.h.w.length:Int)-(p-4096)) ab ab,We ab,Wa,Xe (n:=p-4096+1) ab ab,Xb ab,
   gp _ ab,Xa,XdL ab tw,Xa]
  rw[hok,ZO ab,Xa,e1,Xa];dsimp only;rw[show((0:Int) != 0)=false from rfl,Wa,o2,Xe (n:=(w.h.w.length:Int)-(p-4096)) ab ab,We ab,Wa,Xe (n:=p-4096+szA w.h.w p) ab ab,Xb ab,Xb ab,Wi,Wa,XeV ab _ (Z1 _),Xa];have hkl:=J9 (hdA w.h.w p);have hg:=XhQ hN hs (p:=p) (z:=szA w.h.w p) (u:=pgo h0.c p) (ks:=XW (hdA w.h.w p)) hkl o2 hf.1 hsw.2.1 hsw.2.2 ab N 0 w O s ab ab hc ho hh hqn hOp λk hk=>by have h1:=Zt hk;have h2:szA w.h.w p=(hdA w.h.w p).n+1:=rfl;omega
  rw[show((0:Nat):Int)=0 from rfl,ecp]at hg;rcases hg with⟨e,e0,⟨t,e2⟩,e3⟩|⟨w',c1,c2,c3,c4,c5,e2,e3⟩
  .refine .inl ⟨e,e0,?_,?_⟩
   .rw[show Zj (wd w.h.w p)=hdA w.h.w p from rfl,e2,Xa,Xy,Xn e0,Wc];rfl
   rw[show Zj (wd w.h.w p)=hdA w.h.w p from rfl,e3,Xa,Xy,Xa,Xn e0,Wc];rfl
  rw[show Zj (wd w.h.w p)=hdA w.h.w p from rfl,e2,e3,Xa,Xa,Xo,Xo,Xa];have esc:w'.d=w.d:=by unfold KeepW at c4;rw[c4]
  have ee:wI (w'.d+1)=w.d+1:=by rw[esc,Xe ab ab]
  have est:wI (w'.r.y+wI (1+(((XW (hdA w.h.w p)).length:Nat):Int)))=wI (wI (w'.r.y+1)+(((XW (hdA w.h.w p)).length:Nat):Int)):=by rw[Xun,Xta,Int.add_assoc]
  rw[est];have c1':CI h0 l {w' with d:=wI (w'.d+1),r:={w'.r with y:=wI (wI (w'.r.y+1)+(((XW (hdA w.h.w p)).length:Nat):Int))}}:=by refine⟨c1.conf,c1.wlen,c1.plen,c1.spc,c1.old,c1.tk,c1.tnd,c1.knd,c1.qnd,?_⟩;obtain⟨O,s,h⟩:=c1.obj;exact⟨O,s,⟨h.old,h.queue,h.fit,h.apart,h.taken,h.free⟩⟩
  exact Xn5 hN hs n _ c1' ⟨c2.q,c2.old,c2.fw,c2.ws,c2.ss,c2.k1,c2.pr,c2.hw,c2.bm,c2.ol⟩ c3 (by grind) (by grind) (by grind)
def Xr5(hN:NB N)(hs:Start N h0 l){w:Wu}(hc:CI h0 l w)(hh:OC h0 l w)(hqn:QN l w)(g0:0<=w.d)(g1:w.d<=w.q.length):
 (∃e,e≠0/\Qf2 N w=some (zWk,e)/\Qeh N w=some (zWk,e)) \/
 ∃w',CI h0 l w'/\OC h0 l w'/\QN l w'/\Qf2 N w=some (w',0)/\Qeh N w=some (w',0):=by
 have hN':=hN;unfold NB at hN';rw[Qf2,Qeh];simp only[Qac,Qad,QaN,Xa];rcases Xn5 hN hs N w hc hh hqn g0 g1 ab with⟨e,e0,e1,e2⟩|⟨w',c1,c2,c3,e1,e2⟩
 .simp_all[e1,Xa,e2]
 exact .inr ⟨w',c1,c2,c3,by rw[e1,Xa],by rw[e2,Xa]⟩
end
section
variable {N:Nat}{h0:Wh}{l:List Int}
def lpg(N:Nat)(h:Wh)(i:Nat):List Int:=match Qaf N h (i:Int)with|some r=>r.1|none=>[]
def lps(N:Nat)(h:Wh)(k:Nat):Nat->List Int
 |0=>[]
 |m+1=>lpg N h k++lps N h (k+1) m
def Xe6(hb:HB h0)(hp:∀i:Nat,i<h0.p.length->∃l,Qaf N h0 (i:Int)=some (l,0)/\l.length<=64):∀(n k:Nat) (v:List Int),k<=h0.p.length->h0.p.length-k<n->v.length<=64*k->QaG N h0 n (k:Int) v=some (.nxt (v++lps N h0 k (h0.p.length-k)))
 |0,k,v,_,hn,_=>by omega
 |n+1,k,v,hk,hn,hv=>by
  have hb2:=hb.2;rw[QaG];by_cases h:k<h0.p.length
  .have⟨l,e,hl⟩:=hp k h;rw[Xl h,Wc,e,Xa,show(((0:Int)) != 0)=false from rfl,Wa,Xb (by grind),Xg ab,Xe6 hb hp n (k+1) _ ab ab (by grind),Ua,show h0.p.length-k=(h0.p.length-(k+1))+1 by omega,lps,lpg,e]
  obtain rfl:k=h0.p.length:=ab;simp[XG,Wa,Ie,lps,Ib]
structure Sa(N:Nat)(h:Wh)(L:List Int):Prop where
 ep:Qaa N h=some true
 eg:Qbj N h=some true
 st:Start N h L
 eL:L=lps N h 0 h.p.length
 pg:∀i:Nat,i<h.p.length->Qaf N h (i:Int)=some (lpg N h i,0)/\PageL N h (i:Int) (lpg N h i)
 ob:Qal N h=some (Yn h L,0)
def Xr6(hN:NB N)(ht:HT h0)(eg:Qbj N h0=some true):∃L,Sa N h0 L:=by
 have hN':=hN;unfold NB at hN';have hb:=ht.hb;have⟨b,eb,hgd⟩:=KF hN hb;rw[eg]at eb;obtain rfl:=WE eb;have hg:=hgd rfl;have hp:=hg.prop;have ep:Qaa N h0=some true:=by
  obtain⟨b,eb⟩:=Jk (N:=N) hN hb;cases b with
  |true=>exact eb
  |false=>rw[Qbj,QeW,eb,Xa,Ui,Wc,Xa]at eg;cases eg
 have hpg:∀i:Nat,i<h0.p.length->Qaf N h0 (i:Int)=some (lpg N h0 i,0)/\PageL N h0 (i:Int) (lpg N h0 i)/\(lpg N h0 i).length<=64:=λi hi=>by
  obtain⟨r,er,hr1,hr2⟩:=Qfw hN hb hp (i:Int) ab ab;have h2:=(hg.small i ab ab r er).2;have e:lpg N h0 i=r.1:=by unfold lpg;rw[er]
  rw[e];refine⟨?_,hr1,hr2⟩;rw[er];congr 1;exact Prod.ext rfl h2
 have es:=Xe6 hb (λi hi=>⟨_,(hpg i hi).1,(hpg i hi).2.2⟩) N 0 [] ab (by have:=hb.2;omega) ac;have est:Qby N h0=some (lps N h0 0 h0.p.length,0):=by rw[Qby,ep,Xa,Wi,Wa,show(0:Int)=((0:Nat):Int)from rfl,es,Xa,Xo,Ue,Nat.sub_zero]
 have⟨r,er,hst,_,_⟩:=J8 hN hb;rw[est]at er;obtain rfl:=WE er;refine⟨_,ep,eg,⟨hb,λ_=>hg,λ_=>hp,hst⟩,rfl,λi hi=>⟨(hpg i hi).1,(hpg i hi).2.1⟩,?_⟩;have hlen:(lps N h0 0 h0.p.length).length<=4096:=hst.len;have:=Xas (N:=N) (h:=h0) (lps N h0 0 h0.p.length,0) (by show(lps N h0 0 h0.p.length).length<=_;omega) hst.obj.ev N 0 [] ab (by show(lps N h0 0 h0.p.length).length-0<_;omega) ac;rw[show((0:Nat):Int)=0 from rfl,W3,Ue]at this;simp[Qal,est,Xa,this]
def XiU(y3:List Int×Int)(y4:List Int)(y5:List Wr)(hl:h0.p.length<=100000)(h5:y5.length=h0.p.length):∀(n k:Nat) (v:List Wr),k<=h0.p.length->h0.p.length-k<n->v.length=h0.p.length->(∀j:Nat,k<=j->pg v j=pg h0.p j) ->
 ∃r,QbB N h0 y3 n (k:Int) v=some r/\Qb4 N h0 y3 y4 y5 n (k:Int) v=some r/\r.length=h0.p.length/\∀j:Nat,pg r j=if j<k\/¬((pg h0.p j).k=1/\(pg h0.p j).P>0)then pg v j else⟨1,wI (1-h0.s),(pg h0.p j).u,(pg h0.p j).P⟩
 |0,k,v,_,hn,_,_=>by omega
 |n+1,k,v,hk,hn,hv,hj=>by
  rw[QbB,Qb4,Xb ab,hv,h5];by_cases h:k<h0.p.length
  .rw[Xl h,Wc,Wc,Xq (ps:=v) (i:=(k:Int)) ab ab,Xa,Xa,Xg ab];simp only[Xa,hj k (Un k)];by_cases hc:(pg h0.p k).k=1/\(pg h0.p k).P>0
   .have e2:=λx:Nat=>Y0 (ps:=v) (i:=(k:Int)) (j:=(x:Int)) ⟨(pg h0.p k).k,wI (1-h0.s),(pg h0.p k).u,(pg h0.p k).P⟩ ab ab ab;obtain⟨r,r1,r2,r3,r4⟩:=XiU y3 y4 y5 hl h5 n (k+1) (v.set (k:Int).toNat ⟨(pg h0.p k).k,wI (1-h0.s),(pg h0.p k).u,(pg h0.p k).P⟩) ab ab (by rw[WL];exact hv) λj hkj=>by rw[e2 j,Wk ab];exact hj j ab
    grind
   have⟨r,r1,r2,r3,r4⟩:=XiU y3 y4 y5 hl h5 n (k+1) v ab ab hv λj hkj=>hj j ab;grind
  obtain rfl:k=h0.p.length:=ab;rw[XG,Wa,Wa];refine⟨v,rfl,rfl,hv,λj=>?_⟩;by_cases hq:j<h0.p.length\/¬((pg h0.p j).k=1/\(pg h0.p j).P>0)
  .simp_all
  exfalso;apply hq;right;intro hh;have:pg h0.p j=Zb:=by unfold pg;rw[Wj,WP ab];rfl
  rw[this]at hh;exact absurd hh.1 ag
def Xn6(hN:NB N)(ht:HT h0){L:List Int}(hB:Sa N h0 L):∃w,Qeq N h0=some (w,0)/\QcX N h0=some (w,0)/\CI h0 L w/\OC h0 L w/\QN L w/\w.d=0:=by
 have hN':=hN;unfold NB at hN';have hb:=ht.hb;have hb2:=hb.2;have ep:=hB.ep;have hp:=Xz hN hb ep;have hs:=hB.st.st;have hsp:=hp.space;have hw:wI (1-h0.s)=1-h0.s:=Xe ab ab;have hspn:=VA hN hb ep;have⟨r,r1,r2,r3,r4⟩:=XiU (N:=N) (h0:=h0) (Yn h0 L,0) h0.w h0.p ab rfl N 0 h0.p ab ab rfl λ_ _=>rfl;rw[show((0:Nat):Int)=0 from rfl]at r1 r2;have r5:∀j,0<=j->((pg h0.p j).k=1/\(pg r j)=⟨1,1-h0.s,(pg h0.p j).u,(pg h0.p j).P⟩)\/pg r j=pg h0.p j:=λj hj=>by
  obtain⟨m,rfl⟩:∃m:Nat,j=m:=⟨j.toNat,ab⟩
  grind
 have hk:SameK h0.p r:=⟨r3,λj hj=>by grind⟩
 have ci:=Xdp hb hp hs (w:=⟨⟨h0.c,h0.w,r,h0.s,h0.b⟩,Yn h0 L,[],[],0,⟨0,0,0,0,0,0⟩⟩) rfl rfl rfl hk List.filter_sublist rfl rfl;refine⟨⟨⟨h0.c,h0.w,r,h0.s,h0.b⟩,Yn h0 L,[],[],0,⟨0,0,0,0,0,0⟩⟩,?_,?_,ci,⟨λa ha=>(by grind),λa ha _ _=>(hs.obj.at_ a ha).ok,λa ha hf=>?_,ht.tw,?_,λi hi hk1=>by grind,λi hi=>?_,λ_ _ _=>rfl,rfl,rfl⟩,λ_=>rfl,rfl⟩
 .rw[Qeq,YJ hb2 ab,ep,Xa,Wi,Wa,XdQ hN ht,hB.eg,Xa,Wi,Wa,JH hN ht,hB.ob,Xa];simp only[Qac,Qad,Xa];rw[show((0:Int) != 0)=false from rfl,Wa,Xb ab,r2,Xa]
 .rw[QcX,ep,Xa,Wi,Wa,hB.eg,Xa,Wi,Wa,hB.ob,Xa,Xb ab,r1,Xa]
 .have:=XcN (Xcp ht.tw a) (hs.obj.at_ a ha).ok;simp_all
 .refine Xbw hspn r3 (λi i0 i1=>?_) λi m i0 ik m1 m2 m3=>?_
  .have hb:=hspn.hd i i0 i1;rcases r5 i i0 with⟨a,b⟩|b
   .have:=(hb ab).k1 a;have:=(hb ab).pn;rw[b];exact .inl ⟨ab,rfl,⟨by show 0<=1-h0.s;omega,by show 1-h0.s<=1;omega⟩,ah,by dsimp only;omega,by dsimp only;omega⟩
   simp_all
  have tl:=((hspn.hd i i0 ab ab).k2 ik).2.2 m m1 m2;grind
 have:=hk.2 i hi.1.1;rw[show(pg r i).k=1 from hi.2.1]at this;simp_all
end
section
variable {N:Nat}{h0:Wh}{l:List Int}
def Xr7(hN:NB N){h:Wh}(hb:HB h)(ep:Qaa N h=some true){a:Int}(ha:IE h a):Qao N h a=some (hdA h.w a,0):=by
 have hp:=Xz hN hb ep;have hr:=ha.rng;have⟨_,q0,q1,q2,q3⟩:=XZ hp.conf hr;have hpl:=hp.pages;have hw:=hp.words;have hk:=ha.kind;have hu:=ha.used;have hsz:=XI h.w a;have hv:=Xh.1 hp.conf;have e1:XM (Zj (wd h.w a))=szA h.w a:=hsz.1;rw[Qao,ep,Xa,Wi,Wa,KX,hp.conf,Wk ac,Wn hr,Xa];rw[show(a-4096) / h.c.W=pgi h.c a from rfl,show(a-4096) % h.c.W=pgo h.c a from rfl];rw[Xq q0 ab,Xa,Yp (by have:=hb.1;unfold BIG;omega),Xa,Wn (by unfold inW;omega),ZN,Xa,XF,X4,Xa];rw[show h.w.getD (ix a) 0=wd h.w a from rfl,ha.ok,e1,We (show¬pgo h.c a>=(pg h.p (pgi h.c a)).u by omega),Wi];rcases hk with hk|hk
 .have:=ha.small hk;rw[show((pg h.p (pgi h.c a)).k != 1)=false by grind,Wa,Xv hk,Wc,Xe (n:=pgo h.c a+szA h.w a) ab ab,We ab,Wa,show((pg h.p (pgi h.c a)).k==2)=false by grind,Wa];rfl
 have:=ha.large hk;rw[show((pg h.p (pgi h.c a)).k != 1)=true by grind,Wc,show((pg h.p (pgi h.c a)).k != 2)=false by grind,Wa,Xm ab,Wa,Xv hk,Wc,this.1,this.2];simp;rfl
def IE.same{h h2:Wh}(hc:h2.c=h.c){a:Int}(ha:IE h a)(hk:(pg h2.p (pgi h.c a)).k=(pg h.p (pgi h.c a)).k)(hu:(pg h2.p (pgi h.c a)).u=(pg h.p (pgi h.c a)).u)(hw:wd h2.w a=wd h.w a):IE h2 a:=by
 have hs:szA h2.w a=szA h.w a:=by unfold szA hdA;rw[hw]
 refine⟨by rw[hc];exact ha.rng,?_,by rw[hw];exact ha.ok,?_,λh=>?_,λh=>?_⟩<;>rw[hc]at *
 .rw[hk];exact ha.kind
 .rw[hu];exact ha.used
 .rw[hk]at h;rw[hu,hs];exact ha.small h
 rw[hk]at h;rw[hu,hs];exact ha.large h
def QnH{h h2:Wh}(hc:h2.c=h.c){i:Int}{p p2:Wr}(hu:p2.u=p.u)(hk:p2.k=p.k):∀(n:Nat) (o:Int) (v r:List Int),Qah N h i p n o v=some (.nxt r)->(∃t,r=v++t)/\((∀b∈r,Qao N h2 b=Qao N h b)->Qah N h2 i p2 n o v=some (.nxt r))
 |0,o,v,r,e=>by simp_all[Qah]
 |n+1,o,v,r,e=>by
  rw[Qah]at e;rw[Qah,hu,hk,hc];cases h1:decide (o<p.u)with
  |false=>simp_all
  |true=>
   rw[h1,Wc]at e;rw[Wc];cases h2':Qbv N h.c i o with
   |none=>simp_all[h2',Kv]
   |some y=>
    rw[h2',Xa]at e;rw[Xa];cases h3:Qao N h y.1 with
    |none=>simp_all[h3,Kv]
    |some z=>
     rw[h3,Xa]at e;cases h4:z.2 != 0 with
     |true=>simp_all
     |false=>
      rw[h4,Wa]at e;by_cases h5:(v.length+1)*8<=140737488355328;rotate_left
      .unfold grd at e;simp_all
      rw[Xb h5]at e;have key:∀t,r=v++[y.1]++t->y.1∈r:=λt ht=>by simp_all
      cases h6:p.k==2 with
      |true=>rw[h6,Wc]at e;cases e;refine⟨⟨[y.1],rfl⟩,λhb=>?_⟩;rw[hb y.1 ac,h3,Xa,h4,Wa,Xb h5,Wc]
      |false=>rw[h6,Wa,X4,Xa]at e;have⟨⟨t,ht⟩,q⟩:=QnH hc hu hk n _ _ r e;refine⟨⟨[y.1]++t,by rw[ht,Ua]⟩,λhb=>?_⟩;rw[hb y.1 (key t ht),h3,Xa,h4,Wa,Xb h5,Wa,X4,Xa];simp_all
def Qmd{h:Wh}{i:Int}{p:Wr}{a:List Int×Int}:∀(n:Nat) (o:Int) (v:List Int),Qah N h i p n o v=some (.ret a)->a.2=19
 |0,o,v,e=>by simp_all[Qah]
 |n+1,o,v,e=>by
  rw[Qah]at e;cases h1:decide (o<p.u)with
  |false=>simp_all
  |true=>
   rw[h1,Wc]at e;cases h2':Qbv N h.c i o with
   |none=>simp_all[h2',Kv]
   |some y=>
    rw[h2',Xa]at e;cases h3:Qao N h y.1 with
    |none=>simp_all[h3,Kv]
    |some z=>
     rw[h3,Xa]at e;cases h4:z.2 != 0 with
     |true=>grind
     |false=>
      rw[h4,Wa]at e;by_cases h5:(v.length+1)*8<=140737488355328;rotate_left
      .unfold grd at e;simp_all
      rw[Xb h5]at e;cases h6:p.k==2 with
      |true=>simp_all
      |false=>rw[h6,Wa,X4,Xa]at e;exact Qmd n _ _ e
def QnR{h h2:Wh}(hc:h2.c=h.c)(hl:h2.p.length=h.p.length)(ep:Qaa N h=some true)(ep2:Qaa N h2=some true){i:Int}(i0:0<=i)(i1:i<h.p.length)(hk:(pg h2.p i).k=(pg h.p i).k)(hu:(pg h2.p i).u=(pg h.p i).u){r:List Int}(e:Qaf N h i=some (r,0))(hb:∀b∈r,Qao N h2 b=Qao N h b):Qaf N h2 i=some (r,0):=by
 rw[Qaf,ep,Xa,Wi,Wa,We ab,Wa,We ab,Wa,Xq i0 i1,Xa]at e;rw[Qaf,ep2,Xa,Wi,Wa,We ab,Wa,We ab,Wa,Xq i0 ab,Xa,hk];cases h1:(pg h.p i).k==0 with
 |true=>simp_all
 |false=>
  cases h2':(pg h.p i).k==3 with
  |true=>simp_all
  |false=>
   rw[h1,Wa,h2',Wa]at e;rw[Wa,Wa];cases h3:Qah N h i (pg h.p i) N 0 []with
   |none=>simp_all[h3,Kv]
   |some x=>
    rw[h3,Xa]at e;cases x with
    |ret a=>rw[Xy]at e;cases e;exact absurd (Qmd _ _ _ h3) ac
    |nxt v=>rw[Xo]at e;cases e;rw[(QnH hc hu hk N 0 [] r h3).2 hb,Xa,Xo]
def Xr8{L:List Int}(hs:IC N h0 L){a b:Int}(ha:a∈L)(hb:b∈L)(hab:a≠b):a+szA h0.w a<=b\/b+szA h0.w b<=a:=by have hpw:=hs.obj.pw;rw[Ul]at hpw;have⟨i,hi,ei⟩:=WA ha;have⟨j,hj,ej⟩:=WA hb;grind
instance(w:Wu)(i:Int):Decidable (Prm w i):=by unfold Prm;infer_instance
def XbA(h0:Wh)(a:Int):Int:=(hdA h0.w a).n
def fwr(h0:Wh)(v:List Int)(a:Int):List Int:=ovr v ([ZD ⟨0,XbA h0 a,0⟩]++List.replicate (XbA h0 a).toNat (0:Int)) (ix a)
def Kq(h0:Wh)(w:Wu)(x:List Int×Int)(a:Int):List Int×Int:=if Prm w (pgi h0.c a)/\a∉w.q then(fwr h0 x.1 a,wI (x.2+1))else x
structure VI(h0:Wh)(v:List Int):Prop where
 len:v.length=h0.w.length
 tu:∀x∈v,tU x
def vf{d:Int}(h:0<=d/\d<=255):XN ⟨0,d,0⟩=true:=by unfold XN;simp_all
def XiV(h0:Wh)(a:Int):0<=XbA h0 a/\XbA h0 a<=255/\szA h0.w a=XbA h0 a+1:=by have:=XQ (Z1 (wd h0.w a));exact⟨this.2.2.1,this.2.2.2,rfl⟩
def XiW(h0:Wh)(a x:Int):([x]++List.replicate (XbA h0 a).toNat (0:Int)).length=(XbA h0 a).toNat+1:=by simp
def Xqn(d:Wx):tU (ZD d):=by unfold ZD;simp
def Xr9{v:List Int}(hv:VI h0 v){a:Int}(h1:4096<=a)(h2:a+szA h0.w a<=4096+h0.w.length):VI h0 (fwr h0 v a)/\∀b,4096<=b->(b+1<=a\/a+szA h0.w a<=b)->wd (fwr h0 v a) b=wd v b:=by
 have hf:=XiV h0 a;have hl:=XiW h0 a (ZD ⟨0,XbA h0 a,0⟩);have hvl:=hv.len;have hi:ix a+([ZD ⟨0,XbA h0 a,0⟩]++List.replicate (XbA h0 a).toNat (0:Int)).length<=v.length:=by rw[hl];unfold ix;omega
 refine⟨⟨(ZC hi).trans hvl,λx hx=>?_⟩,λb hb hab=>?_⟩
 .rcases Wt.1 hx with hx|hx
  .rcases Wt.1 hx with hx|hx
   .exact hv.tu x (WS hx)
   rcases Wt.1 hx with hx|hx
   .rw[Ud.1 hx];exact Xqn _
   simp_all
  exact hv.tu x (WT hx)
 unfold wd fwr;rw[V0 hi,hl,Wk (by unfold ix;omega)]
def Xn7(hN:NB N){h:Wh}(hb:HB h)(ep:Qaa N h=some true){d a:Int}(hd:0<=d/\d<=255)(h1:4096<=a)(h2:a+(d+1)<=4096+h.w.length):QbJ N h a ⟨0,d,0⟩=some (⟨h.c,ovr h.w ([ZD ⟨0,d,0⟩]++List.replicate d.toNat (0:Int)) (ix a),h.p,h.s,h.b⟩,0):=by have hb1:=hb.1;rw[QbJ,K0,Wn (vf hd),ep,Xa,Xa,Wi,Wa];dsimp only;rw[show((0:Int) != 0)=false from rfl,Wa,Xb ab,Xb ab,ZU (by unfold BIG;omega) (by unfold BIG;simp;omega) (by simp;unfold NB at hN;omega),Wn (by unfold YE;simp;omega),Xa];rfl
def Xa2{w:Wu}{L:List Int}(hp:Uy h0)(hs:IC N h0 L){x:List Int×Int}(hv:VI h0 x.1){a:Int}(ha:a∈L):VI h0 (Kq h0 w x a).1/\∀b∈L,b≠a->wd (Kq h0 w x a).1 b=wd x.1 b:=by
 have hat:=hs.obj.at_ a ha;have hf:=KE hp hat;unfold Kq;split
 .have⟨q1,q2⟩:=Xr9 hv hat.rng.1 hf;refine⟨q1,λb hb hba=>q2 b (hs.obj.at_ b hb).rng.1 ?_⟩;have:=(XI h0.w b).2.1;rcases Xr8 hs hb ha hba with h|h<;>omega
 simp_all
def XaB{w:Wu}{L:List Int}(hp:Uy h0)(hs:IC N h0 L)(q:Int->Bool):∀(m:List Int) (x:List Int×Int),(∀a∈m,a∈L)->VI h0 x.1->VI h0 (m.foldl (λx a=>if q a then Kq h0 w x a else x) x).1/\∀b∈L,b∉m->wd (m.foldl (λx a=>if q a then Kq h0 w x a else x) x).1 b=wd x.1 b
 |[],x,_,hv=>⟨hv,λ_ _ _=>rfl⟩
 |a::m,x,hm,hv=>by
  rw[Iz];have h1:=Xa2 (w:=w) hp hs hv (hm a ac);cases hq:q a with
  |false=>obtain⟨r1,r2⟩:=XaB hp hs q m x (λb hb=>hm b (by grind)) hv;exact⟨r1,λb hb hbm=>r2 b hb λh=>hbm (by grind)⟩
  |true=>obtain⟨r1,r2⟩:=XaB hp hs q m (Kq h0 w x a) (λb hb=>hm b (by grind)) h1.1;exact⟨r1,λb hb hbm=>(r2 b hb λh=>hbm (by grind)).trans (h1.2 b hb λh=>hbm (by grind))⟩
end
section
variable {N:Nat}{h0:Wh}{L:List Int}
def Xgf(hN:NB N)(hb:HB h0)(hp:Uy h0)(hs:IC N h0 L){w:Wu}(hc:CI h0 L w)(hh:OC h0 L w)(hspn:OM h0.c w.h.p):∀(n k:Nat) (x:List Int×Int),k<=w.o.length->w.o.length-k<n->VI h0 x.1->(∀a∈w.o.drop k,Prm w (pgi h0.c a)->wd x.1 a=wd h0.w a) ->
 QaB N w n (k:Int) x.1 x.2=some ((w.o.drop k).foldl (Kq h0 w) x)
 |0,k,x,_,hn,_,_=>by omega
 |n+1,k,x,hk,hn,hv,hw=>by
  have hN':=hN;unfold NB at hN';have hb1:=hb.1;have hql:=hc.ql hb;have htl:=hc.tl hb;have hol:=hc.old.length_le;have hsl:=hs.len;have hspc:=hc.spc;have hsp:=hp.space;rw[QaB];by_cases h:k<w.o.length;rotate_left
  .grind
  have hdr:=Wm h;have haL:w.o[k]∈L:=hc.old.subset (Wy h);have hpw:=(hs.obj.pw.sublist hc.old).drop (i:=k);rw[hdr]at hw hpw⊢;rw[U3]at hpw;rw[Xl h,Wc,Xf,Wb h,Xa,Xg ab,Iz];generalize w.o[k]=a at haL hw hpw⊢;have hat:=hs.obj.at_ a haL;have hr:=hat.rng;have hfit:=KE hp hat;have hof:Qb6 N w.h.c a=some (pgi h0.c a,pgo h0.c a,0):=by rw[KX,hc.conf,hp.conf,Wk ac,Wn hr];rfl
  have hlt:∀b∈w.o.drop (k+1),b∈L/\b≠a:=λb hb=>⟨hc.old.subset (WT hb),λe=>by have:=hpw.1 b hb;have:=(XI h0.w a).2.1;omega⟩
  have hpl:=hc.plen;have hb2:=hb.2;have⟨b,hbp,eb,_⟩:=Xf2 (N:=N) (w:=⟨⟨w.h.c,x.1,w.h.p,w.h.s,w.h.b⟩,w.o,w.t,w.q,w.d,⟨w.r.j,w.r.K,x.2,w.r.E,w.r.f,w.r.y⟩⟩) (i:=pgi h0.c a) hN htl (by simp_all) (by simp_all) hspn.sp;have hbp:b=true↔Prm w (pgi h0.c a):=hbp;rw[hof,Xa];rw[eb,Xa];have nxt:¬(Prm w (pgi h0.c a)/\a∉w.q)->QaB N w n ((k+1:Nat):Int) x.1 x.2=some ((w.o.drop (k+1)).foldl (Kq h0 w) (Kq h0 w x a)):=λhq=>by rw[show Kq h0 w x a=x from Wk hq];exact Xgf hN hb hp hs hc hh hspn n (k+1) x ab ab hv λb hb=>hw b (by grind)
  cases hbv:b with
  |false=>simp_all
  |true=>
   rw[Wi,Wa,Xa,Yb a ab ab,Xa];cases hqv:w.q.contains a with
   |true=>simp_all
   |false=>
    have hq:=YO hqv;have hpm:=hbp.1 hbv;have ewd:=hw a ac hpm;have hf:=XiV h0 a;have hvl:=hv.len;have eL:(Zj (wd x.1 a)).n=XbA h0 a:=by rw[ewd];rfl
    rw[Wa,Xa,Qdi,Yp (by show x.1.length<=_;unfold BIG;omega),Xa,Wn (by show inW x.1 a;unfold inW;omega),ZN,Xa,Xa];rw[show x.1.getD (ix a) 0=wd x.1 a from rfl,eL,K0,Wn (vf ab),Xa,Xa,Xb ab,Xb ab,ZU (by unfold BIG;omega) (by rw[XiW];unfold BIG;omega) (by grind),XiW,Wn (by unfold YE;omega),Xa];have⟨q1,q2⟩:=Xa2 (w:=w) hp hs hv haL;have ef:Kq h0 w x a=(fwr h0 x.1 a,wI (x.2+1)):=Wn ⟨hpm,hq⟩;rw[ef]at q1 q2⊢;exact Xgf hN hb hp hs hc hh hspn n (k+1) _ ab ab q1 λb hb hbp=>(q2 b (hlt b hb).1 (hlt b hb).2).trans (hw b (by grind) hbp)
def hpv(w:Wu)(v:List Int):Wh:=⟨w.h.c,v,w.h.p,w.h.s,w.h.b⟩
def XiX(hN:NB N)(hb:HB h0)(ep:Qaa N h0=some true){w:Wu}(hc:CI h0 L w)(hh:OC h0 L w){v:List Int}(hv:VI h0 v):Qaa N (hpv w v)=some true/\HT (hpv w v):=by
 have hp:=Xz hN hb ep;have hpl:=hc.plen;refine⟨?_,⟨?_,hv.tu⟩⟩
 .have:=hh.ss.proper hN hb ep (ws:=v) hv.len (b:=w.h.b) (by
   rw[hh.bm]
   rcases hp.bump with h|⟨a,b,c⟩
   .exact .inl h
   .exact .inr ⟨a,ab,hh.k1 _ a c⟩)
  unfold hpv
  simp_all[hc.conf,hc.spc]
 have:=hb.1;have:=hb.2;have:=hv.len;exact⟨by show v.length<=_;omega,by show w.h.p.length<=_;omega⟩
def Xn8(hN:NB N)(hb:HB h0)(ep:Qaa N h0=some true)(hs:IC N h0 L){w:Wu}(hc:CI h0 L w)(hh:OC h0 L w){v:List Int}(hv:VI h0 v){a:Int}(ha:a∈L)(hpm:Prm w (pgi h0.c a))(hw:wd v a=wd h0.w a):Qeo N (hpv w v) a=some (hdA h0.w a,0):=by have⟨e1,e2⟩:=XiX hN hb ep hc hh hv;have hat:=hs.obj.at_ a ha;have hpr:=hh.pr _ hpm;have hr:=hat.rng;have hp:=Xz hN hb ep;have h2:IE (hpv w v) a:=hat.same (h2:=hpv w v) hc.conf (by rw[hpr.1];exact hpm.2.1) hpr.2 hw;have hwl:=hp.words;have hb1:=hb.1;rw[Xb1 hN e2 (by unfold tU;omega),Xr7 hN e2.hb e1 h2];unfold hdA;rw[show(hpv w v).w=v from rfl,hw]
def Xeb(hN:NB N)(hb:HB h0)(ep:Qaa N h0=some true)(hs:IC N h0 L){w:Wu}(hc:CI h0 L w)(hh:OC h0 L w){i:Int}(hpm:Prm w i){m:List Int}(hm:m.Sublist L)(hmi:∀a∈m,pgi h0.c a=i):∀(n k:Nat) (x:List Int×Int),k<=m.length->m.length-k<n->VI h0 x.1->(∀a∈m.drop k,wd x.1 a=wd h0.w a) ->
 Qct N w (m,0) i n (k:Int) w.h.c.W w.h.c.p x.1 w.h.p w.h.s w.h.b x.2=some (w.h.c.W,w.h.c.p,((m.drop k).foldl (λx a=>if Y4 (fnd h0 a)then Kq h0 w x a else x) x).1,w.h.p,w.h.s,w.h.b,((m.drop k).foldl (λx a=>if Y4 (fnd h0 a)then Kq h0 w x a else x) x).2)
 |0,k,x,_,hn,_,_=>by omega
 |n+1,k,x,hk,hn,hv,hw=>by
  have hN':=hN;unfold NB at hN';have hb1:=hb.1;have hql:=hc.ql hb;have hol:=hm.length_le;have hsl:=hs.len;have hp:=Xz hN hb ep;rw[Qct];by_cases h:k<m.length;rotate_left
  .grind
  have hdr:=Wm h;have haL:m[k]∈L:=hm.subset (Wy h);have hai:=hmi _ (Wy h);have hpw:=(hs.obj.pw.sublist hm).drop (i:=k);rw[hdr]at hw hpw⊢;rw[U3]at hpw;rw[Xl h,Wc,Xf,Wb h,Xa,Xg ab,Iz];generalize m[k]=a at haL hw hpw hai⊢;have hat:=hs.obj.at_ a haL;have hr:=hat.rng;have hfit:=KE hp hat;have hlt:∀b∈m.drop (k+1),b∈L/\b≠a:=λb hb=>⟨hm.subset (WT hb),λe=>by have:=hpw.1 b hb;have:=(XI h0.w a).2.1;omega⟩
  have ewd:=hw a ac;have eat:=Xn8 hN hb ep hs hc hh hv haL (by simp_all) ewd;unfold hpv at eat;rw[show(⟨w.h.c.W,w.h.c.p⟩:WR)=w.h.c from rfl,eat,Xa];have nxt:=Xeb hN hb ep hs hc hh hpm hm hmi n (k+1) x ab ab hv λb hb=>hw b (by grind);have must0:Qam N 0=some ():=by rw[Qam];rfl
  rw[must0,Xa];by_cases hk0:(hdA h0.w a).k=0
  .have hl:Y4 (fnd h0 a)=false:=by unfold Y4 fnd;rw[Xv hk0];rfl
   simp_all
  have hl:Y4 (fnd h0 a)=true:=by unfold Y4 fnd;rw[Xm hk0];rfl
  rw[Xm hk0,Wa,hl,Wn rfl,V6 _ _ ab ab,Xa];cases hqv:w.q.contains a with
  |true=>rw[Wc,show Kq h0 w x a=x from Wk λh=>h.2 (Yf hqv)];omega
  |false=>have hq:=YO hqv;have hf:=XiV h0 a;have hvl:=hv.len;have hsz:=XI h0.w a;have⟨e1,e2⟩:=XiX hN hb ep hc hh hv;have ei:=Xn7 hN e2.hb e1 (d:=XbA h0 a) (a:=a) ab hr.1 (by show _<=4096+(x.1.length:Int);omega);rw[Wa,ZO ab,Xa,hsz.1,Qhf,We (show¬szA h0.w a<1 by omega),Wa,We (show¬szA h0.w a>256 by omega),Wa,Xe (n:=szA h0.w a-1) ab ab,show szA h0.w a-1=XbA h0 a by omega];have eg:=Xnw hN e2.hb (a:=a) ab (d:=⟨0,XbA h0 a,0⟩) ac;rw[ei]at eg;unfold hpv at eg;rw[eg,Xa,Xa];rw[must0,Xa];have⟨q1,q2⟩:=Xa2 (w:=w) hp hs hv haL;have ef:Kq h0 w x a=(fwr h0 x.1 a,wI (x.2+1)):=Wn ⟨by simp_all,hq⟩;rw[ef]at q1 q2⊢;exact Xeb hN hb ep hs hc hh hpm hm hmi n (k+1) _ ab ab q1 λb hb=>(q2 b (hlt b hb).1 (hlt b hb).2).trans (hw b (by grind))
def fF(h0:Wh)(w:Wu)(x:List Int×Int)(a:Int):List Int×Int:=if Y4 (fnd h0 a)then Kq h0 w x a else x
def Xkc{h:Wh}{a:Int}:∀(m k:Nat),a∈lps N h k m->∃i,k<=i/\i<k+m/\a∈lpg N h i
 |0,k,ha=>by cases ha
 |m+1,k,ha=>by
  rcases Wt.1 ha with ha|ha
  .grind
  have⟨i,h1,h2,h3⟩:=Xkc m (k+1) ha;grind
def Xkd{h:Wh}:∀(m k j:Nat),j<=m->(lps N h (k+j) (m-j)).Sublist (lps N h k m)
 |m,k,0,_=>List.Sublist.refl _
 |0,k,j+1,h=>by omega
 |m+1,k,j+1,hj=>by have:(lps N h (k+1+j) (m-j)).Sublist (lps N h (k+1) m):=Xkd m (k+1) j ab;rw[show k+1+j=k+(j+1) by omega,show m-j=m+1-(j+1) by omega]at this;simp_all[lps]
def Xke{w:Wu}:∀(m:List Int) (x:List Int×Int),(∀a∈m,¬Prm w (pgi h0.c a))->m.foldl (fF h0 w) x=x
 |[],x,_=>rfl
 |a::m,x,h=>by rw[Iz,show fF h0 w x a=x by unfold fF Kq;simp_all];exact Xke m x λb hb=>h b (by grind)
def Xec(hN:NB N)(hb:HB h0)(hB:Sa N h0 L){w:Wu}(hc:CI h0 L w)(hh:OC h0 L w):∀(n k:Nat) (x:List Int×Int),k<=h0.p.length->h0.p.length-k<n->VI h0 x.1->(∀a∈lps N h0 k (h0.p.length-k),Prm w (pgi h0.c a)->wd x.1 a=wd h0.w a) ->
 Qde N w n (k:Int) w.h.c.W w.h.c.p x.1 w.h.p w.h.s w.h.b x.2=some (w.h.c.W,w.h.c.p,((lps N h0 k (h0.p.length-k)).foldl (fF h0 w) x).1,w.h.p,w.h.s,w.h.b,((lps N h0 k (h0.p.length-k)).foldl (fF h0 w) x).2)
 |0,k,x,_,hn,_,_=>by omega
 |n+1,k,x,hk,hn,hv,hw=>by
  have hN':=hN;unfold NB at hN';have hpl:=hc.plen;have hb2:=hb.2;have htl:=hc.tl hb;have ep:=hB.ep;have hp:=Xz hN hb ep;have hs:=hB.st.st;have hsp:=hp.space;have hspc:=hc.spc;have hspn:=hh.spn hN hb ep;rw[Qde,hpl];by_cases h:k<h0.p.length;rotate_left
  .obtain rfl:k=h0.p.length:=ab;simp[XG,Wa,Ie,lps]
  rw[Xl h,Wc,Xg ab];have⟨b,hbp,_,eb⟩:=Xf2 (N:=N) (w:=⟨⟨w.h.c,x.1,w.h.p,w.h.s,w.h.b⟩,w.o,w.t,w.q,w.d,⟨w.r.j,w.r.K,x.2,w.r.E,w.r.f,w.r.y⟩⟩) (i:=(k:Int)) hN htl (by simp_all) (by simp_all) hspn.sp;have hbp:b=true↔Prm w (k:Int):=hbp;have ep2:Qd7 N ⟨⟨w.h.c,x.1,w.h.p,w.h.s,w.h.b⟩,w.o,w.t,w.q,w.d,⟨w.r.j,w.r.K,x.2,w.r.E,w.r.f,w.r.y⟩⟩ (k:Int)=some b:=by rw[←eb,Qd7,QcV];simp only[XF,Xb (p:=w.h.p.length<=140737488355328) ab]
  rw[show(⟨w.h.c.W,w.h.c.p⟩:WR)=w.h.c from rfl,ep2,Xa];have esub:h0.p.length-k=(h0.p.length-(k+1))+1:=ab;have⟨g1,g2⟩:=hB.pg k h;have hmi:∀a∈lpg N h0 k,pgi h0.c a=(k:Int):=λa ha=>(g2.2.1 a ha).2;have hLk:(lps N h0 k (h0.p.length-k)).Sublist L:=by have:=Xkd (N:=N) (h:=h0) h0.p.length 0 k hk;rw[UG]at this;rw[hB.eL];exact this
  rw[esub,lps]at hw hLk⊢;rw[List.foldl_append];have hm:(lpg N h0 k).Sublist L:=(List.sublist_append_left _ _).trans hLk;cases hbv:b with
  |false=>rw[Ui,Wc,Xke (lpg N h0 k) x λa ha=>by simp_all];exact Xec hN hb hB hc hh n (k+1) x ab ab hv λa ha=>hw a (Uj _ ha)
  |true=>
   have hpm:=hbp.1 hbv;have⟨e1,e2⟩:=XiX hN hb ep hc hh hv;have hpr:=hh.pr _ hpm;have hwk:∀a∈lpg N h0 k,wd x.1 a=wd h0.w a:=λa ha=>hw a (WW _ ha) (by simp_all);have epg:QeT N (hpv w x.1) (k:Int)=some (lpg N h0 k,0):=by rw[XdO hN e2];refine QnR (h:=h0) (h2:=hpv w x.1) hc.conf hpl ep e1 ab ab (by rw[hpr.1];exact hpm.2.1) hpr.2 g1 λa ha=>?_;have haL:=hm.subset ha;have:=Xn8 hN hb ep hs hc hh hv haL (by simp_all) (hwk a ha);have hr:=(hs.obj.at_ a haL).rng;have hv2:=Xh.1 hp.conf;have hwl:=hp.words;have hb1:=hb.1;rw[Xb1 hN e2 (by unfold tU;omega)]at this;rw[this,hs.obj.ev a haL]
   unfold hpv at epg;have must0:Qam N 0=some ():=by rw[Qam];rfl
   have gl:=Xeb hN hb ep hs hc hh hpm hm hmi N 0 x ab (by have:=hm.length_le;have:=hs.len;omega) hv λa ha=>hwk a ha;rw[show((0:Nat):Int)=0 from rfl,W3]at gl;rw[Wi,Wa,epg,Xa];rw[must0,Xa,gl,Xa];have⟨q1,q2⟩:=XaB (w:=w) hp hs (λa=>Y4 (fnd h0 a)) (lpg N h0 k) x (λa ha=>hm.subset ha) hv;refine Xec hN hb hB hc hh n (k+1) _ ab ab q1 λa ha hpa=>?_;have haL:=hLk.subset (Uj _ ha);rw[q2 a haL λhc=>?_]
   .simp_all
   have⟨i,i1,i2,i3⟩:=Xkc _ _ ha;have:=(g2.2.1 a hc).2;have:=((hB.pg i ab).2.2.1 a i3).2;omega
def Xqo(hN:NB N)(hb:HB h0)(hB:Sa N h0 L){w:Wu}(hc:CI h0 L w)(hh:OC h0 L w):∃v c,VI h0 v/\Qey N w=some ⟨⟨w.h.c,v,w.h.p,w.h.s,w.h.b⟩,w.o,w.t,w.q,w.d,⟨w.r.j,w.r.K,c,w.r.E,w.r.f,w.r.y⟩⟩ /\
 Qec N w=some ⟨⟨w.h.c,v,w.h.p,w.h.s,w.h.b⟩,w.o,w.t,w.q,w.d,⟨w.r.j,w.r.K,c,w.r.E,w.r.f,w.r.y⟩⟩:=by
 have hN':=hN;unfold NB at hN';have ep:=hB.ep;have hp:=Xz hN hb ep;have hs:=hB.st.st;have hb2:=hb.2;have hspn:=hh.spn hN hb ep;have hv:VI h0 w.h.w:=⟨hc.wlen,hh.ws⟩
 have hol:=hc.old.length_le;have hsl:=hs.len;have g:=Xec hN hb hB hc hh N 0 (w.h.w,w.r.F) ab ab hv λa ha hpa=>hh.hw a (by rw[hB.eL];exact ha) hpa;have r:=Xgf hN hb hp hs hc hh hspn N 0 (w.h.w,w.r.F) ab ab hv λa ha hpa=>hh.hw a (hc.old.subset ha) hpa;have e:(w.o.drop 0).foldl (Kq h0 w) (w.h.w,w.r.F)=(lps N h0 0 (h0.p.length-0)).foldl (fF h0 w) (w.h.w,w.r.F):=by rw[W3,Nat.sub_zero,←hB.eL,hh.ol,Yn,List.foldl_filter];rfl
 rw[e]at r;rw[show((0:Nat):Int)=0 from rfl]at g r;have k:=XaB (w:=w) hp hs (λa=>Y4 (fnd h0 a)) (lps N h0 0 (h0.p.length-0)) (w.h.w,w.r.F) (λa ha=>by rw[hB.eL];exact ha) hv;refine⟨((lps N h0 0 (h0.p.length-0)).foldl (fF h0 w) (w.h.w,w.r.F)).1,((lps N h0 0 (h0.p.length-0)).foldl (fF h0 w) (w.h.w,w.r.F)).2,k.1,?_,?_⟩
 .rw[Qey,g,Xa]
 simp[Qec,r,Xa]
end
section
variable {N:Nat}{h0:Wh}{L:List Int}
def Xqp(hN:NB N)(hb:HB h0)(hp:Uy h0)(hs:IC N h0 L){w:Wu}(hc:CI h0 L w)(hws:∀x∈w.h.w,tU x){a:Int}(ha:a∈L):∃m,QfG N w a=some m/\Qcz N w a=some m:=by
 have hN':=hN;unfold NB at hN';have hql:=hc.ql hb;have hat:=hs.obj.at_ a ha;have⟨o1,o2⟩:=XjW (N:=N) hp.conf hat.rng;have hw:=hp.words;have hwl:=hc.wlen;have hr:=hat.rng;have must0:Qam N 0=some ():=by rw[Qam];rfl
 rw[QfG,Qcz,V6 _ _ ab ab,Yb a ab ab,Xa,Xa];cases w.q.contains a with
 |true=>simp
 |false=>
  rw[Wa,Wa,hc.conf,o1,Xa];have e:Xd w.h.w (a-4096)=some (wd w.h.w a):=by rw[Yi ab ab];unfold wd ix;rw[Wj,Wb ab];rfl
  rw[must0,Xa,o2,e,Xa,XdV ab (Xcp hws a),Yp (hc.wl hb),Xa,Wn (by unfold inW;omega),show w.h.w.getD (ix a) 0=wd w.h.w a from rfl,Kw,Xa];simp
def XhR(hN:NB N)(hb:HB h0)(hp:L≠[]->Uy h0)(hs:IC N h0 L){w:Wu}(hc:CI h0 L w)(hws:∀x∈w.h.w,tU x){ws:List Int}(hl:ws.length<=1000000)(hm:∀x∈ws,x=0\/x∈L)(y5:Wu×List Int×Int):∀(n k:Nat) (c:Int) (out:List Int),k<=ws.length->ws.length-k<n->out.length=k ->
 ∃o c',o.length=ws.length/\Qcu N w ws n (k:Int) c out=some (o,c')/\QaI N ws y5 (w,0) n (k:Int) c out=some (c',o)
 |0,k,c,out,_,hn,_=>by omega
 |n+1,k,c,out,hk,hn,ho=>by
  rw[Qcu,QaI];by_cases h:k<ws.length;rotate_left
  .grind
  rw[Xl h,Wc,Wc,Xf,Wb h,Xa,Xa,Xg ab,XF,XF];have nx:=λc' x=>XhR hN hb hp hs hc hws hl hm y5 n (k+1) c' (out++[x]) ab ab (by simp_all);have hmk:=hm _ (Wy h);generalize ws[k]=a at hmk⊢;by_cases h0a:a=0
  .dsimp only;rw[Xb ab,Xb ab];simp_all
  rw[Xn h0a,Wc,Wc,Xa];have haL:a∈L:=by rcases hmk with h|h;exact absurd h h0a;exact h
  have⟨m,e1,e2⟩:=Xqp hN hb (hp (IY haL)) hs (w:=⟨w.h,w.o,w.t,w.q,w.d,⟨w.r.j,w.r.K,w.r.F,w.r.E,c,w.r.y⟩⟩) (by
   have⟨O,s,ho⟩:=hc.obj
   exact⟨hc.conf,hc.wlen,hc.plen,hc.spc,hc.old,hc.tk,hc.tnd,hc.knd,hc.qnd,⟨O,s,⟨ho.old,ho.queue,ho.fit,ho.apart,ho.taken,ho.free⟩⟩⟩) hws haL
  rw[e1,e2,Xa,Xa,XF,XF];cases m==0 with
  |true=>rw[Wc,Wc];dsimp only;rw[Xb ab,Xb ab];simp_all
  |false=>rw[Wa,Wa];dsimp only;rw[Xb ab,Xb ab];simp_all
def Xe7(p1:Wr)(hp1:p1.k=2):∀(n k:Nat) (qs:List Wr),k<=qs.length->qs.length-k<n->qs.length<=100000->∃r,Qez N p1 n (k:Int) qs=some r/\r.length=qs.length/\∀j:Nat,((k<=j/\j<qs.length/\∀x:Nat,k<=x->x<=j->(pg qs x).k=3)/\pg r j=Zb)\/(¬(k<=j/\j<qs.length/\∀x:Nat,k<=x->x<=j->(pg qs x).k=3)/\pg r j=pg qs j)
 |0,k,qs,_,hn,_=>by omega
 |n+1,k,qs,hk,hn,hl=>by
  rw[Qez,Xv hp1,Wc,Xb ab];by_cases h:k<qs.length;rotate_left
  .grind
  rw[Xl h,Wc,Xq (ps:=qs) (i:=(k:Int)) ab ab,Xa];by_cases h3:(pg qs k).k=3;rotate_left
  .grind
  rw[Xv h3,Wc,Xa,Xg ab];have e2:=λx:Nat=>Y0 (ps:=qs) (i:=(k:Int)) (j:=(x:Int)) ⟨0,0,0,0⟩ ab ab ab;have eq:∀x:Nat,k+1<=x->pg (qs.set (k:Int).toNat ⟨0,0,0,0⟩) x=pg qs x:=λx hx=>by grind
  have⟨r,r1,r2,r3⟩:=Xe7 p1 hp1 n (k+1) (qs.set (k:Int).toNat ⟨0,0,0,0⟩) (by grind) (by grind) (by simp_all);rw[WL]at r2 r3;refine⟨r,r1,r2,λj=>?_⟩;by_cases hjk:j=k
  .subst hjk;refine .inl ⟨⟨Un _,h,λx a b=>by grind⟩,?_⟩;rcases r3 j with g|g
   .omega
   rw[g.2,e2 j,Wn rfl];rfl
  rcases r3 j with⟨⟨a1,a2,a3⟩,b⟩|⟨a,b⟩
  .refine .inl ⟨⟨ab,a2,λx hx hxj=>?_⟩,b⟩;by_cases hxk:x=k
   .rw[hxk];exact h3
   rw[←eq x ab];exact a3 x ab hxj
  grind
def Xkf{w:Wu}(v4:List Wr)(p5:Wr)(i c:Int)(hp:Uy h0)(hc:w.h.c=h0.c)(g0:0<=i)(g1:i<h0.c.p):∀(n k:Nat) (v:List Int),(k:Int)<=h0.c.W->65-k<n->v.length=h0.w.length ->
 ∃r,Qbe N w v4 p5 i c n (k:Int) v=some r/\r.length=v.length/\∀j,r.getD j 0=if(i*h0.c.W).toNat+k<=j/\j<((i+1)*h0.c.W).toNat then 0 else v.getD j 0
 |0,k,v,_,hn,_=>by omega
 |n+1,k,v,k0,hn,hv=>by
  have hvc:=Xh.1 hp.conf;have hm:=XO hp.conf g0 g1;have hw:=hp.words;have e1:(i+1)*h0.c.W=i*h0.c.W+h0.c.W:=by rw[UX,Oe]
  rw[Qbe,hc];by_cases h1:(k:Int)<h0.c.W;rotate_left
  .rw[We h1,Wa];exact⟨v,rfl,rfl,λj=>by rw[Wk ab]⟩
  rw[Wg h1,Wc,Xg ab,Xe (n:=i*h0.c.W) ab ab,Xe (n:=i*h0.c.W+k) ab ab,Yi ab ab,Xa];have⟨r,r1,r2,r3⟩:=Xkf v4 p5 i c hp hc g0 g1 n (k+1) (v.set (i*h0.c.W+k).toNat 0) ab ab (by rw[WL];exact hv);grind
def frZ(ps:List Wr)(sp:Int)(j:Nat):Prop:=(pg ps j).k≠0/\(pg ps j).s=sp
def frC(ps:List Wr)(sp:Int)(k j:Nat):Prop:=∃i:Nat,i<k/\i<j/\j<ps.length/\(pg ps i).k=2/\(pg ps i).s=sp/\∀x:Nat,i<x->x<=j->(pg ps x).k=3
def Xsa{c:WR}{ps:List Wr}(hs:OM c ps){sp:Int}{k j:Nat}(h:frC ps sp k j):frZ ps sp j:=by
 have⟨i,h1,h2,h3,h4,h5,h6⟩:=h;have h3j:=h6 j h2 (Un j);have⟨k',t0,t1,t2,t3,t4⟩:=hs.tl j ab ab h3j;obtain⟨m,rfl⟩:∃m:Nat,k'=m:=⟨k'.toNat,ab⟩
 have tl:=(t2.k2 t3).2.2;have e:m=i:=by
  rcases Nat.lt_trichotomy m i with h|h|h
  .have:=(tl ((i:Int)-m) ab ab).1;grind
  .omega
  grind
 subst e;have:=(tl ((j:Int)-m) ab ab).2.1;rw[show(m:Int)+((j:Int)-m)=j by omega]at this;exact⟨ab,this.trans h5⟩
def Xn9{a b:List Int}(hl:a.length=b.length)(h:∀j,a.getD j 0=b.getD j 0):a=b:=by refine Ol hl λi h1 h2=>?_;have:=h i;simp_all
def Xgg(hN:NB N)(hb:HB h0)(hp:Uy h0){w:Wu}(hc:w.h.c=h0.c)(hpl:w.h.p.length=h0.p.length)(hs:OM h0.c w.h.p):∀(n k:Nat) (c:Int) (v:List Int) (q g:List Wr),k<=h0.p.length->h0.p.length-k<n->v.length=h0.w.length->q.length=h0.p.length->g.length=h0.p.length ->
 (∀j:Nat,(j<k/\frZ w.h.p w.h.s j->pg q j=Zb)/\(¬(j<k/\frZ w.h.p w.h.s j)->pg q j=pg w.h.p j)) ->
 (∀j:Nat,((j<k/\frZ w.h.p w.h.s j)\/frC w.h.p w.h.s k j->pg g j=Zb)/\(¬((j<k/\frZ w.h.p w.h.s j)\/frC w.h.p w.h.s k j)->pg g j=pg w.h.p j)) ->
 ∃c' v' r,v'.length=h0.w.length/\r.length=h0.p.length/\QaL N w n (k:Int) c v q=some (c',v',r)/\QbG N w n (k:Int) g c v=some (v',r,c')
 |0,k,c,v,q,g,_,hn,_,_,_,_,_=>by omega
 |n+1,k,c,v,q,g,hk,hn,hv,hq,hg,hqj,hgj=>by
  have hN':=hN;unfold NB at hN';have hb2:=hb.2;have hpp:=hp.pages;have hw:=hp.words;have must0:Qam N 0=some ():=by rw[Qam];rfl
  rw[QaL,QbG,Xb ab,hq,hpl];by_cases h:k<h0.p.length;rotate_left
  .obtain rfl:k=h0.p.length:=ab;rw[XG,Wa,Wa];have e:g=q:=by
    refine XrS ab λj hj=>?_;obtain⟨m,rfl⟩:∃m:Nat,j=m:=⟨j.toNat,ab⟩
    by_cases hm:m<h0.p.length/\frZ w.h.p w.h.s m
    .simp_all
    rw[(hqj m).2 hm];refine(hgj m).2 λh=>?_;rcases h with h|h
    .simp_all
    have hf:=Xsa hs h;have⟨_,_,_,h3,_⟩:=h;grind
   subst e;exact⟨c,v,g,hv,hg,rfl,rfl⟩
  have hqk:pg q k=pg w.h.p k:=(hqj k).2 λh=>by omega
  rw[Xl h,Wc,Wc,Xq (ps:=q) (i:=(k:Int)) ab ab,Xq (ps:=w.h.p) (i:=(k:Int)) ab ab,Xa,Xa,Xa,hqk,Xg ab];have skip:¬frZ w.h.p w.h.s k->∃c' v' r,v'.length=h0.w.length/\r.length=h0.p.length/\QaL N w n ((k+1:Nat):Int) c v q=some (c',v',r)/\QbG N w n ((k+1:Nat):Int) g c v=some (v',r,c'):=λhf=>by
   have lt:∀j:Nat,j<k+1/\frZ w.h.p w.h.s j↔j<k/\frZ w.h.p w.h.s j:=λj=>⟨λh=>⟨by rcases UA j k with a|a;exact a;exact absurd (show j=k by omega▸h.2) (λ_=>hf (by rw[show k=j by omega];exact h.2)),h.2⟩,λh=>⟨ab,h.2⟩⟩
   have fr:∀j:Nat,frC w.h.p w.h.s (k+1) j↔frC w.h.p w.h.s k j:=λj=>⟨λ⟨i,a,b,d,e,f,g⟩=>⟨i,by
    rcases UA i k with x|x
    .exact x
    .exfalso;rw[show i=k by omega]at e f;exact hf ⟨ab,f⟩,b,d,e,f,g⟩,λ⟨i,a,b,d,e,f,g⟩=>⟨i,ab,b,d,e,f,g⟩⟩
   refine Xgg hN hb hp hc hpl hs n (k+1) c v q g ab ab hv hq hg (λj=>?_) λj=>?_
   .rw[lt j];exact hqj j
   grind
  by_cases h1:(pg w.h.p k).k=0
  .rw[Xv h1,Wc,Wc];exact skip λh=>h.1 h1
  rw[Xm h1,Wa,Wa];by_cases h2:(pg w.h.p k).s=w.h.s;rotate_left
  .rw[Xn h2,Wc,Wc];exact skip λh=>h2 h.2
  have hfz:frZ w.h.p w.h.s k:=⟨h1,h2⟩
  rw[show((pg w.h.p k).s != w.h.s)=false by simp_all,Wa,Wa];have hm:=XO hp.conf (i:=(k:Int)) ab ab;have hvc:=Xh.1 hp.conf;have e1:((k:Int)+1)*h0.c.W=k*h0.c.W+h0.c.W:=by rw[UX,Oe]
  have e2:(((k+1:Nat):Int))*h0.c.W=(k:Int)*h0.c.W+h0.c.W:=by rw[←e1];congr 1
  obtain⟨u,u1,u2,u3⟩:=Xkf (N:=N) (w:=w) q (pg w.h.p k) (k:Int) c hp hc ab ab N 0 v ab ab hv;rw[show((0:Nat):Int)=0 from rfl]at u1;rw[hc,e2,Xe (n:=(k:Int)*h0.c.W) ab ab,Xe (n:=(k:Int)*h0.c.W+h0.c.W) ab ab,Xb ab,u1,Xa];have eu:((v.take ((k:Int)*h0.c.W).toNat)++(List.replicate (((k:Int)*h0.c.W+h0.c.W).toNat-((k:Int)*h0.c.W).toNat) (0:Int)))++(v.drop (((k:Int)*h0.c.W).toNat+(((k:Int)*h0.c.W+h0.c.W).toNat-((k:Int)*h0.c.W).toNat)))=u:=by
   refine Xn9 ?_ λj=>?_
   .grind
   rw[XjU ab ab,u3 j,e1,IW]
  rw[eu];have hul:u.length=h0.w.length:=u2.trans hv;have p2:=λx:Nat=>Y0 (ps:=q) (i:=(k:Int)) (j:=(x:Int)) ⟨0,0,0,0⟩ ab ab ab;have hq':∀j:Nat,(j<k+1/\frZ w.h.p w.h.s j->pg (q.set (k:Int).toNat ⟨0,0,0,0⟩) j=Zb)/\(¬(j<k+1/\frZ w.h.p w.h.s j)->pg (q.set (k:Int).toNat ⟨0,0,0,0⟩) j=pg w.h.p j):=λj=>by
   rw[p2 j];by_cases hjk:j=k
   .subst hjk;rw[Wn rfl];exact⟨λ_=>rfl,λh=>absurd ⟨ab,hfz⟩ h⟩
   grind
  have fin:=λg' hg' hgj'=>Xgg hN hb hp hc hpl hs n (k+1) (wI (c+1)) u (q.set (k:Int).toNat ⟨0,0,0,0⟩) g' ab ab hul (by simp_all) hg' hq' hgj';have frm:∀j,frC w.h.p w.h.s k j->frC w.h.p w.h.s (k+1) j:=λj ⟨i,a,b,d,e,f,g⟩=>⟨i,ab,b,d,e,f,g⟩
  have frk:∀j,frC w.h.p w.h.s (k+1) j->(pg w.h.p k).k≠2->frC w.h.p w.h.s k j:=λj ⟨i,a,b,d,e,f,g⟩ h2=>⟨i,by
   grind,b,d,e,f,g⟩
  by_cases h3:(pg w.h.p k).k=3
  .rw[show((pg w.h.p k).k != 3)=false by rw[h3];rfl,Wa];refine fin g hg λj=>?_;refine⟨λh=>?_,λh=>(hgj j).2 λa=>h (by rcases a with a|a;exact .inl ⟨ab,a.2⟩;exact .inr (frm j a))⟩;rcases h with⟨a,b⟩|a
   .by_cases hjk:j=k
    .subst hjk;have⟨k',t0,t1,t2,t3,t4⟩:=hs.tl j ab ab h3;obtain⟨m,rfl⟩:∃m:Nat,k'=m:=⟨k'.toNat,ab⟩
     have tl:=(t2.k2 t3).2.2;have tx:∀x:Nat,m<x->x<=j->(pg w.h.p x).k=3/\(pg w.h.p x).s=(pg w.h.p m).s:=λx a b=>by have:=tl ((x:Int)-m) ab ab;rw[show(m:Int)+((x:Int)-m)=x by omega]at this;exact⟨this.1,this.2.1⟩
     exact(hgj j).1 (.inr ⟨m,ab,ab,ab,t3,by rw[←(tx j ab (Un _)).2];exact h2,λx a b=>(tx x a b).1⟩)
    exact(hgj j).1 (.inl ⟨ab,b⟩)
   simp_all
  rw[Xn h3,Wc];have hgk:pg g k=pg w.h.p k:=(hgj k).2 λh=>by
   rcases h with h|⟨i,a,b,d,e,f,x⟩
   .omega
   simp_all
  have g2:=λx:Nat=>Y0 (ps:=g) (i:=(k:Int)) (j:=(x:Int)) ⟨0,0,0,0⟩ ab ab ab;have hkd:=(hs.hd k ab ab h3).kd;rw[Qhg,We (show¬(k:Int)<0 by omega),Wa,We (show¬(k:Int)>=(g.length:Int) by omega),Wa,Xq (ps:=g) (i:=(k:Int)) ab ab,Xa,XF,hgk];have ej:∀x y:Option (List Wr×Int),(bif (pg w.h.p k).k != 1 then(bif (pg w.h.p k).k != 2 then x else y)else y)=y:=λx y=>by grind
  rw[ej];simp only[Qad,Xa];rw[Xq (ps:=g) (i:=(k:Int)) ab ab,Xa,Xg ab];rcases hkd with e|e|e
  .omega
  .obtain⟨n',rfl⟩:∃m,N=m+1:=⟨N-1,ab⟩
   rw[Qez,Xm ab,Wa,Xa,Xa];rw[must0,Xa];refine fin _ (by rw[WL];exact hg) λj=>?_;rw[g2 j];grind
  have⟨r,r1,r2,r3⟩:=Xe7 (N:=N) (pg w.h.p k) e N (k+1) (g.set (k:Int).toNat ⟨0,0,0,0⟩) (by grind) (by grind) (by simp_all);rw[WL]at r2 r3;rw[r1,Xa,Xa];rw[must0,Xa];have gx:∀x j:Nat,k<x->x<=j->j<h0.p.length->(∀y:Nat,k<y->y<=j->(pg w.h.p y).k=3)->pg g x=pg w.h.p x:=λx j a b d f=>(hgj x).2 λh=>by
   rcases h with h|⟨i,i1,i2,i3,i4,i5,i6⟩
   .omega
   grind
  have gy:∀x:Nat,(pg g x).k=3->pg g x=pg w.h.p x:=λx hx=>(hgj x).2 λh=>by grind
  refine fin r ab λj=>?_;have run:(k+1<=j/\j<g.length/\∀x:Nat,k+1<=x->x<=j->(pg (g.set (k:Int).toNat ⟨0,0,0,0⟩) x).k=3)↔(k<j/\j<h0.p.length/\∀x:Nat,k<x->x<=j->(pg w.h.p x).k=3):=by
   rw[hg];refine⟨λ⟨a,b,d⟩=>⟨a,b,λx hx hxj=>?_⟩,λ⟨a,b,d⟩=>⟨a,b,λx hx hxj=>?_⟩⟩
   .have:=d x hx hxj;rw[g2 x,Wk ab]at this;grind
   rw[g2 x,Wk ab,gx x j hx hxj b d];grind
  have ht:=r3 j;rw[run,g2 j]at ht;rcases ht with⟨a,b⟩|⟨a,b⟩
  .have:frC w.h.p w.h.s (k+1) j:=⟨k,ab,a.1,ab,e,h2,a.2.2⟩
   grind
  rw[b];by_cases hjk:j=k
  .grind
  rw[Wk ab];refine⟨λh=>(hgj j).1 ?_,λh=>(hgj j).2 λq=>h ?_⟩
  .rcases h with h|⟨i,i1,i2,i3,i4,i5,i6⟩
   .exact .inl ⟨ab,h.2⟩
   refine .inr ⟨i,?_,i2,i3,i4,i5,i6⟩;rcases UA i k with x|x
   .exact x
   exfalso;obtain rfl:i=k:=ab;exact a ⟨i2,ab,i6⟩
  grind
def Xqq(hN:NB N)(hb:HB h0)(hp:Uy h0){w:Wu}(hc:w.h.c=h0.c)(hpl:w.h.p.length=h0.p.length)(hw:w.h.w.length=h0.w.length)(hs:OM h0.c w.h.p):∃c v r,v.length=h0.w.length/\r.length=h0.p.length/\Qeb N w=some ⟨⟨w.h.c,v,r,w.h.s,w.h.b⟩,w.o,w.t,w.q,w.d,⟨w.r.j,w.r.K,w.r.F,c,w.r.f,w.r.y⟩⟩/\QeA N w=some ⟨⟨w.h.c,v,r,w.h.s,w.h.b⟩,w.o,w.t,w.q,w.d,⟨w.r.j,w.r.K,w.r.F,c,w.r.f,w.r.y⟩⟩:=by
 have hN':=hN;unfold NB at hN';have hb1:=hb.1;have hb2:=hb.2;obtain⟨c,v,r,a1,a2,a3,a4⟩:=Xgg hN hb hp hc hpl hs N 0 w.r.E w.h.w w.h.p w.h.p ab ab hw hpl hpl (λj=>⟨λh=>ab,λ_=>rfl⟩) (λj=>⟨λh=>by rcases h with h|⟨i,h,_⟩<;>omega,λ_=>rfl⟩);rw[show((0:Nat):Int)=0 from rfl]at a3 a4;refine⟨c,v,r,a1,a2,?_,?_⟩
 .rw[Qeb,Xb ab,Xb ab,a3,Xa]
 simp[QeA,Qac,Xa,a4]
end
section
variable {N:Nat}{h0:Wh}{L:List Int}
def CI.rep{w:Wu}(hc:CI h0 L w)(rp:WV):CI h0 L {w with r:=rp}:=by have⟨O,s,ho⟩:=hc.obj;exact⟨hc.conf,hc.wlen,hc.plen,hc.spc,hc.old,hc.tk,hc.tnd,hc.knd,hc.qnd,⟨O,s,⟨ho.old,ho.queue,ho.fit,ho.apart,ho.taken,ho.free⟩⟩⟩
def OC.rep{w:Wu}(h:OC h0 L w)(rp:WV):OC h0 L {w with r:=rp}:=⟨h.q,h.old,h.fw,h.ws,h.ss,h.k1,h.pr,h.hw,h.bm,h.ol⟩
def RefB(h0:Wh)(L l:List Int):Prop:=(l.all λx=>x==0||(Yn h0 L).contains x)=true
def RefB.mem{l:List Int}(h:RefB h0 L l):∀x∈l,x=0\/x∈L:=λx hx=>by
 have:=W0.1 h x hx;simp only[Im,beq_iff_eq]at this;rcases this with h|h
 .omega
 exact .inr (List.filter_sublist.subset (Yf h))
def XiY(hN:NB N)(ht:HT h0)(hB:Sa N h0 L){rs ws:List Int}(hrw:rs.length+ws.length<=1000000)(tr:∀x∈rs,tU x)(br:RefB h0 L rs)(bw:RefB h0 L ws):∃r,QdR N h0 rs ws=some r/\Qcg N h0 rs ws=some r/\(r.2.2.2.2=0->NZ rs r.2.1):=by
 have hN':=hN;unfold NB at hN';have hb:=ht.hb;have ep:=hB.ep;have hp:=Xz hN hb ep;have hs:=hB.st;have⟨w,g1,r1,hc,hh,hq,hsc⟩:=Xn6 hN ht hB;have e1:QbA N h0 rs=some true:=by rw[ZG hN ht ab hB.eg hB.ob];exact congrArg some br
 have e2:QbA N h0 ws=some true:=by rw[ZG hN ht ab hB.eg hB.ob];exact congrArg some bw
 have e3:QdO N h0 (rs++ws)=some true:=by rw[Xe1 hN ht (by rw[WM];omega),ZG hN ht (by rw[WM];omega) hB.eg hB.ob,List.all_append,show(rs.all λx=>x==0||(Yn h0 L).contains x)=true from br,show(ws.all λx=>x==0||(Yn h0 L).contains x)=true from bw];rfl
 rw[QdR,Qcg,g1,r1,ep,e1,e2,Xa,Xa,XF,Xa,Xa,Wi,Wa,Wa,Wa,Xa];rw[show((0:Int)==0)=true from rfl,Wc,XbZ _ ac (by unfold XaT;unfold XaT;unfold XaT;omega) ab,Xa,show [rs,ws].flatten=rs++ws by simp,e3,Xa,Wc];rcases Xn4 hN hs hc hh hq ab tr with⟨e,e0,a1,a2⟩|⟨w1,out,c1,h1,q1,k1,l1,z1,a1,a2⟩
 .rw[a1,a2,Xa,Xa,Xm e0,Xn e0,Wa,Wc];exact⟨_,rfl,rfl,λh=>absurd h e0⟩
 rw[a1,a2,Xa,Xa];have esc:w1.d=0:=by unfold KeepW at k1;rw[k1];exact hsc
 rcases Xr5 hN hs c1 h1 q1 ab ab with⟨e,e0,a1,a2⟩|⟨w2,c2,h2,q2,a1,a2⟩
 .rw[a1,a2,Xa,Xa,Xm e0,Xn e0,Wa,Wc];exact⟨_,rfl,rfl,λh=>absurd h e0⟩
 rw[a1,a2,Xa,Xa];have⟨o,cl,ol,b1,b2⟩:=XhR hN hb (λ_=>hp) hs.st c2 h2.ws ab bw.mem (w1,out,0) N 0 w2.r.f [] ab ab rfl;rw[show((0:Nat):Int)=0 from rfl]at b1 b2;rw[QdA,b1,b2,Xa,Xa,Xa];have⟨v,cf,vi,f1,f2⟩:=Xqo hN hb hB (c2.rep ⟨w2.r.j,w2.r.K,w2.r.F,w2.r.E,cl,w2.r.y⟩) (h2.rep _);rw[f1,f2,Xa,Xa];have⟨cr,v',ps,y1,y2,y3,y4⟩:=Xqq (w:=⟨⟨w2.h.c,v,w2.h.p,w2.h.s,w2.h.b⟩,w2.o,w2.t,w2.q,w2.d,⟨w2.r.j,w2.r.K,cf,w2.r.E,cl,w2.r.y⟩⟩) hN hb hp c2.conf c2.plen vi.len (h2.spn hN hb ep);have htl:=c2.tl hb;rw[y3,y4,Xa,Xa];dsimp only;rw[Xb ab,XF];by_cases hk:(w2.t.length:Int)>0
 .rw[Wg hk,Wc,Xe (n:=(w2.t.length:Int)-1) ab ab,Yi ab ab,Xa];exact⟨_,rfl,rfl,λ_=>z1⟩
 simp_all
end
section
variable {N:Nat}
def Xkg{rs:List Int}{c:Nat}(h:c<rs.length):Xd (rs.drop c) 0=some rs[c]:=by rw[show(0:Int)=((0:Nat):Int)from rfl,Xf,UM,Wb ab];rfl
def Xed(t:WG)(hl:t.e.length<=1000000)(rs:List Int)(hr:rs.length<=1000000):∀(n k c:Nat) (v:List W8),k<=t.e.length->t.e.length-k<n->v.length=t.e.length->c+(Xu (v.drop k)).length=rs.length ->
 ∃r,Qd3 N t n (rs.drop c) (k:Int) v=some r/\Qbg N rs n (c:Int) (k:Int) v=some r
 |0,k,c,v,_,hn,_,_=>by omega
 |n+1,k,c,v,hk,hn,hv,hc=>by
  rw[Qd3,Qbg,Xb ab,hv];by_cases h:k<t.e.length;rotate_left
  .obtain rfl:k=t.e.length:=ab;simp
  have hd:=Wm (show k<v.length by omega);rw[hd]at hc;rw[Xl h,Wc,Wc,Xf,Wb ab,Xa,Xa,Xg ab];cases hL:v[k].V with
  |false=>exact Xed t hl rs hr n (k+1) c v ab ab hv (by rw[←hc];unfold Xu;grind)
  |true=>
   have h2:c+1+(Xu (v.drop (k+1))).length=rs.length:=by rw[←hc];unfold Xu;rw[Ur ab,UH,Uu];omega
   rw[Wc,Wc,Xkg ab,Xa,Xf,Wb (show c<rs.length by omega),Xa,Xb (by grind),Xa,Xa,Ot,Xg ab];exact Xed t hl rs hr n (k+1) (c+1) _ ab ab (by simp_all) (by rw[show(k:Int).toNat=k from rfl,US ab];omega)
def XhS(hN:NB N){t:WG}(ht:TB t)(hv:Yw t.e=true){rs:List Int}(hr:(Xu t.e).length=rs.length):∃r,Qgh N t rs=some (r,0)/\Qb5 N t rs=some (r,0):=by
 have hN':1000000<N:=by unfold NB at hN;omega
 have h64:=Jv hv;have:=Vb t.e;have⟨r,e1,e2⟩:=Xed (N:=N) t ab rs ab N 0 0 t.e ab ab rfl (by simp_all);rw[W3,show((0:Nat):Int)=0 from rfl]at e1;rw[show((0:Nat):Int)=0 from rfl]at e2;refine⟨⟨r⟩,?_,?_⟩
 .rw[Qgh,Xbq ht hN',hv,Xa,Wi,Wa,Ji ht hN',hv,Wc,Xa,hr];simp only[bne_self_eq_false,Wa,Qg2,QaK,Xa];rw[Xb ab,show(WG.mk t.e)=t from rfl,e1,Xa]
 rw[Qb5,YV ht hN',hv,Xa,Wi,Wa,X0 ht hN',hv,Wc,Xa,Xb ab,hr];simp;rw[Xb ab,e2,Xa]
def Xee(a:Ws)(hl:a.S.length<=1000000)(rs:List Int)(hr:rs.length<=1000000)(hz:∀x∈rs,x≠0):∀(n k c:Nat) (v:List UI),k<=a.S.length->a.S.length-k<n->v.length=a.S.length->c+(XL (v.drop k)).length=rs.length ->
 ∃r,Qd2 N a n (rs.drop c) (k:Int) v=some r/\Qbf N a rs n (c:Int) (k:Int) v=some (.nxt r)
 |0,k,c,v,_,hn,_,_=>by omega
 |n+1,k,c,v,hk,hn,hv,hc=>by
  rw[Qd2,Qbf,Xb ab,hv];by_cases h:k<a.S.length;rotate_left
  .obtain rfl:k=a.S.length:=ab;simp
  have hd:=Wm (show k<v.length by omega);rw[hd]at hc;rw[Xl h,Wc,Wc,Xf,Wb ab,Xa,Xa,Xg ab];cases hL:v[k].V with
  |false=>exact Xee a hl rs hr hz n (k+1) c v ab ab hv (by rw[←hc];unfold XL;grind)
  |true=>
   have h2:c+1+(XL (v.drop (k+1))).length=rs.length:=by rw[←hc];unfold XL;rw[Ur ab,UH,Uu];omega
   have hcl:c<rs.length:=ab;rw[Wi,Wc,Wa,Xkg hcl,Xa,Xf,Wb hcl,Xa,Xa,Xm (hz _ (Wy hcl)),Wa,Xa,Xa,Xb (by grind),Ot,Xg ab];exact Xee a hl rs hr hz n (k+1) (c+1) _ ab ab (by grind) (by rw[show(k:Int).toNat=k from rfl,US ab];omega)
def Xoa(hN:NB N){a:Ws}(ha:LBp a)(hv:Yx a=true){rs:List Int}(hr:(XL a.S).length=rs.length)(hz:∀x∈rs,x≠0):∃r,QgQ N a rs=some (r,0)/\Qc7 N a rs=some (r,0):=by
 have hN':1000000<N:=by unfold NB at hN;omega
 have hsl:=(X9.1 hv).slots;have:=(X9.1 hv).iss;have:=Xak a.S;have⟨r,e1,e2⟩:=Xee (N:=N) a ab rs ab hz N 0 0 a.S ab ab rfl (by simp_all);rw[W3,show((0:Nat):Int)=0 from rfl]at e1;rw[show((0:Nat):Int)=0 from rfl]at e2;have hc:rs.contains 0=false:=by rw[Bool.eq_false_iff];intro h;exact hz 0 (Yf h) rfl
 refine⟨⟨r,a.x,a.i⟩,?_,?_⟩
 .rw[QgQ,XdI ha hN',hv,Xa,Wi,Wa,XbY ha hN',hv,Wc,Xa,hr,V6 _ _ ab hN',hc];simp only[bne_self_eq_false,Wa,Qg1,QaW,QaJ,QaN,Xa];rw[Xb ab,show(Ws.mk a.S a.x a.i)=a from rfl,e1,Xa]
 rw[Qc7,Zx ha hN',hv,Xa,Wi,Wa,YX ha hN',hv,Wc,Xa,hr];simp;rw[Xb ab,e2,Xa,Xo]
def Xkh(x:Um)(hx:x.P.length<=1000000)(y4:Wh×List Int×List Int×WV×Int)(y5:Um)(y6:List Int×List Int)(y9:Ws×Int)(y11:List Int×List Int)(y12 y13:WG×Int)(z5 z6:List Int)(z7:Ws×Int)(z8 z9:WG×Int)(hlen:y11.2.length=x.P.length)(hg:∀k:Nat,k<x.P.length->Xd y4.2.1 (wI (wI (wI ((x.R.length:Int)+(z5.length:Int))+(z6.length:Int))+k))=y11.2[k]?):∀(n k:Nat) (v:List UE),k<=x.P.length->x.P.length-k<n->v.length=k ->
 ∃r,Qer N y4 y5 y6 y9 y11 y12 y13 n (k:Int) (v++x.P.drop k)=some r/\QaX N x y4 z5 z6 z7 z8 z9 n (k:Int) v=some r
 |0,k,v,_,hn,_=>by omega
 |n+1,k,v,hk,hn,hv=>by
  rw[Qer,QaX,hlen];by_cases h:k<x.P.length;rotate_left
  .obtain rfl:k=x.P.length:=ab;simp
  have hd:=Wm h;have e:Xd (v++x.P.drop k) (k:Int)=some x.P[k]:=by rw[Xf,Uh ab,hv,Ie,hd];rfl
  rw[Xl h,Wc,Wc,Xf,hg k h,Wb ab,Xa,Xa,e,Xa,Xf,Wb h,Xa,Xb ab,Xg ab];have es:(v++x.P.drop k).set (k:Int).toNat ⟨y11.2[k],x.P[k].M⟩=(v++[⟨y11.2[k],x.P[k].M⟩])++x.P.drop (k+1):=by rw[show(k:Int).toNat=k from rfl,I7 _ _ ab,hv,Ie,hd,IF,Ua];rfl
  rw[es];exact Xkh x hx y4 y5 y6 y9 y11 y12 y13 z5 z6 z7 z8 z9 hlen hg n (k+1) _ ab ab (by simp_all)
structure Sn(N:Nat)(x:Um)(L:List Int):Prop where
 beg:Sa N x.h L
 ev:EV N x
 strong:RefB x.h L (Zw x)
 weak:RefB x.h L (Xu x.v.e)
def Xsb(hN:NB N){x:Um}(ht:ET x)(e:QbF N x=some true):∃L,Sn N x L:=by
 have hN':1000000<N:=by unfold NB at hN;omega
 have hx:=ht.eb;have h1:=YU hx.loc;have h2:=X7 x.g.e;have h5:=X7 x.v.e;have h3:=hx.pins;have h4:=hx.roots;have⟨b,eb,hb⟩:=Jg hN hx;rw[e]at eb;obtain rfl:=WE eb;have hv:=hb rfl;have⟨b,eb,_⟩:=Vd hN hx.heap h3;rw[QbF,eb,Xa]at e;cases b with
 |false=>grind
 |true=>
 have⟨eg,hp64,hpn⟩:=XdR hN ht.ht h3 eb;have⟨L,hB⟩:=Xr6 hN ht.ht eg;have hl:Zw x=((x.R++XL x.l.S)++Xu x.g.e)++x.P.map (·.a):=by unfold Zw;rw[hv.loc,hv.glo];rfl
 simp only[Wi,Wa,Zx hx.loc hN',YV hx.glo hN',YV hx.wea hN',X0 hx.glo hN',X0 hx.wea hN',YX hx.loc hN',Xa,hv.loc,hv.glo,hv.wea,Wc]at e h1 h2 h5;rw[Yb 0 ab ab,Xa]at e;cases hc:(Xu x.g.e).contains 0 with
 |true=>simp_all
 |false=>
 rw[hc,Wa,Xb ab,Xb ab,Xb ab,Xb ab,ZG hN ht.ht (by grind) eg hB.ob,Xa]at e;have e:=WE e;simp only[List.all_append,WI]at e;refine⟨L,hB,hv,?_,e.2⟩;unfold RefB;rw[hl];simp only[List.all_append,WI];refine⟨⟨⟨e.1.1.1,e.1.1.2⟩,e.1.2⟩,?_⟩;rw[W0];intro r hr;obtain⟨p,hp,rfl⟩:=WO.1 hr;rw[hpn _ hB.ob p hp,Bool.or_true]
def Xob(hN:NB N){x:Um}(ht:ET x):∃r,Qe5 N x=some r/\Qbx N x=some r:=by
 have hN':1000000<N:=by unfold NB at hN;omega
 have hx:=ht.eb;have h1:=YU hx.loc;have h2:=X7 x.g.e;have h5:=X7 x.v.e;have h3:=hx.pins;have h4:=hx.roots;have⟨b,eb,_⟩:=Jg hN hx;rw[Qe5,Qbx,Xp5 hN ht,eb,Xa,Xa];cases b with
 |false=>simp
 |true=>
 have⟨L,hV⟩:=Xsb hN ht eb;have hv:=hV.ev;have hB:=hV.beg;rw[hv.loc,Wc]at h1;rw[hv.glo,Wc]at h2;rw[hv.wea,Wc]at h5;have hp64:=hv.mat.len;have hl:Zw x=((x.R++XL x.l.S)++Xu x.g.e)++x.P.map (·.a):=by unfold Zw;rw[hv.loc,hv.glo];rfl
 have hll:(Zw x).length=x.R.length+(XL x.l.S).length+(Xu x.g.e).length+x.P.length:=by rw[hl];simp only[WM,Ug]
 rw[Wi,Wa,Wa,XdS hN hx,XaW hN hx,Xa,Xa,Ji hx.wea hN',X0 hx.wea hN',hv.wea,Wc,Xa,Xa];have tr:∀y∈Zw x,tU y:=λy hy=>by
  rcases hV.strong.mem y hy with h|h
  .simp_all
  have hr:=(hB.st.st.obj.at_ y h).rng;have hp:=Xz hN hx.heap hB.ep;have hw:=hp.words;have hb1:=hx.heap.1;unfold tU;omega
 have⟨y,e1,e2,hnz⟩:=XiY hN ht.ht hB (rs:=Zw x) (ws:=Xu x.v.e) ab tr hV.strong hV.weak;have⟨y',e3,hq⟩:=Qjv hN hx.heap (rs:=Zw x) (ws:=Xu x.v.e) ab ab;rw[e2]at e3;obtain rfl:=WE e3;rw[e1,e2,Xa,Xa];by_cases he:y.2.2.2.2=0;rotate_left
 .simp[Xn,he,Wc]
 have hnz:=hnz he;have⟨hl1,hl2⟩:=hq.len he;rw[show(y.2.2.2.2 != 0)=false by simp_all,Wa,Wa];simp only[QgP,Qg0,Qgu,Qf3,Qac,Qad,QaW,QaJ,QaN,QaK,Qcn,Xa,QdS];generalize hs:y.2.1=s at *;have en:(x.R.length:Int).toNat=x.R.length:=rfl;rw[Xb ab,Xb ab,Xa,en,Xb (by grind),XbY hx.loc hN',YX hx.loc hN',hv.loc,Wc,Xa,Xa,X0 hx.glo hN',Ji hx.glo hN',hv.glo,Wc,Xa];generalize hk:XL x.l.S=lk at *;generalize hm:Xu x.g.e=lm at *;have ek:(lk.length:Int).toNat=lk.length:=rfl;have em:(lm.length:Int).toNat=lm.length:=rfl;have w1:wI ((x.R.length:Int)+(lk.length:Int))=((x.R.length+lk.length:Nat):Int):=by rw[Xe ab ab];omega
 have w2:wI (((x.R.length+lk.length:Nat):Int)+(lm.length:Int))=((x.R.length+lk.length+lm.length:Nat):Int):=by rw[Xe ab ab];omega
 have t1:((x.R.length+lk.length:Nat):Int).toNat=x.R.length+lk.length:=rfl;have t2:((x.R.length+lk.length+lm.length:Nat):Int).toNat=x.R.length+lk.length+lm.length:=rfl;have hz:∀v∈(s.drop x.R.length).take lk.length,v≠0:=λv hvm=>by
  have⟨i,hi,ei⟩:=WA hvm;rw[Wl]at hi;rw[Iy,IQ]at ei;have hik:i<lk.length:=ab;have e4:(Zw x)[x.R.length+i]? = some lk[i]:=by rw[hl,Ua,Ua,Uh ab,IV,Uk hik,Wb hik]
  refine hnz (x.R.length+i) v (by rw[Wb ab,ei]) _ e4 ?_;have hmem:lk[i]∈XL x.l.S:=by rw[hk];exact Wy hik
  have⟨p,hp,ep⟩:=WO.1 hmem;rw[←ep];have hp:=WY.1 hp;have⟨q,hq,eq⟩:=WA hp.1;exact(Xaj (X9.1 hv.loc).st (i:=q) (p:=p) (by simp_all)).2.2.2.1 hp.2
 have⟨r1,a1,a2⟩:=Xoa hN hx.loc hv.loc (rs:=(s.drop x.R.length).take lk.length) (by rw[hk,Wl,Wo];omega) hz;have⟨r2,b1,b2⟩:=XhS hN hx.glo hv.glo (rs:=(s.drop (x.R.length+lk.length)).take lm.length) (by rw[hm,Wl,Wo];omega);have⟨r3,c1,c2⟩:=XhS hN hx.wea hv.wea (rs:=y.2.2.1) hl2.symm;have⟨r4,d1,d2⟩:=Xkh (N:=N) x h3 y ⟨x.h,x.l,x.g,x.v,x.P,x.R⟩ (s.take x.R.length,s.drop x.R.length) (r1,0) ((s.drop (x.R.length+lk.length)).take lm.length,s.drop (x.R.length+lk.length+lm.length)) (r2,0) (r3,0) lk lm (r1,0) (r2,0) (r3,0) (by simp_all) (λk hkp=>by
  rw[hs,w1,w2,Xe ab ab,show((x.R.length+lk.length+lm.length:Nat):Int)+(k:Int)=((x.R.length+lk.length+lm.length+k:Nat):Int) by omega,Xf,UM]) N 0 [] ab ab rfl
 rw[show((0:Nat):Int)=0 from rfl,W3,Ue]at d1;rw[show((0:Nat):Int)=0 from rfl]at d2;rw[w1,w2,t1,t2,ek,Xb (by grind),Xb (by grind),Xa,a1,Xa,Xa];rw[em,Ot,Xb (by grind[Wo]),Xb (by grind[Wo]),Xa];dsimp only;rw[b1,Xa,c1,Xa,Ot,d1,Xa];rw[Xb ab,Xb ab,Xb ab,Xb ab,show x.R.length+lk.length-x.R.length=lk.length by omega,a2,Xa,Xb ab,show x.R.length+lk.length+lm.length-(x.R.length+lk.length)=lm.length by omega,b2,Xa,c2,Xa,d2,Xa];refine⟨_,?_,rfl⟩;rw[show(!(((0:Int)==0)&&(((0:Int)==0)&&((0:Int)==0))))=false from rfl,Wa,Oq,Ue,Wl,W5 ab,Ib]
end
section
variable {N k:Nat}{x y:Um}{P:Int->Prop}{M:List (Int×Int)}
def Ow.strl(s:Ow N k x):(Zw x).length<=1000000/\∀r∈Zw x,r=0\/Obb x.h r:=by
 have vx:=s.vx;have h1:=YU s.et.eb.loc;have h2:=X7 x.g.e;have h3:=vx.mx.len;have h4:=s.et.eb.roots;rw[vx.loc,Wc]at h1;rw[vx.glo,Wc]at h2;have hl:Zw x=((x.R++XL x.l.S)++Xu x.g.e)++x.P.map (·.a):=by unfold Zw;rw[vx.loc,vx.glo];rfl
 refine⟨by rw[hl];simp only[WM,Ug];have:=s.et.eb.loc.1;have:=s.et.eb.glo;unfold TB at this;omega,λr hr=>?_⟩;rw[hl]at hr;simp only[Wt]at hr;rcases hr with((hr|hr)|hr)|hr
 .exact vx.rr r hr
 .exact vx.rl r hr
 .exact vx.rg r hr
 obtain⟨p,hp,rfl⟩:=WO.1 hr;exact .inr (vx.mx.ob p hp).1
structure O2(N k:Nat)(x y:Um)(M:List (Int×Int)):Prop where
 s:Ow N k x
 t:Ow N k y
 c:OH N x y (λ_=>True) M
 nz:∀p∈M,p.1≠0/\p.2≠0
def Xuo(hN:NB N)(s:Ow N k x):∃y M,(∃r,Qe5 N x=some (y,r,0))/\O2 N k x y M:=by have⟨⟨y,r,e⟩,ey,h0,M,c⟩:=XnO hN s.et s.vx s.cp (P:=λ_=>True) (λ_ _ _ _ _=>.inr trivial) λ_ _=>.inr trivial;obtain rfl:e=0:=h0;have c:OH N x y (λ_=>True) M:=c;have⟨r',g1,g2⟩:=Xob hN s.et;rw[ey]at g2;cases g2;exact⟨y,M,⟨r,g1⟩,s,⟨c.et,c.vx,by rw[c.lc.2];exact s.iss,by rw[c.lc.1];exact s.sc,c.ch.cap hN c.et.eb.heap s.cp⟩,c,λp hp=>c.ch.nz hN s.et.eb.heap c.et.eb.heap s.vx.mx.gx hp⟩
def XhT(m:Nat):Qgq (m+5000)=some true:=ae
end
section
variable {N k:Nat}{x y:Um}{P:Int->Prop}{M:List (Int×Int)}
def O2.rch(q:O2 N k x y M)(hN:NB N)(a:Int):QfI N x.h (Zw x) a=some (decide (a∈M.map (·.1))):=by
 have⟨e,i⟩:=Xn2 hN q.s.et.eb.heap q.s.vx.mx.gx q.s.strl.1 q.s.strl.2;rw[←q.c.od]at e i;have:=i.len (Xz hN q.s.et.eb.heap q.s.vx.mx.gx.ep);rw[QfI,e,Xa];dsimp only;rw[Yb _ ab (by unfold NB at hN;omega),Xa];congr 1;by_cases h:a∈M.map (·.1)
 .rw[UF.2 h,Wg h]
 rw[We h];simpa using h
end
section
variable {N k:Nat}{x y:Um}{P:Int->Prop}{M:List (Int×Int)}
def Xoc(hN:NB N){p:Io}(q:O2 N k p.N y M){b c:List Int}(hb:b.length<=1000000)(r:R2 (wk M) b c):∀n j:Nat,j<=b.length->b.length-j<n->QdB N p b c n (j:Int)=some (.nxt ())
 |0,j,_,hn=>by omega
 |n+1,j,hj,hn=>by
  rw[QdB,Xb ab];by_cases h:j<b.length
  .have hc:=r.1;have w:=r.2 j _ _ (Wb h) (Wb ab);have nz:=q.nz;have e:(c[j]'ab != 0)=decide (b[j]∈M.map (·.1)):=by
    rcases w with⟨e1,e2⟩|w|⟨w,e⟩
    .rw[e2,e1,We λh=>?_];rfl;obtain⟨p,hp,e⟩:=WO.1 h;exact(nz p hp).1 e
    .rw[Wg (Xj0 w),bne_iff_ne];exact(nz _ w).2
    rw[e,We w];rfl
   rw[Xl h,Wc,Xf,Wb ab,Xa,XaW hN q.s.et.eb,Xa,Xf,Wb h,Xa,q.rch hN,Xa,e,Xg ab];rw[show(decide (b[j]∈M.map (·.1))==decide (b[j]∈M.map (·.1)))=true by simp,Wi,Wa];exact Xoc hN q hb r n (j+1) ab ab
  rw[We ab,Wa]
def Xgh(hN:NB N)(l:List Int):QfJ N l=some true:=by
 have hN':=hN;unfold NB at hN';obtain⟨p,ep,k,hk,hp,s⟩:=Xr3 hN (M:=80) ab ab l;have aw:Qgq N=some true:=by obtain⟨m,rfl⟩:∃m,N=m+5000:=⟨N-5000,ab⟩;exact XhT m
 obtain⟨y,M,⟨r,ey⟩,q⟩:=Xuo hN s;have r:=OE q.c.we;have h5:=X7 p.N.v.e;rw[s.vx.wea,Wc]at h5;have h6:=s.et.eb.wea;unfold TB at h6;have hr:=r.1;have lp:=Xoc hN q ab r N 0 ab ab;rw[show((0:Nat):Int)=0 from rfl]at lp;rw[QfJ,ep,Xa,ey,Xa,X0 s.et.eb.wea ab,s.vx.wea,Wc,Xa,X0 q.c.et.eb.wea ab,q.c.vx.wea,Wc,Xa];dsimp only;rw[show((0:Int) != 0)=false from rfl,Wa,Xb ab,Xb ab,hr,show(((Xu p.N.v.e).length:Int) != ((Xu p.N.v.e).length:Int))=false by simp,Wa,lp,Xa,Xo,aw,Xa]
end
end Go.Sx
