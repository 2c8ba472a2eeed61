import Derived.Test.YtokkmapiallffaaGreatDoorKI
set_option linter.all false
namespace Go.Sx
section
variable {N:Nat}{h:Wh}{a:Int}{pins:List UB}{c:WP}
def XbO:∀{l m:List UB} {i:Int},ZB c (l++m) i=ZB c l i+ZB c m i
 |[],m,i=>by simp[ZB]
 |p::l,m,i=>by rw[List.cons_append,ZB,ZB,XbO];omega
def XgF:∀{l:List UB},(∀p∈l,p.M<=1000)->∀i,ZB c l i<=1000*l.length
 |[],_,i=>by simp[ZB]
 |p::l,h,i=>by have:=XgF (l:=l) (λq hq=>h q (WT _ hq)) i;grind[ZB,Ul]
def Xbh{l:List UB}{k:Nat}(hk:k<l.length)(i:Int):ZB c l i=ZB c (l.take k) i+(if pgi c l[k].a=i then l[k].M else 0)+ZB c (l.drop (k+1)) i:=by
 conv=>lhs;rw[←If k l,Wl hk]
 rw[XbO,ZB];omega
def Xif{l:List UB}{k:Nat}(hk:k<l.length){p:UB}(hp:p.a=l[k].a)(i:Int):ZB c (l.set k p) i=ZB c l i+if pgi c l[k].a=i then p.M-l[k].M else 0:=by have h1:=Xbh (c:=c) (l:=l.set k p) (k:=k) (by rw[WL];exact hk) i;have h2:=Xbh (c:=c) hk i;rw[List.getElem_set_self,IZ (Uh _),UV ab,hp]at h1;omega
def Xjw{l:List UB}{k:Nat}(hk:k<l.length)(i:Int):ZB c (l.eraseIdx k) i=ZB c l i-if pgi c l[k].a=i then l[k].M else 0:=by rw[Xbh hk i,List.eraseIdx_eq_take_drop_succ,XbO];omega
def Xer{α:Type}{p:α->Bool}{l:List α}(h:0<=YS p l):∃(k:Nat) (hk:k<l.length),YS p l=k/\p l[k]=true:=by
 unfold YS at h⊢;cases e:l.findIdx? p with
 |none=>simp_all
 |some k=>grind[UJ]
def Xjx{α:Type}{p:α->Bool}{l:List α}(h:YS p l<0):∀x∈l,p x=false:=by unfold YS at h;grind
def fiP(pins:List UB)(a:Int):Int:=YS (λp=>p.a==a) pins
def XsQ(pins:List UB)(a:Int):List UB:=if 0<=fiP pins a then pins.set (fiP pins a).toNat ⟨(pins.getD (fiP pins a).toNat ⟨0,0⟩).a,(pins.getD (fiP pins a).toNat ⟨0,0⟩).M+1⟩else pins++[⟨a,1⟩]
def Xt7(pins:List UB)(a:Int):List UB:=if(pins.getD (fiP pins a).toNat ⟨0,0⟩).M=1 then pins.eraseIdx (fiP pins a).toNat else pins.set (fiP pins a).toNat ⟨(pins.getD (fiP pins a).toNat ⟨0,0⟩).a,(pins.getD (fiP pins a).toNat ⟨0,0⟩).M-1⟩
def XkO(hN:NB N)(hb:HB h)(g:GX N h)(ho:Obb h a):QdA N h a=some true:=by
 have hN':=hN;unfold NB at hN';obtain⟨S,L,hS,mS,eS,eL,rfl,mL⟩:=Xbe hN hb g.ep g.ps;have hlen:(Ye h S).length<=4096:=by have h1:=hS.len;have:(Ye h S).length<=S.length:=List.length_filter_le _ _;omega
 rw[QdA,eL,Xa];dsimp only;rw[XY a ab ab,Xa,show(Ye h S).contains a=true by simp_all]
def Xmb(hN:NB N)(hb:HB h)(g:GX N h)(ho:Obb h a):∃b,QcQ N h a=some b/\(b=true↔(pg h.p (pgi h.c a)).k=1/\(pg h.p (pgi h.c a)).P=0/\h.c.p / 4<=((h.p.countP ZS:Nat):Int)):=by
 have hN':=hN;unfold NB at hN';have hp:=Xo hN hb g.ep;have hb2:=hb.2;have hvc:=Xh.1 hp.conf;have⟨eh,j0,j1⟩:=KZ (N:=N) hp (ho.1.at_ hp);have hl:∀(n k c:Nat),k<=h.p.length->h.p.length-k<n->c<=k->Qbq N h a n (c:Int) (k:Int)=some (((c+(h.p.drop k).countP ZS:Nat):Int)):=by
  intro n;induction n with
  |zero=>intro k c _ hn;omega
  |succ n ih=>
   intro k c hk hn hc;rw[Qbq];by_cases hlt:k<h.p.length;case neg=>rw[We ab,Wa,WZ ab];simp
   have:=ih (k+1) c ab ab ab;have:=ih (k+1) (c+1) ab ab ab;rw[Xi hlt,Wc,Xf,Wb hlt,Xa,Xg ab,Xg ab,Wl hlt,U9];simp only[Xa];unfold ZS at *;cases hk1:(h.p[k].k==1)<;>cases hk2:decide (h.p[k].P>0)<;>simp_all<;>omega
 have hx:Qbq N h a N 0 0=some (((0+(h.p.drop 0).countP ZS:Nat):Int)):=hl N 0 0 ab ab ab;have ed:wI (h.c.p.tdiv 4)=h.c.p / 4:=by rw[UW ab,Xe ab ab]
 rw[QcQ,(Ve hN hb).2 g,Xa,Wi,Wa,XkO hN hb g ho,Xa,Wi,Wa,hx,Xa,eh,Xa,Xn j0 j1,Xa,ed];by_cases h1:(pg h.p (pgi h.c a)).k=1;rotate_left
 .rw[Xj h1];exact⟨false,rfl,(λe=>by cases e),λq=>absurd q.1 h1⟩
 by_cases h2:(pg h.p (pgi h.c a)).P=0;rotate_left
 .rw[Xp h1,Xj h2];exact⟨false,rfl,(λe=>by cases e),λq=>absurd q.2.1 h2⟩
 simp_all
def MX.moved(m:MX N h pins){h2:Wh}(q:OY N h h2)(hl:h2.p.length=h.p.length){ps:List UB}(h64:ps.length<=64)(hob:∀p∈ps,Obb h p.a/\1<=p.M/\p.M<=1000)(hn:(ps.map (·.a)).Nodup)(hs:∀i,0<=i->i<(h.p.length:Int)->(pg h2.p i).P=ZB h.c ps i):MX N h2 ps:=
 ⟨q.gx,h64,λp hp=>⟨(q.ob _).2 (hob p hp).1,(hob p hp).2⟩,hn,λi i0 i1=>by simp_all[hl,q.cf]⟩
def XoC(hN:NB N)(ht:HT h)(m:MX N h pins)(ho:Obb h a):Ok (Qft N h pins a) λr=>r.2.2.2=18\/(r.2.2.2=0/\OY N h r.1/\MX N r.1 r.2.1/\r.2.1=XsQ pins a/\r.2.2.1=a+1/\(0<=fiP pins a->(pins.getD (fiP pins a).toNat ⟨0,0⟩).M≠1000)/\(fiP pins a<0->pins.length≠64)):=by
 have hN':=hN;unfold NB at hN';have hb:=ht.hb;have g:=m.gx;have hp:=Xo hN hb g.ep;have hat:=ho.1.at_ hp;have hr:=hat.rng;have⟨eh,j0,j1⟩:=KZ (N:=N) hp hat;have h64:=m.len;have hpm:=XE hp.conf (i:=0) ab (by have:=Xh.1 hp.conf;omega);have⟨b,ec,hbc⟩:=Xmb hN hb g ho;have hsum:=m.sm _ j0 j1;have hnn:=XgE (c:=h.c) (l:=pins) (λp hp=>(m.ob p hp).2.1) (pgi h.c a);have hle:=XgF (c:=h.c) (l:=pins) (λp hp=>(m.ob p hp).2.2) (pgi h.c a);rw[Qft,(XaM hN hb pins).2 m,Xa,Wi,Wa,Xj ab,Wa,XkO hN hb g ho,Xa,Wi,Wa,Xgt pins a ab ab,Xa,Xv];rw[show YS (λp:UB=>p.a==a) pins=fiP pins a from rfl,ec];simp only[Xa];have cnt:b=false->∃h2,QbZ N h a 1=some h2/\OY N h h2/\h2.p.length=h.p.length/\∀i,0<=i->(pg h2.p i).P=if i=pgi h.c a then(pg h.p i).P+1 else(pg h.p i).P:=λhbf=>
  XkN hN ht g ho ab ab λk _=>by
   grind
 by_cases hf:0<=fiP pins a
 .have⟨k,hk,ek,hpk⟩:=Xer hf;have ek:fiP pins a=k:=ek;have hgd:pins.getD k ⟨0,0⟩=pins[k]:=by rw[Wk,Wb hk];rfl
  have hpr:pins[k].a=a:=by simpa using hpk
  have hob:=m.ob _ (Wt hk);unfold XsQ;rw[Wm hf,ek,show(k:Int).toNat=k from rfl,hgd,Wg ab,Wc,Xf,Wb hk,Xa];by_cases h1000:pins[k].M=1000
  .rw[Xp h1000,Wc];exact Wd (.inl rfl)
  rw[Xj h1000,Wa,We ab,Wa];cases hbv:b with
  |true=>exact Wd (.inl rfl)
  |false=>
   have⟨h2,e2,pq,pl,ps⟩:=cnt hbv;rw[Wa,Xb ab,Xv,Wc,Xa,Xa,e2];dsimp only;rw[Xa,Xe ab ab,Xt ab ab];refine Wd (.inr ⟨rfl,pq,?_,rfl,rfl,λ_=>h1000,λh=>ab⟩);refine m.moved pq pl (by simp_all) (λp hp=>?_) ?_ λi i0 i1=>?_
   .rcases W0 hp with hp|hp
    .exact m.ob p hp
    grind
   .rw[List.map_set];have:(pins.map (·.a)).set k pins[k].a=pins.map (·.a):=by
     apply IG
     .simp
     grind
    rw[this];exact m.nd
   rw[Xif (p:=⟨pins[k].a,pins[k].M+1⟩) hk rfl,hpr,ps i i0,m.sm i i0 i1];grind
 have hnone:=Xjx (p:=λp:UB=>p.a==a) (l:=pins) (by have:YS (λp:UB=>p.a==a) pins=fiP pins a:=rfl;omega);unfold XsQ;rw[Wj hf,We ab,Wa,Wg ab,Wc];by_cases h64':pins.length=64
 .rw[show((pins.length:Int)==64)=true by simp_all,Wc];exact Wd (.inl rfl)
 rw[Xj (show¬(pins.length:Int)=64 by omega),Wa];cases hbv:b with
 |true=>exact Wd (.inl rfl)
 |false=>
  have⟨h2,e2,pq,pl,ps⟩:=cnt hbv;rw[Wa,Xb ab,Xv,Wa,Xb ab,e2];dsimp only;rw[Xa,Xt ab ab];refine Wd (.inr ⟨rfl,pq,?_,rfl,rfl,λh=>ab,λ_=>h64'⟩);refine m.moved pq pl (by grind) (λp hp=>?_) ?_ λi i0 i1=>?_
  .rcases Wr.1 hp with hp|hp
   .exact m.ob p hp
   simp_all
  .rw[UI,UT];refine⟨m.nd,ac,λx hx y hy e=>?_⟩;grind
  rw[XbO,ZB,ZB,ps i i0,m.sm i i0 i1];grind
def XoD(hN:NB N)(ht:HT h)(m:MX N h pins)(ho:Obb h a):Ok (Qdo N h pins a) λr=>(r.2.2=12/\fiP pins a<0)\/(r.2.2=0/\0<=fiP pins a/\OY N h r.1/\MX N r.1 r.2.1/\r.2.1=Xt7 pins a):=by
 have hN':=hN;unfold NB at hN';have hb:=ht.hb;have g:=m.gx;have hp:=Xo hN hb g.ep;have hat:=ho.1.at_ hp;have hr:=hat.rng;have⟨eh,j0,j1⟩:=KZ (N:=N) hp hat;have h64:=m.len;have hsum:=m.sm _ j0 j1;have hle:=XgF (c:=h.c) (l:=pins) (λp hp=>(m.ob p hp).2.2) (pgi h.c a);rw[Qdo,(XaM hN hb pins).2 m,Xa,Wi,Wa,Xj ab,Wa,Xgt pins a ab ab,Xa];rw[show YS (λp:UB=>p.a==a) pins=fiP pins a from rfl];by_cases hf:fiP pins a<0
 .rw[Wg hf,Wc];exact Wd (.inl ⟨rfl,hf⟩)
 have hf':0<=fiP pins a:=ab;have⟨k,hk,ek,hpk⟩:=Xer (p:=λp:UB=>p.a==a) (l:=pins) hf';have ek:fiP pins a=k:=ek;have hgd:pins.getD k ⟨0,0⟩=pins[k]:=by rw[Wk,Wb hk];rfl
 have hpr:pins[k].a=a:=by simpa using hpk
 have hob:=m.ob _ (Wt hk);have hpos:=Xep (c:=h.c) (l:=pins) (λp hp=>(m.ob p hp).2.1) _ (Wt hk);rw[hpr]at hpos;obtain⟨h2,e2,pq,pl,ps⟩:=XkN hN ht g ho (by_:=-1) ab ab λk hpp=>.inl ab;unfold Xt7;rw[ek,show(k:Int).toNat=k from rfl,hgd,We ab,Wa,Xb ab,Xf,Wb hk,Xa,Xa,Xe (n:=pins[k].M-1) ab ab,Xf,List.getElem?_set_self hk,Xa];dsimp only;by_cases h1:pins[k].M=1
 .rw[Wm h1,Xp ab,Wc,Xb ab,Xg ab,Xb ab,show((k+1:Nat):Int).toNat=k+1 from rfl,Xb ab,e2,Xa];have er:(((((pins.set k (UB.mk pins[k].a (pins[k].M-1))).take k)++(((pins.set k (UB.mk pins[k].a (pins[k].M-1))).drop (k+1)).take (pins.length-(k+1))))++((pins.set k (UB.mk pins[k].a (pins[k].M-1))).drop (k+(pins.length-(k+1))))).take (k+(pins.length-(k+1))))=pins.eraseIdx k:=by
   have hl1:((pins.set k (UB.mk pins[k].a (pins[k].M-1))).take k++((pins.set k (UB.mk pins[k].a (pins[k].M-1))).drop (k+1)).take (pins.length-(k+1))).length=k+(pins.length-(k+1)):=by rw[WK,Ws,Ws,WA,WL];omega
   rw[List.take_append_of_le_length ab,Uy ab,Uy (l:=List.drop _ _) ac,IZ (Uh _),UV ab,List.eraseIdx_eq_take_drop_succ]
  rw[er];refine Wd (.inr ⟨rfl,ab,pq,?_,rfl⟩);refine m.moved pq pl (by grind) (λp hp=>m.ob p (List.mem_of_mem_eraseIdx hp)) ?_ λi i0 i1=>?_
  .exact m.nd.sublist ((List.eraseIdx_sublist pins k).map _)
  rw[Xjw hk,hpr,ps i i0,m.sm i i0 i1];omega
 rw[Wj h1,Xj ab,Wa,e2,Xa];refine Wd (.inr ⟨rfl,ab,pq,?_,rfl⟩);refine m.moved pq pl (by simp_all) (λp hp=>?_) ?_ λi i0 i1=>?_
 .rcases W0 hp with hp|hp
  .exact m.ob p hp
  grind
 .rw[List.map_set];have:(pins.map (·.a)).set k pins[k].a=pins.map (·.a):=by
   apply IG
   .simp
   grind
  rw[this];exact m.nd
 rw[Xif (p:=⟨pins[k].a,pins[k].M-1⟩) hk rfl,hpr,ps i i0,m.sm i i0 i1];grind
end
def XaO{α:Type}(f:α->Int):∀(l:List α) (s:Int),l.foldl (λ_ p=>f p) s=match l.getLast? with|some p=>f p|none=>s
 |[],s=>rfl
 |[x],s=>rfl
 |x::y::l,s=>by rw[IA,XaO f (y::l),List.getLast?_cons_cons];rfl
def Xck{α:Type}{l:List α}{i:Nat}{q:α}(h:l[i]? = some q):(l.take (i+1)).getLast? = some q:=by grind
structure Sq(iss:List Int)(i:Nat)(p:UH):Prop where
 pos:0<p.J
 le:p.J<=(iss.length:Int)
 ix:iss.getD (p.J-1).toNat 0=i
 lv:p.V=true↔p.a≠0
def XaP{iss:List Int}{l:List UH}:stB iss l=true↔(∀i p,l[i]? = some p->Sq iss i p)/\∀i p q,l[i]? = some q->l[i+1]? = some p->q.J<p.J:=by
 constructor
 .intro h;refine⟨λi p hp=>?_,λi p q hq hp=>?_⟩
  .have:=Xaz h hp;exact⟨ab,this.2.1,this.2.2.1,this.2.2.2⟩
  have:=(Y8 l (0:Int) 0).1 h (i+1) p hp;rw[XaO,Xck hq]at this;unfold stQ at this;simp_all
 rintro⟨h1,h2⟩;refine(Y8 l (0:Int) 0).2 λi p hp=>?_;have e:=h1 i p hp;have hs:(l.take i).foldl (λ_ (p:UH)=>p.J) 0<p.J:=by
  cases i with
  |zero=>exact e.pos
  |succ i=>have hk:=Xu hp;have hq:=Wb (show i<l.length by omega);rw[XaO,Xck hq];exact h2 i p _ hq hp
 have e1:=e.le;have e2:=e.ix;have e3:=e.lv;unfold stQ;grind
structure Sr(n i:Nat)(p:UX):Prop where
 f0:0<=p.O
 fn:p.O<=(n:Int)
 c0:0<=p.C0
 c1:p.C0<=64
 z:i=0->p.O=0/\p.B0=true
def VB{n:Nat}{l:List UX}:neB n l=true↔(∀i p,l[i]? = some p->Sr n i p)/\∀i p q,l[i]? = some q->l[i+1]? = some p->q.O<=p.O:=by
 constructor
 .intro h;refine⟨λi p hp=>?_,λi p q hq hp=>?_⟩
  .have:=KG h hp;exact⟨this.1,this.2.1,this.2.2.1,this.2.2.2.1,this.2.2.2.2.1⟩
  exact(KG h hq).2.2.2.2.2 p hp
 rintro⟨h1,h2⟩;refine(Y8 l (0:Int) 0).2 λi p hp=>?_;have e:=h1 i p hp;have hs:(l.take i).foldl (λ_ (p:UX)=>p.O) 0<=p.O:=by
  cases i with
  |zero=>exact e.f0
  |succ i=>have hk:=Xu hp;have hq:=Wb (show i<l.length by omega);rw[XaO,Xck hq];exact h2 i p _ hq hp
 have e1:=e.fn;have e2:=e.c0;have e3:=e.c1;have e4:=e.z;unfold neQ;grind
def KH{a:Wq}:Xb6 a=true↔∀i p,a.x[i]? = some p->((YQ a.S p.O.toNat (toL a i).toNat:Nat):Int)<=p.C0:=by unfold Xb6;rw[Y8];unfold Xhy;simp
def O0.mono{a:Wq}(h:O0 a){i j:Nat}{p q:UX}(hp:a.x[i]? = some p)(hq:a.x[j]? = some q)(hij:i<=j):p.O<=q.O:=by
 have hn:=(VB.1 h.ne).2;obtain⟨k,rfl⟩:∃k,j=i+k:=⟨j-i,ab⟩
 induction k generalizing q with
 |zero=>simp_all
 |succ k ih=>grind
def Xmc{l m:List UH}{f t:Nat}(h:t<=l.length):YQ (l++m) f t=YQ l f t:=by
 unfold YQ;by_cases hf:f<=l.length
 .grind
 rw[show t-f=0 by omega];simp
def XgG{a:Wq}(h:a.x.length≠0):a.x[a.x.length-1]? = some (Z8 a):=by have e:=Wb (show a.x.length-1<a.x.length by omega);unfold Z8;grind
def Xes{a:Wq}{i:Nat}(h:a.x.length<=i+1):toL a i=(a.S.length:Int):=by unfold toL;simp_all
def Ju{a:Wq}{i:Nat}{p:UX}(h:a.x[i+1]? = some p):toL a i=p.O:=by unfold toL;rw[h]
def XoE{a:Wq}{x:Int}(h:(ZY a x).2.2.2=0):Ym (ZY a x).1=true/\x≠0/\(ZY a x).1=⟨a.S++[⟨(a.i.length:Int)+1,x,true⟩],a.x,a.i++[(a.S.length:Int)]⟩/\(ZY a x).2.1=(a.S.length:Int)/\(ZY a x).2.2.1=(a.i.length:Int)+1:=by
 unfold ZY at h⊢;by_cases h1:Ym a=false
 .simp_all
 rw[Wj h1]at h⊢;by_cases h2:x=0
 .simp_all
 rw[Wj h2]at h⊢;by_cases h3:a.x.length=0
 .simp_all
 rw[Wj h3]at h⊢;by_cases h4:(Z8 a).C0<=((YQ a.S (Z8 a).O.toNat a.S.length:Nat):Int)
 .simp_all
 rw[Wj h4]at h⊢;by_cases h5:a.i.length=4096
 .simp_all
 rw[Wj h5];refine⟨?_,h2,rfl,rfl,rfl⟩;have f:=XW.1 (by simpa using h1);have hs:=f.slots;have hi:=f.iss;have⟨s1,s2⟩:=XaP.1 f.st;have⟨n1,n2⟩:=VB.1 f.ne;refine XW.2 ⟨by grind,f.sc,λe=>absurd e h3,λy hy=>?_,XaP.2 ⟨λi p hp=>?_,λi p q hq hp=>?_⟩,VB.2 ⟨λi p hp=>?_,n2⟩,KH.2 λi p hp=>?_⟩
 .rcases Wr.1 hy with hy|hy
  .exact f.issr y hy
  grind
 .by_cases hlt:i<a.S.length
  .rw[Uk hlt]at hp;have e:=s1 i p hp;have e1:=e.le;refine⟨e.pos,by grind,?_,e.lv⟩;rw[Wk,Uk ab,←Wk];exact e.ix
  rw[Ud ab]at hp;have hi0:i=a.S.length:=by apply Classical.byContradiction;intro hn;rw[WN ai]at hp;cases hp
  subst hi0;rw[U6]at hp;cases hp;refine⟨by dsimp only;omega,ac,?_,?_⟩
  .rw[show((a.i.length:Int)+1-1).toNat=a.i.length by omega,Wk,Ud ab,U6];rfl
  simp_all
 .by_cases hlt:i+1<a.S.length
  .grind
  have hi0:i+1=a.S.length:=by apply Classical.byContradiction;intro hn;rw[WN ai]at hp;cases hp
  rw[Uk ab]at hq;rw[Ud ab,hi0,U6]at hp;have:=(s1 i q hq).le;grind
 .have e:=n1 i p hp;have e1:=e.fn;exact⟨e.f0,by grind,e.c0,e.c1,e.z⟩
 dsimp only at hp⊢;have e:=n1 i p hp;have e1:=e.fn;have hc:=KH.1 f.cap i p hp;by_cases hl:a.x.length<=i+1
 .have hik:=Xu hp;have:i=a.x.length-1:=ab;rw[this,XgG h3]at hp;cases hp;rw[Xes (a:=Wq.mk (a.S++[UH.mk ((a.i.length:Int)+1) x true]) a.x (a.i++[(a.S.length:Int)])) hl];have:YQ (a.S++[⟨(a.i.length:Int)+1,x,true⟩]) (Z8 a).O.toNat (((a.S++[(⟨(a.i.length:Int)+1,x,true⟩:UH)]).length:Nat):Int).toNat=YQ a.S (Z8 a).O.toNat a.S.length+1:=by unfold YQ;rw[List.drop_append_of_le_length ab,Uy ai,Uy (by rw[WA];omega),List.countP_append];simp
  grind
 have hn:=Wb (show i+1<a.x.length by omega);rw[Ju hn]at hc;rw[Ju (a:=Wq.mk (a.S++[UH.mk ((a.i.length:Int)+1) x true]) a.x (a.i++[(a.S.length:Int)])) hn];have:=(n1 (i+1) _ hn).fn;rw[Xmc ab];omega
def XeQ{l:List UH}{k:Nat}{s:UH}(h:s.V=false):(l.set k s).countP (·.V)<=l.countP (·.V):=by
 by_cases hk:k<l.length
 .grind
 rw[List.set_eq_of_length_le ab];omega
def XoF{a:Wq}{i g:Int}(h:(X9 a i g).2=0):Ym a=true/\0<=i/\∃p,a.S[i.toNat]? = some p/\p.J=g/\p.V=true/\(X9 a i g).1=p.a:=XaD h
def XoG{a:Wq}{i g:Int}(h:(JI a i g).2=0):Ym (JI a i g).1=true/\(JI a i g).1=⟨a.S.set i.toNat ⟨g,0,false⟩,a.x,a.i⟩/\(X9 a i g).2=0:=by
 unfold JI at h⊢;by_cases hg:(X9 a i g).2=0;rotate_left
 .simp_all
 rw[Wj ab];refine⟨?_,rfl,hg⟩;have⟨hv,i0,p,hp,ep,hl,_⟩:=XoF hg;have f:=XW.1 hv;have⟨s1,s2⟩:=XaP.1 f.st;have key:∀(j:Nat) (q:UH),(a.S.set i.toNat ⟨g,0,false⟩)[j]? = some q->∃q':UH,a.S[j]? = some q'/\q.J=q'.J/\(q=q'\/q.V=false/\q.a=0):=λj q hq=>by grind
 refine XW.2 ⟨f.iss,f.sc,λe=>by rw[WL];exact f.none e,f.issr,XaP.2 ⟨λj q hq=>?_,λj q r hr hq=>?_⟩,by rw[WL];exact f.ne,KH.2 λj q hq=>?_⟩
 .have⟨q',hq',e1,e2⟩:=key j q hq;have e:=s1 j q' hq';refine⟨by rw[e1];exact e.pos,by rw[e1];exact e.le,by rw[e1];exact e.ix,?_⟩;rcases e2 with rfl|⟨h1,h2⟩
  .exact e.lv
  simp_all
 .grind
 have hc:=KH.1 f.cap j q hq;have et:toL ⟨a.S.set i.toNat ⟨g,0,false⟩,a.x,a.i⟩ j=toL a j:=by unfold toL;simp
 rw[et];refine Int.le_trans (Int.ofNat_le.2 ?_) hc;unfold YQ;by_cases h1:q.O.toNat<=i.toNat
 .rw[List.drop_set,Wj ab,List.take_set];exact XeQ rfl
 rw[UV ab];omega
def Xmd{a:Wq}{c:Int}(h:(KA a c).2=0):Ym (KA a c).1=true/\(KA a c).1=⟨a.S,a.x++[⟨(a.S.length:Int),c,false⟩],a.i⟩:=by
 unfold KA at h⊢;by_cases h1:Ym a=false\/c<0\/64<c
 .simp_all
 rw[Wj h1]at h⊢;by_cases h2:a.x.length=0
 .simp_all
 rw[Wj h2]at h⊢;by_cases h3:a.x.length=64
 .simp_all
 rw[Wj h3];refine⟨?_,rfl⟩;have hv1:Ym a=true:=by
  cases hv:Ym a with
  |true=>rfl
  |false=>simp_all
 have f:=XW.1 hv1;have hsc:=f.sc;have⟨n1,n2⟩:=VB.1 f.ne;refine XW.2 ⟨f.iss,by grind,λe=>by grind,f.issr,f.st,VB.2 ⟨λi p hp=>?_,λi p q hq hp=>?_⟩,KH.2 λi p hp=>?_⟩
 .by_cases hlt:i<a.x.length
  .grind
  rw[Ud ab]at hp;have hi0:i=a.x.length:=by apply Classical.byContradiction;intro hn;rw[WN (by grind)]at hp;cases hp
  subst hi0;rw[U6]at hp;cases hp;exact⟨ac,Uu _,by simp_all,by simp_all,λe=>absurd e h2⟩
 .by_cases hlt:i+1<a.x.length
  .grind
  have hi0:i+1=a.x.length:=by apply Classical.byContradiction;intro hn;rw[WN (by grind)]at hp;cases hp
  rw[Uk ab]at hq;rw[Ud ab,hi0,U6]at hp;cases hp;exact(n1 i q hq).fn
 by_cases hlt:i<a.x.length
 .rw[Uk hlt]at hp;have hc:=KH.1 f.cap i p hp;have et:toL ⟨a.S,a.x++[⟨(a.S.length:Int),c,false⟩],a.i⟩ i=toL a i:=by
   by_cases hl:i+1<a.x.length
   .have hn:=Wb hl;rw[Ju hn,Ju (p:=a.x[i+1]) (by rw[Uk hl];exact hn)]
   rw[Xes (a:=a) ab,Ju (p:=⟨(a.S.length:Int),c,false⟩) (by rw[Ud ab,show i+1-a.x.length=0 by omega];rfl)]
  simp_all
 rw[Ud ab]at hp;have hi0:i=a.x.length:=by apply Classical.byContradiction;intro hn;rw[WN ai]at hp;cases hp
 subst hi0;rw[U6]at hp;cases hp;unfold YQ;simp_all
def XoH{a:Wq}(h:(Zo a).2=0):Ym (Zo a).1=true/\(Zo a).1=⟨a.S.take (Z8 a).O.toNat,a.x.take (a.x.length-1),a.i⟩:=by
 unfold Zo at h⊢;by_cases h1:Ym a=false
 .simp_all
 rw[Wj h1]at h⊢;by_cases h2:a.x.length=0
 .simp_all
 rw[Wj h2]at h⊢;by_cases h3:(Z8 a).B0=true
 .simp_all
 rw[Wj h3];refine⟨?_,rfl⟩;have f:=XW.1 (by simpa using h1);have hsc:=f.sc;have⟨s1,s2⟩:=XaP.1 f.st;have⟨n1,n2⟩:=VB.1 f.ne;have ht:=XgG h2;have et:=n1 _ _ ht;have t1:=et.fn;have hlen:a.x.length≠1:=λe=>by have:=et.z ab;simp_all
 have tk:∀{i:Nat} {p:UX},(a.x.take (a.x.length-1))[i]? = some p->a.x[i]? = some p/\i<a.x.length-1:=λ{i p} hp=>by grind
 have ts:∀{i:Nat} {p:UH},(a.S.take (Z8 a).O.toNat)[i]? = some p->a.S[i]? = some p:=λ{i p} hp=>by grind
 have sl:(a.S.take (Z8 a).O.toNat).length=(Z8 a).O.toNat:=by rw[Ws];omega
 refine XW.2 ⟨f.iss,by grind,λe=>by grind,f.issr,XaP.2 ⟨λi p hp=>s1 i p (ts hp),λi p q hq hp=>s2 i p q (ts hq) (ts hp)⟩,VB.2 ⟨λi p hp=>?_,λi p q hq hp=>n2 i p q (tk hq).1 (tk hp).1⟩,KH.2 λi p hp=>?_⟩
 .have⟨hp,hi⟩:=tk hp;have e:=n1 i p hp;have:=f.mono hp ht ab;exact⟨e.f0,by grind,e.c0,e.c1,e.z⟩
 have⟨hp',hi⟩:=tk hp;have hc:=KH.1 f.cap i p hp';have hn:=Wb (show i+1<a.x.length by omega);rw[Ju hn]at hc;have en:=n1 _ _ hn;have n0:=en.f0;have hle:=f.mono hn ht ab;have et':toL ⟨a.S.take (Z8 a).O.toNat,a.x.take (a.x.length-1),a.i⟩ i=a.x[i+1].O:=by
  by_cases hl:i+1<a.x.length-1
  .rw[Ju (p:=a.x[i+1]) (by rw[Ur,Wm hl];exact hn)]
  rw[Xes (by rw[Ws];omega)];rw[sl];have:i+1=a.x.length-1:=ab;have e2:a.x[i+1]? = some (Z8 a):=by rw[this];exact ht
  rw[Wz (hn.symm.trans e2)];omega
 rw[et'];dsimp only;have:YQ (a.S.take (Z8 a).O.toNat) p.O.toNat (a.x[i+1].O).toNat=YQ a.S p.O.toNat (a.x[i+1].O).toNat:=by unfold YQ;rw[List.drop_take,List.take_take,Oa ab]
 omega
structure Sf(r:Int->Int->Prop)(a b:Wq):Prop where
 sc:b.x=a.x
 is_:b.i=a.i
 sl:R2 (sR r) a.S b.S
def Zr(r:Int->Int->Prop):Prop:=∀x y,r x y->(y=0↔x=0)
section
variable {r:Int->Int->Prop}{a b:Wq}{x y i g:Int}{s t:WD}
def R2.none{α β:Type}{r:α->β->Prop}{l:List α}{m:List β}(h:R2 r l m){k:Nat}(e:l[k]? = none):m[k]? = none:=by rw[List.getElem?_eq_none_iff]at e⊢;rw[h.1];omega
def Xme(hz:Zr r)(h:Sf r a b):(X9 b i g).2=(X9 a i g).2/\((X9 a i g).2=0->r (X9 a i g).1 (X9 b i g).1):=by
 unfold X9;rw[XkK hz h.sc h.is_ h.sl,h.is_,h.sl.1];split
 .omega
 split
 .omega
 split
 .omega
 split
 .omega
 cases e:a.S[i.toNat]? with
 |none=>simp[h.sl.none,e]
 |some p=>
  have⟨q,eq,hq⟩:=h.sl.get e;rw[eq];dsimp only;rw[hq.1,hq.2.1];split
  .omega
  cases hl:p.V with
  |false=>simp
  |true=>exact⟨rfl,λ_=>hq.2.2.1 hl⟩
def Xfv{l m:List W6}(h:R2 (eR r) l m):(X6 m i g).2=(X6 l i g).2/\((X6 l i g).2=0->r (X6 l i g).1 (X6 m i g).1):=by
 unfold X6;rw[XgD h,h.1];split
 .omega
 split
 .omega
 cases e:l[i.toNat]? with
 |none=>simp_all
 |some p=>
  have⟨q,eq,hq⟩:=h.get e;rw[eq];dsimp only;rw[hq.1,hq.2.1];split
  .omega
  split
  .omega
  cases hl:p.V with
  |false=>simp
  |true=>exact⟨rfl,λ_=>hq.2.2.1 hl⟩
def Xig(h:(Zx t x).2.2.2=0):Yh (Zx t x).1.e=true/\∀r∈Xr (Zx t x).1.e,r∈Xr t.e\/r=x:=by
 unfold Zx at h⊢;by_cases hv:Yh t.e=false
 .simp_all
 rw[Wj hv]at h⊢;have hv:Yh t.e=true:=by simpa using hv
 have hv':=hv;unfold Yh at hv';rw[WH,WV,decide_eq_true_iff]at hv';have lt:∀{e:W6} {l:List W6},e∈l->e.V=true->e.a∈Xr l:=λhe hl=>WI.2 ⟨_,WY.2 ⟨he,hl⟩,rfl⟩;have tl:∀{q:Int} {l:List W6},q∈Xr l->∃e∈l,e.V=true/\e.a=q:=λhq=>by obtain⟨e,he,rfl⟩:=WI.1 hq;grind
 cases e:XhB t.e with
 |none=>
  rw[e]at h;dsimp only at h⊢;by_cases h64:t.e.length=64
  .rw[Wm h64]at h;exact absurd h ag
  rw[Wj h64];refine⟨?_,λq hq=>?_⟩
  .unfold Yh;rw[WH,WV,decide_eq_true_iff];refine⟨λz hz=>?_,ai⟩;rcases Wr.1 hz with hz|hz
   .exact hv'.1 z hz
   rw[Uc.1 hz];rfl
  grind
 |some k=>
  have hk:=e;unfold XhB at hk;rw[UJ]at hk;obtain⟨hlt,hp,_⟩:=hk;rw[WH,decide_eq_true_iff]at hp;have hgd:t.e.getD k ⟨0,0,false⟩=t.e[k]:=by rw[Wk,Wb hlt];rfl
  dsimp only;rw[hgd];have hg:=hv'.1 _ (Wt hlt);unfold Jp at hg;simp at hg;refine⟨?_,λq hq=>?_⟩
  .unfold Yh;rw[WH,WV,decide_eq_true_iff];refine⟨λz hz=>?_,by rw[WL];exact hv'.2⟩;rcases W0 hz with hz|hz
   .exact hv'.1 z hz
   rw[hz];unfold Jp;simp;omega
  grind
def Xih(h:(Z9 t i g).2=0):Yh (Z9 t i g).1.e=true/\∀r∈Xr (Z9 t i g).1.e,r∈Xr t.e:=by
 unfold Z9 at h⊢;by_cases hg:(X6 t.e i g).2=0;rotate_left
 .simp_all
 rw[Wj ab];have ok:=J9 hg;have⟨hv,_,p,hp,ep,_,_⟩:=ok;have hv':=hv;unfold Yh at hv';rw[WH,WV,decide_eq_true_iff]at hv';have hgn:=hv'.1 p (W5 hp);unfold Jp at hgn;refine⟨?_,λq hq=>?_⟩
 .unfold Yh;rw[WH,WV,decide_eq_true_iff];refine⟨λz hz=>?_,by simp_all⟩;rcases W0 hz with hz|hz
  .simp_all
  unfold Jp;simp_all
 obtain⟨z,hz,rfl⟩:=WI.1 hq;have hz2:=WY.1 hz;rcases W0 hz2.1 with h1|h1
 .exact WI.2 ⟨z,WY.2 ⟨h1,hz2.2⟩,rfl⟩
 simp_all
def Xmf(l m:List UH):XA (l++m)=XA l++XA m:=by unfold XA;simp
def Xmg{l:List UH}{k:Nat}{s:UH}(hs:s.V=false):∀q∈XA (l.set k s),q∈XA l:=λq hq=>by
 obtain⟨z,hz,rfl⟩:=WI.1 hq;have hz2:=WY.1 hz;rcases W0 hz2.1 with h1|h1
 .exact WI.2 ⟨z,WY.2 ⟨h1,hz2.2⟩,rfl⟩
 simp_all
def Xjy{l:List UH}{k:Nat}:∀q∈XA (l.take k),q∈XA l:=λq hq=>by obtain⟨z,hz,rfl⟩:=WI.1 hq;have hz2:=WY.1 hz;exact WI.2 ⟨z,WY.2 ⟨WQ hz2.1,hz2.2⟩,rfl⟩
end
def ZN(x:Uj)(v:Int):Int×Int:=
 if v=0 then(0,0)else if(X0 v).2≠0 then(0,(X0 v).2)else
 if(X0 v).1.Tag=1 then X9 x.l (X0 v).1.Index (X0 v).1.J else
 if(X0 v).1.Tag=2 then X6 x.g.e (X0 v).1.Index (X0 v).1.J else X6 x.v.e (X0 v).1.Index (X0 v).1.J
def thE(x:Uj)(v:Int):Int×Int:=if(ZN x v).2=0/\(ZN x v).1=0 then(0,5)else ZN x v
structure Oz(N k:Nat)(x:Uj):Prop where
 et:ET x
 vx:VX N x
 iss:x.l.i.length<=k
 sc:x.l.x.length≠0
 cp:Cap x.h
def SV(N k:Nat)(y:Uj×Int×Int):Prop:=y.2.2=0->Oz N k y.1
structure CV(N k:Nat)(x:Uj)(a b c:Int):Prop where
 s:Oz N k x
 hN:NB N
 ta:tU a
 tb:tU b
 tc:tU c
def ZT{e f:Int}(h:e=f):(e != f)=false:=by grind
def XsR{l:Wq}(h:Ym l=true):LBp l:=by have f:=XW.1 h;have:=f.slots;have:=f.iss;have:=f.sc;exact⟨ab,ab,ab⟩
def XrT{t:WD}(h:Yh t.e=true):TB t:=by have:=Jq h;unfold TB;omega
section
variable {N k:Nat}{x:Uj}
def Xc6(hN:NB N)(ht:ET x)(vx:VX N x){v:Int}(tv:tU v):QaG N x v=some (ZN x v):=by
 have hN':1000000<N:=by unfold NB at hN;omega
 have hx:=ht.eb;rw[QaG,(Jg hN ht).2 vx,Xa,Wi,Wa,XdU tv,ZN];by_cases hz:v=0
 .rw[Xp hz,Wm hz];rfl
 rw[Xj hz,Wa,Xa,Wj hz];by_cases hd:(X0 v).2=0;rotate_left
 .rw[Xk hd,Wm hd];rfl
 rw[show((X0 v).2 != 0)=false by simp[hd],Wa,Wj (by simp[hd]),XaC hx.loc hN',KY hx.glo hN',KY hx.wea hN',Xa,Xa,Xa];grind
def XsS(hN:NB N)(ht:ET x)(vx:VX N x){v:Int}(tv:tU v):QbY N x v=some (thE x v):=by rw[QbY,Xc6 hN ht vx tv,Xa,thE];grind
def Xc7(vx:VX N x){v:Int}(h:(ZN x v).2=0):(ZN x v).1=0\/Obb x.h (ZN x v).1:=by
 unfold ZN at h⊢;by_cases h0:v=0
 .simp_all
 rw[Wj h0]at h⊢;by_cases h1:(X0 v).2≠0
 .simp_all
 rw[Wj h1]at h⊢;by_cases h2:(X0 v).1.Tag=1
 .rw[Wm h2]at h⊢;have⟨_,_,p,hp,_,hl,e⟩:=XaD h;rw[e];exact vx.rl _ (WI.2 ⟨p,WY.2 ⟨W5 hp,hl⟩,rfl⟩)
 rw[Wj h2]at h⊢;by_cases h3:(X0 v).1.Tag=2
 .rw[Wm h3]at h⊢;have⟨_,_,p,hp,_,hl,e⟩:=J9 h;rw[e];exact vx.rg _ (WI.2 ⟨p,WY.2 ⟨W5 hp,hl⟩,rfl⟩)
 rw[Wj h3]at h⊢;have⟨_,_,p,hp,_,hl,e⟩:=J9 h;rw[e];exact vx.rw_ _ (WI.2 ⟨p,WY.2 ⟨W5 hp,hl⟩,rfl⟩)
def XoI{v:Int}(h0:v≠0)(h:(ZN x v).2=0):(X0 v).2=0/\((X0 v).1.Tag=1->(X9 x.l (X0 v).1.Index (X0 v).1.J).2=0)/\((X0 v).1.Tag=2->(X6 x.g.e (X0 v).1.Index (X0 v).1.J).2=0)/\((X0 v).1.Tag=3->(X6 x.v.e (X0 v).1.Index (X0 v).1.J).2=0):=by unfold ZN at h;grind
def Oz.up{k':Nat}(s:Oz N k x)(h:k<=k'):Oz N k' x:=⟨s.et,s.vx,UL s.iss h,s.sc,s.cp⟩
def Oz.tabs{k':Nat}(s:Oz N k x){L:Wq}{G W:WD}(v1:Ym L=true)(v2:Yh G.e=true)(v3:Yh W.e=true)(m0:∀r∈Xr G.e,r≠0)(m1:∀r∈XA L.S,r=0\/Obb x.h r)(m2:∀r∈Xr G.e,r=0\/Obb x.h r)(m3:∀r∈Xr W.e,r=0\/Obb x.h r)(i:L.i.length<=k')(sc:L.x.length≠0):Oz N k' ⟨x.h,L,G,W,x.P,x.R⟩:=
 ⟨⟨⟨s.et.eb.heap,XsR v1,XrT v2,XrT v3,s.et.eb.pins,s.et.eb.roots⟩,s.et.tw⟩,⟨s.vx.mx,v1,v2,v3,m0,s.vx.rr,m1,m2,m3⟩,i,sc,s.cp⟩
def Oz.locs{k':Nat}(s:Oz N k x){L:Wq}(v1:Ym L=true)(m1:∀r∈XA L.S,r=0\/Obb x.h r)(i:L.i.length<=k')(sc:L.x.length≠0):Oz N k' ⟨x.h,L,x.g,x.v,x.P,x.R⟩:=
 s.tabs v1 s.vx.glo s.vx.wea s.vx.gz m1 s.vx.rg s.vx.rw_ i sc
def Oz.heap(s:Oz N k x){h2:Wh}{pins:List UB}(ht:HT h2)(mx:MX N h2 pins)(ob:∀b,Obb x.h b->Obb h2 b)(cp:Cap h2):Oz N k ⟨h2,x.l,x.g,x.v,pins,x.R⟩:=by have ob2:∀r,r=0\/Obb x.h r->r=0\/Obb h2 r:=λr h=>h.imp (λz=>z) (ob r);have hl:=mx.len;exact⟨⟨⟨ht.hb,s.et.eb.loc,s.et.eb.glo,s.et.eb.wea,by grind,s.et.eb.roots⟩,ht.tw⟩,⟨mx,s.vx.loc,s.vx.glo,s.vx.wea,s.vx.gz,λr hr=>ob2 r (s.vx.rr r hr),λr hr=>ob2 r (s.vx.rl r hr),λr hr=>ob2 r (s.vx.rg r hr),λr hr=>ob2 r (s.vx.rw_ r hr)⟩,s.iss,s.sc,cp⟩
def Oz.put(s:Oz N k x){h2:Wh}{o i v:Int}(q:Sg N x.h h2 o i v):Oz N k ⟨h2,x.l,x.g,x.v,x.P,x.R⟩:=
 s.heap q.ht ⟨q.gx,s.vx.mx.len,λp hp=>⟨(q.ob _).2 (s.vx.mx.ob p hp).1,(s.vx.mx.ob p hp).2⟩,s.vx.mx.nd,λj j0 j1=>by rw[q.pl]at j1⊢;rw[q.cf];exact s.vx.mx.sm j j0 j1⟩ (λb=>(q.ob b).2) (s.cp.cong q.cf (λb=>(q.ob b).1) (λb hb=>by unfold szA;rw[q.hd b hb]) (by rw[q.pl];exact Uh _))
def Oz.add(hN:NB N)(s:Oz N k x){h2:Wh}{o:Int}{d:Wy}(ht:HT h2)(q:O8 N x.h h2 o d):Oz N k ⟨h2,x.l,x.g,x.v,x.P,x.R⟩:=
 s.heap ht ⟨q.gx,s.vx.mx.len,λp hp=>⟨(q.ob _).2 (.inl (s.vx.mx.ob p hp).1),(s.vx.mx.ob p hp).2⟩,s.vx.mx.nd,λj j0 j1=>by rw[q.pl]at j1;rw[q.pn j j0 j1,q.cf];exact s.vx.mx.sm j j0 j1⟩ (λb h=>(q.ob b).2 (.inl h)) (q.gx.cap (Xo hN ht.hb q.gx.ep) (by rw[q.cf];exact q.us))
def Oz.pins(s:Oz N k x){h2:Wh}{pins:List UB}(q:OY N x.h h2)(mx:MX N h2 pins):Oz N k ⟨h2,x.l,x.g,x.v,pins,x.R⟩:=s.heap q.ht mx (λb=>(q.ob b).2) (s.cp.cong q.cf (λb=>(q.ob b).1) (λb _=>by rw[q.wd]) q.us)
def XoJ(hN:NB N)(s:Oz N k x):Ok (QbA N x) λr=>r.2.2=0/\Oz N k r.1/\r.1.h.c=x.h.c/\r.1.l.x=x.l.x/\r.1.l.i=x.l.i/\r.1.P=x.P/\R2 (λa b:UH=>b.J=a.J/\b.V=a.V) x.l.S r.1.l.S:=by refine Ok.mono (XoA hN s.et s.vx s.cp (P:=λ_=>True) (λ_ _ _ _ _=>.inr trivial) λ_ _=>.inr trivial) λr hr=>?_;obtain⟨h,M,c⟩:=hr;exact⟨h,⟨c.et,c.vx,by rw[c.lc.2];exact s.iss,by rw[c.lc.1];exact s.sc,c.ch.cap hN c.et.eb.heap s.cp⟩,c.ch.cf,c.lc.1,c.lc.2,c.pi,c.ls.mono λ_ _ e=>⟨e.1,e.2.1⟩⟩
def Xc8(hN:NB N)(s:Oz N k x){r:Int}(hr:r=0\/Obb x.h r):Ok (QcE N x r) (SV N (k+1)):=by
 have hN':1000000<N:=by unfold NB at hN;omega
 rw[QcE,XaB s.et.eb.loc hN',Xa];by_cases h0:r=0
 .rw[Xp h0];exact Wd λ_=>s.up ab
 rw[Xj h0,Wa];by_cases he:(ZY x.l r).2.2.2=0;rotate_left
 .rw[Xk he,Wc,Qab,Xa];exact Wd λe=>absurd e he
 have⟨e,ee,_⟩:=YL (N:=N) (U3.mk 1 (ZY x.l r).2.1 (ZY x.l r).2.2.1);rw[ZT he,Wa,ee,Xa];have nv:=XoE he;refine Wd λ_=>s.locs nv.1 (λt ht=>?_) ?_ ?_
 .rw[nv.2.2.1]at ht;rw[Xmf]at ht;rcases Wr.1 ht with ht|ht
  .exact s.vx.rl t ht
  have:t=r:=by unfold XA at ht;simpa using ht
  simp_all
 .rw[nv.2.2.1];have:=s.iss;simp_all
 rw[nv.2.2.1];exact s.sc
end
section
variable {N k:Nat}{x:Uj}{a b c:Int}
def CV.n6(h:CV N k x a b c):1000000<N:=by have:=h.hN;unfold NB at this;omega
def CV.ev(h:CV N k x a b c):QbI N x=some true:=(Jg h.hN h.s.et).2 h.s.vx
def CV.hp(h:CV N k x a b c):Uv x.h:=Xo h.hN h.s.et.eb.heap h.s.vx.mx.gx.ep
def CV.res(h:CV N k x a b c){v:Int}(tv:tU v):QaG N x v=some (ZN x v):=Xc6 h.hN h.s.et h.s.vx tv
def CV.th(h:CV N k x a b c):QbY N x a=some (thE x a):=XsS h.hN h.s.et h.s.vx h.ta
def CV.obj(h:CV N k x a b c)(e:(thE x a).2=0):Obb x.h (thE x a).1/\QbK N x.h (thE x a).1=some (hdA x.h.w (thE x a).1,0):=by
 have ho:Obb x.h (thE x a).1:=by
  unfold thE at e⊢;split at e
  .omega
  rename_i hn;rw[Wj hn];rcases Xc7 h.s.vx e with q|q
  .exact absurd ⟨e,q⟩ hn
  omega
 have hat:=ho.1.at_ h.hp;have hb:=h.s.et.eb.heap;have ep:=h.s.vx.mx.gx.ep;exact⟨ho,Xch h.hN hb ep hat (XaL h.hN hb ep hat) ho.2⟩
def CV.same(h:CV N k x a b c){v e:Int}:SV N (k+1) (x,v,e):=λ_=>h.s.up ab
def X8{y:Uj}{v e:Int}(he:e≠0):SV N k (y,v,e):=λz=>absurd z he
def CV.fld(h:CV N k x a b c)(rf:Bool):(∃e,e≠0/\Qc2 N x a b rf=some (0,0,e)) \/
 ∃o,o=(thE x a).1/\(thE x a).2=0/\Qc2 N x a b rf=some (o,b,0)/\Obb x.h o/\0<=b/\b<(hdA x.h.w o).n/\(b∈XJ (hdA x.h.w o)↔rf=true)/\Qc3 N x.h o b=some (wd x.h.w (o+1+b),0):=by
 rw[Qc2,h.th,Xa];by_cases e1:(thE x a).2=0;rotate_left
 .grind
 have⟨ho,o4⟩:=h.obj e1;have hl:=XgB x.h.w (thE x a).1;have b0:=h.tb.1;rw[ZT e1,Wa,o4,Xa,Xt (n:=(hdA x.h.w (thE x a).1).n) ab ab];by_cases e2:b>=(hdA x.h.w (thE x a).1).n
 .simp_all
 have hwb:wI b=b:=Xe ab ab;rw[We e2,Wa,hwb,KV,Xa];by_cases e3:Kg (hdA x.h.w (thE x a).1) b=rf;rotate_left
 .grind
 rw[e3];have hp:=h.hp;have hat:=ho.1.at_ hp;have hb:=h.s.et.eb.heap;have hf:=Ky hp hat;have hr:=hat.rng;have hb1:=hb.1;refine .inr ⟨(thE x a).1,rfl,e1,ac,ho,b0,ab,?_,?_⟩
 .rw[Vc (ZH x.h _),e3];simp_all
 rw[Qc3,o4,Xa];rw[show((0:Int) != 0)=false from rfl,Wa,We ab,Wa,We ab,Wa,Xt (n:=(thE x a).1+1) ab ab,Xt (n:=b) ab ab,Xt (n:=(thE x a).1+1+b) ab ab,Yg (by unfold BIG;omega),Xa,Wm (by unfold inW;omega)];rfl
end
section
variable {N k:Nat}{x:Uj}{a b c:Int}
def v45(h:CV N k x a b c){op:Int}(ho:op=4\/op=5):Ok (Qag N x op a b c) (SV N (k+1)):=by
 have main:Ok (QcG N x op a b) (SV N (k+1)):=by
  have e1:QcG N x op a b=bnd (QbY N x a) λy2=>
   bif (y2.2 != 0)then(bnd (Qab N y2.2) λy3=>some (y3.1,y3.2.1,y3.2.2))
   else bnd (QbK N x.h y2.1) λy4=>
   bif (op==4)then some (x,(wU y4.1.n),0)else some (x,(wU y4.1.k),0):=by
   rw[QcG]
   rcases ho with rfl|rfl<;>simp only[Xv,Int.reduceBEq,Wc,Wa]
  rw[e1,h.th,Xa];by_cases he:(thE x a).2=0;rotate_left
  .rw[Xk he,Wc,Qab,Xa];exact Wd (X8 he)
  rw[ZT he,Wa,(h.obj he).2,Xa];exact Wn (λ_=>Wd h.same) λ_=>Wd h.same
 have⟨y,ey,hy⟩:=main;refine⟨y,?_,hy⟩;rw[Qag,h.ev,Xa];rcases ho with rfl|rfl<;>simp only[Xv,Int.reduceBEq,Wc,Wa,Wi,ey,Xa]
def v10(h:CV N k x a b c):Ok (Qag N x 10 a b c) (SV N (k+1)):=by
 rw[Qag,h.ev,Xa];simp only[Xv,Int.reduceBEq,Wc,Wa,Wi,QcG,h.res h.ta,h.res h.tb,Xa,Qab];by_cases e1:(ZN x a).2=0;rotate_left
 .rw[Xk e1,Wc,Xa];exact Wd (X8 e1)
 rw[ZT e1,Wa];by_cases e2:(ZN x b).2=0;rotate_left
 .rw[Xk e2,Wc,Xa];exact Wd (X8 e2)
 rw[ZT e2,Wa];cases ((ZN x a).1==(ZN x b).1)<;>simp only[Wc,Wa,Xa]<;>exact Wd h.same
def v11(h:CV N k x a b c):Ok (Qag N x 11 a b c) (SV N (k+1)):=by
 rw[Qag,h.ev,Xa];simp only[Xv,Int.reduceBEq,Wc,Wa,Wi,QcG,h.res h.ta,Xa,Qab];by_cases e1:(ZN x a).2=0;rotate_left
 .rw[Xk e1,Wc,Xa];exact Wd (X8 e1)
 have⟨y,l2,l3⟩:=Xc8 h.hN h.s (Xc7 h.s.vx e1);rw[ZT e1,Wa,l2,Xa,Xa];exact Wd l3
def v13(h:CV N k x a b c):Ok (Qag N x 13 a b c) (SV N (k+1)):=by
 rw[Qag,h.ev,Xa];simp only[Xv,Int.reduceBEq,Wc,Wa,Wi,Qdn,h.th,Xa];by_cases e1:(thE x a).2=0;rotate_left
 .rw[Xk e1,Wc,Qab,Xa,Xa];exact Wd (X8 e1)
 have o:=(h.obj e1).1;rw[ZT e1,Wa,show(WD.mk x.g.e)=x.g from rfl,Jy h.s.et.eb.glo h.n6,Xa];by_cases e2:(Zx x.g (thE x a).1).2.2.2=0;rotate_left
 .rw[Xk e2,Wc,Qab,Xa,Xa];exact Wd (X8 e2)
 have⟨e,ee,_⟩:=YL (N:=N) (U3.mk 2 (Zx x.g (thE x a).1).2.1 (Zx x.g (thE x a).1).2.2.1);rw[ZT e2,Wa,ee,Xa,Xa];have nv:=Xig e2;have hr:=(o.1.at_ h.hp).rng;refine Wd λ_=>h.s.tabs h.s.vx.loc nv.1 h.s.vx.wea (λr hr'=>?_) h.s.vx.rl (λr hr'=>?_) h.s.vx.rw_ (by have:=h.s.iss;omega) h.s.sc
 .rcases nv.2 r hr' with h'|h'
  .exact h.s.vx.gz r h'
  omega
 rcases nv.2 r hr' with h'|h'
 .exact h.s.vx.rg r h'
 simp_all
def v15(h:CV N k x a b c):Ok (Qag N x 15 a b c) (SV N (k+1)):=by
 rw[Qag,h.ev,Xa];simp only[Xv,Int.reduceBEq,Wc,Wa,Wi,Qdn,h.th,Xa];by_cases e1:(thE x a).2=0;rotate_left
 .rw[Xk e1,Wc,Qab,Xa,Xa];exact Wd (X8 e1)
 have o:=(h.obj e1).1;rw[ZT e1,Wa,show(WD.mk x.v.e)=x.v from rfl,Jy h.s.et.eb.wea h.n6,Xa];by_cases e2:(Zx x.v (thE x a).1).2.2.2=0;rotate_left
 .rw[Xk e2,Wc,Qab,Xa,Xa];exact Wd (X8 e2)
 have⟨e,ee,_⟩:=YL (N:=N) (U3.mk 3 (Zx x.v (thE x a).1).2.1 (Zx x.v (thE x a).1).2.2.1);rw[ZT e2,Wa,ee,Xa,Xa];have nv:=Xig e2;refine Wd λ_=>h.s.tabs h.s.vx.loc h.s.vx.glo nv.1 h.s.vx.gz h.s.vx.rl h.s.vx.rg (λr hr'=>?_) (by have:=h.s.iss;omega) h.s.sc;rcases nv.2 r hr' with h'|h'
 .exact h.s.vx.rw_ r h'
 simp_all
def Xvy(h:CV N k x a b c){op:Int}(ho:op=12\/op=14\/op=16):Ok (QdO N x op a) (SV N (k+1)):=by
 rw[QdO];simp only[Xv,h.res h.ta,XdU h.ta,Xa];by_cases e0:a=0
 .rw[Xp e0,Wc,Qab,Xa];exact Wd (X8 ag)
 rw[Xj e0,Wa];by_cases e1:(ZN x a).2=0;rotate_left
 .rw[Xk e1,Wc,Qab,Xa];exact Wd (X8 e1)
 have tg:=XoI e0 e1;have hk:k<=k+1:=ab;have hi:=UL h.s.iss hk;rw[ZT e1,Wa];rcases ho with rfl|rfl|rfl
 .by_cases e2:(X0 a).1.Tag=1;rotate_left
  .rw[Xk e2,Wc,Qab,Xa];exact Wd (X8 ag)
  have hd:(JI x.l (X0 a).1.Index (X0 a).1.J).2=0:=by unfold JI;rw[Wj ab]
  have dv:=XoG hd;rw[ZT e2,Wa,Xgf h.s.et.eb.loc h.n6,Xa];refine Wd λ_=>h.s.locs dv.1 (λr hr=>?_) (by simp_all) (by rw[dv.2.1];exact h.s.sc);rw[dv.2.1]at hr;exact h.s.vx.rl r (Xmg rfl r hr)
 .by_cases e2:(X0 a).1.Tag=2;rotate_left
  .rw[Xk e2,Wc,Qab,Xa];exact Wd (X8 ag)
  have hd:(Z9 x.g (X0 a).1.Index (X0 a).1.J).2=0:=by unfold Z9;rw[Wj ab]
  have dv:=Xih hd;rw[ZT e2,Wa,XaE h.s.et.eb.glo h.n6,Xa];exact Wd λ_=>h.s.tabs h.s.vx.loc dv.1 h.s.vx.wea (λr hr=>h.s.vx.gz r (dv.2 r hr)) h.s.vx.rl (λr hr=>h.s.vx.rg r (dv.2 r hr)) h.s.vx.rw_ hi h.s.sc
 by_cases e2:(X0 a).1.Tag=3;rotate_left
 .rw[Xk e2,Wc,Qab,Xa];exact Wd (X8 ag)
 have hd:(Z9 x.v (X0 a).1.Index (X0 a).1.J).2=0:=by unfold Z9;rw[Wj ab]
 have dv:=Xih hd;rw[ZT e2,Wa,XaE h.s.et.eb.wea h.n6,Xa];exact Wd λ_=>h.s.tabs h.s.vx.loc h.s.vx.glo dv.1 h.s.vx.gz h.s.vx.rl h.s.vx.rg (λr hr=>h.s.vx.rw_ r (dv.2 r hr)) hi h.s.sc
def v17(h:CV N k x a b c):Ok (Qag N x 17 a b c) (SV N (k+1)):=by
 rw[Qag,h.ev,Xa];simp only[Xv,Int.reduceBEq,Wc,Wa,Wi,QdP,Xa];by_cases e0:a>64
 .rw[Wg e0,Wc,Qab,Xa,Xa];exact Wd (X8 ag)
 have ha:=h.ta.1;have hwa:wI a=a:=Xe ab ab;rw[We e0,Wa,hwa,XbA h.s.et.eb.loc h.n6,Xa];by_cases e1:(KA x.l a).2=0;rotate_left
 .rw[Xk e1,Wc,Qab,Xa,Xa];exact Wd (X8 e1)
 have pv:=Xmd e1;rw[ZT e1,Wa,Xa];refine Wd λ_=>h.s.locs pv.1 (λr hr=>?_) (by have:=h.s.iss;grind) (by simp_all);rw[pv.2]at hr;exact h.s.vx.rl r hr
def Xt8(s:Oz N k x)(e:(Zo x.l).2=0):Oz N k ⟨x.h,(Zo x.l).1,x.g,x.v,x.P,x.R⟩:=by
 have pv:=XoH e;refine s.locs pv.1 (λr hr=>?_) (by rw[pv.2];exact s.iss) ?_
 .rw[pv.2]at hr;exact s.vx.rl r (Xjy r hr)
 rw[pv.2];rw[Ws];unfold Zo at e;split at e
 .omega
 rw[Wj s.sc]at e;split at e
 .omega
 rename_i hb;have hsc:=s.sc;intro h0;have h1:x.l.x.length=1:=ab;have g:=XgG hsc;rw[h1]at g;exact hb ((KG (XW.1 s.vx.loc).ne g).2.2.2.2.1 rfl).2
def v18(h:CV N k x a b c):Ok (Qag N x 18 a b c) (SV N (k+1)):=by
 rw[Qag,h.ev,Xa];simp only[Xv,Int.reduceBEq,Wc,Wa,Wi,QdP,h.res h.ta,Xa];by_cases e1:(ZN x a).2=0;rotate_left
 .rw[Xk e1,Wc,Qab,Xa,Xa];exact Wd (X8 e1)
 rw[ZT e1,Wa,XcW h.s.et.eb.loc h.n6,Xa];by_cases e2:(Zo x.l).2=0;rotate_left
 .rw[Xk e2,Wc,Qab,Xa,Xa];exact Wd (X8 e2)
 have⟨y,l2,l3⟩:=Xc8 h.hN (Xt8 h.s e2) (Xc7 h.s.vx e1);rw[ZT e2,Wa,l2,Xa,Xa];exact Wd l3
def v6(h:CV N k x a b c):Ok (Qag N x 6 a b c) (SV N (k+1)):=by
 rw[Qag,h.ev,Xa];simp only[Xv,Int.reduceBEq,Wc,Wa,Wi,Qc4];rcases h.fld false with⟨e,e0,e1⟩|⟨o,_,_,e1,ho,b0,b1,hp,e4⟩
 .rw[e1,Xa,Xk e0,Wc,Qab,Xa,Xa];exact Wd (X8 e0)
 rw[e1,Xa];rw[show((0:Int) != 0)=false from rfl,Wa,e4,Xa,Xa];exact Wd h.same
def v7(h:CV N k x a b c):Ok (Qag N x 7 a b c) (SV N (k+1)):=by
 rw[Qag,h.ev,Xa];simp only[Xv,Int.reduceBEq,Wc,Wa,Wi,Qc4];rcases h.fld false with⟨e,e0,e1⟩|⟨o,_,_,e1,ho,b0,b1,hp,e4⟩
 .rw[e1,Xa,Xk e0,Wc,Qab,Xa,Xa];exact Wd (X8 e0)
 have⟨h2,es,q⟩:=Xeq h.hN h.s.et.ht h.s.vx.mx.gx ho b0 b1 (v:=c) (λq=>absurd (hp.1 q) ag) h.tc;rw[e1,Xa];rw[show((0:Int) != 0)=false from rfl,Wa,e4,Xa,es,Xa,Xa];exact Wd λ_=>(h.s.put q).up ab
def v9(h:CV N k x a b c):Ok (Qag N x 9 a b c) (SV N (k+1)):=by
 rw[Qag,h.ev,Xa];simp only[Xv,Int.reduceBEq,Wc,Wa,Wi,Qc4];rcases h.fld true with⟨e,e0,e1⟩|⟨o,_,_,e1,ho,b0,b1,hp,e4⟩
 .rw[e1,Xa,Xk e0,Wc,Qab,Xa,Xa];exact Wd (X8 e0)
 rw[e1,Xa];rw[show((0:Int) != 0)=false from rfl,Wa,e4,Xa,h.res h.tc,Xa];by_cases er:(ZN x c).2=0;rotate_left
 .rw[Xk er,Wc,Qab,Xa,Xa];exact Wd (X8 er)
 have hob:=Xc7 h.s.vx er;have tv:tU (ZN x c).1:=by
  rcases hob with q|q
  .simp_all
  have hp:=h.hp;have:=(q.1.at_ hp).rng;have hm:=XE hp.conf (i:=0) ab (by have:=Xh.1 hp.conf;omega);exact⟨ab,ab⟩
 have⟨h2,es,q⟩:=Xeq h.hN h.s.et.ht h.s.vx.mx.gx ho b0 b1 (v:=(ZN x c).1) (λ_=>hob) tv;rw[ZT er,Wa,es,Xa,Xa];exact Wd λ_=>(h.s.put q).up ab
def v8(h:CV N k x a b c):Ok (Qag N x 8 a b c) (SV N (k+1)):=by
 rw[Qag,h.ev,Xa];simp only[Xv,Int.reduceBEq,Wc,Wa,Wi,Qc4];rcases h.fld true with⟨e,e0,e1⟩|⟨o,_,_,e1,ho,b0,b1,hp,e4⟩
 .rw[e1,Xa,Xk e0,Wc,Qab,Xa,Xa];exact Wd (X8 e0)
 have⟨y,l2,l3⟩:=Xc8 h.hN h.s (h.s.vx.mx.gx.pt o ho b (hp.2 rfl));rw[e1,Xa];rw[show((0:Int) != 0)=false from rfl,Wa,e4,Xa,l2,Xa,Xa];exact Wd l3
def v19(h:CV N k x a b c):Ok (Qag N x 19 a b c) (SV N (k+1)):=by
 rw[Qag,h.ev,Xa];simp only[Xv,Int.reduceBEq,Wc,Wa,Wi,QeY,h.th,Xa];by_cases e1:(thE x a).2=0;rotate_left
 .rw[Xk e1,Wc,Qab,Xa,Xa];exact Wd (X8 e1)
 rw[ZT e1,Wa];have⟨y,ey,hy⟩:=XoC h.hN h.s.et.ht h.s.vx.mx (h.obj e1).1;rw[ey,Xa];rcases hy with h18|⟨h0,pq,mx,_⟩
 .rw[h18,show((18:Int) != 0)=true from rfl,Wc,Qab,Xa,Xa];exact Wd (X8 ag)
 rw[h0,show((0:Int) != 0)=false from rfl,Wa,Xa];exact Wd λ_=>(h.s.pins pq mx).up ab
def v20(h:CV N k x a b c):Ok (Qag N x 20 a b c) (SV N (k+1)):=by
 rw[Qag,h.ev,Xa];simp only[Xv,Int.reduceBEq,Wc,Wa,Wi,QeY,h.th,Xa];by_cases e1:(thE x a).2=0;rotate_left
 .rw[Xk e1,Wc,Qab,Xa,Xa];exact Wd (X8 e1)
 rw[ZT e1,Wa];have⟨y,ey,hy⟩:=XoD h.hN h.s.et.ht h.s.vx.mx (h.obj e1).1;rw[ey,Xa];rcases hy with⟨h12,_⟩|⟨h0,_,pq,mx,_⟩
 .rw[h12,show((12:Int) != 0)=true from rfl,Wc,Qab,Xa,Xa];exact Wd (X8 ag)
 rw[h0,show((0:Int) != 0)=false from rfl,Wa,Xa];exact Wd λ_=>(h.s.pins pq mx).up ab
def Qph(hN:NB N)(s:Oz N k x){d:Wy}(hv:XC d=true)(tm:tW d.Map)(hkd:d.k≠0)(hnd:Xx x.h.c (XB d)≠-1):Ok (Qeq N x d) λy=>y.2.2=3\/(y.2.2=0/\∃x1,Oz N k x1/\x1.l.x=x.l.x/\x1.l.i=x.l.i/\R2 (λa b:UH=>b.J=a.J/\b.V=a.V) x.l.S x1.l.S/\HT y.1.h/\O8 N x1.h y.1.h y.2.1 d/\y.1=⟨y.1.h,x1.l,x1.g,x1.v,x1.P,x1.R⟩):=by
 rw[Qeq,(Jg hN s.et).2 s.vx,Xa,Wi,Wa];have gx:=s.vx.mx.gx;have⟨y,ey,hy⟩:=XrS hN s.et.ht gx hv tm hkd hnd;rw[ey,Xa,Xv];rcases hy with h3|⟨h0,ht,q⟩
 .rw[h3,show((3:Int)==3)=true from rfl,Wc];refine WJ (XoJ hN s) λy3 _ hy3=>?_;obtain⟨e0,s',hcf,l1,l2,_,l4⟩:=hy3;rw[e0,show((0:Int) != 0)=false from rfl,Wa];have⟨y4,ey4,hy4⟩:=XrS hN s'.et.ht s'.vx.mx.gx hv tm hkd (by simp_all);rw[ey4,Xa];rcases hy4 with e4|⟨e4,ht4,q4⟩
  .rw[e4];exact Wd (.inl rfl)
  rw[e4];dsimp only;exact Wd (.inr ⟨rfl,y3.1,s',l1,l2,l4,ht4,q4.new s'.vx.mx.gx hN s'.et.eb.heap,rfl⟩)
 rw[h0,show((0:Int)==3)=false from rfl,Wa];dsimp only;exact Wd (.inr ⟨rfl,x,s,rfl,rfl,⟨rfl,λk a b h1 h2=>by simp_all⟩,ht,q.new gx hN s.et.eb.heap,rfl⟩)
def Xvz(h:CV N k x a b c){op:Int}(ho:op=1\/op=2\/op=3):Ok (Qag N x op a b c) (SV N (k+1)):=by
 have h10:10<=N:=by have:=h.n6;omega
 have⟨dd,ed,hdd⟩:=XdY (N:=N) op h.ta h.tb;have main:Ok (QdL N x op a b) (SV N (k+1)):=by
  rw[QdL];by_cases hpn:x.P.length>0
  .rw[Wg ab,Wc,Qab,Xa];exact Wd (X8 ag)
  rw[We ab,Wa,ed,Xa,Xv];by_cases hok:okW op a b;rotate_left
  .rw[We hok,Ub,Wc,Qab,Xa];exact Wd (X8 ag)
  have hd:=hdd hok;rw[Wg hok,Wi,Wa,Xks h10,Xa,hd];cases hA:XcC x.h.c (hdW op a b)with
  |false=>rw[Ub,Wc,Qab,Xa];exact Wd (X8 ag)
  |true=>
  rw[Wi,Wa,XaB h.s.et.eb.loc h.n6,Xa];by_cases hl:(ZY x.l 1).2.2.2=0;rotate_left
  .rw[Xk hl,Wc,Qab,Xa];exact Wd (X8 hl)
  rw[ZT hl,Wa];unfold XcC at hA;rw[WH,WH,bne_iff_ne,bne_iff_ne]at hA;obtain⟨a1,a2,a3⟩:=hA;have tm:tW (hdW op a b).Map:=by
   unfold hdW;dsimp only;split
   .rename_i h1;have:=hok.2 h1;have:=h.tb.1;exact⟨ab,ab⟩
   simp
  obtain⟨y,ey,hy⟩:=Qph h.hN h.s a1 tm a2 a3;rw[ey,Xa];rcases hy with h3|⟨h0,x1,s1,_,_,_,ht,q,ex⟩
  .rw[h3,show((3:Int) != 0)=true from rfl,Wc,Qab,Xa];exact Wd (X8 ag)
  have s2:=s1.add h.hN ht q;rw[←ex]at s2;obtain⟨r,l2,l3⟩:=Xc8 h.hN s2 (r:=y.2.1) (.inr ((q.ob _).2 (.inr rfl)));rw[h0,show((0:Int) != 0)=false from rfl,Wa,l2,Xa];exact Wd l3
 have⟨y,ey,hy⟩:=main;refine⟨y,?_,hy⟩;rw[Qag,h.ev,Xa];rcases ho with rfl|rfl|rfl<;>simp only[Xv,Int.reduceBEq,Wc,Wa,Wi,ey,Xa]
def Xq4(h:CV N k x a b c){op:Int}(ho:op<1\/20<op):Ok (Qag N x op a b c) (SV N (k+1)):=by have f:∀n:Int,1<=n->n<=20->(op==n)=false:=λn h1 h2=>Xj ab;refine⟨(⟨zHp,⟨[],[],[]⟩,⟨[]⟩,⟨[]⟩,[],[]⟩,0,1),?_,X8 ag⟩;rw[Qag,h.ev,Xa];simp only[Wi,Wa,Xv,f 1 ab ab,f 2 ab ab,f 3 ab ab,f 4 ab ab,f 5 ab ab,f 6 ab ab,f 7 ab ab,f 8 ab ab,f 9 ab ab,f 10 ab ab,f 11 ab ab,f 12 ab ab,f 13 ab ab,f 14 ab ab,f 15 ab ab,f 16 ab ab,f 17 ab ab,f 18 ab ab,f 19 ab ab,f 20 ab ab,Qab,Xa]
def XsT(h:CV N k x a b c)(op:Int):Ok (Qag N x op a b c) (SV N (k+1)):=by
 by_cases ho:op<1\/20<op
 .exact Xq4 h ho
 by_cases hd:op=12\/op=14\/op=16
 .have⟨y,ey,hy⟩:=Xvy h hd;refine⟨y,?_,hy⟩;rw[Qag,h.ev,Xa];rcases hd with rfl|rfl|rfl<;>simp only[Xv,Int.reduceBEq,Wc,Wa,Wi,ey,Xa]
 by_cases h1:op=1\/op=2\/op=3
 .exact Xvz h h1
 by_cases h4:op=4\/op=5
 .exact v45 h h4
 have:op=6\/op=7\/op=8\/op=9\/op=10\/op=11\/op=13\/op=15\/op=17\/op=18\/op=19\/op=20:=ab;rcases this with rfl|rfl|rfl|rfl|rfl|rfl|rfl|rfl|rfl|rfl|rfl|rfl
 .exact v6 h
 .exact v7 h
 .exact v8 h
 .exact v9 h
 .exact v10 h
 .exact v11 h
 .exact v13 h
 .exact v15 h
 .exact v17 h
 .exact v18 h
 .exact v19 h
 exact v20 h
end
def Xad(c:WP):Wh:=⟨c,List.replicate (c.p*c.W).toNat 0,List.replicate c.p.toNat ⟨0,0,0,0⟩,0,-1⟩
section
variable {N:Nat}{c:WP}
def VF{α:Type}(n k:Nat)(a:α):(List.replicate n a).getD k a=a:=by grind
def Xq5(a:Int):wd (Xad c).w a=0:=VF _ _ _
def VC(i:Int):pg (Xad c).p i=Y3:=VF _ _ _
def XgH(hv:XU c=true):HB (Xad c):=by
 have hvc:=Xh.1 hv;have hm:=XE hv (i:=0) ab ab;refine⟨?_,?_⟩
 .unfold Xad;grind
 unfold Xad;grind
def XoK(hv:XU c=true):((Xad c).p.length:Int)=c.p:=by have hvc:=Xh.1 hv;unfold Xad;grind
def Xq6(hN:NB N)(hv:XU c=true):GX N (Xad c):=by
 have hvc:=Xh.1 hv;have hm:=XE hv (i:=0) ab ab;have hl:=XoK hv;have pars:∀i,Oy (Xad c) i []:=λi=>⟨λ_=>rfl,λh=>by rw[VC]at h;exact absurd h ag,λh=>by rw[VC]at h;exact absurd h ag⟩
 have pu:∀i l,Oy (Xad c) i l->l=[]:=λi l p=>p.none (.inl (by rw[VC];rfl));have nst:∀a,¬Stt (Xad c) a:=λa ⟨i,l,_,_,p,h⟩=>by grind
 refine⟨JO hN (XgH hv) ⟨hv,?_,?_,by unfold Xad;simp,.inl rfl⟩ ⟨λi _ _ _=>?_,λi _ _ h=>?_⟩,λi _ _=>⟨[],pars i⟩,λi _ _ h=>?_,λi l _ _ p a ha=>?_,λx _ h=>?_,λa h=>absurd h.1 (nst a),?_⟩
 .unfold Xad;grind
 .exact hl
 .constructor<;>simp[VC,Y3]
 .rw[VC]at h;exact absurd h ag
 .rw[VC]at h;exact absurd rfl h
 .grind
 .exact absurd (Xq5 x) h
 have:(Xad c).p.countP ZS=0:=by rw[List.countP_eq_zero];intro p hp;rw[(II.1 hp).2];decide
 rw[this];show(0:Int)<=c.p / 4;omega
def XoL(hN:NB N)(hv:XU c=true){n:Int}(n0:0<=n)(n1:n<=60):Oz N 0 ⟨Xad c,⟨[],[⟨0,n,true⟩],[]⟩,⟨[]⟩,⟨[]⟩,[],[]⟩:=by
 have gx:=Xq6 hN hv;have lv:Ym (⟨[],[⟨0,n,true⟩],[]⟩:Wq)=true:=by unfold Ym XnP stB neB Xb6;simp[YH,neQ,Xhy,YQ];omega
 refine⟨⟨⟨XgH hv,⟨ac,ac,ac⟩,XbB,XbB,ac,ac⟩,?_⟩,⟨⟨gx,ac,ac,ac,λi _ _=>?_⟩,lv,rfl,rfl,by simp[Xr],ac,by simp[XA],by simp[Xr],by simp[Xr]⟩,ac,ac,gx.cap (Xo hN (XgH hv) gx.ep) ?_⟩
 .intro x hx;rw[(II.1 hx).2];simp
 .rw[VC];rfl
 have hvc:=Xh.1 hv;have e:(Xad c).p.countP X2=0:=by rw[List.countP_eq_zero];intro p hp;rw[(II.1 hp).2];decide
 rw[e];show(0:Int)<=c.p / 4;omega
def XsU{t:IB}{m:Int}(h:TA m t)(hm:m+5<=1000000):Ok (Qfh N t) λr=>TA (m+2) r.2/\XU r.1=true:=by refine Uw (nxp h ab ab ab) λy hy=>Ok.get hy.1 hy.2.1 λp hp=>Uw (nxp hy.2.2 ab ab ab) λz hz=>Ok.get hz.1 hz.2.1 λq hq=>Wd ⟨hz.2.2.le ab,?_⟩;have hp':=Yr hp;have hq':=Yr hq;simp at hp' hq';grind[Xh]
def Xq7(hN:NB N){t:IB}{m:Int}(h:TA m t)(hm:m+5<=1000000):Ok (Qbi N t) λr=>PB 0 r.1/\TA (m+3) r.2/\Oz N 0 r.1.N:=by
 have hs:=Xos (N:=N) h hm;suffices main:Ok (Qbi N t) λr=>Oz N 0 r.1.N by obtain⟨r,e,h1⟩:=main;obtain⟨r',e',h2⟩:=hs;rw[e]at e';cases e';exact⟨r,e,h2.1,h2.2,h1⟩
 refine Uw (XsU h hm) λy1 h1=>?_;have hv:=h1.2;have hvc:=Xh.1 hv;have hm:=XE hv (i:=0) ab ab;have e:=Xe (n:=y1.1.p*y1.1.W) ab ab;have e1:QeS N y1.1=some (⟨Xad y1.1,⟨[],[],[]⟩,⟨[]⟩,⟨[]⟩,[],[]⟩,0):=by rw[QeS,Qf7,Zg,Xa,hv,Wi,Wa,e,Xb ab,Xb ab,Xa];rfl
 rw[e1,Xa];refine Uw (Xh5 _) λy3 _=>Uw (nxp h1.1 ab ab ab) λy4 h4=>Wd ?_;rw[Xe (n:=4+y4.1) ab ab];exact XoL hN hv ab ab
end
section
variable {N k:Nat}{p:Io}
def XvA(hN:NB N)(hp:PB k p)(hk:k<=200){d:Ow}(td:V1 d)(s:Oz N k p.N):Ok (QbT N p d) λr=>PB (k+1) r.1/\Oz N (k+1) r.1.N:=by
 have hd:=Xt5 hN hp ab td;have w2:=hp.w2;have s1:Oz N (k+1) p.N:=s.up ab;suffices main:Ok (QbT N p d) λr=>Oz N (k+1) r.1.N by obtain⟨r,e,h1⟩:=main;obtain⟨r',e',h2⟩:=hd;rw[e]at e';cases e';exact⟨r,e,h2,h1⟩
 refine Wn (λ_=>?_) λ_=>?_
 .refine Uw (XoJ hN s) λy1 h1=>Is (Wn (λh0=>Uw (V5 hN hp.wor hp.ty.2.1) λy2 _=>Wd ?_) λ_=>Wd s1);exact h1.2.1.up ab
 refine WJ (XsT (⟨s,hN,td.1,td.2.1,td.2.2⟩:CV N k p.N d.A d.B d.C) d.Op) λy ey hy=>Uw (Xoq _ _ _ _ _) λy27 _=>Uw (XhQ hN hp.wor ab hp.ty.2.1 d.Op td.1 td.2.1 td.2.2 y27) λy28 _=>?_;have k2:∀w:WO,Ok (α:=Io×Int×Int) (bif (y.2.2==0)then(bif (y.2.1 != 0)then(grd (p.w.length*8<=140737488355328) <| grd ((p.w.length+1)*8<=140737488355328) <| some ((Io.mk y.1 w (p.w++[y.2.1])),y.2.1,y.2.2))else some ((Io.mk y.1 w p.w),y.2.1,y.2.2))else some ((Io.mk p.N w p.w),y.2.1,y.2.2)) λr=>Oz N (k+1) r.1.N:=λw=>
  Wn (λh0=>Ut (Ue ab (Ue ab (Wd (hy (by simp_all))))) (Wd (hy (by simp_all)))) λ_=>Wd s1
 exact Is (Ut (k2 y28.1) (k2 p.z))
end
def plT(p:Io):Int×Int×List Int×List Wp×Int×Int×List UH×List UX×List Int×List W6×List W6×List UB×List Int×Int×Int×List UY×List UH×List UX×List Int×List W6×List W6×List IC×List Int×List Int:=(p.N.h.c.W,p.N.h.c.p,p.N.h.w,p.N.h.p,p.N.h.s,p.N.h.b,p.N.l.S,p.N.l.x,p.N.l.i,p.N.g.e,p.N.v.e,p.N.P,p.N.R,p.z.c.W,p.z.c.p,p.z.T,p.z.l.S,p.z.l.x,p.z.l.i,p.z.g.e,p.z.v.e,p.z.m,p.z.R,p.w)
section
variable {N:Nat}{M:Int}
def XkP(hN:NB N)(hM:M<=200):∀(n:Nat) (i:Int) (t:IB) (p:Io) (k:Nat),0<=i->i<=M->(M-i).toNat<n->(k:Int)=i->PB k p->TA (10+20*i) t->Oz N k p.N ->
 Ok (Qgb N M n i t.L t.at_ p.N.h.c.W p.N.h.c.p p.N.h.w p.N.h.p p.N.h.s p.N.h.b p.N.l.S p.N.l.x p.N.l.i p.N.g.e p.N.v.e p.N.P p.N.R p.z.c.W p.z.c.p p.z.T p.z.l.S p.z.l.x p.z.l.i p.z.g.e p.z.v.e p.z.m p.z.R p.w) λr=>∃(p':Io) (k':Nat),(k':Int)<=M/\PB k' p'/\Oz N k' p'.N/\r=plT p'
 |0,i,t,p,k,_,_,hn,_,_,_,_=>by omega
 |n+1,i,t,p,k,h0,hi,hn,hk,hp,ht,hs=>by
  have stop:Ok (some (plT p)) λr=>∃(p':Io) (k':Nat),(k':Int)<=M/\PB k' p'/\Oz N k' p'.N/\r=plT p':=
   Wd ⟨p,k,ab,hp,hs,rfl⟩
  refine Wn (λhc=>?_) λ_=>stop
  have hc:i<M:=Ww hc;rw[Qgh,Xa];refine Wn (λ_=>?_) λ_=>stop
  have w1:=hp.w1;have w2:=hp.w2;have dty:=λr (e:QcW N p t=some r)=>Qin (N:=N) hp.ty r e;rw[Xe (n:=i+1) ab ab];refine WJ (XqX (p:=p) (t:=t) w1 ab ht ab) λy e hy=>?_;refine Uw (XvA hN hp ab (dty y e) hs) λz hz=>?_;exact XkP hN hM n (i+1) y.2 z.1 (k+1) ab ab ab ab hz.1 (hy.le ab) hz.2
def XsV(hN:NB N)(h0:0<=M)(hM:M<=200)(l:List Int):Ok (Qhv N l M) λp=>∃k:Nat,(k:Int)<=M/\PB k p/\Oz N k p.N:=by have hN':=hN;unfold NB at hN';refine Uw (Xq7 (m:=0) hN ⟨ac,ac⟩ ab) λy hy=>Uw (XkP hN hM N 0 y.2 y.1 0 ab ab ab rfl hy.1 (hy.2.1.le ab) hy.2.2) λz hz=>Wd ?_;obtain⟨p',k',h1,h2,h3,rfl⟩:=hz;exact⟨k',h1,h2,h3⟩
end
structure OI(h:Wh)(o:List Int):Prop where
 nd:o.Nodup
 a:∀a∈o,Obb h a
section
variable {N:Nat}{h:Wh}{L:List Int}
def OI.len{o:List Int}(i:OI h o)(hp:Uv h):o.length<=4096:=by have hm:=XE hp.conf (i:=0) ab (by have:=Xh.1 hp.conf;omega);have:=JB (m:=K1 4096 4096) i.nd λa ha=>Y4.2 (by have:=((i.a a ha).1.at_ hp).rng;omega);rwa[Vf]at this
def OI.ad1{o:List Int}(i:OI h o){r:Int}(hr:r=0\/Obb h r):OI h (ad1 o r):=by
 by_cases hn:r=0\/r∈o
 .rw[ZV hn];exact i
 rw[JC (λe=>hn (.inl e)) λe=>hn (.inr e)];refine⟨UT.2 ⟨i.nd,ac,λx hx y hy e=>?_⟩,λa ha=>?_⟩
 .simp at hy;subst hy;subst e;exact hn (.inr hx)
 rcases Wr.1 ha with ha|ha
 .exact i.a a ha
 simp at ha;subst ha;exact hr.resolve_left λe=>hn (.inl e)
def XgI(hp:Uv h){F:Nat->Int->List Int->Option (Ex Unit (List Int))}{rs:List Int}(hr:∀r∈rs,r=0\/Obb h r)(hs:∀n k(hk:k<rs.length)v,v.length<=4096->F (n+1) (k:Int) v=F n ((k+1:Nat):Int) (ad1 v rs[k]))(he:∀n v,F (n+1) (rs.length:Int) v=some (.nxt v)):∀(n k:Nat) (v:List Int),OI h v->k<=rs.length->rs.length-k<n->F n (k:Int) v=some (.nxt (Vz v (rs.drop k)))/\OI h (Vz v (rs.drop k))
 |0,k,v,_,_,hn=>by omega
 |n+1,k,v,o,hk,hn=>by
  by_cases hlt:k<rs.length
  .rw[hs n k hlt v (o.len hp),Wl hlt];exact XgI hp hr hs he n (k+1) _ (o.ad1 (hr _ (Wt hlt))) ab ab
  obtain rfl:k=rs.length:=ab;rw[List.drop_length];exact⟨he n v,o⟩
def XoM{d:Wy}{l ws:List Int}{a:Int}(hl:l.length<=255)(f3:∀(j:Nat) (hj:j<l.length),l[j]=wd ws (a+1+j)):∀(n k:Nat) (v:List Int),k<=l.length->l.length-k<n->v.length<=k->Qd9 N (d,0) (l,0) n (k:Int) v=some (v++(X4 d (l.length-k) k).map λj=>wd ws (a+1+j))
 |0,k,v,_,hn,_=>by omega
 |n+1,k,v,hk,hn,hv=>by
  rw[Qd9,Xb (by show l.length<=_;omega)];by_cases h:k<l.length
  .rw[Wg (by show(k:Int)<(l.length:Nat);omega),Wc,KV,Xa,Xf,Xg ab,show l.length-k=l.length-(k+1)+1 by omega,X4];dsimp only;rw[Wb h,Xa,f3 k h];cases hp:Kg d (k:Int)with
   |true=>rw[Wc,Xb ab,XoM hl f3 n (k+1) _ ab ab ai];simp
   |false=>rw[Wa,XoM hl f3 n (k+1) _ ab ab ab];simp
  rw[We (by show¬(k:Int)<(l.length:Nat);omega),Wa,show l.length-k=0 by omega,X4];simp
def XsW(hN:NB N)(hb:HB h)(g:GX N h){a:Int}(ho:Obb h a):Qg2 N h a=some (rfs h a)/\(rfs h a).length<=255:=by have hp:=Xo hN hb g.ep;have hat:=ho.1.at_ hp;have ev:=XaL hN hb g.ep hat;have⟨l,f1,f2,f3⟩:=Xci hN hb g.ep hat ev ho.2;have hv:=ZH h a;have h255:=XD hv;have e:=XoM (N:=N) (d:=hdA h.w a) ab f3 N 0 [] ab (by unfold NB at hN;omega) ac;have hl:(hdA h.w a).n.toNat=l.length:=ab;refine⟨?_,by have:=J6 (hdA h.w a);unfold rfs;rw[Ug];omega⟩;rw[show((0:Nat):Int)=0 from rfl]at e;rw[Qg2,Xch hN hb g.ep hat ev ho.2,Xa,f1,Xa,e,Xa];unfold rfs XJ;rw[Wm hv,hl];simp
def GX.rfs(g:GX N h){a:Int}(ho:Obb h a):∀r∈rfs h a,r=0\/Obb h r:=λr hr=>by obtain⟨j,hj,rfl⟩:=WI.1 hr;exact g.pt a ho j hj
def XoN(hN:NB N)(hb:HB h)(g:GX N h)(hL:∀a,a∈L↔Obb h a)(hl:L.length<=4096):∀(m k:Nat) (o:List Int),OI h o->k<=o.length->4097-k<m ->
 Qez N h (L,0) m true (k:Int) o=some (true,JN h m k o)/\OI h (JN h m k o)
 |0,k,o,_,_,hm=>by omega
 |m+1,k,o,i,hk,hm=>by
  have hN':1000000<N:=by unfold NB at hN;omega
  have hp:=Xo hN hb g.ep;have hlen:=i.len hp;rw[Qez,Wc,Xb ab,JN];by_cases hkl:k<o.length;case neg=>
   rw[We ab,Wa,WN ab]
   exact⟨rfl,i⟩
  have ho:=i.a _ (Wt hkl);have⟨er,hr⟩:=XsW hN hb g ho;rw[Wg ab,Wc,Xf,Wb hkl,Xa,er,Xa,Xv];have⟨e,i'⟩:=XgI hp (F:=Qcs N h (L,0) (rfs h o[k]) (k:Int)) (g.rfs ho) (λn j hj u hu=>by
   rw[Qcs,Wg ab,Wc,Xf,Wb hj]
   simp only[Xa]
   rw[XY _ ab ab,XY _ ab ab,Xg ab]
   by_cases h0:(rfs h o[k])[j]=0
   .rw[Xp h0,Wc,ZV (.inl h0)]
   rw[Xj h0,Wa,Xa,UG.2 ((hL _).2 ((g.rfs ho _ (Wt hj)).resolve_left h0)),Wi,Wa,Xa]
   by_cases hmm:(rfs h o[k])[j]∈u
   .rw[UG.2 hmm,Wi,Wa,ZV (.inr hmm)]
   .rw[show u.contains (rfs h o[k])[j]=false by simpa using hmm,Ub,Wc,JC h0 hmm,Xb ab]) (λn u=>by rw[Qcs,We ab,Wa]) N 0 o i (IS _) ab
  rw[show((0:Nat):Int)=0 from rfl]at e;rw[e,Xa,Xl,Xg ab];refine XoN hN hb g hL hl m (k+1) _ i' ?_ ab;have:=Xic (rfs h o[k]) o;rw[WX];omega
def Xet(hN:NB N)(hb:HB h)(g:GX N h){rs:List Int}(hl:rs.length<=1000000)(hr:∀r∈rs,r=0\/Obb h r):QfY N h rs=some (JN h N 0 (Vz [] rs),0)/\OI h (JN h N 0 (Vz [] rs)):=by
 have hN':1000000<N:=by unfold NB at hN;omega
 have hp:=Xo hN hb g.ep;obtain⟨S,L,hS,_,_,eL,rfl,hL⟩:=Xbe hN hb g.ep g.ps;have hLl:(Ye h S).length<=4096:=by have:=hS.len;have:(Ye h S).length<=S.length:=List.length_filter_le _ _;omega
 have⟨e,i⟩:=XgI hp (F:=Qcr N h rs (Ye h S,0)) hr (λn j hj u hu=>by
  rw[Qcr,Wg ab,Wc,Xf,Wb hj]
  simp only[Xa]
  rw[XY _ ab ab,XY _ ab ab,Xg ab]
  by_cases h0:rs[j]=0
  .rw[Xp h0,Wc,ZV (.inl h0)]
  rw[Xj h0,Wa,Xa,UG.2 ((hL _).2 ((hr _ (Wt hj)).resolve_left h0)),Wi,Wa,Xa]
  by_cases hmm:rs[j]∈u
  .rw[UG.2 hmm,Wi,Wa,ZV (.inr hmm)]
  .rw[show u.contains rs[j]=false by simpa using hmm,Ub,Wc,JC h0 hmm,Xb ab]) (λn u=>by rw[Qcr,We ab,Wa]) N 0 [] ⟨ac,ac⟩ (IS _) ab
 have⟨e3,i3⟩:=XoN hN hb g hL hLl N 0 _ i (IS _) ab;rw[WX]at e e3 i3;refine⟨?_,i3⟩;rw[show((0:Nat):Int)=0 from rfl]at e e3;rw[QfY,g.ep,Xa,Wi,Wa,eL,Xa,show(((Ye h S,(0:Int)).2) != 0)=false from rfl,Wa,Xv,e,Xa,Xl];dsimp only;rw[e3,Xa,Wi,Wa]
end
section
variable {N:Nat}{x y:Uj}{h h2:Wh}{P:Int->Prop}{M:List (Int×Int)}
def pfn{M:List (Int×Int)}(n1:(M.map (·.1)).Nodup){p q:Int×Int}(hp:p∈M)(hq:q∈M)(e:p.1=q.1):p=q:=by rw[List.Nodup,Iz,W7]at n1;obtain⟨i,hi,rfl⟩:=Wv hp;obtain⟨j,hj,rfl⟩:=Wv hq;grind
def XvB{M:List (Int×Int)}(n2:(M.map (·.2)).Nodup){p q:Int×Int}(hp:p∈M)(hq:q∈M)(e:p.2=q.2):p=q:=by rw[List.Nodup,Iz,W7]at n2;obtain⟨i,hi,rfl⟩:=Wv hp;obtain⟨j,hj,rfl⟩:=Wv hq;grind
def OG.nz(c:OG N h P M h2)(hN:NB N)(hb:HB h)(hb2:HB h2)(g:GX N h){p:Int×Int}(hp:p∈M):p.1≠0/\p.2≠0:=by have h1:=((c.l p hp).1.1.at_ (Xo hN hb g.ep)).rng;have h2:=(((c.ob p.2).2 (WI.2 ⟨p,hp,rfl⟩)).1.at_ (Xo hN hb2 c.gx.ep)).rng;omega
def XgJ(n1:(M.map (·.1)).Nodup)(n2:(M.map (·.2)).Nodup)(nz:∀p∈M,p.1≠0/\p.2≠0):∀{rs rs':List Int} {A:List (Int×Int)},R2 (rel M) rs rs'->(∀p∈A,p∈M)->∃A':List (Int×Int),(∀p∈A',p∈M)/\Vz (A.map (·.1)) rs=A'.map (·.1)/\Vz (A.map (·.2)) rs'=A'.map (·.2)
 |[],rs',A,r,hA=>by obtain rfl:rs'=[]:=WG r.1;exact⟨A,hA,rfl,rfl⟩
 |a::rs,rs',A,r,hA=>by
  obtain⟨b,rs',rfl,hab,r'⟩:=r.unc;have key:∃A':List (Int×Int),(∀p∈A',p∈M)/\ad1 (A.map (·.1)) a=A'.map (·.1)/\ad1 (A.map (·.2)) b=A'.map (·.2):=by
   rcases hab with⟨rfl,rfl⟩|hab
   .exact⟨A,hA,ZV (.inl rfl),ZV (.inl rfl)⟩
   by_cases hm:(a,b)∈A
   .exact⟨A,hA,ZV (.inr (WI.2 ⟨_,hm,rfl⟩)),ZV (.inr (WI.2 ⟨_,hm,rfl⟩))⟩
   refine⟨A++[(a,b)],λp hp=>?_,?_,?_⟩
   .rcases Wr.1 hp with hp|hp
    .exact hA p hp
    rw[Uc.1 hp];exact hab
   .rw[JC (nz _ hab).1 λe=>?_,UI];rfl;obtain⟨p,hp,e⟩:=WI.1 e;exact hm (pfn n1 (hA p hp) hab e▸hp)
   rw[JC (nz _ hab).2 λe=>?_,UI];rfl;obtain⟨p,hp,e⟩:=WI.1 e;exact hm (XvB n2 (hA p hp) hab e▸hp)
  have⟨A',h1,h2,h3⟩:=key;have⟨A2,g1,g2,g3⟩:=XgJ n1 n2 nz r' h1;refine⟨A2,g1,?_,?_⟩
  .rw[←g2,←h2];rfl
  rw[←g3,←h3];rfl
def OG.rfs(c:OG N h P M h2){p:Int×Int}(hp:p∈M):R2 (rel M) (rfs h p.1) (rfs h2 p.2):=by
 unfold Sx.rfs;rw[c.hd p hp];refine⟨ac,λk a b ha hb=>?_⟩;rw[US]at ha hb;cases e:(XJ (hdA h.w p.1))[k]? with
 |none=>rw[e]at ha;cases ha
 |some j=>rw[e]at ha hb;cases ha;cases hb;exact c.f2 p hp j (W5 e)
def XkQ(c:OG N h P M h2)(nz:∀p∈M,p.1≠0/\p.2≠0):∀(n k:Nat) (A:List (Int×Int)),(∀p∈A,p∈M)->∃A':List (Int×Int),(∀p∈A',p∈M)/\JN h n k (A.map (·.1))=A'.map (·.1)/\JN h2 n k (A.map (·.2))=A'.map (·.2)
 |0,k,A,hA=>⟨A,hA,rfl,rfl⟩
 |n+1,k,A,hA=>by
  rw[JN,JN,US,US];cases e:A[k]? with
  |none=>exact⟨A,hA,rfl,rfl⟩
  |some p=>have hp:=hA p (W5 e);have⟨A',h1,h2,h3⟩:=XgJ c.n1 c.n2 nz (c.rfs hp) hA;simp only[UZ];rw[h2,h3];exact XkQ c nz n (k+1) A' h1
def OG.ord(c:OG N h P M h2)(nz:∀p∈M,p.1≠0/\p.2≠0){rs rs':List Int}(r:R2 (rel M) rs rs')(e:M.map (·.1)=JN h N 0 (Vz [] rs)):JN h2 N 0 (Vz [] rs')=M.map (·.2):=by have⟨A,h1,h2,h3⟩:=XgJ c.n1 c.n2 nz (A:=[]) r ac;have⟨A',g1,g2,g3⟩:=XkQ c nz N 0 A h1;rw[←h2]at g2;rw[←h3]at g3;have e':M.map (·.1)=A'.map (·.1):=e.trans g2;refine Eq.trans g3 (congrArg _ ?_);have hl:=congrArg List.length e';rw[Ug,Ug]at hl;refine IG hl.symm λi i1 i2=>pfn c.n1 (g1 _ (Wt i1)) (Wt i2) ?_;have:=congrArg (·[i]?) e';simp only[US,Wb i1,Wb i2]at this;exact(Wz this).symm
def OH.str(c:OH N x y P M)(vx:VX N x):R2 (rel M) (Zh x) (Zh y):=by unfold Zh;rw[vx.loc,vx.glo,c.vx.loc,c.vx.glo,c.pi];refine((c.rt.app (OR c.ls)).app (OJ c.gl)).app ⟨ac,λk a b ha hb=>?_⟩;rw[ha]at hb;cases hb;obtain⟨p,hp,rfl⟩:=WI.1 (W5 ha);exact .inr (c.ps p hp)
end
def VD(l:List Int)(v:Int):Int:=YS (λp=>p==v) l+1
def Xeu(d:Wy)(num:Int->Int):Nat->List Int->List Int
 |_,[]=>[]
 |k,v::l=>(if Kg d (k:Int)then num v else v)::Xeu d num (k+1) l
def XbP(h:Wh)(a:Int):List Int:=(List.range (hdA h.w a).n.toNat).map λj:Nat=>wd h.w (a+1+j)
def Xfw(h:Wh)(num:Int->Int)(a:Int):UY:=⟨hdA h.w a,Xeu (hdA h.w a) num 0 (XbP h a)⟩
def Xjz(h:Wh)(l rs:List Int):Od:=⟨rs.map λr=>VD l r-1,l.map (Xfw h (VD l))⟩
section
variable {N:Nat}{x y:Uj}{h h2:Wh}{P:Int->Prop}{M:List (Int×Int)}
def Xev{l:List Int}{v:Int}{k:Nat}(hk:k<l.length)(e:l[k]=v)(hn:∀j(hj:j<k),l[j]'ab≠v):VD l v=k+1:=by unfold VD YS;rw[UJ.2 ⟨hk,by simpa using e,λj hj=>by simpa using hn j hj⟩]
def Xc9{l:List Int}{v:Int}(hn:v∉l):VD l v=0:=by unfold VD YS;have:l.findIdx? (λp=>p==v)=none:=IP.2 λp hp=>Xj (by rintro rfl;exact hn hp);rw[this];rfl
def Xii(l:List Int)(v:Int):0<=VD l v/\VD l v<=l.length:=by
 by_cases hm:v∈l
 .unfold VD;cases e:l.findIdx? (λp=>p==v)with
  |none=>have:=IP.1 e v hm;simp at this
  |some k=>have:=(UJ.1 e).1;unfold YS;rw[e];show 0<=(k:Int)+1/\(k:Int)+1<=l.length;omega
 rw[Xc9 hm];omega
def Xij{l:List Int}{v:Int}(hl:l.length<=1000000):∀(n k:Nat),k<=l.length->l.length-k<n->(∀j(hj:j<k),l[j]?≠some v)->QdX N l v n (k:Int)=some (if v∈l then .ret (VD l v)else .nxt ())
 |0,k,_,hn,_=>by omega
 |n+1,k,hk,hn,hv=>by
  rw[QdX];by_cases h:k<l.length
  .rw[Xi h,Wc,Xf,Wb h,Xa,Xg ab];by_cases e:l[k]=v
   .rw[Xp e,Wc,Wm (e▸Wt h),Xev h e λj hj q=>hv j hj (by rw[Wb ab,q])];rfl
   rw[Xj e,Wa];refine Xij hl n (k+1) ab ab λj hj=>?_;by_cases q:j=k
   .subst q;rw[Wb h];simpa using e
   exact hv j ab
  rw[We ab,Wa,Wj λhm=>?_];obtain⟨j,hj,e⟩:=Wv hm;exact hv j ab (by rw[Wb hj,e])
def Xfx(hN:1000000<N){l:List Int}(hl:l.length<=10000)(v:Int):Qfp N l v=some (VD l v):=by
 have e:=Xij (N:=N) (l:=l) (v:=v) ab N 0 ab ab ab;rw[show((0:Nat):Int)=0 from rfl]at e;rw[Qfp,e,Xa];split
 .rw[Xq]
 rename_i hm;rw[Xl,Xc9 hm]
def Xik{d:Wy}{f:Int->Int}:∀{l:List Int} {k:Nat},(Xeu d f k l).length=l.length
 |[],_=>rfl
 |v::l,k=>by rw[Xeu,Ul,Ul,Xik]
def XrU(hN:1000000<N){l rs:List Int}(hl:l.length<=10000)(hr:rs.length<=1000000):∀(n k:Nat) (v:List Int),k<=rs.length->rs.length-k<n->v.length=k->QfZ N h rs (l,0) n (k:Int) v=some (v++(rs.drop k).map λr=>VD l r-1)
 |0,k,v,_,hn,_=>by omega
 |n+1,k,v,hk,hn,hv=>by
  rw[QfZ];by_cases hlt:k<rs.length
  .have:=Xii l rs[k];rw[Xi hlt,Wc,Xf,Wb hlt,Xa,Xfx hN hl,Xa,Xg ab,Xb ab,Xe ab ab,XrU hN hl hr n (k+1) _ ab ab ai,Wl hlt,W4];rfl
  rw[We ab,Wa,WZ ab];simp
def XrV(hN:1000000<N){l r6:List Int}{d:Wy}{k7:Int}{v8:List UY}(hl:l.length<=10000):∀(n:Nat) (p q:List Int),p.length+q.length<=1000->q.length<n->Qev N h (l,0) r6 (d,0) k7 v8 n (p.length:Int) (p++q)=some (p++Xeu d (VD l) p.length q)
 |0,p,q,_,hn=>by omega
 |n+1,p,[],hk,hn=>by rw[Qev,Xb ai,We ac,Wa,Xeu]
 |n+1,p,v::q,hk,hn=>by
  have hn1:=Xii l v;simp only[Ul]at hk hn;have hg:(p++v::q)[p.length]? = some v:=by rw[Ud (Uh _),U6];rfl
  rw[Qev,Xb ai,Wg ai,Wc,KV,Xa,Xf,hg,Xa,Xfx hN hl,Xa,Xa,Xg ab,Xt ab ab,Xeu];have ih:=λu=>XrV hN (r6:=r6) (d:=d) (k7:=k7) (v8:=v8) hl n (p++[u]) q ai ab;simp only[WK,List.length_singleton,W4,List.singleton_append]at ih;dsimp only;cases hp:Kg d (p.length:Int)with
  |true=>
   have e:(p++v::q).set (p.length:Int).toNat (VD l v)=p++VD l v::q:=by rw[show(p.length:Int).toNat=p.length from rfl,IO _ _ (Uh _),U6];rfl
   rw[Wc,e,ih];rfl
  |false=>rw[Wa,ih];rfl
def Xq8(hN:NB N)(hb:HB h)(g:GX N h){a:Int}(ho:Obb h a):QbK N h a=some (hdA h.w a,0)/\Qc9 N h a=some (XbP h a,0)/\(XbP h a).length<=255:=by
 have hp:=Xo hN hb g.ep;have hat:=ho.1.at_ hp;have ev:=XaL hN hb g.ep hat;have⟨l,f1,f2,f3⟩:=Xci hN hb g.ep hat ev ho.2;have hv:=XD (ZH h a);have e:l=XbP h a:=by unfold XbP;refine IG ai λj h1 h2=>?_;rw[f3 j h1];simp
 subst e;exact⟨Xch hN hb g.ep hat ev ho.2,f1,ab⟩
def XrW(hN:NB N)(hb:HB h)(g:GX N h){l r6:List Int}(hl:l.length<=4096)(ho:∀a∈l,Obb h a):∀(n k:Nat) (v:List UY),k<=l.length->l.length-k<n->v.length=k->Qf0 N h (l,0) r6 n (k:Int) v=some (v++(l.drop k).map (Xfw h (VD l)))
 |0,k,v,_,hn,_=>by omega
 |n+1,k,v,hk,hn,hv=>by
  have hN':1000000<N:=by unfold NB at hN;omega
  rw[Qf0];by_cases hlt:k<l.length
  .have⟨e1,e2,e3⟩:=Xq8 hN hb g (ho _ (Wt hlt));have e:=XrV (N:=N) hN' (h:=h) (l:=l) (r6:=r6) (d:=hdA h.w l[k]) (k7:=(k:Int)) (v8:=v) ab N [] (XbP h l[k]) ai ab;rw[show(([]:List Int).length:Int)=0 from rfl]at e;rw[W8,W8]at e;rw[Wg (by show(k:Int)<(l.length:Nat);omega),Wc,Xf,Wb hlt,Xa,e1,Xa,Xa,e2,Xa];dsimp only;rw[e,Xa,Xb ab,Xg ab,XrW hN hb g hl ho n (k+1) _ ab ab ai,Wl hlt,W4];rfl
  rw[We (by show¬(k:Int)<(l.length:Nat);omega),Wa,WZ ab];simp
def Xil(hN:NB N)(hb:HB h)(g:GX N h){rs:List Int}(hl:rs.length<=1000000)(hr:∀r∈rs,r=0\/Obb h r):Qg9 N h rs=some (Xjz h (JN h N 0 (Vz [] rs)) rs,0):=by
 have hN':1000000<N:=by unfold NB at hN;omega
 have⟨e,i⟩:=Xet hN hb g hl hr;have hlen:=i.len (Xo hN hb g.ep);generalize JN h N 0 (Vz [] rs)=l at *;have e1:=XrU (h:=h) hN' (l:=l) (rs:=rs) ab hl N 0 [] ab (by unfold NB at hN;omega) rfl;have e3:=XrW hN hb g (r6:=rs.map λr=>VD l r-1) hlen i.a N 0 [] ab ab rfl;rw[W8,WX]at e1 e3;rw[show((0:Nat):Int)=0 from rfl]at e1 e3;rw[Qg9,e,Xa];dsimp only;rw[show((0:Int) != 0)=false from rfl,Wa,e1,Xa,e3,Xa];rfl
def XsX(hN:1000000<N){l:List Int}(hl:l.length<=100000):Qg3 N l l=some true:=by
 have lp:∀n k:Nat,k<=l.length->l.length-k<n->QeP N l l n (k:Int)=some (.nxt ()):=by
  intro n;induction n with
  |zero=>intro k _ h;omega
  |succ n ih=>
   intro k hk hn;rw[QeP];by_cases hlt:k<l.length
   .rw[Xi hlt,Wc,Xf,Wb hlt,Xa,Xa,Xg ab,ih (k+1) ab ab];simp
   rw[We ab,Wa]
 have e:=lp N 0 ab ab;rw[show((0:Nat):Int)=0 from rfl]at e;rw[Qg3,e];simp[Xa,Xl]
def XsY(hN:1000000<N){g:Od}(h1:g.R.length<=1000000)(h2:g.Nodes.length<=100000)(h3:∀t∈g.Nodes,t.D.length<=100000)(hN2:1000010<N):Qg4 N g g=some true:=by
 have l1:∀n k:Nat,k<=g.R.length->g.R.length-k<n->QeQ N g g n (k:Int)=some (.nxt ()):=by
  intro n;induction n with
  |zero=>intro k _ h;omega
  |succ n ih=>
   intro k hk hn;rw[QeQ];by_cases hlt:k<g.R.length
   .rw[Xi hlt,Wc,Xf,Wb hlt,Xa,Xa,Xg ab,ih (k+1) ab ab];simp
   rw[We ab,Wa]
 have l2:∀n k:Nat,k<=g.Nodes.length->g.Nodes.length-k<n->QeR N g g n (k:Int)=some (.nxt ()):=by
  intro n;induction n with
  |zero=>intro k _ h;omega
  |succ n ih=>
   intro k hk hn;rw[QeR];by_cases hlt:k<g.Nodes.length
   .rw[Xi hlt,Wc,Xf,Wb hlt,Xa,Xa,Xa,Xa,XsX hN (h3 _ (Wt hlt)),Xa,Xg ab,ih (k+1) ab ab];simp
   rw[We ab,Wa]
 have e1:=l1 N 0 ab ab;have e2:=l2 N 0 ab ab;rw[show((0:Nat):Int)=0 from rfl]at e1 e2;rw[Qg4,e1,e2];simp[Xa,Xl]
end
section
variable {N k:Nat}{x y:Uj}{h h2:Wh}{P:Int->Prop}{M:List (Int×Int)}
def R2.map_eq{α β γ:Type}{f:α->γ}{g:β->γ}:∀{l:List α} {m:List β},R2 (λa b=>f a=g b) l m->l.map f=m.map g
 |[],m,h=>by rw[WG h.1];rfl
 |a::l,m,h=>by obtain⟨b,m',rfl,h1,h2⟩:=h.unc;rw[UA,UA,h1,h2.map_eq]
def Xq9(n1:(M.map (·.1)).Nodup)(n2:(M.map (·.2)).Nodup)(nz:∀p∈M,p.1≠0/\p.2≠0){a b:Int}(h:rel M a b):VD (M.map (·.1)) a=VD (M.map (·.2)) b:=by
 rcases h with⟨rfl,rfl⟩|h
 .rw[Xc9,Xc9]
  .intro h;obtain⟨p,hp,e⟩:=WI.1 h;exact(nz p hp).2 e
  intro h;obtain⟨p,hp,e⟩:=WI.1 h;exact(nz p hp).1 e
 obtain⟨k,hk,e⟩:=Wv h;rw[List.Nodup,W7]at n1 n2;rw[Xev (k:=k) (by simpa using hk) (by simp[e]) λj hj q=>?_,Xev (k:=k) (by simpa using hk) (by simp[e]) λj hj q=>?_]
 .refine n2 j k ai (by simpa using hk) hj ?_;rw[q];simp[e]
 refine n1 j k ai (by simpa using hk) hj ?_;rw[q];simp[e]
def XkR{d:Wy}{f g:Int->Int}:∀{l m:List Int} {k:Nat},l.length=m.length->(∀j(h1:j<l.length)(h2:j<m.length),(Kg d ((k+j:Nat):Int)=true->f l[j]=g m[j])/\(Kg d ((k+j:Nat):Int)=false->l[j]=m[j]))->Xeu d f k l=Xeu d g k m
 |[],[],k,_,_=>rfl
 |a::l,b::m,k,hl,h=>by
  have h0:=h 0 ac ac;rw[Xeu,Xeu,XkR (by simpa using hl) λj h1 h2=>by
   have:=h (j+1) (by simpa using h1) (by simpa using h2)
   rw[show k+(j+1)=k+1+j by omega]at this
   exact this]
  rw[IT]at h0;cases hp:Kg d (k:Int)with
  |true=>rw[Wm rfl,Wm rfl];rw[show f a=g b from h0.1 hp]
  |false=>rw[Wj ac,Wj ac];rw[show a=b from h0.2 hp]
def Xim{a:Int}{j:Nat}(hj:j<(XbP h a).length):(XbP h a)[j]=wd h.w (a+1+j):=by simp only[XbP,List.getElem_map,List.getElem_range]
def OG.grf(c:OG N h P M h2)(nz:∀p∈M,p.1≠0/\p.2≠0){rs rs':List Int}(r:R2 (rel M) rs rs'):Xjz h2 (M.map (·.2)) rs'=Xjz h (M.map (·.1)) rs:=by
 have ni:=λa b (h:rel M a b)=>Xq9 c.n1 c.n2 nz h;unfold Xjz;congr 1
 .exact(R2.map_eq (r.mono λa b h=>by rw[ni a b h])).symm
 rw[IU,IU];refine IY λp hp=>?_;show Xfw h2 _ p.2=Xfw h _ p.1;unfold Xfw;rw[c.hd p hp];congr 1;have hl:(XbP h2 p.2).length=(XbP h p.1).length:=by unfold XbP;rw[c.hd p hp];simp
 refine XkR hl λj g1 g2=>?_;have hj:(j:Int)<(hdA h.w p.1).n:=by unfold XbP at g2;simp at g2;omega
 rw[Xim,Xim,UE];have pm:=Vc (ZH h p.1) (x:=(j:Int));refine⟨λhp'=>(ni _ _ (c.f2 p hp j (pm.2 ⟨ab,hj,hp'⟩))).symm,λhp'=>c.f1 p hp j ab hj λq=>?_⟩;have:=(pm.1 q).2.2;rw[hp']at this;cases this
def OH.res(c:OH N x y P M)(vx:VX N x)(nz:∀p∈M,p.1≠0/\p.2≠0)(v:Int):(ZN y v).2=(ZN x v).2/\((ZN x v).2=0->wk M (ZN x v).1 (ZN y v).1):=by
 have w:∀{a b},rel M a b->wk M a b:=λh=>h.imp id .inl;have hz:Zr (rel M):=λa b h=>by
  rcases h with h|h
  .omega
  have:=nz _ h;simp only at this;omega
 have lr:Sf (rel M) x.l y.l:=⟨c.lc.1,c.lc.2,c.ls⟩
 unfold ZN;by_cases h0:v=0
 .simp[h0,wk]
 rw[Wj h0,Wj h0];by_cases h1:(X0 v).2≠0
 .rw[Wm h1,Wm h1];exact⟨rfl,λe=>absurd e h1⟩
 rw[Wj h1,Wj h1];by_cases h2:(X0 v).1.Tag=1
 .rw[Wm h2,Wm h2];have q:=Xme (i:=(X0 v).1.Index) (g:=(X0 v).1.J) hz lr;exact⟨q.1,λe=>w (q.2 e)⟩
 rw[Wj h2,Wj h2];by_cases h3:(X0 v).1.Tag=2
 .rw[Wm h3,Wm h3];have q:=Xfv (i:=(X0 v).1.Index) (g:=(X0 v).1.J) c.gl;exact⟨q.1,λe=>w (q.2 e)⟩
 rw[Wj h3,Wj h3];exact Xfv (i:=(X0 v).1.Index) (g:=(X0 v).1.J) c.we
def Xin{v:Int}(e:(ZN x v).2≠0):(ZN x v).1=0:=by
 have t:∀l i g,(X6 l i g).2≠0->(X6 l i g).1=0:=λl i g=>by
  unfold X6;repeat' split
  all_goals simp
 have l:∀l i g,(X9 l i g).2≠0->(X9 l i g).1=0:=λl i g=>by
  unfold X9;repeat' split
  all_goals simp
 unfold ZN at e⊢;grind
end
section
variable {N:Nat}{h0:Wh}{l:List Int}
def KeepW.trans{a b c:Wu}(h1:KeepW a b)(h2:KeepW b c):KeepW a c:=by unfold KeepW at *;grind
def QN(l:List Int)(w:Wu):Prop:=l=[]->w.q=[]
def Xra(hN:NB N){w w':Wu}{a to:Int}(hl:w.o=[])(hq:w.q=[])(e:QaF N w a=some (w',to,0)):w'.q=[]:=by unfold NB at hN;rw[QaF,hl,hq,XY a ac ai,Xa,Xa]at e;grind
def XoO(hN:NB N)(hs:Start N h0 l){w:Wu}{O:Int->Prop}{s:Int->Int}(hc:CI h0 l w)(ho:OC h0 l w O s)(hh:OE h0 l w)(hn:QN l w){a:Int}(ta:tU a):
 (∃r w2,QaF N w a=some r/\r.2.2≠0/\Qa1 N w a=some (0,r.2.2,w2)) \/
 ∃w' to,QaF N w a=some (w',to,0)/\OS h0 l w w' O s/\OE h0 l w'/\tU to/\(a≠0->to≠0)/\KeepW w w'/\QN l w'/\Qa1 N w a=some (to,0,w'):=by
 rcases XsM hN hs hc ho hh ta with h|⟨w',to,er,hq,hh',tt,tz,hkw,eg⟩
 .simp_all
 exact .inr ⟨w',to,er,hq,hh',tt,tz,hkw,λh=>Xra hN (List.sublist_nil.1 (h▸hc.old)) (hn h) er,eg⟩
def NZ(rs out:List Int):Prop:=∀(i:Nat) (y:Int),out[i]? = some y->∀(x:Int),rs[i]? = some x->x≠0->y≠0
def NZ.push{rs out:List Int}(h:NZ rs out){y:Int}(hy:∀x,rs[out.length]? = some x->x≠0->y≠0):NZ rs (out++[y]):=by
 intro i z hz x hx;by_cases hi:i<out.length
 .rw[Uk hi]at hz;exact h i z hz x hx
 grind
def zWk:Wu:=Wu.mk zHp [] [] [] 0 (WS.mk 0 0 0 0 0 0)
def XkS(hN:NB N)(hs:Start N h0 l){rs:List Int}(hl:rs.length<=1000000)(ht:∀x∈rs,tU x):∀(n k:Nat) (w:Wu) (out:List Int),k<=rs.length->rs.length-k<n->CI h0 l w->OE h0 l w->QN l w->out.length=k->NZ rs out ->
 (∃e,e≠0/\Qd6 N rs n k w.h.c.W w.h.c.p w.h.s w.h.b w.d w.r.j w.r.K w.r.F w.r.E w.r.f w.r.y w.h.w w.h.p w.o w.t w.q out=some (.ret (zWk,[],e)) /\
  Qa4 N rs n k w.h.c.W w.h.c.p w.h.w w.h.p w.h.s w.h.b w.o w.t w.q w.d w.r.j w.r.K w.r.F w.r.E w.r.f w.r.y out=some (.ret (zWk,[],e))) \/
 ∃w' out',CI h0 l w'/\OE h0 l w'/\QN l w'/\KeepW w w'/\out'.length=rs.length/\NZ rs out' /\
  Qd6 N rs n k w.h.c.W w.h.c.p w.h.s w.h.b w.d w.r.j w.r.K w.r.F w.r.E w.r.f w.r.y w.h.w w.h.p w.o w.t w.q out=some (.nxt (w'.h.c.W,w'.h.c.p,w'.h.s,w'.h.b,w'.d,w'.r.j,w'.r.K,w'.r.F,w'.r.E,w'.r.f,w'.r.y,w'.h.w,w'.h.p,w'.o,w'.t,w'.q,out')) /\
  Qa4 N rs n k w.h.c.W w.h.c.p w.h.w w.h.p w.h.s w.h.b w.o w.t w.q w.d w.r.j w.r.K w.r.F w.r.E w.r.f w.r.y out=some (.nxt (w'.h.c.W,w'.h.c.p,w'.h.w,w'.h.p,w'.h.s,w'.h.b,w'.o,w'.t,w'.q,w'.d,w'.r.j,w'.r.K,w'.r.F,w'.r.E,w'.r.f,w'.r.y,out'))
 |0,k,w,out,_,hn,_,_,_,_,_=>by omega
 |n+1,k,w,out,hk,hn,hc,hh,hqn,ho,hz=>by
  rw[Qd6,Qa4];by_cases h:k<rs.length
  .have htx:=ht _ (Wt h);rw[Xi h,Wc,Wc,Xf,Wb h,Xa,Xa,Xg ab];have⟨O,s,hob⟩:=hc.obj;have eta:(⟨⟨⟨w.h.c.W,w.h.c.p⟩,w.h.w,w.h.p,w.h.s,w.h.b⟩,w.o,w.t,w.q,w.d,⟨w.r.j,w.r.K,w.r.F,w.r.E,w.r.f,w.r.y⟩⟩:Wu)=w:=rfl;rcases XoO hN hs hc hob hh hqn htx with⟨r,w2,er,e0,eg⟩|⟨w',to,er,hq,hh',tt,tz,hkw',hqn',eg⟩
   .refine .inl ⟨r.2.2,e0,?_,?_⟩
    .rw[eg,Xa,Xk e0,Wc];rfl
    rw[er,Xa,Xk e0,Wc];rfl
   rw[eg,er,Xa,Xa,show((0:Int) != 0)=false from rfl,Wa,Wa,Xb ab,Xb ab];rcases XkS hN hs hl ht n (k+1) w' (out++[to]) ab ab hq.ci hh' hqn' (by simp_all) (hz.push λx hx hx0=>tz (by simp_all))with h|⟨w'',o'',c1,c2,c6,c3,c4,c5,e1,e2⟩
   .simp_all
   exact .inr ⟨w'',o'',c1,c2,c6,hkw'.trans c3,c4,c5,e1,e2⟩
  obtain rfl:k=rs.length:=ab;rw[Xw,Wa,Wa];exact .inr ⟨w,out,hc,hh,hqn,rfl,ho,hz,rfl,rfl⟩
def XoP(hN:NB N)(hs:Start N h0 l){w:Wu}(hc:CI h0 l w)(hh:OE h0 l w)(hqn:QN l w){rs:List Int}(hl:rs.length<=1000000)(ht:∀x∈rs,tU x):
 (∃e,e≠0/\QfD N w rs=some (zWk,[],e)/\Qc0 N w rs=some (zWk,[],e)) \/
 ∃w' out,CI h0 l w'/\OE h0 l w'/\QN l w'/\KeepW w w'/\out.length=rs.length/\NZ rs out/\QfD N w rs=some (w',out,0)/\Qc0 N w rs=some (w',out,0):=by
 have hN':=hN;unfold NB at hN';rw[QfD,Qc0];simp only[Qac,Qad,QaQ,Xa];have hr:=XkS hN hs hl ht N 0 w [] ab ab hc hh hqn rfl (λi y e=>by grind);rw[show((0:Nat):Int)=0 from rfl]at hr;rcases hr with⟨e,e0,e1,e2⟩|⟨w',out,c1,c2,c6,c3,c4,c5,e1,e2⟩
 .simp_all[e1,Xa,Xq,e2]
 exact .inr ⟨w',out,c1,c2,c6,c3,c4,c5,by rw[e1,Xa,Xl],by rw[e2,Xa,Xl]⟩
end
section
variable {N:Nat}{h0:Wh}{l:List Int}
def Xrb{w:Wu}{O:Int->Prop}{s:Int->Int}(ho:OC h0 l w O s)(hh:OE h0 l w){p x:Int}(hp:O p)(h1:p<x)(h2:x<p+s p){v:Int}(tv:tU v):
 OE h0 l {w with h:={w.h with w:=w.h.w.set (ix x) v}}:=by
 have hf:=ho.fit p hp;have hin:inW w.h.w x:=by unfold inW;omega
 have wd1:∀b,O b->wd (w.h.w.set (ix x) v) b=wd w.h.w b:=λb hb=>by
  have:b≠x:=by
   rintro rfl;by_cases he:b=p
   .omega
   have:=ho.apart b p hb hp he;have:=ho.fit b hb;omega
  rw[Xb5 hin (ho.fit b hb).1,Wj this]
 refine⟨λb hb=>?_,λb hb hq hf=>?_,λb hb hf=>?_,λy hy=>?_,hh.ss,hh.k1,hh.pr,λb hb hf=>?_,hh.bm,hh.ol⟩
 .rw[wd1 b (ho.queue b hb)];exact hh.q b hb
 .rw[wd1 b (ho.old b hb).1]at hf⊢;exact hh.old b hb hq hf
 .rw[wd1 b (ho.old b hb).1]at hf⊢;exact hh.fw b hb hf
 .rcases W0 hy with hy|hy
  .exact hh.ws y hy
  simp_all
 rw[wd1 b (ho.old b hb).1];exact hh.hw b hb hf
def Xio(hN:NB N)(hs:Start N h0 l){p z u:Int}{ks:List Int}(hkl:ks.length<=255)(hpi:wI (wI (pgi h0.c p*h0.c.W)+u)=p-4096)(hp0:4096<=p)(hz0:1<=z)(hz1:z<=256)(hz:p-4096+z<=h0.w.length):
 ∀(n k:Nat) (w:Wu) (O:Int->Prop) (s:Int->Int),k<=ks.length->ks.length-k<n->CI h0 l w->OC h0 l w O s->OE h0 l w->QN l w->O p->(∀k∈ks,0<=k/\k<255/\k+1<s p/\k+1<z) ->
 (∃e,e≠0/\(∃t,Qe9 N h0.c.W z (pgi h0.c p,u,0) ks n k w.h.c.W w.h.c.p w.h.s w.h.b w.d w.r.j w.r.K w.r.F w.r.E w.r.f w.r.y w.h.w w.h.p w.o w.t w.q=some (.ret (e,t))) /\
  Qbe N p ks n k w.h.c.W w.h.c.p w.h.w w.h.p w.h.s w.h.b w.o w.t w.q w.d w.r.j w.r.K w.r.F w.r.E w.r.f w.r.y=some (.ret (zWk,false,e))) \/
 ∃w',CI h0 l w'/\OE h0 l w'/\QN l w'/\KeepW w w'/\w.q.length<=w'.q.length /\
  Qe9 N h0.c.W z (pgi h0.c p,u,0) ks n k w.h.c.W w.h.c.p w.h.s w.h.b w.d w.r.j w.r.K w.r.F w.r.E w.r.f w.r.y w.h.w w.h.p w.o w.t w.q=some (.nxt (w'.h.c.W,w'.h.c.p,w'.h.s,w'.h.b,w'.d,w'.r.j,w'.r.K,w'.r.F,w'.r.E,w'.r.f,w'.r.y,w'.h.w,w'.h.p,w'.o,w'.t,w'.q)) /\
  Qbe N p ks n k w.h.c.W w.h.c.p w.h.w w.h.p w.h.s w.h.b w.o w.t w.q w.d w.r.j w.r.K w.r.F w.r.E w.r.f w.r.y=some (.nxt (w'.h.c.W,w'.h.c.p,w'.h.w,w'.h.p,w'.h.s,w'.h.b,w'.o,w'.t,w'.q,w'.d,w'.r.j,w'.r.K,w'.r.F,w'.r.E,w'.r.f,w'.r.y))
 |0,k,w,O,s,_,hn,_,_,_,_,_,_=>by omega
 |n+1,k,w,O,s,hi,hn,hc,ho,hh,hqn,hp,hk=>by
  have hN':=hN;unfold NB at hN';have hb1:=hs.hb.1;rw[Qe9,Qbe];by_cases h:k<ks.length
  .have⟨k0,k1,k2,k3⟩:=hk _ (Wt h);have hwl:=hc.wlen;have eta:(⟨⟨⟨w.h.c.W,w.h.c.p⟩,w.h.w,w.h.p,w.h.s,w.h.b⟩,w.o,w.t,w.q,w.d,⟨w.r.j,w.r.K,w.r.F,w.r.E,w.r.f,w.r.y⟩⟩:Wu)=w:=rfl;have ex:ix (p+1+ks[k])=(p-4096).toNat+(1+ks[k]).toNat:=by unfold ix;omega
   have gp:∀ws:List Int,ws.length=h0.w.length->KI ws (p-4096).toNat ((p-4096+z).toNat-(p-4096).toNat) (1+ks[k])=some (wd ws (p+1+ks[k])):=by intro ws hw;rw[Xc2 ab ab ab];unfold wd;rw[ex,Wk,Wb ab];rfl
   rw[eta,Xi h,Wc,Wc,Xf,Wb h,Xa,Xa,Xg ab];rw[hpi,Xe (n:=p-4096+z) ab ab,Xe (n:=1+ks[k]) ab ab,gp _ hwl,Xa];rw[Xt (n:=p+1) ab ab,Xt (n:=ks[k]) ab ab,Xt (n:=p+1+ks[k]) ab ab];rw[Yg (hc.wl hs.hb),Xa,Wm (by unfold inW;omega)];rw[show w.h.w.getD (ix (p+1+ks[k])) 0=wd w.h.w (p+1+ks[k])from rfl];rcases XoO hN hs hc ho hh hqn (XcE hh.ws (p+1+ks[k]))with⟨r,w2,er,e0,eg⟩|⟨w',to,er,q,hh',tt,tz,hkw,hqn',eg⟩
   .refine .inl ⟨r.2.2,e0,?_,?_⟩
    .simp[eg,Xa,Xk,e0,Wc]
    rw[er,Xa,Xk e0,Wc];rfl
   have⟨O',s',ho',hx⟩:=q.ob;have⟨hp',hs'⟩:=hx p hp;have st:=Xgb q.ci ho' hp' (x:=p+1+ks[k]) ab ab to;have sh:=Xrb ho' hh' hp' (x:=p+1+ks[k]) ab ab tt;rw[eg,er,Xa,Xa,show((0:Int) != 0)=false from rfl,Wa,Wa];rw[gp _ q.ci.wlen,Xa,KE (q.ci.wl hs.hb) ab,Xa,Wm st.1,←ex];rcases Xio hN hs hkl hpi hp0 hz0 hz1 hz n (k+1) {w' with h:={w'.h with w:=w'.h.w.set (ix (p+1+ks[k])) to}} O' s' ab ab st.2.1 st.2.2 sh hqn' hp' (λk' hk'=>by simp_all)with h|⟨w'',c1,c2,c3,c4,c5,c6,c7⟩
   .grind
   exact .inr ⟨w'',c1,c2,c3,KeepW.trans (b:={w' with h:={w'.h with w:=w'.h.w.set (ix (p+1+ks[k])) to}}) (by unfold KeepW at hkw⊢;grind) c4,UL q.ql c5,c6,c7⟩
  obtain rfl:k=ks.length:=ab;rw[Xw,Wa,Wa];exact .inr ⟨w,hc,hh,hqn,rfl,Uh _,rfl,rfl⟩
theorem Xt9(n:Int):wI n=if n % 18446744073709551616>=9223372036854775808 then n % 18446744073709551616-18446744073709551616 else n % 18446744073709551616:=by have e1:IntKind.bits .i64=64:=rfl;have e2:IntKind.signed .i64=true:=rfl;simp[wI,IntKind.wrap,e1,e2]
def Xua(a b:Int):wI (wI a+b)=wI (a+b):=by grind[Xt9]
def XvC(a b:Int):wI (a+wI b)=wI (a+b):=by rw[Int.add_comm a,Xua,Int.add_comm b]
def XoQ(hN:NB N)(hs:Start N h0 l):∀(n:Nat) (w:Wu),CI h0 l w->OE h0 l w->QN l w->0<=w.d->w.d<=w.q.length->(100001-w.d).toNat<n ->
 (∃e,e≠0/\Qfa N n w.h.c.W w.h.c.p w.h.s w.h.b w.d w.r.j w.r.K w.r.F w.r.E w.r.f w.r.y w.h.w w.h.p w.o w.t w.q=some (zWk,e) /\
  QbS N n w.h.c.W w.h.c.p w.h.w w.h.p w.h.s w.h.b w.o w.t w.q w.d w.r.j w.r.K w.r.F w.r.E w.r.f w.r.y=some (zWk,e)) \/
 ∃w',CI h0 l w'/\OE h0 l w'/\QN l w' /\
  Qfa N n w.h.c.W w.h.c.p w.h.s w.h.b w.d w.r.j w.r.K w.r.F w.r.E w.r.f w.r.y w.h.w w.h.p w.o w.t w.q=some (w',0) /\
  QbS N n w.h.c.W w.h.c.p w.h.w w.h.p w.h.s w.h.b w.o w.t w.q w.d w.r.j w.r.K w.r.F w.r.E w.r.f w.r.y=some (w',0)
 |0,w,_,_,_,_,_,hn=>by omega
 |n+1,w,hc,hh,hqn,g0,g1,hn=>by
  have hN':=hN;unfold NB at hN';have hb:=hs.hb;have hql:=hc.ql hb;have hwl:=hc.wl hb;have hww:=hc.wlen;have hb1:=hb.1;have eta:(⟨⟨⟨w.h.c.W,w.h.c.p⟩,w.h.w,w.h.p,w.h.s,w.h.b⟩,w.o,w.t,w.q,w.d,⟨w.r.j,w.r.K,w.r.F,w.r.E,w.r.f,w.r.y⟩⟩:Wu)=w:=rfl;have etc:(⟨w.h.c.W,w.h.c.p⟩:WP)=h0.c:=hc.conf;rw[Qfa,QbS,eta,Qef,Xv,etc,We (p:=w.d<0) ab,Wa,Xb ab];by_cases hlt:w.d<w.q.length;rotate_left
  .rw[Wg (p:=w.d>=_) ab,Wc,Wc,Xa];exact .inr ⟨w,hc,hh,hqn,rfl,rfl⟩
  rw[We (p:=w.d>=_) ab,Wa,Wa,X1 g0 hlt,Xa,Xa];have hpm:w.q[w.d.toNat]'ab∈w.q:=Wt _;generalize w.q[w.d.toNat]'ab=p at hpm⊢;have hne:l≠[]:=λe=>by rw[hqn e]at hpm;grind
  have hp:=hs.prop hne;have hwd0:=hp.words;have⟨O,s,ho⟩:=hc.obj;have hOp:=ho.queue p hpm;have hf:=ho.fit p hOp;have hok:=hh.q p hpm;have hrng:4096<=p/\p<4096+h0.c.p*h0.c.W:=ab;have⟨o1,o2⟩:=XkD (N:=N) hp.conf hrng;have tw:=XcE hh.ws p;have hsw:=Xy w.h.w p;have e1:XB (Zd (wd w.h.w p))=szA w.h.w p:=hsw.1;have gp:∀n:Nat,1<=n->KI w.h.w (p-4096).toNat n 0=some (wd w.h.w p):=by intro n hn;rw[Xc2 ab ab ab];unfold wd ix;rw[Wk,Wb ab];simp
  rw[Qdl,Yg hwl,Xa,Wm (by unfold inW;omega),ZE,Xa,Xa,XdA ab,Xa];rw[show w.h.w.getD (ix p) 0=wd w.h.w p from rfl];rw[o1,Xa];have ecp:w.h.c.W=h0.c.W:=by rw[hc.conf]
  rw[ecp,show((0:Int) != 0)=false from rfl,Wa,Xb ab,o2,Xe (n:=(w.h.w.length:Int)-(p-4096)) ab ab,We ab,Wa,Xe (n:=p-4096+1) ab ab,Xb ab,
   gp _ ab,Xa,Xd4 ab tw,Xa]
  rw[hok,ZG ab,Xa,e1,Xa];dsimp only;rw[show((0:Int) != 0)=false from rfl,Wa,o2,Xe (n:=(w.h.w.length:Int)-(p-4096)) ab ab,We ab,Wa,Xe (n:=p-4096+szA w.h.w p) ab ab,Xb ab,Xb ab,Wi,Wa,Xfl ab _ (ZX _),Xa];have hkl:=J6 (hdA w.h.w p);have hg:=Xio hN hs (p:=p) (z:=szA w.h.w p) (u:=pgo h0.c p) (ks:=XJ (hdA w.h.w p)) hkl o2 hf.1 hsw.2.1 hsw.2.2 ab N 0 w O s ab ab hc ho hh hqn hOp λk hk=>by have h1:=Zn hk;have h2:szA w.h.w p=(hdA w.h.w p).n+1:=rfl;omega
  rw[show((0:Nat):Int)=0 from rfl,ecp]at hg;rcases hg with⟨e,e0,⟨t,e2⟩,e3⟩|⟨w',c1,c2,c3,c4,c5,e2,e3⟩
  .refine .inl ⟨e,e0,?_,?_⟩
   .rw[show Zd (wd w.h.w p)=hdA w.h.w p from rfl,e2,Xa,Xq,Xk e0,Wc];rfl
   rw[show Zd (wd w.h.w p)=hdA w.h.w p from rfl,e3,Xa,Xq,Xa,Xk e0,Wc];rfl
  rw[show Zd (wd w.h.w p)=hdA w.h.w p from rfl,e2,e3,Xa,Xa,Xl,Xl,Xa];have esc:w'.d=w.d:=by unfold KeepW at c4;rw[c4]
  have ee:wI (w'.d+1)=w.d+1:=by rw[esc,Xe ab ab]
  have est:wI (w'.r.y+wI (1+(((XJ (hdA w.h.w p)).length:Nat):Int)))=wI (wI (w'.r.y+1)+(((XJ (hdA w.h.w p)).length:Nat):Int)):=by rw[XvC,Xua,Int.add_assoc]
  rw[est];have c1':CI h0 l {w' with d:=wI (w'.d+1),r:={w'.r with y:=wI (wI (w'.r.y+1)+(((XJ (hdA w.h.w p)).length:Nat):Int))}}:=by refine⟨c1.conf,c1.wlen,c1.plen,c1.spc,c1.old,c1.tk,c1.tnd,c1.knd,c1.qnd,?_⟩;obtain⟨O,s,h⟩:=c1.obj;exact⟨O,s,⟨h.old,h.queue,h.fit,h.apart,h.taken,h.free⟩⟩
  exact XoQ hN hs n _ c1' ⟨c2.q,c2.old,c2.fw,c2.ws,c2.ss,c2.k1,c2.pr,c2.hw,c2.bm,c2.ol⟩ c3 (by grind) (by grind) (by grind)
def XsZ(hN:NB N)(hs:Start N h0 l){w:Wu}(hc:CI h0 l w)(hh:OE h0 l w)(hqn:QN l w)(g0:0<=w.d)(g1:w.d<=w.q.length):
 (∃e,e≠0/\Qgd N w=some (zWk,e)/\Qem N w=some (zWk,e)) \/
 ∃w',CI h0 l w'/\OE h0 l w'/\QN l w'/\Qgd N w=some (w',0)/\Qem N w=some (w',0):=by
 have hN':=hN;unfold NB at hN';rw[Qgd,Qem];simp only[Qac,Qad,QaQ,Xa];rcases XoQ hN hs N w hc hh hqn g0 g1 ab with⟨e,e0,e1,e2⟩|⟨w',c1,c2,c3,e1,e2⟩
 .simp_all[e1,Xa,e2]
 exact .inr ⟨w',c1,c2,c3,by rw[e1,Xa],by rw[e2,Xa]⟩
end
section
variable {N:Nat}{h0:Wh}{l:List Int}
def lpg(N:Nat)(h:Wh)(i:Nat):List Int:=match Qaf N h (i:Int)with|some r=>r.1|none=>[]
def lps(N:Nat)(h:Wh)(k:Nat):Nat->List Int
 |0=>[]
 |m+1=>lpg N h k++lps N h (k+1) m
def Xfy(hb:HB h0)(hp:∀i:Nat,i<h0.p.length->∃l,Qaf N h0 (i:Int)=some (l,0)/\l.length<=64):∀(n k:Nat) (v:List Int),k<=h0.p.length->h0.p.length-k<n->v.length<=64*k->QaJ N h0 n (k:Int) v=some (.nxt (v++lps N h0 k (h0.p.length-k)))
 |0,k,v,_,hn,_=>by omega
 |n+1,k,v,hk,hn,hv=>by
  have hb2:=hb.2;rw[QaJ];by_cases h:k<h0.p.length
  .have⟨l,e,hl⟩:=hp k h;rw[Xi h,Wc,e,Xa,show(((0:Int)) != 0)=false from rfl,Wa,Xb (by grind),Xg ab,Xfy hb hp n (k+1) _ ab ab (by grind),W4,show h0.p.length-k=(h0.p.length-(k+1))+1 by omega,lps,lpg,e]
  obtain rfl:k=h0.p.length:=ab;simp[Xw,Wa,U6,lps,Ih]
structure Sd(N:Nat)(h:Wh)(L:List Int):Prop where
 ep:Qaa N h=some true
 eg:Qbk N h=some true
 st:Start N h L
 eL:L=lps N h 0 h.p.length
 pg:∀i:Nat,i<h.p.length->Qaf N h (i:Int)=some (lpg N h i,0)/\PageL N h (i:Int) (lpg N h i)
 ob:Qal N h=some (Ye h L,0)
def Xs0(hN:NB N)(ht:HT h0)(eg:Qbk N h0=some true):∃L,Sd N h0 L:=by
 have hN':=hN;unfold NB at hN';have hb:=ht.hb;have⟨b,eb,hgd⟩:=Kz hN hb;rw[eg]at eb;obtain rfl:=Wz eb;have hg:=hgd rfl;have hp:=hg.prop;have ep:Qaa N h0=some true:=by
  obtain⟨b,eb⟩:=Jf (N:=N) hN hb;cases b with
  |true=>exact eb
  |false=>rw[Qbk,Qe4,eb,Xa,Ub,Wc,Xa]at eg;cases eg
 have hpg:∀i:Nat,i<h0.p.length->Qaf N h0 (i:Int)=some (lpg N h0 i,0)/\PageL N h0 (i:Int) (lpg N h0 i)/\(lpg N h0 i).length<=64:=λi hi=>by
  obtain⟨r,er,hr1,hr2⟩:=QfE hN hb hp (i:Int) ab ab;have h2:=(hg.small i ab ab r er).2;have e:lpg N h0 i=r.1:=by unfold lpg;rw[er]
  rw[e];refine⟨?_,hr1,hr2⟩;rw[er];congr 1;exact Prod.ext rfl h2
 have es:=Xfy hb (λi hi=>⟨_,(hpg i hi).1,(hpg i hi).2.2⟩) N 0 [] ab (by have:=hb.2;omega) ac;have est:QbB N h0=some (lps N h0 0 h0.p.length,0):=by rw[QbB,ep,Xa,Wi,Wa,show(0:Int)=((0:Nat):Int)from rfl,es,Xa,Xl,W8,Nat.sub_zero]
 have⟨r,er,hst,_,_⟩:=J5 hN hb;rw[est]at er;obtain rfl:=Wz er;refine⟨_,ep,eg,⟨hb,λ_=>hg,λ_=>hp,hst⟩,rfl,λi hi=>⟨(hpg i hi).1,(hpg i hi).2.1⟩,?_⟩;have hlen:(lps N h0 0 h0.p.length).length<=4096:=hst.len;have:=XaJ (N:=N) (h:=h0) (lps N h0 0 h0.p.length,0) (by show(lps N h0 0 h0.p.length).length<=_;omega) hst.obj.ev N 0 [] ab (by show(lps N h0 0 h0.p.length).length-0<_;omega) ac;rw[show((0:Nat):Int)=0 from rfl,WX,W8]at this;simp[Qal,est,Xa,this]
def XjA(y3:List Int×Int)(y4:List Int)(y5:List Wp)(hl:h0.p.length<=100000)(h5:y5.length=h0.p.length):∀(n k:Nat) (v:List Wp),k<=h0.p.length->h0.p.length-k<n->v.length=h0.p.length->(∀j:Nat,k<=j->pg v j=pg h0.p j) ->
 ∃r,QbE N h0 y3 n (k:Int) v=some r/\Qb7 N h0 y3 y4 y5 n (k:Int) v=some r/\r.length=h0.p.length/\∀j:Nat,pg r j=if j<k\/¬((pg h0.p j).k=1/\(pg h0.p j).P>0)then pg v j else⟨1,wI (1-h0.s),(pg h0.p j).u,(pg h0.p j).P⟩
 |0,k,v,_,hn,_,_=>by omega
 |n+1,k,v,hk,hn,hv,hj=>by
  rw[QbE,Qb7,Xb ab,hv,h5];by_cases h:k<h0.p.length
  .rw[Xi h,Wc,Wc,Xn (ps:=v) (i:=(k:Int)) ab ab,Xa,Xa,Xg ab];simp only[Xa,hj k (Uh k)];by_cases hc:(pg h0.p k).k=1/\(pg h0.p k).P>0
   .have e2:=λx:Nat=>YW (ps:=v) (i:=(k:Int)) (j:=(x:Int)) ⟨(pg h0.p k).k,wI (1-h0.s),(pg h0.p k).u,(pg h0.p k).P⟩ ab ab ab;obtain⟨r,r1,r2,r3,r4⟩:=XjA y3 y4 y5 hl h5 n (k+1) (v.set (k:Int).toNat ⟨(pg h0.p k).k,wI (1-h0.s),(pg h0.p k).u,(pg h0.p k).P⟩) ab ab (by rw[WL];exact hv) λj hkj=>by rw[e2 j,Wj ab];exact hj j ab
    grind
   have⟨r,r1,r2,r3,r4⟩:=XjA y3 y4 y5 hl h5 n (k+1) v ab ab hv λj hkj=>hj j ab;grind
  obtain rfl:k=h0.p.length:=ab;rw[Xw,Wa,Wa];refine⟨v,rfl,rfl,hv,λj=>?_⟩;by_cases hq:j<h0.p.length\/¬((pg h0.p j).k=1/\(pg h0.p j).P>0)
  .simp_all
  exfalso;apply hq;right;intro hh;have:pg h0.p j=Y3:=by unfold pg;rw[Wk,WN ab];rfl
  rw[this]at hh;exact absurd hh.1 ag
def XoR(hN:NB N)(ht:HT h0){L:List Int}(hB:Sd N h0 L):∃w,Qex N h0=some (w,0)/\QcZ N h0=some (w,0)/\CI h0 L w/\OE h0 L w/\QN L w/\w.d=0:=by
 have hN':=hN;unfold NB at hN';have hb:=ht.hb;have hb2:=hb.2;have ep:=hB.ep;have hp:=Xo hN hb ep;have hs:=hB.st.st;have hsp:=hp.space;have hw:wI (1-h0.s)=1-h0.s:=Xe ab ab;have hspn:=Vy hN hb ep;have⟨r,r1,r2,r3,r4⟩:=XjA (N:=N) (h0:=h0) (Ye h0 L,0) h0.w h0.p ab rfl N 0 h0.p ab ab rfl λ_ _=>rfl;rw[show((0:Nat):Int)=0 from rfl]at r1 r2;have r5:∀j,0<=j->((pg h0.p j).k=1/\(pg r j)=⟨1,1-h0.s,(pg h0.p j).u,(pg h0.p j).P⟩)\/pg r j=pg h0.p j:=λj hj=>by
  obtain⟨m,rfl⟩:∃m:Nat,j=m:=⟨j.toNat,ab⟩
  grind
 have hk:SameK h0.p r:=⟨r3,λj hj=>by grind⟩
 have ci:=XdI hb hp hs (w:=⟨⟨h0.c,h0.w,r,h0.s,h0.b⟩,Ye h0 L,[],[],0,⟨0,0,0,0,0,0⟩⟩) rfl rfl rfl hk List.filter_sublist rfl rfl;refine⟨⟨⟨h0.c,h0.w,r,h0.s,h0.b⟩,Ye h0 L,[],[],0,⟨0,0,0,0,0,0⟩⟩,?_,?_,ci,⟨λa ha=>(by grind),λa ha _ _=>(hs.obj.at_ a ha).ok,λa ha hf=>?_,ht.tw,?_,λi hi hk1=>by grind,λi hi=>?_,λ_ _ _=>rfl,rfl,rfl⟩,λ_=>rfl,rfl⟩
 .rw[Qex,Yx hb2 ab,ep,Xa,Wi,Wa,Xd8 hN ht,hB.eg,Xa,Wi,Wa,JA hN ht,hB.ob,Xa];simp only[Qac,Qad,Xa];rw[show((0:Int) != 0)=false from rfl,Wa,Xb ab,r2,Xa]
 .rw[QcZ,ep,Xa,Wi,Wa,hB.eg,Xa,Wi,Wa,hB.ob,Xa,Xb ab,r1,Xa]
 .have:=Xc3 (XcE ht.tw a) (hs.obj.at_ a ha).ok;simp_all
 .refine XbM hspn r3 (λi i0 i1=>?_) λi m i0 ik m1 m2 m3=>?_
  .have hb:=hspn.hd i i0 i1;rcases r5 i i0 with⟨a,b⟩|b
   .have:=(hb ab).k1 a;have:=(hb ab).pn;rw[b];exact .inl ⟨ab,rfl,⟨by show 0<=1-h0.s;omega,by show 1-h0.s<=1;omega⟩,ah,by dsimp only;omega,by dsimp only;omega⟩
   simp_all
  have tl:=((hspn.hd i i0 ab ab).k2 ik).2.2 m m1 m2;grind
 have:=hk.2 i hi.1.1;rw[show(pg r i).k=1 from hi.2.1]at this;simp_all
end
section
variable {N:Nat}{h0:Wh}{l:List Int}
def Xs1(hN:NB N){h:Wh}(hb:HB h)(ep:Qaa N h=some true){a:Int}(ha:IF h a):Qao N h a=some (hdA h.w a,0):=by
 have hp:=Xo hN hb ep;have hr:=ha.rng;have⟨_,q0,q1,q2,q3⟩:=XL hp.conf hr;have hpl:=hp.pages;have hw:=hp.words;have hk:=ha.kind;have hu:=ha.used;have hsz:=Xy h.w a;have hv:=Xh.1 hp.conf;have e1:XB (Zd (wd h.w a))=szA h.w a:=hsz.1;rw[Qao,ep,Xa,Wi,Wa,KR,hp.conf,Wj ac,Wm hr,Xa];rw[show(a-4096) / h.c.W=pgi h.c a from rfl,show(a-4096) % h.c.W=pgo h.c a from rfl];rw[Xn q0 ab,Xa,Yg (by have:=hb.1;unfold BIG;omega),Xa,Wm (by unfold inW;omega),ZE,Xa,Xv,XQ,Xa];rw[show h.w.getD (ix a) 0=wd h.w a from rfl,ha.ok,e1,We (show¬pgo h.c a>=(pg h.p (pgi h.c a)).u by omega),Wi];rcases hk with hk|hk
 .have:=ha.small hk;rw[show((pg h.p (pgi h.c a)).k != 1)=false by grind,Wa,Xp hk,Wc,Xe (n:=pgo h.c a+szA h.w a) ab ab,We ab,Wa,show((pg h.p (pgi h.c a)).k==2)=false by grind,Wa];rfl
 have:=ha.large hk;rw[show((pg h.p (pgi h.c a)).k != 1)=true by grind,Wc,show((pg h.p (pgi h.c a)).k != 2)=false by grind,Wa,Xj ab,Wa,Xp hk,Wc,this.1,this.2];simp;rfl
def IF.same{h h2:Wh}(hc:h2.c=h.c){a:Int}(ha:IF h a)(hk:(pg h2.p (pgi h.c a)).k=(pg h.p (pgi h.c a)).k)(hu:(pg h2.p (pgi h.c a)).u=(pg h.p (pgi h.c a)).u)(hw:wd h2.w a=wd h.w a):IF h2 a:=by
 have hs:szA h2.w a=szA h.w a:=by unfold szA hdA;rw[hw]
 refine⟨by rw[hc];exact ha.rng,?_,by rw[hw];exact ha.ok,?_,λh=>?_,λh=>?_⟩<;>rw[hc]at *
 .rw[hk];exact ha.kind
 .rw[hu];exact ha.used
 .rw[hk]at h;rw[hu,hs];exact ha.small h
 rw[hk]at h;rw[hu,hs];exact ha.large h
def Qof{h h2:Wh}(hc:h2.c=h.c){i:Int}{p p2:Wp}(hu:p2.u=p.u)(hk:p2.k=p.k):∀(n:Nat) (o:Int) (v r:List Int),Qah N h i p n o v=some (.nxt r)->(∃t,r=v++t)/\((∀b∈r,Qao N h2 b=Qao N h b)->Qah N h2 i p2 n o v=some (.nxt r))
 |0,o,v,r,e=>by simp_all[Qah]
 |n+1,o,v,r,e=>by
  rw[Qah]at e;rw[Qah,hu,hk,hc];cases h1:decide (o<p.u)with
  |false=>simp_all
  |true=>
   rw[h1,Wc]at e;rw[Wc];cases h2':Qbx N h.c i o with
   |none=>simp_all[h2',Kq]
   |some y=>
    rw[h2',Xa]at e;rw[Xa];cases h3:Qao N h y.1 with
    |none=>simp_all[h3,Kq]
    |some z=>
     rw[h3,Xa]at e;cases h4:z.2 != 0 with
     |true=>simp_all
     |false=>
      rw[h4,Wa]at e;by_cases h5:(v.length+1)*8<=140737488355328;rotate_left
      .unfold grd at e;simp_all
      rw[Xb h5]at e;have key:∀t,r=v++[y.1]++t->y.1∈r:=λt ht=>by simp_all
      cases h6:p.k==2 with
      |true=>rw[h6,Wc]at e;cases e;refine⟨⟨[y.1],rfl⟩,λhb=>?_⟩;rw[hb y.1 ac,h3,Xa,h4,Wa,Xb h5,Wc]
      |false=>rw[h6,Wa,XQ,Xa]at e;have⟨⟨t,ht⟩,q⟩:=Qof hc hu hk n _ _ r e;refine⟨⟨[y.1]++t,by rw[ht,W4]⟩,λhb=>?_⟩;rw[hb y.1 (key t ht),h3,Xa,h4,Wa,Xb h5,Wa,XQ,Xa];simp_all
def QmI{h:Wh}{i:Int}{p:Wp}{a:List Int×Int}:∀(n:Nat) (o:Int) (v:List Int),Qah N h i p n o v=some (.ret a)->a.2=19
 |0,o,v,e=>by simp_all[Qah]
 |n+1,o,v,e=>by
  rw[Qah]at e;cases h1:decide (o<p.u)with
  |false=>simp_all
  |true=>
   rw[h1,Wc]at e;cases h2':Qbx N h.c i o with
   |none=>simp_all[h2',Kq]
   |some y=>
    rw[h2',Xa]at e;cases h3:Qao N h y.1 with
    |none=>simp_all[h3,Kq]
    |some z=>
     rw[h3,Xa]at e;cases h4:z.2 != 0 with
     |true=>grind
     |false=>
      rw[h4,Wa]at e;by_cases h5:(v.length+1)*8<=140737488355328;rotate_left
      .unfold grd at e;simp_all
      rw[Xb h5]at e;cases h6:p.k==2 with
      |true=>simp_all
      |false=>rw[h6,Wa,XQ,Xa]at e;exact QmI n _ _ e
def Qoq{h h2:Wh}(hc:h2.c=h.c)(hl:h2.p.length=h.p.length)(ep:Qaa N h=some true)(ep2:Qaa N h2=some true){i:Int}(i0:0<=i)(i1:i<h.p.length)(hk:(pg h2.p i).k=(pg h.p i).k)(hu:(pg h2.p i).u=(pg h.p i).u){r:List Int}(e:Qaf N h i=some (r,0))(hb:∀b∈r,Qao N h2 b=Qao N h b):Qaf N h2 i=some (r,0):=by
 rw[Qaf,ep,Xa,Wi,Wa,We ab,Wa,We ab,Wa,Xn i0 i1,Xa]at e;rw[Qaf,ep2,Xa,Wi,Wa,We ab,Wa,We ab,Wa,Xn i0 ab,Xa,hk];cases h1:(pg h.p i).k==0 with
 |true=>simp_all
 |false=>
  cases h2':(pg h.p i).k==3 with
  |true=>simp_all
  |false=>
   rw[h1,Wa,h2',Wa]at e;rw[Wa,Wa];cases h3:Qah N h i (pg h.p i) N 0 []with
   |none=>simp_all[h3,Kq]
   |some x=>
    rw[h3,Xa]at e;cases x with
    |ret a=>rw[Xq]at e;cases e;exact absurd (QmI _ _ _ h3) ac
    |nxt v=>rw[Xl]at e;cases e;rw[(Qof hc hu hk N 0 [] r h3).2 hb,Xa,Xl]
def Xs2{L:List Int}(hs:ID N h0 L){a b:Int}(ha:a∈L)(hb:b∈L)(hab:a≠b):a+szA h0.w a<=b\/b+szA h0.w b<=a:=by have hpw:=hs.obj.pw;rw[W7]at hpw;have⟨i,hi,ei⟩:=Wv ha;have⟨j,hj,ej⟩:=Wv hb;grind
instance(w:Wu)(i:Int):Decidable (Prm w i):=by unfold Prm;infer_instance
def XbQ(h0:Wh)(a:Int):Int:=(hdA h0.w a).n
def fwr(h0:Wh)(v:List Int)(a:Int):List Int:=ovr v ([Zw ⟨0,XbQ h0 a,0⟩]++List.replicate (XbQ h0 a).toNat (0:Int)) (ix a)
def Kk(h0:Wh)(w:Wu)(x:List Int×Int)(a:Int):List Int×Int:=if Prm w (pgi h0.c a)/\a∉w.q then(fwr h0 x.1 a,wI (x.2+1))else x
structure VI(h0:Wh)(v:List Int):Prop where
 len:v.length=h0.w.length
 tu:∀x∈v,tU x
def vf{d:Int}(h:0<=d/\d<=255):XC ⟨0,d,0⟩=true:=by unfold XC;simp_all
def XjB(h0:Wh)(a:Int):0<=XbQ h0 a/\XbQ h0 a<=255/\szA h0.w a=XbQ h0 a+1:=by have:=XD (ZX (wd h0.w a));exact⟨this.2.2.1,this.2.2.2,rfl⟩
def XjC(h0:Wh)(a x:Int):([x]++List.replicate (XbQ h0 a).toNat (0:Int)).length=(XbQ h0 a).toNat+1:=by simp
def Xrc(d:Wy):tU (Zw d):=by unfold Zw;simp
def Xs3{v:List Int}(hv:VI h0 v){a:Int}(h1:4096<=a)(h2:a+szA h0.w a<=4096+h0.w.length):VI h0 (fwr h0 v a)/\∀b,4096<=b->(b+1<=a\/a+szA h0.w a<=b)->wd (fwr h0 v a) b=wd v b:=by
 have hf:=XjB h0 a;have hl:=XjC h0 a (Zw ⟨0,XbQ h0 a,0⟩);have hvl:=hv.len;have hi:ix a+([Zw ⟨0,XbQ h0 a,0⟩]++List.replicate (XbQ h0 a).toNat (0:Int)).length<=v.length:=by rw[hl];unfold ix;omega
 refine⟨⟨(Zv hi).trans hvl,λx hx=>?_⟩,λb hb hab=>?_⟩
 .rcases Wr.1 hx with hx|hx
  .rcases Wr.1 hx with hx|hx
   .exact hv.tu x (WQ hx)
   rcases Wr.1 hx with hx|hx
   .rw[Uc.1 hx];exact Xrc _
   simp_all
  exact hv.tu x (WR hx)
 unfold wd fwr;rw[V2 hi,hl,Wj (by unfold ix;omega)]
def XoS(hN:NB N){h:Wh}(hb:HB h)(ep:Qaa N h=some true){d a:Int}(hd:0<=d/\d<=255)(h1:4096<=a)(h2:a+(d+1)<=4096+h.w.length):QbN N h a ⟨0,d,0⟩=some (⟨h.c,ovr h.w ([Zw ⟨0,d,0⟩]++List.replicate d.toNat (0:Int)) (ix a),h.p,h.s,h.b⟩,0):=by have hb1:=hb.1;rw[QbN,KU,Wm (vf hd),ep,Xa,Xa,Wi,Wa];dsimp only;rw[show((0:Int) != 0)=false from rfl,Wa,Xb ab,Xb ab,ZQ (by unfold BIG;omega) (by unfold BIG;simp;omega) (by simp;unfold NB at hN;omega),Wm (by unfold Yt;simp;omega),Xa];rfl
def Xbi{w:Wu}{L:List Int}(hp:Uv h0)(hs:ID N h0 L){x:List Int×Int}(hv:VI h0 x.1){a:Int}(ha:a∈L):VI h0 (Kk h0 w x a).1/\∀b∈L,b≠a->wd (Kk h0 w x a).1 b=wd x.1 b:=by
 have hat:=hs.obj.at_ a ha;have hf:=Ky hp hat;unfold Kk;split
 .have⟨q1,q2⟩:=Xs3 hv hat.rng.1 hf;refine⟨q1,λb hb hba=>q2 b (hs.obj.at_ b hb).rng.1 ?_⟩;have:=(Xy h0.w b).2.1;rcases Xs2 hs hb ha hba with h|h<;>omega
 simp_all
def XaQ{w:Wu}{L:List Int}(hp:Uv h0)(hs:ID N h0 L)(q:Int->Bool):∀(m:List Int) (x:List Int×Int),(∀a∈m,a∈L)->VI h0 x.1->VI h0 (m.foldl (λx a=>if q a then Kk h0 w x a else x) x).1/\∀b∈L,b∉m->wd (m.foldl (λx a=>if q a then Kk h0 w x a else x) x).1 b=wd x.1 b
 |[],x,_,hv=>⟨hv,λ_ _ _=>rfl⟩
 |a::m,x,hm,hv=>by
  rw[IA];have h1:=Xbi (w:=w) hp hs hv (hm a ac);cases hq:q a with
  |false=>obtain⟨r1,r2⟩:=XaQ hp hs q m x (λb hb=>hm b (by grind)) hv;exact⟨r1,λb hb hbm=>r2 b hb λh=>hbm (by grind)⟩
  |true=>obtain⟨r1,r2⟩:=XaQ hp hs q m (Kk h0 w x a) (λb hb=>hm b (by grind)) h1.1;exact⟨r1,λb hb hbm=>(r2 b hb λh=>hbm (by grind)).trans (h1.2 b hb λh=>hbm (by grind))⟩
end
section
variable {N:Nat}{h0:Wh}{L:List Int}
def XgK(hN:NB N)(hb:HB h0)(hp:Uv h0)(hs:ID N h0 L){w:Wu}(hc:CI h0 L w)(hh:OE h0 L w)(hspn:OO h0.c w.h.p):∀(n k:Nat) (x:List Int×Int),k<=w.o.length->w.o.length-k<n->VI h0 x.1->(∀a∈w.o.drop k,Prm w (pgi h0.c a)->wd x.1 a=wd h0.w a) ->
 QaD N w n (k:Int) x.1 x.2=some ((w.o.drop k).foldl (Kk h0 w) x)
 |0,k,x,_,hn,_,_=>by omega
 |n+1,k,x,hk,hn,hv,hw=>by
  have hN':=hN;unfold NB at hN';have hb1:=hb.1;have hql:=hc.ql hb;have htl:=hc.tl hb;have hol:=hc.old.length_le;have hsl:=hs.len;have hspc:=hc.spc;have hsp:=hp.space;rw[QaD];by_cases h:k<w.o.length;rotate_left
  .grind
  have hdr:=Wl h;have haL:w.o[k]∈L:=hc.old.subset (Wt h);have hpw:=(hs.obj.pw.sublist hc.old).drop (i:=k);rw[hdr]at hw hpw⊢;rw[U8]at hpw;rw[Xi h,Wc,Xf,Wb h,Xa,Xg ab,IA];generalize w.o[k]=a at haL hw hpw⊢;have hat:=hs.obj.at_ a haL;have hr:=hat.rng;have hfit:=Ky hp hat;have hof:Qca N w.h.c a=some (pgi h0.c a,pgo h0.c a,0):=by rw[KR,hc.conf,hp.conf,Wj ac,Wm hr];rfl
  have hlt:∀b∈w.o.drop (k+1),b∈L/\b≠a:=λb hb=>⟨hc.old.subset (WR hb),λe=>by have:=hpw.1 b hb;have:=(Xy h0.w a).2.1;omega⟩
  have hpl:=hc.plen;have hb2:=hb.2;have⟨b,hbp,eb,_⟩:=Xgv (N:=N) (w:=⟨⟨w.h.c,x.1,w.h.p,w.h.s,w.h.b⟩,w.o,w.t,w.q,w.d,⟨w.r.j,w.r.K,x.2,w.r.E,w.r.f,w.r.y⟩⟩) (i:=pgi h0.c a) hN htl (by simp_all) (by simp_all) hspn.sp;have hbp:b=true↔Prm w (pgi h0.c a):=hbp;rw[hof,Xa];rw[eb,Xa];have nxt:¬(Prm w (pgi h0.c a)/\a∉w.q)->QaD N w n ((k+1:Nat):Int) x.1 x.2=some ((w.o.drop (k+1)).foldl (Kk h0 w) (Kk h0 w x a)):=λhq=>by rw[show Kk h0 w x a=x from Wj hq];exact XgK hN hb hp hs hc hh hspn n (k+1) x ab ab hv λb hb=>hw b (by grind)
  cases hbv:b with
  |false=>simp_all
  |true=>
   rw[Wi,Wa,Xa,XY a ab ab,Xa];cases hqv:w.q.contains a with
   |true=>simp_all
   |false=>
    have hq:=YE hqv;have hpm:=hbp.1 hbv;have ewd:=hw a ac hpm;have hf:=XjB h0 a;have hvl:=hv.len;have eL:(Zd (wd x.1 a)).n=XbQ h0 a:=by rw[ewd];rfl
    rw[Wa,Xa,Qdl,Yg (by show x.1.length<=_;unfold BIG;omega),Xa,Wm (by show inW x.1 a;unfold inW;omega),ZE,Xa,Xa];rw[show x.1.getD (ix a) 0=wd x.1 a from rfl,eL,KU,Wm (vf ab),Xa,Xa,Xb ab,Xb ab,ZQ (by unfold BIG;omega) (by rw[XjC];unfold BIG;omega) (by grind),XjC,Wm (by unfold Yt;omega),Xa];have⟨q1,q2⟩:=Xbi (w:=w) hp hs hv haL;have ef:Kk h0 w x a=(fwr h0 x.1 a,wI (x.2+1)):=Wm ⟨hpm,hq⟩;rw[ef]at q1 q2⊢;exact XgK hN hb hp hs hc hh hspn n (k+1) _ ab ab q1 λb hb hbp=>(q2 b (hlt b hb).1 (hlt b hb).2).trans (hw b (by grind) hbp)
def hpv(w:Wu)(v:List Int):Wh:=⟨w.h.c,v,w.h.p,w.h.s,w.h.b⟩
def XjD(hN:NB N)(hb:HB h0)(ep:Qaa N h0=some true){w:Wu}(hc:CI h0 L w)(hh:OE h0 L w){v:List Int}(hv:VI h0 v):Qaa N (hpv w v)=some true/\HT (hpv w v):=by
 have hp:=Xo hN hb ep;have hpl:=hc.plen;refine⟨?_,⟨?_,hv.tu⟩⟩
 .have:=hh.ss.proper hN hb ep (ws:=v) hv.len (b:=w.h.b) (by
   rw[hh.bm]
   rcases hp.bump with h|⟨a,b,c⟩
   .exact .inl h
   .exact .inr ⟨a,ab,hh.k1 _ a c⟩)
  unfold hpv
  simp_all[hc.conf,hc.spc]
 have:=hb.1;have:=hb.2;have:=hv.len;exact⟨by show v.length<=_;omega,by show w.h.p.length<=_;omega⟩
def XoT(hN:NB N)(hb:HB h0)(ep:Qaa N h0=some true)(hs:ID N h0 L){w:Wu}(hc:CI h0 L w)(hh:OE h0 L w){v:List Int}(hv:VI h0 v){a:Int}(ha:a∈L)(hpm:Prm w (pgi h0.c a))(hw:wd v a=wd h0.w a):Qeu N (hpv w v) a=some (hdA h0.w a,0):=by have⟨e1,e2⟩:=XjD hN hb ep hc hh hv;have hat:=hs.obj.at_ a ha;have hpr:=hh.pr _ hpm;have hr:=hat.rng;have hp:=Xo hN hb ep;have h2:IF (hpv w v) a:=hat.same (h2:=hpv w v) hc.conf (by rw[hpr.1];exact hpm.2.1) hpr.2 hw;have hwl:=hp.words;have hb1:=hb.1;rw[Xcg hN e2 (by unfold tU;omega),Xs1 hN e2.hb e1 h2];unfold hdA;rw[show(hpv w v).w=v from rfl,hw]
def Xew(hN:NB N)(hb:HB h0)(ep:Qaa N h0=some true)(hs:ID N h0 L){w:Wu}(hc:CI h0 L w)(hh:OE h0 L w){i:Int}(hpm:Prm w i){m:List Int}(hm:m.Sublist L)(hmi:∀a∈m,pgi h0.c a=i):∀(n k:Nat) (x:List Int×Int),k<=m.length->m.length-k<n->VI h0 x.1->(∀a∈m.drop k,wd x.1 a=wd h0.w a) ->
 Qcw N w (m,0) i n (k:Int) w.h.c.W w.h.c.p x.1 w.h.p w.h.s w.h.b x.2=some (w.h.c.W,w.h.c.p,((m.drop k).foldl (λx a=>if YY (fnd h0 a)then Kk h0 w x a else x) x).1,w.h.p,w.h.s,w.h.b,((m.drop k).foldl (λx a=>if YY (fnd h0 a)then Kk h0 w x a else x) x).2)
 |0,k,x,_,hn,_,_=>by omega
 |n+1,k,x,hk,hn,hv,hw=>by
  have hN':=hN;unfold NB at hN';have hb1:=hb.1;have hql:=hc.ql hb;have hol:=hm.length_le;have hsl:=hs.len;have hp:=Xo hN hb ep;rw[Qcw];by_cases h:k<m.length;rotate_left
  .grind
  have hdr:=Wl h;have haL:m[k]∈L:=hm.subset (Wt h);have hai:=hmi _ (Wt h);have hpw:=(hs.obj.pw.sublist hm).drop (i:=k);rw[hdr]at hw hpw⊢;rw[U8]at hpw;rw[Xi h,Wc,Xf,Wb h,Xa,Xg ab,IA];generalize m[k]=a at haL hw hpw hai⊢;have hat:=hs.obj.at_ a haL;have hr:=hat.rng;have hfit:=Ky hp hat;have hlt:∀b∈m.drop (k+1),b∈L/\b≠a:=λb hb=>⟨hm.subset (WR hb),λe=>by have:=hpw.1 b hb;have:=(Xy h0.w a).2.1;omega⟩
  have ewd:=hw a ac;have eat:=XoT hN hb ep hs hc hh hv haL (by simp_all) ewd;unfold hpv at eat;rw[show(⟨w.h.c.W,w.h.c.p⟩:WP)=w.h.c from rfl,eat,Xa];have nxt:=Xew hN hb ep hs hc hh hpm hm hmi n (k+1) x ab ab hv λb hb=>hw b (by grind);have must0:Qam N 0=some ():=by rw[Qam];rfl
  rw[must0,Xa];by_cases hk0:(hdA h0.w a).k=0
  .have hl:YY (fnd h0 a)=false:=by unfold YY fnd;rw[Xp hk0];rfl
   simp_all
  have hl:YY (fnd h0 a)=true:=by unfold YY fnd;rw[Xj hk0];rfl
  rw[Xj hk0,Wa,hl,Wm rfl,V9 _ _ ab ab,Xa];cases hqv:w.q.contains a with
  |true=>rw[Wc,show Kk h0 w x a=x from Wj λh=>h.2 (X5 hqv)];omega
  |false=>have hq:=YE hqv;have hf:=XjB h0 a;have hvl:=hv.len;have hsz:=Xy h0.w a;have⟨e1,e2⟩:=XjD hN hb ep hc hh hv;have ei:=XoS hN e2.hb e1 (d:=XbQ h0 a) (a:=a) ab hr.1 (by show _<=4096+(x.1.length:Int);omega);rw[Wa,ZG ab,Xa,hsz.1,Qhw,We (show¬szA h0.w a<1 by omega),Wa,We (show¬szA h0.w a>256 by omega),Wa,Xe (n:=szA h0.w a-1) ab ab,show szA h0.w a-1=XbQ h0 a by omega];have eg:=Xoi hN e2.hb (a:=a) ab (d:=⟨0,XbQ h0 a,0⟩) ac;rw[ei]at eg;unfold hpv at eg;rw[eg,Xa,Xa];rw[must0,Xa];have⟨q1,q2⟩:=Xbi (w:=w) hp hs hv haL;have ef:Kk h0 w x a=(fwr h0 x.1 a,wI (x.2+1)):=Wm ⟨by simp_all,hq⟩;rw[ef]at q1 q2⊢;exact Xew hN hb ep hs hc hh hpm hm hmi n (k+1) _ ab ab q1 λb hb=>(q2 b (hlt b hb).1 (hlt b hb).2).trans (hw b (by grind))
def fF(h0:Wh)(w:Wu)(x:List Int×Int)(a:Int):List Int×Int:=if YY (fnd h0 a)then Kk h0 w x a else x
def XkT{h:Wh}{a:Int}:∀(m k:Nat),a∈lps N h k m->∃i,k<=i/\i<k+m/\a∈lpg N h i
 |0,k,ha=>by cases ha
 |m+1,k,ha=>by
  rcases Wr.1 ha with ha|ha
  .grind
  have⟨i,h1,h2,h3⟩:=XkT m (k+1) ha;grind
def XkU{h:Wh}:∀(m k j:Nat),j<=m->(lps N h (k+j) (m-j)).Sublist (lps N h k m)
 |m,k,0,_=>List.Sublist.refl _
 |0,k,j+1,h=>by omega
 |m+1,k,j+1,hj=>by have:(lps N h (k+1+j) (m-j)).Sublist (lps N h (k+1) m):=XkU m (k+1) j ab;rw[show k+1+j=k+(j+1) by omega,show m-j=m+1-(j+1) by omega]at this;simp_all[lps]
def XkV{w:Wu}:∀(m:List Int) (x:List Int×Int),(∀a∈m,¬Prm w (pgi h0.c a))->m.foldl (fF h0 w) x=x
 |[],x,_=>rfl
 |a::m,x,h=>by rw[IA,show fF h0 w x a=x by unfold fF Kk;simp_all];exact XkV m x λb hb=>h b (by grind)
def Xex(hN:NB N)(hb:HB h0)(hB:Sd N h0 L){w:Wu}(hc:CI h0 L w)(hh:OE h0 L w):∀(n k:Nat) (x:List Int×Int),k<=h0.p.length->h0.p.length-k<n->VI h0 x.1->(∀a∈lps N h0 k (h0.p.length-k),Prm w (pgi h0.c a)->wd x.1 a=wd h0.w a) ->
 Qdh N w n (k:Int) w.h.c.W w.h.c.p x.1 w.h.p w.h.s w.h.b x.2=some (w.h.c.W,w.h.c.p,((lps N h0 k (h0.p.length-k)).foldl (fF h0 w) x).1,w.h.p,w.h.s,w.h.b,((lps N h0 k (h0.p.length-k)).foldl (fF h0 w) x).2)
 |0,k,x,_,hn,_,_=>by omega
 |n+1,k,x,hk,hn,hv,hw=>by
  have hN':=hN;unfold NB at hN';have hpl:=hc.plen;have hb2:=hb.2;have htl:=hc.tl hb;have ep:=hB.ep;have hp:=Xo hN hb ep;have hs:=hB.st.st;have hsp:=hp.space;have hspc:=hc.spc;have hspn:=hh.spn hN hb ep;rw[Qdh,hpl];by_cases h:k<h0.p.length;rotate_left
  .obtain rfl:k=h0.p.length:=ab;simp[Xw,Wa,U6,lps]
  rw[Xi h,Wc,Xg ab];have⟨b,hbp,_,eb⟩:=Xgv (N:=N) (w:=⟨⟨w.h.c,x.1,w.h.p,w.h.s,w.h.b⟩,w.o,w.t,w.q,w.d,⟨w.r.j,w.r.K,x.2,w.r.E,w.r.f,w.r.y⟩⟩) (i:=(k:Int)) hN htl (by simp_all) (by simp_all) hspn.sp;have hbp:b=true↔Prm w (k:Int):=hbp;have ep2:Qec N ⟨⟨w.h.c,x.1,w.h.p,w.h.s,w.h.b⟩,w.o,w.t,w.q,w.d,⟨w.r.j,w.r.K,x.2,w.r.E,w.r.f,w.r.y⟩⟩ (k:Int)=some b:=by rw[←eb,Qec,QcX];simp only[Xv,Xb (p:=w.h.p.length<=140737488355328) ab]
  rw[show(⟨w.h.c.W,w.h.c.p⟩:WP)=w.h.c from rfl,ep2,Xa];have esub:h0.p.length-k=(h0.p.length-(k+1))+1:=ab;have⟨g1,g2⟩:=hB.pg k h;have hmi:∀a∈lpg N h0 k,pgi h0.c a=(k:Int):=λa ha=>(g2.2.1 a ha).2;have hLk:(lps N h0 k (h0.p.length-k)).Sublist L:=by have:=XkU (N:=N) (h:=h0) h0.p.length 0 k hk;rw[UE]at this;rw[hB.eL];exact this
  rw[esub,lps]at hw hLk⊢;rw[List.foldl_append];have hm:(lpg N h0 k).Sublist L:=(List.sublist_append_left _ _).trans hLk;cases hbv:b with
  |false=>rw[Ub,Wc,XkV (lpg N h0 k) x λa ha=>by simp_all];exact Xex hN hb hB hc hh n (k+1) x ab ab hv λa ha=>hw a (Ui _ ha)
  |true=>
   have hpm:=hbp.1 hbv;have⟨e1,e2⟩:=XjD hN hb ep hc hh hv;have hpr:=hh.pr _ hpm;have hwk:∀a∈lpg N h0 k,wd x.1 a=wd h0.w a:=λa ha=>hw a (WU _ ha) (by simp_all);have epg:Qe1 N (hpv w x.1) (k:Int)=some (lpg N h0 k,0):=by rw[Xd7 hN e2];refine Qoq (h:=h0) (h2:=hpv w x.1) hc.conf hpl ep e1 ab ab (by rw[hpr.1];exact hpm.2.1) hpr.2 g1 λa ha=>?_;have haL:=hm.subset ha;have:=XoT hN hb ep hs hc hh hv haL (by simp_all) (hwk a ha);have hr:=(hs.obj.at_ a haL).rng;have hv2:=Xh.1 hp.conf;have hwl:=hp.words;have hb1:=hb.1;rw[Xcg hN e2 (by unfold tU;omega)]at this;rw[this,hs.obj.ev a haL]
   unfold hpv at epg;have must0:Qam N 0=some ():=by rw[Qam];rfl
   have gl:=Xew hN hb ep hs hc hh hpm hm hmi N 0 x ab (by have:=hm.length_le;have:=hs.len;omega) hv λa ha=>hwk a ha;rw[show((0:Nat):Int)=0 from rfl,WX]at gl;rw[Wi,Wa,epg,Xa];rw[must0,Xa,gl,Xa];have⟨q1,q2⟩:=XaQ (w:=w) hp hs (λa=>YY (fnd h0 a)) (lpg N h0 k) x (λa ha=>hm.subset ha) hv;refine Xex hN hb hB hc hh n (k+1) _ ab ab q1 λa ha hpa=>?_;have haL:=hLk.subset (Ui _ ha);rw[q2 a haL λhc=>?_]
   .simp_all
   have⟨i,i1,i2,i3⟩:=XkT _ _ ha;have:=(g2.2.1 a hc).2;have:=((hB.pg i ab).2.2.1 a i3).2;omega
def Xrd(hN:NB N)(hb:HB h0)(hB:Sd N h0 L){w:Wu}(hc:CI h0 L w)(hh:OE h0 L w):∃v c,VI h0 v/\QeE N w=some ⟨⟨w.h.c,v,w.h.p,w.h.s,w.h.b⟩,w.o,w.t,w.q,w.d,⟨w.r.j,w.r.K,c,w.r.E,w.r.f,w.r.y⟩⟩ /\
 Qeh N w=some ⟨⟨w.h.c,v,w.h.p,w.h.s,w.h.b⟩,w.o,w.t,w.q,w.d,⟨w.r.j,w.r.K,c,w.r.E,w.r.f,w.r.y⟩⟩:=by
 have hN':=hN;unfold NB at hN';have ep:=hB.ep;have hp:=Xo hN hb ep;have hs:=hB.st.st;have hb2:=hb.2;have hspn:=hh.spn hN hb ep;have hv:VI h0 w.h.w:=⟨hc.wlen,hh.ws⟩
 have hol:=hc.old.length_le;have hsl:=hs.len;have g:=Xex hN hb hB hc hh N 0 (w.h.w,w.r.F) ab ab hv λa ha hpa=>hh.hw a (by rw[hB.eL];exact ha) hpa;have r:=XgK hN hb hp hs hc hh hspn N 0 (w.h.w,w.r.F) ab ab hv λa ha hpa=>hh.hw a (hc.old.subset ha) hpa;have e:(w.o.drop 0).foldl (Kk h0 w) (w.h.w,w.r.F)=(lps N h0 0 (h0.p.length-0)).foldl (fF h0 w) (w.h.w,w.r.F):=by rw[WX,Nat.sub_zero,←hB.eL,hh.ol,Ye,List.foldl_filter];rfl
 rw[e]at r;rw[show((0:Nat):Int)=0 from rfl]at g r;have k:=XaQ (w:=w) hp hs (λa=>YY (fnd h0 a)) (lps N h0 0 (h0.p.length-0)) (w.h.w,w.r.F) (λa ha=>by rw[hB.eL];exact ha) hv;refine⟨((lps N h0 0 (h0.p.length-0)).foldl (fF h0 w) (w.h.w,w.r.F)).1,((lps N h0 0 (h0.p.length-0)).foldl (fF h0 w) (w.h.w,w.r.F)).2,k.1,?_,?_⟩
 .rw[QeE,g,Xa]
 simp[Qeh,r,Xa]
end
section
variable {N:Nat}{h0:Wh}{L:List Int}
def Xre(hN:NB N)(hb:HB h0)(hp:Uv h0)(hs:ID N h0 L){w:Wu}(hc:CI h0 L w)(hws:∀x∈w.h.w,tU x){a:Int}(ha:a∈L):∃m,QfO N w a=some m/\QcC N w a=some m:=by
 have hN':=hN;unfold NB at hN';have hql:=hc.ql hb;have hat:=hs.obj.at_ a ha;have⟨o1,o2⟩:=XkD (N:=N) hp.conf hat.rng;have hw:=hp.words;have hwl:=hc.wlen;have hr:=hat.rng;have must0:Qam N 0=some ():=by rw[Qam];rfl
 rw[QfO,QcC,V9 _ _ ab ab,XY a ab ab,Xa,Xa];cases w.q.contains a with
 |true=>simp
 |false=>
  rw[Wa,Wa,hc.conf,o1,Xa];have e:Xd w.h.w (a-4096)=some (wd w.h.w a):=by rw[X1 ab ab];unfold wd ix;rw[Wk,Wb ab];rfl
  rw[must0,Xa,o2,e,Xa,Xed ab (XcE hws a),Yg (hc.wl hb),Xa,Wm (by unfold inW;omega),show w.h.w.getD (ix a) 0=wd w.h.w a from rfl,Kr,Xa];simp
def Xip(hN:NB N)(hb:HB h0)(hp:L≠[]->Uv h0)(hs:ID N h0 L){w:Wu}(hc:CI h0 L w)(hws:∀x∈w.h.w,tU x){ws:List Int}(hl:ws.length<=1000000)(hm:∀x∈ws,x=0\/x∈L)(y5:Wu×List Int×Int):∀(n k:Nat) (c:Int) (out:List Int),k<=ws.length->ws.length-k<n->out.length=k ->
 ∃o c',o.length=ws.length/\Qcx N w ws n (k:Int) c out=some (o,c')/\QaL N ws y5 (w,0) n (k:Int) c out=some (c',o)
 |0,k,c,out,_,hn,_=>by omega
 |n+1,k,c,out,hk,hn,ho=>by
  rw[Qcx,QaL];by_cases h:k<ws.length;rotate_left
  .grind
  rw[Xi h,Wc,Wc,Xf,Wb h,Xa,Xa,Xg ab,Xv,Xv];have nx:=λc' x=>Xip hN hb hp hs hc hws hl hm y5 n (k+1) c' (out++[x]) ab ab (by simp_all);have hmk:=hm _ (Wt h);generalize ws[k]=a at hmk⊢;by_cases h0a:a=0
  .dsimp only;rw[Xb ab,Xb ab];simp_all
  rw[Xk h0a,Wc,Wc,Xa];have haL:a∈L:=by rcases hmk with h|h;exact absurd h h0a;exact h
  have⟨m,e1,e2⟩:=Xre hN hb (hp (I8 haL)) hs (w:=⟨w.h,w.o,w.t,w.q,w.d,⟨w.r.j,w.r.K,w.r.F,w.r.E,c,w.r.y⟩⟩) (by
   have⟨O,s,ho⟩:=hc.obj
   exact⟨hc.conf,hc.wlen,hc.plen,hc.spc,hc.old,hc.tk,hc.tnd,hc.knd,hc.qnd,⟨O,s,⟨ho.old,ho.queue,ho.fit,ho.apart,ho.taken,ho.free⟩⟩⟩) hws haL
  rw[e1,e2,Xa,Xa,Xv,Xv];cases m==0 with
  |true=>rw[Wc,Wc];dsimp only;rw[Xb ab,Xb ab];simp_all
  |false=>rw[Wa,Wa];dsimp only;rw[Xb ab,Xb ab];simp_all
def Xfz(p1:Wp)(hp1:p1.k=2):∀(n k:Nat) (qs:List Wp),k<=qs.length->qs.length-k<n->qs.length<=100000->∃r,QeF N p1 n (k:Int) qs=some r/\r.length=qs.length/\∀j:Nat,((k<=j/\j<qs.length/\∀x:Nat,k<=x->x<=j->(pg qs x).k=3)/\pg r j=Y3)\/(¬(k<=j/\j<qs.length/\∀x:Nat,k<=x->x<=j->(pg qs x).k=3)/\pg r j=pg qs j)
 |0,k,qs,_,hn,_=>by omega
 |n+1,k,qs,hk,hn,hl=>by
  rw[QeF,Xp hp1,Wc,Xb ab];by_cases h:k<qs.length;rotate_left
  .grind
  rw[Xi h,Wc,Xn (ps:=qs) (i:=(k:Int)) ab ab,Xa];by_cases h3:(pg qs k).k=3;rotate_left
  .grind
  rw[Xp h3,Wc,Xa,Xg ab];have e2:=λx:Nat=>YW (ps:=qs) (i:=(k:Int)) (j:=(x:Int)) ⟨0,0,0,0⟩ ab ab ab;have eq:∀x:Nat,k+1<=x->pg (qs.set (k:Int).toNat ⟨0,0,0,0⟩) x=pg qs x:=λx hx=>by grind
  have⟨r,r1,r2,r3⟩:=Xfz p1 hp1 n (k+1) (qs.set (k:Int).toNat ⟨0,0,0,0⟩) (by grind) (by grind) (by simp_all);rw[WL]at r2 r3;refine⟨r,r1,r2,λj=>?_⟩;by_cases hjk:j=k
  .subst hjk;refine .inl ⟨⟨Uh _,h,λx a b=>by grind⟩,?_⟩;rcases r3 j with g|g
   .omega
   rw[g.2,e2 j,Wm rfl];rfl
  rcases r3 j with⟨⟨a1,a2,a3⟩,b⟩|⟨a,b⟩
  .refine .inl ⟨⟨ab,a2,λx hx hxj=>?_⟩,b⟩;by_cases hxk:x=k
   .rw[hxk];exact h3
   rw[←eq x ab];exact a3 x ab hxj
  grind
def XkW{w:Wu}(v4:List Wp)(p5:Wp)(i c:Int)(hp:Uv h0)(hc:w.h.c=h0.c)(g0:0<=i)(g1:i<h0.c.p):∀(n k:Nat) (v:List Int),(k:Int)<=h0.c.W->65-k<n->v.length=h0.w.length ->
 ∃r,Qbf N w v4 p5 i c n (k:Int) v=some r/\r.length=v.length/\∀j,r.getD j 0=if(i*h0.c.W).toNat+k<=j/\j<((i+1)*h0.c.W).toNat then 0 else v.getD j 0
 |0,k,v,_,hn,_=>by omega
 |n+1,k,v,k0,hn,hv=>by
  have hvc:=Xh.1 hp.conf;have hm:=XE hp.conf g0 g1;have hw:=hp.words;have e1:(i+1)*h0.c.W=i*h0.c.W+h0.c.W:=by rw[U0,Oi]
  rw[Qbf,hc];by_cases h1:(k:Int)<h0.c.W;rotate_left
  .rw[We h1,Wa];exact⟨v,rfl,rfl,λj=>by rw[Wj ab]⟩
  rw[Wg h1,Wc,Xg ab,Xe (n:=i*h0.c.W) ab ab,Xe (n:=i*h0.c.W+k) ab ab,X1 ab ab,Xa];have⟨r,r1,r2,r3⟩:=XkW v4 p5 i c hp hc g0 g1 n (k+1) (v.set (i*h0.c.W+k).toNat 0) ab ab (by rw[WL];exact hv);grind
def frZ(ps:List Wp)(sp:Int)(j:Nat):Prop:=(pg ps j).k≠0/\(pg ps j).s=sp
def frC(ps:List Wp)(sp:Int)(k j:Nat):Prop:=∃i:Nat,i<k/\i<j/\j<ps.length/\(pg ps i).k=2/\(pg ps i).s=sp/\∀x:Nat,i<x->x<=j->(pg ps x).k=3
def Xs4{c:WP}{ps:List Wp}(hs:OO c ps){sp:Int}{k j:Nat}(h:frC ps sp k j):frZ ps sp j:=by
 have⟨i,h1,h2,h3,h4,h5,h6⟩:=h;have h3j:=h6 j h2 (Uh j);have⟨k',t0,t1,t2,t3,t4⟩:=hs.tl j ab ab h3j;obtain⟨m,rfl⟩:∃m:Nat,k'=m:=⟨k'.toNat,ab⟩
 have tl:=(t2.k2 t3).2.2;have e:m=i:=by
  rcases Nat.lt_trichotomy m i with h|h|h
  .have:=(tl ((i:Int)-m) ab ab).1;grind
  .omega
  grind
 subst e;have:=(tl ((j:Int)-m) ab ab).2.1;rw[show(m:Int)+((j:Int)-m)=j by omega]at this;exact⟨ab,this.trans h5⟩
def XoU{a b:List Int}(hl:a.length=b.length)(h:∀j,a.getD j 0=b.getD j 0):a=b:=by refine IG hl λi h1 h2=>?_;have:=h i;simp_all
def XgL(hN:NB N)(hb:HB h0)(hp:Uv h0){w:Wu}(hc:w.h.c=h0.c)(hpl:w.h.p.length=h0.p.length)(hs:OO h0.c w.h.p):∀(n k:Nat) (c:Int) (v:List Int) (q g:List Wp),k<=h0.p.length->h0.p.length-k<n->v.length=h0.w.length->q.length=h0.p.length->g.length=h0.p.length ->
 (∀j:Nat,(j<k/\frZ w.h.p w.h.s j->pg q j=Y3)/\(¬(j<k/\frZ w.h.p w.h.s j)->pg q j=pg w.h.p j)) ->
 (∀j:Nat,((j<k/\frZ w.h.p w.h.s j)\/frC w.h.p w.h.s k j->pg g j=Y3)/\(¬((j<k/\frZ w.h.p w.h.s j)\/frC w.h.p w.h.s k j)->pg g j=pg w.h.p j)) ->
 ∃c' v' r,v'.length=h0.w.length/\r.length=h0.p.length/\QaO N w n (k:Int) c v q=some (c',v',r)/\QbJ N w n (k:Int) g c v=some (v',r,c')
 |0,k,c,v,q,g,_,hn,_,_,_,_,_=>by omega
 |n+1,k,c,v,q,g,hk,hn,hv,hq,hg,hqj,hgj=>by
  have hN':=hN;unfold NB at hN';have hb2:=hb.2;have hpp:=hp.pages;have hw:=hp.words;have must0:Qam N 0=some ():=by rw[Qam];rfl
  rw[QaO,QbJ,Xb ab,hq,hpl];by_cases h:k<h0.p.length;rotate_left
  .obtain rfl:k=h0.p.length:=ab;rw[Xw,Wa,Wa];have e:g=q:=by
    refine XsK ab λj hj=>?_;obtain⟨m,rfl⟩:∃m:Nat,j=m:=⟨j.toNat,ab⟩
    by_cases hm:m<h0.p.length/\frZ w.h.p w.h.s m
    .simp_all
    rw[(hqj m).2 hm];refine(hgj m).2 λh=>?_;rcases h with h|h
    .simp_all
    have hf:=Xs4 hs h;have⟨_,_,_,h3,_⟩:=h;grind
   subst e;exact⟨c,v,g,hv,hg,rfl,rfl⟩
  have hqk:pg q k=pg w.h.p k:=(hqj k).2 λh=>by omega
  rw[Xi h,Wc,Wc,Xn (ps:=q) (i:=(k:Int)) ab ab,Xn (ps:=w.h.p) (i:=(k:Int)) ab ab,Xa,Xa,Xa,hqk,Xg ab];have skip:¬frZ w.h.p w.h.s k->∃c' v' r,v'.length=h0.w.length/\r.length=h0.p.length/\QaO N w n ((k+1:Nat):Int) c v q=some (c',v',r)/\QbJ N w n ((k+1:Nat):Int) g c v=some (v',r,c'):=λhf=>by
   have lt:∀j:Nat,j<k+1/\frZ w.h.p w.h.s j↔j<k/\frZ w.h.p w.h.s j:=λj=>⟨λh=>⟨by rcases Ux j k with a|a;exact a;exact absurd (show j=k by omega▸h.2) (λ_=>hf (by rw[show k=j by omega];exact h.2)),h.2⟩,λh=>⟨ab,h.2⟩⟩
   have fr:∀j:Nat,frC w.h.p w.h.s (k+1) j↔frC w.h.p w.h.s k j:=λj=>⟨λ⟨i,a,b,d,e,f,g⟩=>⟨i,by
    rcases Ux i k with x|x
    .exact x
    .exfalso;rw[show i=k by omega]at e f;exact hf ⟨ab,f⟩,b,d,e,f,g⟩,λ⟨i,a,b,d,e,f,g⟩=>⟨i,ab,b,d,e,f,g⟩⟩
   refine XgL hN hb hp hc hpl hs n (k+1) c v q g ab ab hv hq hg (λj=>?_) λj=>?_
   .rw[lt j];exact hqj j
   grind
  by_cases h1:(pg w.h.p k).k=0
  .rw[Xp h1,Wc,Wc];exact skip λh=>h.1 h1
  rw[Xj h1,Wa,Wa];by_cases h2:(pg w.h.p k).s=w.h.s;rotate_left
  .rw[Xk h2,Wc,Wc];exact skip λh=>h2 h.2
  have hfz:frZ w.h.p w.h.s k:=⟨h1,h2⟩
  rw[show((pg w.h.p k).s != w.h.s)=false by simp_all,Wa,Wa];have hm:=XE hp.conf (i:=(k:Int)) ab ab;have hvc:=Xh.1 hp.conf;have e1:((k:Int)+1)*h0.c.W=k*h0.c.W+h0.c.W:=by rw[U0,Oi]
  have e2:(((k+1:Nat):Int))*h0.c.W=(k:Int)*h0.c.W+h0.c.W:=by rw[←e1];congr 1
  obtain⟨u,u1,u2,u3⟩:=XkW (N:=N) (w:=w) q (pg w.h.p k) (k:Int) c hp hc ab ab N 0 v ab ab hv;rw[show((0:Nat):Int)=0 from rfl]at u1;rw[hc,e2,Xe (n:=(k:Int)*h0.c.W) ab ab,Xe (n:=(k:Int)*h0.c.W+h0.c.W) ab ab,Xb ab,u1,Xa];have eu:((v.take ((k:Int)*h0.c.W).toNat)++(List.replicate (((k:Int)*h0.c.W+h0.c.W).toNat-((k:Int)*h0.c.W).toNat) (0:Int)))++(v.drop (((k:Int)*h0.c.W).toNat+(((k:Int)*h0.c.W+h0.c.W).toNat-((k:Int)*h0.c.W).toNat)))=u:=by
   refine XoU ?_ λj=>?_
   .grind
   rw[XkB ab ab,u3 j,e1,IT]
  rw[eu];have hul:u.length=h0.w.length:=u2.trans hv;have p2:=λx:Nat=>YW (ps:=q) (i:=(k:Int)) (j:=(x:Int)) ⟨0,0,0,0⟩ ab ab ab;have hq':∀j:Nat,(j<k+1/\frZ w.h.p w.h.s j->pg (q.set (k:Int).toNat ⟨0,0,0,0⟩) j=Y3)/\(¬(j<k+1/\frZ w.h.p w.h.s j)->pg (q.set (k:Int).toNat ⟨0,0,0,0⟩) j=pg w.h.p j):=λj=>by
   rw[p2 j];by_cases hjk:j=k
   .subst hjk;rw[Wm rfl];exact⟨λ_=>rfl,λh=>absurd ⟨ab,hfz⟩ h⟩
   grind
  have fin:=λg' hg' hgj'=>XgL hN hb hp hc hpl hs n (k+1) (wI (c+1)) u (q.set (k:Int).toNat ⟨0,0,0,0⟩) g' ab ab hul (by simp_all) hg' hq' hgj';have frm:∀j,frC w.h.p w.h.s k j->frC w.h.p w.h.s (k+1) j:=λj ⟨i,a,b,d,e,f,g⟩=>⟨i,ab,b,d,e,f,g⟩
  have frk:∀j,frC w.h.p w.h.s (k+1) j->(pg w.h.p k).k≠2->frC w.h.p w.h.s k j:=λj ⟨i,a,b,d,e,f,g⟩ h2=>⟨i,by
   grind,b,d,e,f,g⟩
  by_cases h3:(pg w.h.p k).k=3
  .rw[show((pg w.h.p k).k != 3)=false by rw[h3];rfl,Wa];refine fin g hg λj=>?_;refine⟨λh=>?_,λh=>(hgj j).2 λa=>h (by rcases a with a|a;exact .inl ⟨ab,a.2⟩;exact .inr (frm j a))⟩;rcases h with⟨a,b⟩|a
   .by_cases hjk:j=k
    .subst hjk;have⟨k',t0,t1,t2,t3,t4⟩:=hs.tl j ab ab h3;obtain⟨m,rfl⟩:∃m:Nat,k'=m:=⟨k'.toNat,ab⟩
     have tl:=(t2.k2 t3).2.2;have tx:∀x:Nat,m<x->x<=j->(pg w.h.p x).k=3/\(pg w.h.p x).s=(pg w.h.p m).s:=λx a b=>by have:=tl ((x:Int)-m) ab ab;rw[show(m:Int)+((x:Int)-m)=x by omega]at this;exact⟨this.1,this.2.1⟩
     exact(hgj j).1 (.inr ⟨m,ab,ab,ab,t3,by rw[←(tx j ab (Uh _)).2];exact h2,λx a b=>(tx x a b).1⟩)
    exact(hgj j).1 (.inl ⟨ab,b⟩)
   simp_all
  rw[Xk h3,Wc];have hgk:pg g k=pg w.h.p k:=(hgj k).2 λh=>by
   rcases h with h|⟨i,a,b,d,e,f,x⟩
   .omega
   simp_all
  have g2:=λx:Nat=>YW (ps:=g) (i:=(k:Int)) (j:=(x:Int)) ⟨0,0,0,0⟩ ab ab ab;have hkd:=(hs.hd k ab ab h3).kd;rw[Qhx,We (show¬(k:Int)<0 by omega),Wa,We (show¬(k:Int)>=(g.length:Int) by omega),Wa,Xn (ps:=g) (i:=(k:Int)) ab ab,Xa,Xv,hgk];have ej:∀x y:Option (List Wp×Int),(bif (pg w.h.p k).k != 1 then(bif (pg w.h.p k).k != 2 then x else y)else y)=y:=λx y=>by grind
  rw[ej];simp only[Qad,Xa];rw[Xn (ps:=g) (i:=(k:Int)) ab ab,Xa,Xg ab];rcases hkd with e|e|e
  .omega
  .obtain⟨n',rfl⟩:∃m,N=m+1:=⟨N-1,ab⟩
   rw[QeF,Xj ab,Wa,Xa,Xa];rw[must0,Xa];refine fin _ (by rw[WL];exact hg) λj=>?_;rw[g2 j];grind
  have⟨r,r1,r2,r3⟩:=Xfz (N:=N) (pg w.h.p k) e N (k+1) (g.set (k:Int).toNat ⟨0,0,0,0⟩) (by grind) (by grind) (by simp_all);rw[WL]at r2 r3;rw[r1,Xa,Xa];rw[must0,Xa];have gx:∀x j:Nat,k<x->x<=j->j<h0.p.length->(∀y:Nat,k<y->y<=j->(pg w.h.p y).k=3)->pg g x=pg w.h.p x:=λx j a b d f=>(hgj x).2 λh=>by
   rcases h with h|⟨i,i1,i2,i3,i4,i5,i6⟩
   .omega
   grind
  have gy:∀x:Nat,(pg g x).k=3->pg g x=pg w.h.p x:=λx hx=>(hgj x).2 λh=>by grind
  refine fin r ab λj=>?_;have run:(k+1<=j/\j<g.length/\∀x:Nat,k+1<=x->x<=j->(pg (g.set (k:Int).toNat ⟨0,0,0,0⟩) x).k=3)↔(k<j/\j<h0.p.length/\∀x:Nat,k<x->x<=j->(pg w.h.p x).k=3):=by
   rw[hg];refine⟨λ⟨a,b,d⟩=>⟨a,b,λx hx hxj=>?_⟩,λ⟨a,b,d⟩=>⟨a,b,λx hx hxj=>?_⟩⟩
   .have:=d x hx hxj;rw[g2 x,Wj ab]at this;grind
   rw[g2 x,Wj ab,gx x j hx hxj b d];grind
  have ht:=r3 j;rw[run,g2 j]at ht;rcases ht with⟨a,b⟩|⟨a,b⟩
  .have:frC w.h.p w.h.s (k+1) j:=⟨k,ab,a.1,ab,e,h2,a.2.2⟩
   grind
  rw[b];by_cases hjk:j=k
  .grind
  rw[Wj ab];refine⟨λh=>(hgj j).1 ?_,λh=>(hgj j).2 λq=>h ?_⟩
  .rcases h with h|⟨i,i1,i2,i3,i4,i5,i6⟩
   .exact .inl ⟨ab,h.2⟩
   refine .inr ⟨i,?_,i2,i3,i4,i5,i6⟩;rcases Ux i k with x|x
   .exact x
   exfalso;obtain rfl:i=k:=ab;exact a ⟨i2,ab,i6⟩
  grind
def Xrf(hN:NB N)(hb:HB h0)(hp:Uv h0){w:Wu}(hc:w.h.c=h0.c)(hpl:w.h.p.length=h0.p.length)(hw:w.h.w.length=h0.w.length)(hs:OO h0.c w.h.p):∃c v r,v.length=h0.w.length/\r.length=h0.p.length/\Qeg N w=some ⟨⟨w.h.c,v,r,w.h.s,w.h.b⟩,w.o,w.t,w.q,w.d,⟨w.r.j,w.r.K,w.r.F,c,w.r.f,w.r.y⟩⟩/\QeG N w=some ⟨⟨w.h.c,v,r,w.h.s,w.h.b⟩,w.o,w.t,w.q,w.d,⟨w.r.j,w.r.K,w.r.F,c,w.r.f,w.r.y⟩⟩:=by
 have hN':=hN;unfold NB at hN';have hb1:=hb.1;have hb2:=hb.2;obtain⟨c,v,r,a1,a2,a3,a4⟩:=XgL hN hb hp hc hpl hs N 0 w.r.E w.h.w w.h.p w.h.p ab ab hw hpl hpl (λj=>⟨λh=>ab,λ_=>rfl⟩) (λj=>⟨λh=>by rcases h with h|⟨i,h,_⟩<;>omega,λ_=>rfl⟩);rw[show((0:Nat):Int)=0 from rfl]at a3 a4;refine⟨c,v,r,a1,a2,?_,?_⟩
 .rw[Qeg,Xb ab,Xb ab,a3,Xa]
 simp[QeG,Qac,Xa,a4]
end
section
variable {N:Nat}{h0:Wh}{L:List Int}
def CI.rep{w:Wu}(hc:CI h0 L w)(rp:WS):CI h0 L {w with r:=rp}:=by have⟨O,s,ho⟩:=hc.obj;exact⟨hc.conf,hc.wlen,hc.plen,hc.spc,hc.old,hc.tk,hc.tnd,hc.knd,hc.qnd,⟨O,s,⟨ho.old,ho.queue,ho.fit,ho.apart,ho.taken,ho.free⟩⟩⟩
def OE.rep{w:Wu}(h:OE h0 L w)(rp:WS):OE h0 L {w with r:=rp}:=⟨h.q,h.old,h.fw,h.ws,h.ss,h.k1,h.pr,h.hw,h.bm,h.ol⟩
def RefB(h0:Wh)(L l:List Int):Prop:=(l.all λx=>x==0||(Ye h0 L).contains x)=true
def RefB.mem{l:List Int}(h:RefB h0 L l):∀x∈l,x=0\/x∈L:=λx hx=>by
 have:=WV.1 h x hx;simp only[Ip,beq_iff_eq]at this;rcases this with h|h
 .omega
 exact .inr (List.filter_sublist.subset (X5 h))
def XjE(hN:NB N)(ht:HT h0)(hB:Sd N h0 L){rs ws:List Int}(hrw:rs.length+ws.length<=1000000)(tr:∀x∈rs,tU x)(br:RefB h0 L rs)(bw:RefB h0 L ws):∃r,QdV N h0 rs ws=some r/\Qcj N h0 rs ws=some r/\(r.2.2.2.2=0->NZ rs r.2.1):=by
 have hN':=hN;unfold NB at hN';have hb:=ht.hb;have ep:=hB.ep;have hp:=Xo hN hb ep;have hs:=hB.st;have⟨w,g1,r1,hc,hh,hq,hsc⟩:=XoR hN ht hB;have e1:QbD N h0 rs=some true:=by rw[Zz hN ht ab hB.eg hB.ob];exact congrArg some br
 have e2:QbD N h0 ws=some true:=by rw[Zz hN ht ab hB.eg hB.ob];exact congrArg some bw
 have e3:QdS N h0 (rs++ws)=some true:=by rw[Xfq hN ht (by rw[WK];omega),Zz hN ht (by rw[WK];omega) hB.eg hB.ob,List.all_append,show(rs.all λx=>x==0||(Ye h0 L).contains x)=true from br,show(ws.all λx=>x==0||(Ye h0 L).contains x)=true from bw];rfl
 rw[QdV,Qcj,g1,r1,ep,e1,e2,Xa,Xa,Xv,Xa,Xa,Wi,Wa,Wa,Wa,Xa];rw[show((0:Int)==0)=true from rfl,Wc,Xce _ ac (by unfold Xba;unfold Xba;unfold Xba;omega) ab,Xa,show [rs,ws].flatten=rs++ws by simp,e3,Xa,Wc];rcases XoP hN hs hc hh hq ab tr with⟨e,e0,a1,a2⟩|⟨w1,out,c1,h1,q1,k1,l1,z1,a1,a2⟩
 .rw[a1,a2,Xa,Xa,Xj e0,Xk e0,Wa,Wc];exact⟨_,rfl,rfl,λh=>absurd h e0⟩
 rw[a1,a2,Xa,Xa];have esc:w1.d=0:=by unfold KeepW at k1;rw[k1];exact hsc
 rcases XsZ hN hs c1 h1 q1 ab ab with⟨e,e0,a1,a2⟩|⟨w2,c2,h2,q2,a1,a2⟩
 .rw[a1,a2,Xa,Xa,Xj e0,Xk e0,Wa,Wc];exact⟨_,rfl,rfl,λh=>absurd h e0⟩
 rw[a1,a2,Xa,Xa];have⟨o,cl,ol,b1,b2⟩:=Xip hN hb (λ_=>hp) hs.st c2 h2.ws ab bw.mem (w1,out,0) N 0 w2.r.f [] ab ab rfl;rw[show((0:Nat):Int)=0 from rfl]at b1 b2;rw[QdE,b1,b2,Xa,Xa,Xa];have⟨v,cf,vi,f1,f2⟩:=Xrd hN hb hB (c2.rep ⟨w2.r.j,w2.r.K,w2.r.F,w2.r.E,cl,w2.r.y⟩) (h2.rep _);rw[f1,f2,Xa,Xa];have⟨cr,v',ps,y1,y2,y3,y4⟩:=Xrf (w:=⟨⟨w2.h.c,v,w2.h.p,w2.h.s,w2.h.b⟩,w2.o,w2.t,w2.q,w2.d,⟨w2.r.j,w2.r.K,cf,w2.r.E,cl,w2.r.y⟩⟩) hN hb hp c2.conf c2.plen vi.len (h2.spn hN hb ep);have htl:=c2.tl hb;rw[y3,y4,Xa,Xa];dsimp only;rw[Xb ab,Xv];by_cases hk:(w2.t.length:Int)>0
 .rw[Wg hk,Wc,Xe (n:=(w2.t.length:Int)-1) ab ab,X1 ab ab,Xa];exact⟨_,rfl,rfl,λ_=>z1⟩
 simp_all
end
section
variable {N:Nat}
def XkX{rs:List Int}{c:Nat}(h:c<rs.length):Xd (rs.drop c) 0=some rs[c]:=by rw[show(0:Int)=((0:Nat):Int)from rfl,Xf,UN,Wb ab];rfl
def Xey(t:WD)(hl:t.e.length<=1000000)(rs:List Int)(hr:rs.length<=1000000):∀(n k c:Nat) (v:List W6),k<=t.e.length->t.e.length-k<n->v.length=t.e.length->c+(Xr (v.drop k)).length=rs.length ->
 ∃r,Qd8 N t n (rs.drop c) (k:Int) v=some r/\Qbh N rs n (c:Int) (k:Int) v=some r
 |0,k,c,v,_,hn,_,_=>by omega
 |n+1,k,c,v,hk,hn,hv,hc=>by
  rw[Qd8,Qbh,Xb ab,hv];by_cases h:k<t.e.length;rotate_left
  .obtain rfl:k=t.e.length:=ab;simp
  have hd:=Wl (show k<v.length by omega);rw[hd]at hc;rw[Xi h,Wc,Wc,Xf,Wb ab,Xa,Xa,Xg ab];cases hL:v[k].V with
  |false=>exact Xey t hl rs hr n (k+1) c v ab ab hv (by rw[←hc];unfold Xr;grind)
  |true=>
   have h2:c+1+(Xr (v.drop (k+1))).length=rs.length:=by rw[←hc];unfold Xr;rw[Uq ab,UA,Ul];omega
   rw[Wc,Wc,XkX ab,Xa,Xf,Wb (show c<rs.length by omega),Xa,Xb (by grind),Xa,Xa,Ov,Xg ab];exact Xey t hl rs hr n (k+1) (c+1) _ ab ab (by simp_all) (by rw[show(k:Int).toNat=k from rfl,UV ab];omega)
def Xiq(hN:NB N){t:WD}(ht:TB t)(hv:Yh t.e=true){rs:List Int}(hr:(Xr t.e).length=rs.length):∃r,Qgs N t rs=some (r,0)/\Qb8 N t rs=some (r,0):=by
 have hN':1000000<N:=by unfold NB at hN;omega
 have h64:=Jq hv;have:=J8 t.e;have⟨r,e1,e2⟩:=Xey (N:=N) t ab rs ab N 0 0 t.e ab ab rfl (by simp_all);rw[WX,show((0:Nat):Int)=0 from rfl]at e1;rw[show((0:Nat):Int)=0 from rfl]at e2;refine⟨⟨r⟩,?_,?_⟩
 .rw[Qgs,V6 ht hN',hv,Xa,Wi,Wa,Jd ht hN',hv,Wc,Xa,hr];simp only[bne_self_eq_false,Wa,Qhh,QaN,Xa];rw[Xb ab,show(WD.mk t.e)=t from rfl,e1,Xa]
 rw[Qb8,YP ht hN',hv,Xa,Wi,Wa,XV ht hN',hv,Wc,Xa,Xb ab,hr];simp;rw[Xb ab,e2,Xa]
def Xez(a:Wq)(hl:a.S.length<=1000000)(rs:List Int)(hr:rs.length<=1000000)(hz:∀x∈rs,x≠0):∀(n k c:Nat) (v:List UH),k<=a.S.length->a.S.length-k<n->v.length=a.S.length->c+(XA (v.drop k)).length=rs.length ->
 ∃r,Qd7 N a n (rs.drop c) (k:Int) v=some r/\Qbg N a rs n (c:Int) (k:Int) v=some (.nxt r)
 |0,k,c,v,_,hn,_,_=>by omega
 |n+1,k,c,v,hk,hn,hv,hc=>by
  rw[Qd7,Qbg,Xb ab,hv];by_cases h:k<a.S.length;rotate_left
  .obtain rfl:k=a.S.length:=ab;simp
  have hd:=Wl (show k<v.length by omega);rw[hd]at hc;rw[Xi h,Wc,Wc,Xf,Wb ab,Xa,Xa,Xg ab];cases hL:v[k].V with
  |false=>exact Xez a hl rs hr hz n (k+1) c v ab ab hv (by rw[←hc];unfold XA;grind)
  |true=>
   have h2:c+1+(XA (v.drop (k+1))).length=rs.length:=by rw[←hc];unfold XA;rw[Uq ab,UA,Ul];omega
   have hcl:c<rs.length:=ab;rw[Wi,Wc,Wa,XkX hcl,Xa,Xf,Wb hcl,Xa,Xa,Xj (hz _ (Wt hcl)),Wa,Xa,Xa,Xb (by grind),Ov,Xg ab];exact Xez a hl rs hr hz n (k+1) (c+1) _ ab ab (by grind) (by rw[show(k:Int).toNat=k from rfl,UV ab];omega)
def XoV(hN:NB N){a:Wq}(ha:LBp a)(hv:Ym a=true){rs:List Int}(hr:(XA a.S).length=rs.length)(hz:∀x∈rs,x≠0):∃r,Qg1 N a rs=some (r,0)/\Qda N a rs=some (r,0):=by
 have hN':1000000<N:=by unfold NB at hN;omega
 have hsl:=(XW.1 hv).slots;have:=(XW.1 hv).iss;have:=XaA a.S;have⟨r,e1,e2⟩:=Xez (N:=N) a ab rs ab hz N 0 0 a.S ab ab rfl (by simp_all);rw[WX,show((0:Nat):Int)=0 from rfl]at e1;rw[show((0:Nat):Int)=0 from rfl]at e2;have hc:rs.contains 0=false:=by rw[Bool.eq_false_iff];intro h;exact hz 0 (X5 h) rfl
 refine⟨⟨r,a.x,a.i⟩,?_,?_⟩
 .rw[Qg1,XbG ha hN',hv,Xa,Wi,Wa,Xcd ha hN',hv,Wc,Xa,hr,V9 _ _ ab hN',hc];simp only[bne_self_eq_false,Wa,Qhg,QaX,QaM,QaQ,Xa];rw[Xb ab,show(Wq.mk a.S a.x a.i)=a from rfl,e1,Xa]
 rw[Qda,Ze ha hN',hv,Xa,Wi,Wa,YR ha hN',hv,Wc,Xa,hr];simp;rw[Xb ab,e2,Xa,Xl]
def XkY(x:Uj)(hx:x.P.length<=1000000)(y4:Wh×List Int×List Int×WS×Int)(y5:Uj)(y6:List Int×List Int)(y9:Wq×Int)(y11:List Int×List Int)(y12 y13:WD×Int)(z5 z6:List Int)(z7:Wq×Int)(z8 z9:WD×Int)(hlen:y11.2.length=x.P.length)(hg:∀k:Nat,k<x.P.length->Xd y4.2.1 (wI (wI (wI ((x.R.length:Int)+(z5.length:Int))+(z6.length:Int))+k))=y11.2[k]?):∀(n k:Nat) (v:List UB),k<=x.P.length->x.P.length-k<n->v.length=k ->
 ∃r,Qey N y4 y5 y6 y9 y11 y12 y13 n (k:Int) (v++x.P.drop k)=some r/\QaY N x y4 z5 z6 z7 z8 z9 n (k:Int) v=some r
 |0,k,v,_,hn,_=>by omega
 |n+1,k,v,hk,hn,hv=>by
  rw[Qey,QaY,hlen];by_cases h:k<x.P.length;rotate_left
  .obtain rfl:k=x.P.length:=ab;simp
  have hd:=Wl h;have e:Xd (v++x.P.drop k) (k:Int)=some x.P[k]:=by rw[Xf,Ud ab,hv,U6,hd];rfl
  rw[Xi h,Wc,Wc,Xf,hg k h,Wb ab,Xa,Xa,e,Xa,Xf,Wb h,Xa,Xb ab,Xg ab];have es:(v++x.P.drop k).set (k:Int).toNat ⟨y11.2[k],x.P[k].M⟩=(v++[⟨y11.2[k],x.P[k].M⟩])++x.P.drop (k+1):=by rw[show(k:Int).toNat=k from rfl,IO _ _ ab,hv,U6,hd,IH,W4];rfl
  rw[es];exact XkY x hx y4 y5 y6 y9 y11 y12 y13 z5 z6 z7 z8 z9 hlen hg n (k+1) _ ab ab (by simp_all)
structure Sp(N:Nat)(x:Uj)(L:List Int):Prop where
 beg:Sd N x.h L
 ev:EV N x
 strong:RefB x.h L (Zh x)
 weak:RefB x.h L (Xr x.v.e)
def Xs5(hN:NB N){x:Uj}(ht:ET x)(e:QbI N x=some true):∃L,Sp N x L:=by
 have hN':1000000<N:=by unfold NB at hN;omega
 have hx:=ht.eb;have h1:=YM hx.loc;have h2:=XZ x.g.e;have h5:=XZ x.v.e;have h3:=hx.pins;have h4:=hx.roots;have⟨b,eb,hb⟩:=Kt hN hx;rw[e]at eb;obtain rfl:=Wz eb;have hv:=hb rfl;have⟨b,eb,_⟩:=Va hN hx.heap h3;rw[QbI,eb,Xa]at e;cases b with
 |false=>grind
 |true=>
 have⟨eg,hp64,hpn⟩:=Xd9 hN ht.ht h3 eb;have⟨L,hB⟩:=Xs0 hN ht.ht eg;have hl:Zh x=((x.R++XA x.l.S)++Xr x.g.e)++x.P.map (·.a):=by unfold Zh;rw[hv.loc,hv.glo];rfl
 simp only[Wi,Wa,Ze hx.loc hN',YP hx.glo hN',YP hx.wea hN',XV hx.glo hN',XV hx.wea hN',YR hx.loc hN',Xa,hv.loc,hv.glo,hv.wea,Wc]at e h1 h2 h5;rw[XY 0 ab ab,Xa]at e;cases hc:(Xr x.g.e).contains 0 with
 |true=>simp_all
 |false=>
 rw[hc,Wa,Xb ab,Xb ab,Xb ab,Xb ab,Zz hN ht.ht (by grind) eg hB.ob,Xa]at e;have e:=Wz e;simp only[List.all_append,WH]at e;refine⟨L,hB,hv,?_,e.2⟩;unfold RefB;rw[hl];simp only[List.all_append,WH];refine⟨⟨⟨e.1.1.1,e.1.1.2⟩,e.1.2⟩,?_⟩;rw[WV];intro r hr;obtain⟨p,hp,rfl⟩:=WI.1 hr;rw[hpn _ hB.ob p hp,Bool.or_true]
def XoW(hN:NB N){x:Uj}(ht:ET x):∃r,Qfb N x=some r/\QbA N x=some r:=by
 have hN':1000000<N:=by unfold NB at hN;omega
 have hx:=ht.eb;have h1:=YM hx.loc;have h2:=XZ x.g.e;have h5:=XZ x.v.e;have h3:=hx.pins;have h4:=hx.roots;have⟨b,eb,_⟩:=Kt hN hx;rw[Qfb,QbA,Xc0 hN ht,eb,Xa,Xa];cases b with
 |false=>simp
 |true=>
 have⟨L,hV⟩:=Xs5 hN ht eb;have hv:=hV.ev;have hB:=hV.beg;rw[hv.loc,Wc]at h1;rw[hv.glo,Wc]at h2;rw[hv.wea,Wc]at h5;have hp64:=hv.mat.len;have hl:Zh x=((x.R++XA x.l.S)++Xr x.g.e)++x.P.map (·.a):=by unfold Zh;rw[hv.loc,hv.glo];rfl
 have hll:(Zh x).length=x.R.length+(XA x.l.S).length+(Xr x.g.e).length+x.P.length:=by rw[hl];simp only[WK,Ug]
 rw[Wi,Wa,Wa,Xea hN hx,Js hN hx,Xa,Xa,Jd hx.wea hN',XV hx.wea hN',hv.wea,Wc,Xa,Xa];have tr:∀y∈Zh x,tU y:=λy hy=>by
  rcases hV.strong.mem y hy with h|h
  .simp_all
  have hr:=(hB.st.st.obj.at_ y h).rng;have hp:=Xo hN hx.heap hB.ep;have hw:=hp.words;have hb1:=hx.heap.1;unfold tU;omega
 have⟨y,e1,e2,hnz⟩:=XjE hN ht.ht hB (rs:=Zh x) (ws:=Xr x.v.e) ab tr hV.strong hV.weak;have⟨y',e3,hq⟩:=QjO hN hx.heap (rs:=Zh x) (ws:=Xr x.v.e) ab ab;rw[e2]at e3;obtain rfl:=Wz e3;rw[e1,e2,Xa,Xa];by_cases he:y.2.2.2.2=0;rotate_left
 .simp[Xk,he,Wc]
 have hnz:=hnz he;have⟨hl1,hl2⟩:=hq.len he;rw[show(y.2.2.2.2 != 0)=false by simp_all,Wa,Wa];simp only[Qg0,Qhf,QgE,Qge,Qac,Qad,QaX,QaM,QaQ,QaN,Qcq,Xa,QdW];generalize hs:y.2.1=s at *;have en:(x.R.length:Int).toNat=x.R.length:=rfl;rw[Xb ab,Xb ab,Xa,en,Xb (by grind),Xcd hx.loc hN',YR hx.loc hN',hv.loc,Wc,Xa,Xa,XV hx.glo hN',Jd hx.glo hN',hv.glo,Wc,Xa];generalize hk:XA x.l.S=lk at *;generalize hm:Xr x.g.e=lm at *;have ek:(lk.length:Int).toNat=lk.length:=rfl;have em:(lm.length:Int).toNat=lm.length:=rfl;have w1:wI ((x.R.length:Int)+(lk.length:Int))=((x.R.length+lk.length:Nat):Int):=by rw[Xe ab ab];omega
 have w2:wI (((x.R.length+lk.length:Nat):Int)+(lm.length:Int))=((x.R.length+lk.length+lm.length:Nat):Int):=by rw[Xe ab ab];omega
 have t1:((x.R.length+lk.length:Nat):Int).toNat=x.R.length+lk.length:=rfl;have t2:((x.R.length+lk.length+lm.length:Nat):Int).toNat=x.R.length+lk.length+lm.length:=rfl;have hz:∀v∈(s.drop x.R.length).take lk.length,v≠0:=λv hvm=>by
  have⟨i,hi,ei⟩:=Wv hvm;rw[Ws]at hi;rw[Iy,IW]at ei;have hik:i<lk.length:=ab;have e4:(Zh x)[x.R.length+i]? = some lk[i]:=by rw[hl,W4,W4,Ud ab,I6,Uk hik,Wb hik]
  refine hnz (x.R.length+i) v (by rw[Wb ab,ei]) _ e4 ?_;have hmem:lk[i]∈XA x.l.S:=by rw[hk];exact Wt hik
  have⟨p,hp,ep⟩:=WI.1 hmem;rw[←ep];have hp:=WY.1 hp;have⟨q,hq,eq⟩:=Wv hp.1;exact(Xaz (XW.1 hv.loc).st (i:=q) (p:=p) (by simp_all)).2.2.2.1 hp.2
 have⟨r1,a1,a2⟩:=XoV hN hx.loc hv.loc (rs:=(s.drop x.R.length).take lk.length) (by rw[hk,Ws,WA];omega) hz;have⟨r2,b1,b2⟩:=Xiq hN hx.glo hv.glo (rs:=(s.drop (x.R.length+lk.length)).take lm.length) (by rw[hm,Ws,WA];omega);have⟨r3,c1,c2⟩:=Xiq hN hx.wea hv.wea (rs:=y.2.2.1) hl2.symm;have⟨r4,d1,d2⟩:=XkY (N:=N) x h3 y ⟨x.h,x.l,x.g,x.v,x.P,x.R⟩ (s.take x.R.length,s.drop x.R.length) (r1,0) ((s.drop (x.R.length+lk.length)).take lm.length,s.drop (x.R.length+lk.length+lm.length)) (r2,0) (r3,0) lk lm (r1,0) (r2,0) (r3,0) (by simp_all) (λk hkp=>by
  rw[hs,w1,w2,Xe ab ab,show((x.R.length+lk.length+lm.length:Nat):Int)+(k:Int)=((x.R.length+lk.length+lm.length+k:Nat):Int) by omega,Xf,UN]) N 0 [] ab ab rfl
 rw[show((0:Nat):Int)=0 from rfl,WX,W8]at d1;rw[show((0:Nat):Int)=0 from rfl]at d2;rw[w1,w2,t1,t2,ek,Xb (by grind),Xb (by grind),Xa,a1,Xa,Xa];rw[em,Ov,Xb (by grind[WA]),Xb (by grind[WA]),Xa];dsimp only;rw[b1,Xa,c1,Xa,Ov,d1,Xa];rw[Xb ab,Xb ab,Xb ab,Xb ab,show x.R.length+lk.length-x.R.length=lk.length by omega,a2,Xa,Xb ab,show x.R.length+lk.length+lm.length-(x.R.length+lk.length)=lm.length by omega,b2,Xa,c2,Xa,d2,Xa];refine⟨_,?_,rfl⟩;rw[show(!(((0:Int)==0)&&(((0:Int)==0)&&((0:Int)==0))))=false from rfl,Wa,Ou,W8,Ws,WZ ab,Ih]
end
section
variable {N k:Nat}{x y:Uj}{P:Int->Prop}{M:List (Int×Int)}
def Oz.strl(s:Oz N k x):(Zh x).length<=1000000/\∀r∈Zh x,r=0\/Obb x.h r:=by
 have vx:=s.vx;have h1:=YM s.et.eb.loc;have h2:=XZ x.g.e;have h3:=vx.mx.len;have h4:=s.et.eb.roots;rw[vx.loc,Wc]at h1;rw[vx.glo,Wc]at h2;have hl:Zh x=((x.R++XA x.l.S)++Xr x.g.e)++x.P.map (·.a):=by unfold Zh;rw[vx.loc,vx.glo];rfl
 refine⟨by rw[hl];simp only[WK,Ug];have:=s.et.eb.loc.1;have:=s.et.eb.glo;unfold TB at this;omega,λr hr=>?_⟩;rw[hl]at hr;simp only[Wr]at hr;rcases hr with((hr|hr)|hr)|hr
 .exact vx.rr r hr
 .exact vx.rl r hr
 .exact vx.rg r hr
 obtain⟨p,hp,rfl⟩:=WI.1 hr;exact .inr (vx.mx.ob p hp).1
structure O5(N k:Nat)(x y:Uj)(M:List (Int×Int)):Prop where
 s:Oz N k x
 t:Oz N k y
 c:OH N x y (λ_=>True) M
 nz:∀p∈M,p.1≠0/\p.2≠0
def XvD(hN:NB N)(s:Oz N k x):∃y M,(∃r,Qfb N x=some (y,r,0))/\O5 N k x y M:=by have⟨⟨y,r,e⟩,ey,h0,M,c⟩:=XoA hN s.et s.vx s.cp (P:=λ_=>True) (λ_ _ _ _ _=>.inr trivial) λ_ _=>.inr trivial;obtain rfl:e=0:=h0;have c:OH N x y (λ_=>True) M:=c;have⟨r',g1,g2⟩:=XoW hN s.et;rw[ey]at g2;cases g2;exact⟨y,M,⟨r,g1⟩,s,⟨c.et,c.vx,by rw[c.lc.2];exact s.iss,by rw[c.lc.1];exact s.sc,c.ch.cap hN c.et.eb.heap s.cp⟩,c,λp hp=>c.ch.nz hN s.et.eb.heap c.et.eb.heap s.vx.mx.gx hp⟩
def Xir(m:Nat):QgA (m+5000)=some true:=ae
end
section
variable {N k:Nat}{x y:Uj}{P:Int->Prop}{M:List (Int×Int)}
def O5.rch(q:O5 N k x y M)(hN:NB N)(a:Int):QfR N x.h (Zh x) a=some (decide (a∈M.map (·.1))):=by
 have⟨e,i⟩:=Xet hN q.s.et.eb.heap q.s.vx.mx.gx q.s.strl.1 q.s.strl.2;rw[←q.c.od]at e i;have:=i.len (Xo hN q.s.et.eb.heap q.s.vx.mx.gx.ep);rw[QfR,e,Xa];dsimp only;rw[XY _ ab (by unfold NB at hN;omega),Xa];congr 1;by_cases h:a∈M.map (·.1)
 .rw[UG.2 h,Wg h]
 rw[We h];simpa using h
end
section
variable {N:Nat}
def Xis{t:WD}(hl:TB t)(hN:1000000<N)(i g:Int):QgN N t i g=some (X6 t.e i g):=by
 have hl':=hl;rw[QgN,Qhi,V6 hl' hN,Xa,X6];cases hv:Yh t.e
 .simp[Ub,Wc,Xa]
 simp only[Wi,Wa,XrK,Bool.true_eq_false,if_false];by_cases h0:i<0
 .rw[Wm h0,Wm (.inl h0),Xa];rfl
 rw[Wj h0];by_cases h1:i>=(t.e.length:Int)
 .rw[Wm h1,Wm (.inr (.inl h1)),Xa];rfl
 rw[Wj h1];by_cases h2:g<1
 .rw[Wm h2,Wm (.inr (.inr h2)),Xa];rfl
 have hlt:i.toNat<t.e.length:=ab;rw[Wj h2,Wj ab,X1 ab ab,Xa,Wb hlt];simp only[Xa];by_cases h3:g>t.e[i.toNat].G
 .simp[Wm,h3,Xa]
 rw[Wj h3,Wj h3];by_cases h4:g<t.e[i.toNat].G
 .simp[Wm,h4,Xa]
 rw[Wj h4,Wj h4];cases t.e[i.toNat].V
 .simp[Ub,Wc,Xa]
 simp[Wi,Wa,Xa]
def XoX{a:Wq}(hl:LBp a)(hN:1000000<N)(i g:Int):Qhl N a i g=some (X9 a i g):=by rw[←XaC hl hN,Qhl,Qer,XbG hl hN,Ze hl hN]
def Xub:Xd [(2:Int),16,32] 0=some 2:=by unfold Xd;rfl
def Xuc:Xd [(2:Int),16,32] 1=some 16:=by unfold Xd;rfl
def Xud:Xd [(2:Int),16,32] 2=some 32:=by unfold Xd;rfl
def Xmh(hN:1000000<N){v:Int}(h0:0<=v)(h1:v<=18446744073709551615):Qc7 N v [2,16,32]=some (if v / 1125899906842624=0 then([v % 4,v / 4 % 65536,v / 262144 % 4294967296],0)else([],2)):=by
 obtain⟨m,rfl⟩:∃m,N=m+4:=⟨N-4,ab⟩
 have l3:([(2:Int),16,32].length:Nat)=3:=rfl;have i1:wI (0+1)=1:=Xe ab ab;have i2:wI (1+1)=2:=Xe ab ab;have i3:wI (2+1)=3:=Xe ab ab;have j1:wI (64-2)=62:=Xe ab ab;have j2:wI (62-16)=46:=Xe ab ab;have j3:wI (46-32)=14:=Xe ab ab;have e1:Qau (m+4) v [2,16,32] (m+4) 64 0=some (.nxt ()):=by rw[Qau,l3,Xub];simp only[Xa,i1,j1];rw[Qau,l3,Xuc];simp only[Xa,i2,j2];rw[Qau,l3,Xud];simp only[Xa,i3,j3];rw[Qau,l3];rfl
 have o1:Qa9 (m+4) 2=some 3:=ZF ab ab ab;have o2:Qa9 (m+4) 16=some 65535:=ZF ab ab ab;have o3:Qa9 (m+4) 32=some 4294967295:=ZF ab ab ab;have s1:Yy .u64 v 2=v / 4:=YA v 2 ab h0;have s2:Yy .u64 (v / 4) 16=v / 4 / 65536:=YA (v / 4) 16 ab ab;have s3:Yy .u64 (v / 4 / 65536) 32=v / 4 / 65536 / 4294967296:=YA (v / 4 / 65536) 32 ab ab;have a1:Y6 .u64 v 3=v % 4:=Yu v 2 ab h0 h1;have a2:Y6 .u64 (v / 4) 65535=v / 4 % 65536:=Yu (v / 4) 16 ab ab ab;have a3:Y6 .u64 (v / 4 / 65536) 4294967295=v / 4 / 65536 % 4294967296:=Yu (v / 4 / 65536) 32 ab ab ab;have e2:Qav (m+4) [2,16,32] (m+4) v 0 []=some (v / 4 / 65536 / 4294967296,[v % 4,v / 4 % 65536,v / 4 / 65536 % 4294967296]):=by rw[Qav,l3,Xub];rw[Wg ab,Wc,Xa,o1,Xa,Xb ac,Xb ab,s1,a1,i1];rw[Qav,l3,Xuc];rw[Wg ab,Wc,Xa,o2,Xa,Xb ac,Xb ab,s2,a2,i2];rw[Qav,l3,Xud];rw[Wg ab,Wc,Xa,o3,Xa,Xb ac,Xb ab,s3,a3,i3];rw[Qav,l3];rw[We ab,Wa];rfl
 rw[Qc7,e1,Xa,Xl,e2,Xa];grind
def Xrg(hN:1000000<N){v:Int}(hv:tU v):QfQ N v=some (X0 v):=by
 have⟨h0,h1⟩:=hv;rw[QfQ,X0];by_cases hz:v=0
 .simp_all
 rw[Xj hz,Wa,Wj hz,Xmh hN h0 h1,Xa];by_cases h:v / 1125899906842624=0
 .have g0:Xd [v % 4,v / 4 % 65536,v / 262144 % 4294967296] 0=some (v % 4):=by unfold Xd;rfl
  have g1:Xd [v % 4,v / 4 % 65536,v / 262144 % 4294967296] 1=some (v / 4 % 65536):=by unfold Xd;rfl
  have g2:Xd [v % 4,v / 4 % 65536,v / 262144 % 4294967296] 2=some (v / 262144 % 4294967296):=by unfold Xd;rfl
  rw[Wm h];rw[show((0:Int) != 0)=false from rfl,Wa,g0,Xa,g1,Xa,g2,Xa,Xe (n:=v % 4) ab ab,Xe (n:=v / 4 % 65536) ab ab,Xe (n:=v / 262144 % 4294967296) ab ab];have q:v / 262144 % 4294967296=v / 262144:=ab;have o2:Qa9 N 16=some 65535:=ZF ab ab ab;have o3:Qa9 N 32=some 4294967295:=ZF ab ab ab;rw[q,Qg5,We (show¬v / 4 % 65536<0 by omega),We (show¬v % 4>3 by omega),o2,Xa,o3,Xa];simp only[Wa];rw[Xt (n:=v / 4 % 65536) ab ab,Xt (n:=v / 262144) ab ab,Wg (show v / 4 % 65536<=65535 by omega),Wg (show v / 262144<=4294967295 by omega),Wc];by_cases c1:v % 4<1
  .rw[Wg c1,Wc,Xa,Ub,Wc,Wj ab]
  rw[We c1,Wa];by_cases c2:v / 262144<1
  .rw[Wg c2,Wc,Xa,Ub,Wc,Wj ab]
  rw[We c2,Wa,Xa,Wi,Wa,Wm ab]
 grind
def XoY(v:Int):v≠0->(X0 v).2=0\/(X0 v).2=6:=by unfold X0;grind
def Xit(hN:NB N){x:Uj}(ht:ET x){v:Int}(tv:tU v):Qf1 N x v=QaG N x v:=by
 have hN':1000000<N:=by unfold NB at hN;omega
 have hx:=ht.eb;rw[Qf1,QaG,Xc0 hN ht];have⟨b,eb,_⟩:=Kt hN hx;rw[eb,Xa,Xa];cases b with
 |false=>rfl
 |true=>
 rw[Wi,Wa,Wa,Xrg hN' tv,Xa];by_cases hz:v=0
 .subst hz;rfl
 rw[show(v==0)=false by grind,Wa,XdU tv,Xa];have he:=XoY v hz;rw[show((X0 v).2==5)=false by grind,Wa];simp only[XoX hx.loc hN',XaC hx.loc hN',Xis hx.glo hN',KY hx.glo hN',Xis hx.wea hN',KY hx.wea hN']
end
section
variable {N k:Nat}{x y:Uj}{P:Int->Prop}{M:List (Int×Int)}
def XkZ(hN:NB N){p:Io}(q:O5 N k p.N y M){r:Uj×WS×Int}(er:r.1=y)(hw:∀v∈p.w,tU v)(hl:p.w.length<=1000000):∀n j:Nat,j<=p.w.length->p.w.length-j<n->Qa0 N p r n (j:Int)=some (.nxt ())
 |0,j,_,hn=>by omega
 |n+1,j,hj,hn=>by
  rw[Qa0];by_cases h:j<p.w.length
  .have tv:=hw _ (Wt h);have ih:=XkZ hN q er hw hl n (j+1) ab ab;have nz:=q.nz;rw[Xi h,Wc,Xf,Wb h,Xa,Xit hN q.s.et tv,Xc6 hN q.s.et q.s.vx tv,Xa,Xa,er,Xit hN q.t.et tv,Xc6 hN q.t.et q.t.vx tv,Xa,Xg ab,ih,Js hN q.s.et.eb,Xa,q.rch hN,Xa];have e:=q.c.res q.s.vx nz p.w[j];have ea:=Xin (x:=p.N) (v:=p.w[j]);have eb:=Xin (x:=y) (v:=p.w[j]);generalize ZN p.N p.w[j]=a at *;generalize ZN y p.w[j]=b at *;have key:a.1=0/\b.1=0\/a.1≠0/\b.1≠0\/a.1≠0/\b.1=0/\a.1∉M.map (·.1):=by
    by_cases ha:a.2=0
    .rcases e.2 ha with h|h|h
     .exact .inl h
     .exact .inr (.inl (nz _ h))
     by_cases a0:a.1=0
     .exact .inl ⟨a0,h.2⟩
     exact .inr (.inr ⟨a0,h.2,h.1⟩)
    exact .inl ⟨ea ha,eb (by rw[e.1];exact ha)⟩
   rw[show(a.2 != b.2)=false by rw[e.1];simp,Wa];rcases key with⟨h1,h2⟩|⟨h1,h2⟩|⟨h1,h2,h3⟩
   .simp[h1,h2]
   .rw[Xk h1,Wc,Xj h2,Wa,Xj h1,Wa]
   rw[We h3];simp[h1,h2]
  rw[We ab,Wa]
def XeR(hN:NB N)(l:List Int):Qfq N l=some true:=by
 have hN':=hN;unfold NB at hN';obtain⟨p,ep,k,hk,hp,s⟩:=XsV hN (M:=80) ab ab l;have aw:QgA N=some true:=by obtain⟨m,rfl⟩:∃m,N=m+5000:=⟨N-5000,ab⟩;exact Xir m
 obtain⟨y,M,⟨r,ey⟩,q⟩:=XvD hN s;have v1:Qdp N p.N=some true:=by rw[Xc0 hN s.et];exact(Jg hN s.et).2 s.vx
 have v2:Qdp N y=some true:=by rw[Xc0 hN q.t.et];exact(Jg hN q.t.et).2 q.t.vx
 have g1:=Xil hN s.et.eb.heap s.vx.mx.gx s.strl.1 s.strl.2;have g2:=Xil hN q.t.et.eb.heap q.t.vx.mx.gx q.t.strl.1 q.t.strl.2;have st:=q.c.str s.vx;rw[←q.c.od]at g1;rw[q.c.ch.ord q.nz st q.c.od,q.c.ch.grf q.nz st]at g2;have lp:=XkZ hN q (r:=(y,r,0)) rfl hp.ty.2.2 (by have:=hp.w2;omega) N 0 ab (by have:=hp.w2;omega);rw[show((0:Nat):Int)=0 from rfl]at lp;have hi:=(Xet hN s.et.eb.heap s.vx.mx.gx s.strl.1 s.strl.2).2;rw[←q.c.od]at hi;have hl:=hi.len (Xo hN s.et.eb.heap s.vx.mx.gx.ep);have sm:=XsY (N:=N) ab (g:=Xjz p.N.h (M.map (·.1)) (Zh p.N)) (by have:=s.strl.1;simpa [Xjz]using this) (by have:=hl;simp[Xjz]at this⊢;omega) (λt ht=>by
  obtain⟨a,_,rfl⟩:=WI.1 ht
  have:=XD (ZH p.N.h a)
  simp only[Xfw,Xik,XbP,Ug,List.length_range];omega) ab
 rw[Qfq,ep,Xa,ey,Xa];dsimp only;rw[show((0:Int) != 0)=false from rfl,Wa,v1,Xa,Wi,Wa,v2,Xa,Wi,Wa,Js hN s.et.eb,Xa,g1,Xa,Js hN q.t.et.eb,Xa,g2,Xa];dsimp only;rw[show((0:Int) != 0)=false from rfl,Wa,Wa,sm,Xa,Wi,Wa,lp,Xa,Xl,aw,Xa]
end
end Go.Sx
