import Derived.Test.YtjmgebidnekjdaaGreatLD
set_option linter.all false
namespace Go.Sx
section
variable {N:Nat}
def Zj (h:IV):Ok (QbO N h) λ _=>True:=by
 rw[QbO]
 refine WN (Q:=λ _=>True) ?_ λ b _ _=>Wo (λ _=>Wh trivial) λ _=>Wh trivial
 rw[QgN]
 exact Wo (λ _=>Wo (λ _=>Wo (λ _=>Wo (λ _=>Wo (λ _=>Wh trivial) λ _=>Wh trivial) λ _=>Wh trivial) λ _=>Wh trivial) λ _=>Wh trivial) λ _=>Wh trivial
def XaV (a:Int):Ok (Qb4 N a) λ _=>True:=by
 rw[Qb4]
 exact Wo (λ _=>Wh trivial) λ _=>WN (Zj _) λ _ _ _=>Wo (λ _=>Wh trivial) λ _=>Wo (λ _=>Wh trivial) λ _=>Wh trivial
def Xo3 {l:List U4} (r:Int) (hl:l.length<=1000000):∀ (n:Nat) (k:Int),0<=k->k<=l.length->(l.length-k).toNat<n->Ok (Qeq N l r n k) λ e=>∀ i,e=.ret i->0<=i/\i<l.length/\∃ p∈l,p.Ref=r
 | 0,k,_,_,hn=>by omega
 | n+1,k,h0,hk,hn=>by
  rw[Qeq]
  refine Wo (λ hc=>?_) λ _=>Wh λ i e=>by cases e
  have hc:k<l.length:=Wq hc
  rw[Xd (n:=k+1) (by omega) (by omega)]
  refine Ok.get h0 hc λ p hp=>Wo (λ h=>Wh λ i e=>?_) λ _=>Xo3 r hl n (k+1) (by omega) (by omega) (by omega)
  cases e
  exact ⟨h0,hc,p,Yo hp,by simpa using h⟩
def Xcl {l:List U4} (r:Int) (hl:l.length<=1000000) (hN:1000000<N):Ok (QfA N l r) λ i=>i = -1\/(0<=i/\i<l.length/\∃ p∈l,p.Ref=r):=by
 rw[QfA]
 exact IW (Xo3 r hl N 0 (by omega) (by omega) (by omega)) (λ i q=>Wh (.inr (q i rfl))) λ _ _=>Wh (.inl rfl)
def XbC {h:Wv} (hp:UR h) {a:Int} (ha:Of h a):QfB N h a=some (pgi h.Conf a)/\0<=pgi h.Conf a/\pgi h.Conf a<h.Pages.length:=by
 have hv:=Xj.1 hp.conf
 obtain ⟨_,q0,q1,_⟩:=J5 hp.conf ha.rng
 have:=hp.pages
 refine ⟨?_,q0,by omega⟩
 rw[QfB,Xae,Xa,hp.conf,Wm (by simp),Wn ha.rng]
 rfl
def XfD {h:Wv} {pins:List U4} (hN:NB N) (hp:UR h) (y:List Int×Int) (hy:Oi N h y.1) (hl:pins.length<=64) (hb:HB h):∀ (n:Nat) (k:Int) (v:List Int),0<=k->k<=pins.length->(pins.length-k).toNat<n->v.length=h.Pages.length->Ok (Qbg N h pins y n k v) λ e=>match e with | .ret b=>b=false | .nxt v=>v.length=h.Pages.length/\∀ i,k<=i->∀ p,Xb pins i=some p->Of h p.Ref
 | 0,k,v,_,_,hn,_=>by omega
 | n+1,k,v,h0,hk,hn,hv=>by
  have hN':=hN
  unfold NB at hN'
  have hyl:=hy.len
  rw[Qbg]
  refine Wo (λ hc=>?_) λ hc=>Wh ⟨hv,λ i hi p hp=>?_⟩
  rotate_left
  ·have:=WG hc
   rw[Vo (by omega)] at hp;cases hp
  have hc:k<pins.length:=Wq hc
  rw[Xd (n:=k+1) (by omega) (by omega)]
  have a1:0<=k+1:=by omega
  have a2:k+1<=pins.length:=by omega
  have a3:(pins.length-(k+1)).toNat<n:=by omega
  refine Ok.get h0 hc λ p hp1=>?_
  have same:∀ q,Xb pins k=some q->q=p:=λ q hq=>Ug (hq.symm.trans hp1)
  rw[YZ p.Ref (by omega) (by omega),Xa]
  refine Wo (λ _=>Wh rfl) λ hh=>?_
  have hm:p.Ref∈y.1:=Zr (by simpa using hh)
  have hat:=hy.obj.at_ _ hm
  refine Ok.get h0 hc λ q hq=>?_
  obtain rfl:=same q hq
  refine WN (Xcl _ (by omega) (by omega)) λ _ _ _=>Wo (λ _=>Wh rfl) λ _=>Ok.get h0 hc λ _ _=>Wo (λ _=>Wh rfl) λ _=>Ok.get h0 hc λ _ _=>Wo (λ _=>Wh rfl) λ _=>Ok.get h0 hc λ q hq=>?_
  obtain rfl:=same q hq
  obtain ⟨e,q0,q1⟩:=XbC (N:=N) hp hat
  rw[e,Xa]
  refine Ok.get q0 (by omega) λ _ _=>Ok.get h0 hc λ _ _=>Ok.get q0 (by omega) λ _ _=>?_
  refine (XfD hN hp y hy hl hb n (k+1) _ a1 a2 a3 (by rw[Wx];exact hv)).mono λ e he=>?_
  cases e with
  | ret b=>exact he
  | nxt v =>
   refine ⟨he.1,λ i hi p' hp'=>?_⟩
   by_cases hik:i=k
   ·subst hik
    obtain rfl:=same p' hp'
    exact hat
   ·exact he.2 i (by omega) p' hp'
def XfE {h:Wv} (hb:HB h) (v:List Int) (hv:v.length=h.Pages.length):∀ (n:Nat) (k:Int),0<=k->k<=h.Pages.length->(h.Pages.length-k).toNat<n->Ok (QbB N h v n k) λ e=>∀ b,e=.ret b->b=false
 | 0,k,_,_,hn=>by omega
 | n+1,k,h0,hk,hn=>by
  have:=hb.2
  rw[QbB]
  refine Wo (λ hc=>?_) λ _=>Wh λ b e=>by cases e
  have hc:k<h.Pages.length:=Wq hc
  rw[Xd (n:=k+1) (by omega) (by omega)]
  exact Ok.get h0 hc λ _ _=>Ok.get h0 (by omega) λ _ _=>Wo (λ _=>Wh λ b e=>by cases e;rfl) λ _=>XfE hb v hv n (k+1) (by omega) (by omega) (by omega)
structure OF (N:Nat) (h:Wv) (pins:List U4):Prop where
 good:Oy N h
 len:pins.length<=64
 at_:∀ p∈pins,Of h p.Ref
def J9 (hN:NB N) {h:Wv} (hb:HB h) {pins:List U4} (hl:pins.length<=1000000):Ok (QbG N h pins) λ b=>b=true->OF N h pins:=by
 have hN':=hN
 unfold NB at hN'
 have hb2:=hb.2
 rw[QbG]
 refine WN (Km hN hb) λ b _ hg=>Wo (λ _=>Wh λ e=>by cases e) λ hb1=>?_
 have hg:=hg (by simpa using hb1)
 refine Wo (λ _=>Wh λ e=>by cases e) λ h64=>?_
 have h64:=WG h64
 refine WN (Zy hN hb) λ y _ hy=>WY (by omega) ?_
 refine IW (XfD hN hg.prop y hy.1 (by omega) hb N 0 _ (by omega) (by omega) (by omega) (by rw[WO];omega)) (λ b q=>Wh λ e=>?_) λ v q=>?_
 ·have q:b=false:=q
  rw[q] at e;cases e
 refine IW (XfE hb v q.1 N 0 (by omega) (by omega) (by omega)) (λ b q=>Wh λ e=>?_) λ _ _=>Wh λ _=>⟨hg,by omega,λ p hp=>?_⟩
 ·rw[q b rfl] at e;cases e
 ·obtain ⟨i,hi,e⟩:=WU hp
  exact q.2 (i:Int) (by omega) p (by rw[Xc,Wb hi,e])
def XfF {h:Wv} (hb:HB h) (hp:UR h) {a:Int} (ha:Of h a) (d:Int):Ok (Qcj N h a d) HB:=by
 have hb2:=hb.2
 obtain ⟨e,q0,q1⟩:=XbC (N:=N) hp ha
 rw[Qcj,Xf (by omega),e,Xa]
 exact Ok.get q0 q1 λ _ _=>Ok.get q0 q1 λ _ _=>Wh ⟨hb.1,by show (h.Pages.set _ _).length<=_;rw[Wx];exact hb2⟩
def XgL (hN:NB N) {h:Wv} (hb:HB h) {pins:List U4} (hl:pins.length<=1000000) (a:Int):Ok (Qbz N h pins a) λ r=>HB r.1/\r.2.1.length<=1000000:=by
 have hN':=hN
 unfold NB at hN'
 have zero:HB zH/\([]:List U4).length<=1000000:=⟨ZT,by simp⟩
 rw[Qbz]
 refine WN (J9 hN hb hl) λ b _ hm=>Wo (λ _=>Wh zero) λ hb1=>?_
 have hm:=hm (by simpa using hb1)
 refine Wo (λ _=>Wh zero) λ _=>WN (Xcl _ hl (by omega)) λ i _ hi=>Wo (λ _=>Wh zero) λ h0=>?_
 have h0:=WG h0
 obtain ⟨i0,i1,p,hpm,hpr⟩:0<=i/\i<pins.length/\∃ p∈pins,p.Ref=a:=by
  rcases hi with h | h
  ·omega
  ·exact h
 have hat:=hm.at_ p hpm
 rw[hpr] at hat
 have hc:=XfF (N:=N) hb hm.good.prop hat (-1)
 refine WY (by omega) (Ok.get i0 i1 λ _ _=>Ok.get i0 i1 λ _ _=>Ok.get i0 (by rw[Wx];exact i1) λ _ _=>?_)
 rw[Xd (n:=i+1) (by omega) (by omega)]
 refine Wo (λ _=>WY (by omega) (WY (by omega) (WY (by omega) (WN hc λ y _ hy=>Wh ⟨hy,?_⟩)))) λ _=>WN hc λ y _ hy=>Wh ⟨hy,?_⟩
 ·simp only[WC,Wp,Wx,WR];omega
 ·show (pins.set _ _).length<=_;rw[Wx];exact hl
def Xcm {h:Wv} (hb:HB h) (a:Int):∀ (n:Nat) (c k:Int),0<=k->k<=h.Pages.length->(h.Pages.length-k).toNat<n->Ok (Qb5 N h a n c k) λ _=>True
 | 0,c,k,_,_,hn=>by omega
 | n+1,c,k,h0,hk,hn=>by
  have:=hb.2
  rw[Qb5]
  refine Wo (λ hc=>?_) λ _=>Wh trivial
  have hc:k<h.Pages.length:=Wq hc
  rw[Xd (n:=k+1) (by omega) (by omega)]
  have next:=λ c'=>Xcm hb a n c' (k+1) (by omega) (by omega) (by omega)
  exact Ok.get h0 hc λ _ _=>Wo (λ _=>Ok.get h0 hc λ _ _=>Wo (λ _=>next _) λ _=>next _) λ _=>next _
def JE (hN:NB N) {h:Wv} (hb:HB h) (a:Int):Ok (Qdm N h a) λ _=>True:=by
 have hN':=hN
 unfold NB at hN'
 have hb2:=hb.2
 rw[Qdm]
 refine WN (Km hN hb) λ b _ hg=>Wo (λ _=>Wh trivial) λ hb1=>?_
 refine WN (Xbf hN hb a) λ b _ ho=>Wo (λ _=>Wh trivial) λ hb1=>?_
 obtain ⟨hp,hat⟩:=ho (by simpa using hb1)
 obtain ⟨e,q0,q1⟩:=XbC (N:=N) hp hat
 refine WN (Xcm hb a N 0 0 (by omega) (by omega) (by omega)) λ c _ _=>?_
 rw[e,Xa]
 exact Ok.get q0 q1 λ _ _=>Wo (λ _=>Wo (λ _=>Wh trivial) λ _=>Wh trivial) λ _=>Wh trivial
def Xi1 (hN:NB N) {h:Wv} (hb:HB h) {pins:List U4} (hl:pins.length<=1000000) (a:Int):Ok (Qdn N h pins a) λ r=>HB r.1/\r.2.1.length<=1000000:=by
 have hN':=hN
 unfold NB at hN'
 have zero:HB zH/\([]:List U4).length<=1000000:=⟨ZT,by simp⟩
 rw[Qdn]
 refine WN (J9 hN hb hl) λ b _ hm=>Wo (λ _=>Wh zero) λ hb1=>?_
 have hm:=hm (by simpa using hb1)
 refine Wo (λ _=>Wh zero) λ _=>WN (Xbf hN hb a) λ b _ ho=>Wo (λ _=>Wh zero) λ hb1=>?_
 obtain ⟨hp,hat⟩:=ho (by simpa using hb1)
 have hc:=XfF (N:=N) hb hm.good.prop hat 1
 have h64:=hm.len
 refine WN (Xcl _ hl (by omega)) λ i _ hi=>?_
 have rest:Ok (α:=Wv×List U4×Int×Int) (grd (pins.length*16<=140737488355328) <|
  jn (λ (x11:List U4) =>
   bnd (Qcj N h a 1) λ y12 =>
   some (y12,x11,(wU (a+1)),0)) λ j2 =>
  bif (decide (i>=0)) then (bnd (Xb pins i) λ p9 =>
   bnd (Xb pins i) λ p10 =>
   j2 (pins.set i.toNat (U4.mk p10.Ref (wI (p9.Count+1)))))
  else grd ((pins.length+1)*16<=140737488355328) <|
  j2 (pins++[(U4.mk a 1)])) λ r=>HB r.1/\r.2.1.length<=1000000:=by
  refine WY (by omega) (IB (Wo (λ h0=>?_) λ _=>WY (by omega) (WN hc λ y _ hy=>Wh ⟨hy,?_⟩)))
  ·have h0:0<=i:=Wq h0
   have i1:i<pins.length:=by rcases hi with h | h;omega;exact h.2.1
   exact Ok.get h0 i1 λ _ _=>Ok.get h0 i1 λ _ _=>WN hc λ y _ hy=>Wh ⟨hy,by show (pins.set _ _).length<=_;rw[Wx];exact hl⟩
  ·show (pins++[_]).length<=_;rw[Wp];simp;omega
 refine IB (Wo (λ h0=>?_) λ _=>Wo (λ _=>Wo (λ _=>Wh zero) λ _=>WN (JE hN hb a) λ _ _ _=>Wo (λ _=>Wh zero) λ _=>rest) λ _=>WN (JE hN hb a) λ _ _ _=>Wo (λ _=>Wh zero) λ _=>rest)
 have h0:0<=i:=Wq h0
 have i1:i<pins.length:=by rcases hi with h | h;omega;exact h.2.1
 exact Ok.get h0 i1 λ _ _=>Wo (λ _=>Wh zero) λ _=>Wo (λ _=>Wo (λ _=>Wh zero) λ _=>WN (JE hN hb a) λ _ _ _=>Wo (λ _=>Wh zero) λ _=>rest) λ _=>WN (JE hN hb a) λ _ _ _=>Wo (λ _=>Wh zero) λ _=>rest
end
section
variable {N:Nat}
def XhR (hN:NB N) (c:Um) (d:WI):Ok (Qc6 N c d) λ b=>b=true->XD d=true/\d.Kind≠0/\XQ c (X1 d)≠-1:=by
 have hN':=hN
 unfold NB at hN'
 rw[Qc6,Zg,Xa]
 refine Wo (λ hv=>Wo (λ hk=>?_) λ _=>Wh λ e=>by cases e) λ _=>Wh λ e=>by cases e
 rw[YB,Xa,Kl (by omega),Xa]
 exact Wh λ e=>⟨hv,by simpa using hk,by simpa using e⟩
def XfG (hN:NB N) {h:Wv} (hb:HB h) (hp:UR h) (n:Int):Ok (QdL N h n) λ r=>HB r.1:=by
 have hN':=hN
 unfold NB at hN'
 have hb2:=hb.2
 have setP:∀ (ps:List WM) (i:Nat) (p:WM) (s b:Int),ps.length<=100000->HB ⟨h.Conf,h.Words,ps.set i p,s,b⟩:=λ ps i p s b hl=>⟨hb.1,by show (ps.set i p).length<=_;rw[Wx];exact hl⟩
 rw[QdL]
 refine WY (by omega) ?_
 rw[Xea,Xa]
 refine WN (Xb9 (by omega) (by omega)) λ u _ _=>?_
 have fresh:Ok (α:=Wv×Int×Bool) (bnd (QcW N h.Pages 1) λ y5 =>
  bif (decide (y5<0)) then some ((Wv.mk (Um.mk 0 0) [] [] 0 0),0,false)
  else bif (decide (u>=JN h.Conf)) then some ((Wv.mk (Um.mk 0 0) [] [] 0 0),0,false)
  else bnd (QcX N h.Pages y5 h.Space) λ y6 =>
  bnd (Xb y6.1 y5) λ p11 =>
  bnd (Xb y6.1 y5) λ p12 =>
  bnd (Xb y6.1 y5) λ p13 =>
  some ((Wv.mk h.Conf h.Words (y6.1.set y5.toNat (WM.mk p13.Kind p13.Space (wI (p12.Used+n)) p13.Pins)) h.Space y5),(wU (wI ((wI (4096+(wI (y5*h.Conf.PageWords))))+p11.Used))),true)) λ r=>HB r.1:=by
  refine WN (KJ 1 (by omega) (by omega)) λ j _ hj=>Wo (λ _=>Wh ZT) λ hj0=>Wo (λ _=>Wh ZT) λ _=>?_
  have hr:RunOK h.Pages j 1:=by
   rcases hj with rfl | hj
   ·cases hj0
   ·exact hj
  have hsp:=hp.space
  refine WN (Xfo j h.Space (by omega) (by omega)) λ y _ hy=>?_
  obtain ⟨q0,q1,q2,q3⟩:=hy.1 (hy.2.2 hr (by omega) (by omega))
  have hjl:j<y.1.length:=by omega
  exact Ok.get q0 hjl λ _ _=>Ok.get q0 hjl λ _ _=>Ok.get q0 hjl λ _ _=>Wh (setP _ _ _ _ _ (by omega))
 refine IB (Wo (λ _=>fresh) λ h0=>?_)
 have h0:=WG h0
 have hbu:=hp.bump
 have h1:h.Bump<h.Pages.length:=by rcases hbu with h | h;omega;exact h.2.1
 have h0:0<=h.Bump:=by omega
 exact Ok.get h0 h1 λ _ _=>Wo (λ _=>fresh) λ _=>Ok.get h0 h1 λ _ _=>Wo (λ _=>fresh) λ _=>Wo (λ _=>fresh) λ _=>Ok.get h0 h1 λ _ _=>Ok.get h0 h1 λ _ _=>Ok.get h0 h1 λ _ _=>Wh (setP _ _ _ _ _ hb2)
def XfH (hN:NB N) {h:Wv} (hb:HB h) (hp:UR h) (w k:Int):Ok (Qet N h w k) λ r=>HB r.1:=by
 have hN':=hN
 unfold NB at hN'
 have hb2:=hb.2
 rw[Qet]
 refine WN (KJ k (by omega) (by omega)) λ j _ hj=>Wo (λ _=>Wh ZT) λ hj0=>WN (Xb9 (by omega) (by omega)) λ u _ _=>?_
 rw[Xea,Xa]
 refine Wo (λ _=>Wh ZT) λ _=>WN (XkU h.Conf j h.Space w (by omega) (by omega)) λ y _ hy=>Wh ⟨hb.1,?_⟩
 show y.1.length<=_
 by_cases he:y.2=0
 ·have:=(hy.1 he).2.2.2.1;omega
 ·rw[hy.2 he];simp
def Xek (hN:NB N) {h:Wv} (hb:HB h) (d:WI):Ok (Qeu N h d) λ r=>HB r.1:=by
 have hN':=hN
 unfold NB at hN'
 rw[Qeu]
 refine WN (Yr (N:=N) (by omega) hb.1 hb.2) λ b _ hp=>Wo (λ _=>Wh ZT) λ hb1=>?_
 have hp:=hp (by simpa using hb1)
 refine WN (XhR hN _ _) λ b _ _=>Wo (λ _=>Wh ZT) λ _=>?_
 rw[YB,Xa,Kl (by omega),Xa]
 refine WN (XfG hN hb hp _) λ y5 _ h5=>IB (Wo (λ _=>WN (XfH hN hb hp _ _) λ y6 _ h6=>?_) λ _=>?_)
 ·exact Wo (λ _=>Wh ZT) λ _=>WN (XhC hN (h:=y6.1) h6 _ d) λ y15 _ h15=>Wh h15
 ·exact Wo (λ _=>Wh ZT) λ _=>WN (XhC hN (h:=y5.1) h5 _ d) λ y15 _ h15=>Wh h15
end
structure EB (x:Ud):Prop where
 heap:HB x.Heap
 loc:LBp x.Locals
 glo:TB x.Globals
 wea:TB x.Weaks
 pins:x.Pins.length<=1000000
 roots:x.Roots.length<=100000
def zE:Ud:=⟨zH,zL,zT,zT,[],[]⟩
def Xcn:EB zE:=⟨ZT,Zt,Xci,Xci,by simp[zE],by simp[zE]⟩
section
variable {N:Nat} {x:Ud}
def Z0 {a:WD} (h:LBp a):(bif YL a then XX a.Slots else []).length<=4096:=by
 cases hv:YL a
 ·simp
 ·have hf:=Yb.1 hv
  have:=hf.slots
  have:=hf.iss
  have:=ZZ a.Slots
  simp only[We];omega
def YK (l:List Uj):(bif Yx l then XA l else []).length<=64:=by
 cases hv:Yx l
 ·simp
 ·have:=Ya hv
  have:=Ys l
  simp only[We];omega
structure EV (N:Nat) (x:Ud):Prop where
 mat:OF N x.Heap x.Pins
 loc:YL x.Locals=true
 glo:Yx x.Globals.Entries=true
 wea:Yx x.Weaks.Entries=true
def Kz (hN:NB N) (hx:EB x):Ok (QbH N x) λ b=>b=true->EV N x:=by
 have hN':=hN
 unfold NB at hN'
 have hr:=hx.roots
 rw[QbH]
 refine WN (J9 hN hx.heap hx.pins) λ b _ hm=>Wo (λ _=>Wh λ e=>by cases e) λ hb1=>?_
 have hm:=hm (by simpa using hb1)
 rw[ZN hx.loc (by omega),Xa]
 refine Wo (λ _=>Wh λ e=>by cases e) λ h1=>?_
 rw[Zi hx.glo (by omega),Xa]
 refine Wo (λ _=>Wh λ e=>by cases e) λ h2=>?_
 rw[Zi hx.wea (by omega),Xa]
 refine Wo (λ _=>Wh λ e=>by cases e) λ h3=>?_
 rw[X8 hx.glo (by omega),Xa]
 have l1:=Z0 hx.loc
 have l2:=YK x.Globals.Entries
 have l3:=YK x.Weaks.Entries
 rw[YZ _ (by omega) (by omega),Xa]
 refine Wo (λ _=>Wh λ e=>by cases e) λ _=>WY (by omega) ?_
 rw[Zs hx.loc (by omega),Xa]
 refine WY (by omega) (WY (by omega) ?_)
 rw[X8 hx.wea (by omega),Xa]
 refine WY (by omega) (WN (Jk hN hx.heap (by simp only[Wp];omega)) λ b _ _=>Wh λ _=>⟨hm,by simpa using h1,by simpa using h2,by simpa using h3⟩)
def Xco (hp:x.Pins.length<=1000000):∀ (n:Nat) (k:Int) (v:List Int),0<=k->k<=x.Pins.length->(x.Pins.length-k).toNat<n->v.length<=1000000+k->Ok (Qa3 N x n k v) λ r=>(r.length:Int)=v.length+(x.Pins.length-k)
 | 0,k,v,_,_,hn,_=>by omega
 | n+1,k,v,h0,hk,hn,hv=>by
  rw[Qa3]
  refine Wo (λ hc=>?_) λ hc=>Wh (by have:=WG hc;omega)
  have hc:k<x.Pins.length:=Wq hc
  rw[Xd (n:=k+1) (by omega) (by omega)]
  refine Ok.get h0 hc λ p _=>WY (by omega) ?_
  refine (Xco hp n (k+1) _ (by omega) (by omega) (by omega) (by rw[Wp];simp;omega)).mono λ r hr=>?_
  rw[hr,Wp];simp;omega
def Xcp (hN:NB N) (hx:EB x):Ok (QeE N x) λ r=>r.length=x.Roots.length+(bif YL x.Locals then XX x.Locals.Slots else []).length+(bif Yx x.Globals.Entries then XA x.Globals.Entries else []).length+x.Pins.length:=by
 have hN':=hN
 unfold NB at hN'
 have hr:=hx.roots
 have hp:=hx.pins
 have l1:=Z0 hx.loc
 have l2:=YK x.Globals.Entries
 rw[QeE]
 refine WY (by omega) ?_
 rw[Zs hx.loc (by omega),Xa]
 refine WY (by omega) ?_
 rw[X8 hx.glo (by omega),Xa]
 refine WY (by omega) (WN (Xco hp N 0 _ (by omega) (by omega) (by omega) (by simp only[Wp];omega)) λ r _ hr=>Wh ?_)
 simp only[Wp] at hr
 omega
def XhS (y4:Wv×List Int×List Int×UC×Int) (y5 y6:List Int) (y7:WD×Int) (y8 y9:WT×Int) (hp:x.Pins.length<=1000000) (hr:x.Roots.length<=100000) (h5:y5.length<=4096) (h6:y6.length<=64) (h4:y4.2.1.length=x.Roots.length+y5.length+y6.length+x.Pins.length):∀ (n:Nat) (k:Int) (v:List U4),0<=k->k<=x.Pins.length->(x.Pins.length-k).toNat<n->(v.length:Int)=k->Ok (QaP N x y4 y5 y6 y7 y8 y9 n k v) λ r=>r.length=x.Pins.length
 | 0,k,v,_,_,hn,_=>by omega
 | n+1,k,v,h0,hk,hn,hv=>by
  rw[QaP]
  refine Wo (λ hc=>?_) λ hc=>Wh (by have:=WG hc;omega)
  have hc:k<x.Pins.length:=Wq hc
  rw[Xd (n:=k+1) (by omega) (by omega),Xd (n:=((x.Roots.length:Nat):Int)+((y5.length:Nat):Int)) (by omega) (by omega),Xd (n:=((x.Roots.length:Nat):Int)+((y5.length:Nat):Int)+((y6.length:Nat):Int)) (by omega) (by omega),Xd (n:=((x.Roots.length:Nat):Int)+((y5.length:Nat):Int)+((y6.length:Nat):Int)+k) (by omega) (by omega)]
  refine Ok.get (by omega) (by omega) λ _ _=>Ok.get h0 hc λ p _=>WY (by omega) ?_
  exact XhS y4 y5 y6 y7 y8 y9 hp hr h5 h6 h4 n (k+1) _ (by omega) (by omega) (by omega) (by rw[Wp];simp;omega)
def Va (hN:NB N) (hx:EB x):Ok (Qbk N x) λ r=>EB r.1:=by
 have hN':=hN
 unfold NB at hN'
 have hr:=hx.roots
 have hp:=hx.pins
 rw[Qbk]
 refine WN (Kz hN hx) λ b _ hv=>Wo (λ _=>Wh Xcn) λ hb1=>?_
 have hv:=hv (by simpa using hb1)
 have h64:=hv.mat.len
 have l1:=Z0 hx.loc
 have l2:=YK x.Globals.Entries
 have l3:=YK x.Weaks.Entries
 refine WN (Xcp hN hx) λ y2 _ h2=>?_
 rw[hv.loc,hv.glo] at h2
 rw[hv.loc] at l1
 rw[hv.glo] at l2
 rw[X8 hx.wea (by omega),Xa]
 rw[hv.wea] at l3 ⊢
 simp only[We] at h2 l1 l2 l3 ⊢
 refine WN (XgJ hN hx.heap (by omega) (by omega)) λ y4 _ h4=>Wo (λ _=>Wh Xcn) λ he=>?_
 obtain ⟨g1,g2⟩:=h4.len (by simpa using he)
 rw[Zs hx.loc (by omega),Xa,X8 hx.glo (by omega),Xa,hv.loc,hv.glo]
 simp only[We]
 have e1:=Xd (n:=((x.Roots.length:Nat):Int)+(((XX x.Locals.Slots).length:Nat):Int)) (by omega) (by omega)
 have e2:=Xd (n:=((x.Roots.length:Nat):Int)+(((XX x.Locals.Slots).length:Nat):Int)+(((XA x.Globals.Entries).length:Nat):Int)) (by omega) (by omega)
 refine WY (by omega) (WY (by omega) (WY (by omega) (WY (by rw[e1];omega) ?_)))
 refine WN (Xla hx.loc (by omega) (by rw[WC,WR];omega)) λ y7 _ h7=>WY (by rw[e1,e2];omega) ?_
 refine WN (XfB hx.glo (by omega) (by rw[WC,WR];omega)) λ y8 _ h8=>?_
 refine WN (XfB hx.wea (by omega) (by omega)) λ y9 _ h9=>?_
 refine WN (XhS y4 (XX x.Locals.Slots) (XA x.Globals.Entries) y7 y8 y9 hp hr l1 l2 (by omega) N 0 [] (by omega) (by omega) (by omega) rfl) λ y14 _ h14=>Wh ⟨h4.hb,h7,h8,h9,?_,?_⟩
 ·show y14.length<=_;omega
 ·show (y4.2.1.take _).length<=_
  rw[WC];omega
def Xdo (hN:NB N) (hx:EB x) (d:WI):Ok (Qch N x d) λ r=>EB r.1:=by
 rw[Qch]
 refine WN (Kz hN hx) λ b _ hv=>Wo (λ _=>Wh Xcn) λ hb1=>?_
 refine WN (Xek hN hx.heap d) λ y2 _ h2=>IB (Wo (λ _=>WN (Va hN hx) λ y3 _ h3=>Wo (λ _=>Wh Xcn) λ _=>WN (Xek hN h3.heap d) λ y4 _ h4=>?_) λ _=>?_)
 ·exact Wo (λ _=>Wh Xcn) λ _=>Wh ⟨h4,h3.loc,h3.glo,h3.wea,h3.pins,h3.roots⟩
 ·exact Wo (λ _=>Wh Xcn) λ _=>Wh ⟨h2,hx.loc,hx.glo,hx.wea,hx.pins,hx.roots⟩
def Za (hN:NB N) (hx:EB x) (v:Int):Ok (Qbl N x v) λ r=>True:=by
 have hN':=hN
 unfold NB at hN'
 rw[Qbl]
 refine WN (Kz hN hx) λ b _ hv=>Wo (λ _=>Wh trivial) λ hb1=>Wo (λ _=>Wh trivial) λ _=>?_
 refine WN (XaV v) λ y _ _=>Wo (λ _=>Wh trivial) λ _=>Wo (λ _=>?_) λ _=>Wo (λ _=>?_) λ _=>?_
 ·rw[Xei hx.loc (by omega),Xa];exact Wh trivial
 ·rw[Xaj hx.glo (by omega),Xa];exact Wh trivial
 ·rw[Xaj hx.wea (by omega),Xa];exact Wh trivial
end
def Oe {β κ:Type} {P:β->Prop} {k:κ->Option β} {f:(κ->Option β)->Option β} (h:∀ x,Ok (k x) P) (g:∀ j:κ->Option β,(∀ x,Ok (j x) P)->Ok (f j) P):Ok (Sx.jn k f) P:=by rw[XN];exact g k h
def Uh {β:Type} {P:β->Prop} {b:Bool} {x y:Option β} (h1:Ok x P) (h2:Ok y P):Ok (bif b then x else y) P:=by cases b;exact h2;exact h1
def Ue {α β:Type} {P:β->Prop} {o:Option α} {Q:α->Prop} {f:α->Option β} (h:Ok o Q) (k:∀ y,Q y->Ok (f y) P):Ok (Sx.bnd o f) P:=WN h λ y _ hq=>k y hq
def Ok.t {α:Type} {o:Option α} {P:α->Prop} (h:Ok o P):Ok o λ _=>True:=h.mono λ _ _=>trivial
section
variable {N:Nat} {x:Ud}
abbrev EP (r:Ud×Int×Int):Prop:=EB r.1
def Xi2 (e:Int):Ok (Qac N e) EP:=by rw[Qac];exact Wh Xcn
def Xw (e:Int):Ok (bnd (Qac N e) λ y=>some (y.1,y.2.1,y.2.2)) EP:=Ue (Xi2 e) λ y hy=>Wh hy
def Xlb (a b c:Int):Ok (Qcg N a b c) λ _=>True:=by
 rw[Qcg]
 exact Uh (Uh (Wh trivial) (Wh trivial)) (Wh trivial)
def Vs (hN:NB N) (hx:EB x) (a:Int):Ok (Qci N x a) EP:=by
 have hN':=hN
 unfold NB at hN'
 rw[Qci]
 refine Uh (Wh hx) ?_
 rw[Xak hx.loc (by omega),Xa]
 exact Uh (Xw _) (Ue (Zj _) λ y _=>Wh ⟨hx.heap,XhL hx.loc a,hx.glo,hx.wea,hx.pins,hx.roots⟩)
def XgM (hN:NB N) (hx:EB x) (a b c:Int):Ok (Qc7 N x a b c) EP:=by
 have hN':=hN
 unfold NB at hN'
 rw[Qc7]
 refine Uh (Xw _) (Ue (Xlb _ _ _) λ y _=>IB (Uh (Xw _) (Ue (XhR hN _ _) λ z _=>Uh (Xw _) ?_)))
 rw[Xak hx.loc (by omega),Xa]
 exact Uh (Xw _) (Ue (Xdo hN hx _) λ y7 h7=>Uh (Xw _) (Ue (Vs hN h7 _) λ y9 h9=>Wh h9))
def Vt (hN:NB N) (hx:EB x) (a:Int):Ok (QcY N x a) λ _=>True:=by
 rw[QcY]
 exact Ue (Za hN hx a) λ y _=>Uh (Uh (Wh trivial) (Wh trivial)) (Wh trivial)
def Xdp (hN:NB N) (hx:EB x) (a b:Int) (c:Bool):Ok (QcZ N x a b c) λ _=>True:=by
 rw[QcZ]
 refine Ue (Vt hN hx a) λ y _=>Uh (Wh trivial) (Ue (VR hN hx.heap _) λ z _=>Uh (Wh trivial) ?_)
 rw[JA,Xa]
 exact Uh (Wh trivial) (Wh trivial)
def Xi3 (hN:NB N) (hx:EB x) (a b c d:Int):Ok (QdM N x a b c d) EP:=by
 rw[QdM]
 have sf:∀ i j v:Int,Ok (α:=Ud×Int×Int) (bnd (QbC N x.Heap i j v) λ y12=>some ((Ud.mk y12.1 x.Locals x.Globals x.Weaks x.Pins x.Roots),0,0)) EP:=λ i j v =>
  Ue (Xfq hN hx.heap i j v) λ y hy=>Wh ⟨hy,hx.loc,hx.glo,hx.wea,hx.pins,hx.roots⟩
 refine IB (Uh (Ue (Xdp hN hx _ _ _) λ y _=>?_) (Ue (Xdp hN hx _ _ _) λ y _=>?_))<;>
 exact Uh (Xw _) (Ue (Xca hN hx.heap _ _) λ z _=>Uh (Wh hx) (Uh (Ue (Vs hN hx _) λ y8 h8=>Wh h8) (IB (Uh (Ue (Za hN hx _) λ y9 _=>Uh (Xw _) (sf _ _ _)) (sf _ _ _)))))
def Xi4 (hN:NB N) (hx:EB x) (a b c:Int):Ok (QdN N x a b c) EP:=by
 rw[QdN]
 refine Oe (λ b1=>Uh (Ue (Vt hN hx _) λ y _=>Uh (Xw _) (Ue (VR hN hx.heap _) λ z _=>Uh (Wh hx) (Wh hx))) (Uh (Ue (Za hN hx _) λ y _=>Uh (Xw _) (Ue (Za hN hx _) λ z _=>Uh (Xw _) (Uh (Wh hx) (Wh hx)))) (Ue (Za hN hx _) λ y _=>Uh (Xw _) (Ue (Vs hN hx _) λ z hz=>Wh hz)))) λ j hj=>Uh (hj _) (hj _)
def XfI (hN:NB N) (hx:EB x) (a b:Int):Ok (QcH N x a b) EP:=by
 have hN':=hN
 unfold NB at hN'
 rw[QcH]
 refine Ue (Vt hN hx _) λ y _=>Uh (Xw _) (IB (Uh ?_ ?_))
 ·show Ok (bnd (Qcs N ⟨x.Weaks.Entries⟩ y.1) _) EP;rw[KY (t:=⟨x.Weaks.Entries⟩) hx.wea (by omega),Xa]
  have h:=XhP (t:=⟨x.Weaks.Entries⟩) hx.wea y.1
  exact Uh (Xw _) (IB (Uh (Ue (Zj _) λ z _=>Wh ⟨hx.heap,hx.loc,hx.glo,h,hx.pins,hx.roots⟩) (Ue (Zj _) λ z _=>Wh ⟨hx.heap,hx.loc,h,hx.wea,hx.pins,hx.roots⟩)))
 ·show Ok (bnd (Qcs N ⟨x.Globals.Entries⟩ y.1) _) EP;rw[KY (t:=⟨x.Globals.Entries⟩) hx.glo (by omega),Xa]
  have h:=XhP (t:=⟨x.Globals.Entries⟩) hx.glo y.1
  exact Uh (Xw _) (IB (Uh (Ue (Zj _) λ z _=>Wh ⟨hx.heap,hx.loc,hx.glo,h,hx.pins,hx.roots⟩) (Ue (Zj _) λ z _=>Wh ⟨hx.heap,hx.loc,h,hx.wea,hx.pins,hx.roots⟩)))
def XgN (hN:NB N) (hx:EB x) (a b:Int):Ok (Qc8 N x a b) EP:=by
 have hN':=hN
 unfold NB at hN'
 rw[Qc8]
 refine Uh (Xw _) (Ue (Za hN hx _) λ y _=>Uh (Xw _) (Ue (XaV _) λ z _=>Oe (λ _=>Uh ?_ (Uh ?_ ?_)) λ j2 h2=>Oe (λ _=>Xw _) λ j1 h1=>?_))
 ·rw[Xej hx.loc (by omega),Xa];exact Wh ⟨hx.heap,XhM hx.loc _ _,hx.glo,hx.wea,hx.pins,hx.roots⟩
 ·rw[Vr hx.glo (by omega),Xa];exact Wh ⟨hx.heap,hx.loc,XhQ hx.glo _ _,hx.wea,hx.pins,hx.roots⟩
 ·rw[Vr hx.wea (by omega),Xa];exact Wh ⟨hx.heap,hx.loc,hx.glo,XhQ hx.wea _ _,hx.pins,hx.roots⟩
 ·repeat' first
   | exact h1 _
   | exact h2 _
   | refine Uh ?_ ?_
def XgO (hN:NB N) (hx:EB x) (a b:Int):Ok (Qc9 N x a b) EP:=by
 have hN':=hN
 unfold NB at hN'
 rw[Qc9]
 refine Uh (Uh (Xw _) ?_) (Ue (Za hN hx _) λ y _=>Uh (Xw _) ?_)
 ·rw[Xal hx.loc (by omega),Xa]
  exact Uh (Xw _) (Wh ⟨hx.heap,XfA hx.loc _,hx.glo,hx.wea,hx.pins,hx.roots⟩)
 ·rw[XbA hx.loc (by omega),Xa]
  exact Uh (Xw _) (Ue (Vs hN (x:=⟨x.Heap,(ZO x.Locals).1,x.Globals,x.Weaks,x.Pins,x.Roots⟩) ⟨hx.heap,XbB hx.loc,hx.glo,hx.wea,hx.pins,hx.roots⟩ _) λ z hz=>Wh hz)
def Xlc (hN:NB N) (hx:EB x) (a b:Int):Ok (Qel N x a b) EP:=by
 rw[Qel]
 refine Ue (Vt hN hx _) λ y _=>Uh (Xw _) (Uh (Ue (XgL hN hx.heap hx.pins _) λ z hz=>Uh (Xw _) (Wh ⟨hz.1,hx.loc,hx.glo,hx.wea,hz.2,hx.roots⟩)) (Ue (Xi1 hN hx.heap hx.pins _) λ z hz=>Uh (Xw _) (Wh ⟨hz.1,hx.loc,hx.glo,hx.wea,hz.2,hx.roots⟩)))
def Xld (hN:NB N) (hx:EB x) (op a b c:Int):Ok (Qem N x op a b c) EP:=by
 rw[Qem]
 have thr:∀ {o:Option (Ud×Int×Int)},Ok o EP->Ok (bnd o λ y=>some (y.1,y.2.1,y.2.2)) EP:=λ h=>Ue h λ y hy=>Wh hy
 refine Ue (Kz hN hx) λ b1 _=>Uh (Xw _) ?_
 refine Oe (λ x1=>Uh (thr (XgM hN hx _ _ _)) ?_) λ j2 h2=>?_
 ·refine Oe (λ x1=>Uh (thr (Xi3 hN hx _ _ _ _)) ?_) λ j h=>?_
  ·refine Oe (λ x1=>Uh (thr (Xi4 hN hx _ _ _)) ?_) λ j h=>?_
   ·refine Oe (λ x1=>Uh (thr (XfI hN hx _ _)) ?_) λ j h=>?_
    ·refine Oe (λ x1=>Uh (thr (XgN hN hx _ _)) ?_) λ j h=>?_
     ·refine Oe (λ x1=>Uh (thr (XgO hN hx _ _)) ?_) λ j h=>?_
      ·refine Oe (λ x1=>Uh (thr (Xlc hN hx _ _)) (Xw _)) λ j h=>Uh (h _) (h _)
      ·exact Uh (h _) (h _)
     ·exact Uh (h _) (Oe (λ x1=>h _) λ j h=>Uh (h _) (h _))
    ·exact Uh (h _) (h _)
   ·exact Uh (h _) (Oe (λ x1=>h _) λ j h=>Uh (h _) (Oe (λ x1=>h _) λ j h=>Uh (h _) (h _)))
  ·exact Uh (h _) (Oe (λ x1=>h _) λ j h=>Uh (h _) (Oe (λ x1=>h _) λ j h=>Uh (h _) (h _)))
 ·exact Uh (h2 _) (Oe (λ x1=>h2 _) λ j h=>Uh (h _) (h _))
end
structure WB (k:Nat) (w:Wy):Prop where
 kk:k<=900
 things:w.Things.length<=k
 fields:∀ x∈w.Things,x.Fields.length<=1000
 loc:LBp w.Locals
 gloK:w.Globals.Entries.length<=1000+k
 weaK:w.Weaks.Entries.length<=1000+k
 marksK:w.Marks.length<=100+k
 rootsK:w.Roots.length<=100+k
def WB.glo {k:Nat} {w:Wy} (h:WB k w):TB w.Globals:=by have:=h.kk;have:=h.gloK;unfold TB;omega
def WB.wea {k:Nat} {w:Wy} (h:WB k w):TB w.Weaks:=by have:=h.kk;have:=h.weaK;unfold TB;omega
def WB.marks {k:Nat} {w:Wy} (h:WB k w):w.Marks.length<=1000:=by have:=h.kk;have:=h.marksK;omega
def WB.roots {k:Nat} {w:Wy} (h:WB k w):w.Roots.length<=1000:=by have:=h.kk;have:=h.rootsK;omega
def KK (d:WI):Nat->List Int->List Int
 | _,[]=>[]
 | k,f::fs=>if ZK d k then f::KK d (k+1) fs else KK d (k+1) fs
def Xam (x:UL):List Int:=KK x.Header 0 x.Fields
def XaW (d:WI):∀ (k:Nat) (l:List Int),(KK d k l).length<=l.length
 | k,[]=>by simp[KK]
 | k,f::fs=>by
  have:=XaW d (k+1) fs
  unfold KK
  split<;>simp<;>omega
def XI (n:Nat) (l:List Int):Bool:=l.all λ p=>!decide (p>(n:Int))
def YE (l:List U7) (id:Int):Int:=match l.findIdx? (λ m=>m.Id==id) with | some k=>(k:Int) | none=>-1
def Z2 (n:Nat) (x:UL):Bool:=XD x.Header&&(!(x.Header.Kind==0)&&(!(((x.Fields.length:Nat):Int) != x.Header.Length)&&XI n (Xam x)))
def Xcq (n:Nat) (l:List U7) (_:Unit) (i:Nat) (m:U7):Bool:=!decide (m.Id<1)&&(!decide (m.Id>(n:Int))&&(!(YE l m.Id != (i:Int))&&(!decide (m.Count<1)&&!decide (m.Count>1000))))
def JF (n:Nat) (l:List U7):Bool:=Zh (Xcq n l) (λ s _=>s) () 0 l
def Ye (w:Wy):Bool:=XZ w.Conf&&(YL w.Locals&&(Yx w.Globals.Entries&&(Yx w.Weaks.Entries&&(!decide (((w.Marks.length:Nat):Int)>64)&&(w.Things.all (Z2 w.Things.length)&&(((XA w.Globals.Entries).all λ p=>!(p==0))&&(JF w.Things.length w.Marks&&(XI w.Things.length w.Roots&&(XI w.Things.length (XX w.Locals.Slots)&&(XI w.Things.length (XA w.Globals.Entries)&&XI w.Things.length (XA w.Weaks.Entries)))))))))))
section
variable {N:Nat} {w:Wy}
def Jm (ht:w.Things.length<=1000) {l:List Int} (hl:l.length<=1000000) (hN:1000000<N):Qc5 N w l=some (XI w.Things.length l):=by
 have h:=ZM (l:=l) (F:=Qc4 N w l) (q:=λ _ p=>!decide (p>(w.Things.length:Int))) (λ n k p e=>by
  have hk:=Xq e
  rw[Qc4,Xv hk,We,Xc,e,Xa,Xe (by omega),XC (by omega) (by omega)]
  cases decide (p>(w.Things.length:Int))<;>rfl) (λ n=>by rw[Qc4,Xp,Wa]) (n:=N) (by omega)
 rw[YN] at h
 rw[Qc5,h,Xa,XI]
 cases l.all λ p=>!decide (p>(w.Things.length:Int))
 ·rw[Wa,Xl]
 ·rw[We,Xk]
def Xcr {x:UL} (hl:x.Fields.length<=1000000):∀ (n k:Nat) (v:List Int),k<=x.Fields.length->x.Fields.length-k<n->v.length<=k->Qd3 N x n (k:Int) v=some (v++KK x.Header k (x.Fields.drop k))
 | 0,k,v,_,hn,_=>by omega
 | n+1,k,v,hk,hn,hlv=>by
  rw[Qd3]
  by_cases h:k<x.Fields.length
  ·rw[Xv h,We,JA,Xa,Xe (by omega),Wt h,KK]
   cases hp:ZK x.Header (k:Int)
   ·rw[Wa,Wm (by simp),Xcr hl n (k+1) v (by omega) (by omega) (by omega)]
   ·rw[We,Wn rfl,Xc,Wb h,Xa,Xf (by omega),Xcr hl n (k+1) _ (by omega) (by omega) (by rw[Wp];simp;omega)]
    simp
  ·obtain rfl:k=x.Fields.length:=by omega
   rw[Xp,Wa,WL (Ui _)]
   simp[KK]
def XfJ {x:UL} (hl:x.Fields.length<=1000000) (hN:1000000<N):Qgv N x=some (Xam x):=by
 have h:=Xcr (N:=N) (x:=x) hl N 0 [] (by omega) (by omega) (by simp)
 rw[show ((0:Nat):Int)=0 from rfl,WP,Ux] at h
 rw[Qgv,h,Xa];rfl
def XhT (id:Int) (hl:w.Marks.length<=1000000):∀ (n k:Nat),k<=w.Marks.length->w.Marks.length-k<n->QeO N w id n (k:Int)=some (match (w.Marks.drop k).findIdx? (λ m=>m.Id==id) with | some j=>.ret ((k+j:Nat):Int) | none=>.nxt ())
 | 0,k,_,hn=>by omega
 | n+1,k,hk,hn=>by
  rw[QeO]
  by_cases h:k<w.Marks.length
  ·rw[Xv h,We,Xc,Wb h,Xa,Xe (by omega),Wt h,List.findIdx?_cons]
   cases hm:(w.Marks[k].Id==id)
   ·rw[Wa,XhT id hl n (k+1) (by omega) (by omega),Wm (by simp)]
    cases (w.Marks.drop (k+1)).findIdx? (λ m=>m.Id==id) with
    | none=>rfl
    | some j=>simp only[Iv];rw[show k+1+j=k+(j+1) by omega]
   ·rw[We,Wn rfl];simp
  ·obtain rfl:k=w.Marks.length:=by omega
   rw[Xp,Wa,WL (Ui _)]
   rfl
def Xel (hl:w.Marks.length<=1000000) (hN:1000000<N) (id:Int):QfF N w id=some (YE w.Marks id):=by
 have h:=XhT (N:=N) id hl N 0 (by omega) (by omega)
 rw[show ((0:Nat):Int)=0 from rfl,WP] at h
 rw[QfF,h,Xa,YE]
 cases w.Marks.findIdx? (λ m=>m.Id==id) with
 | none=>simp only[Xk]
 | some j=>simp only[Xl,Ut]
def Xcs {a:WD} (h:YL a=true):(XX a.Slots).length<=4096:=by
 have hf:=Yb.1 h
 have:=hf.slots
 have:=hf.iss
 have:=ZZ a.Slots
 omega
def Jn {l:List Uj} (h:Yx l=true):(XA l).length<=64:=by
 have:=Ya h
 have:=Ys l
 omega
def Xan {k:Nat} (hw:WB k w) (hN:1000000<N):QdK N w=some (Ye w):=by
 have hk:=hw.kk
 have ht:=hw.things
 have hm:=hw.marks
 have hr:=hw.roots
 rw[QdK,YC,Xa,Ye]
 cases XZ w.Conf
 ·rfl
 rw[Ws,Wa,ZN hw.loc hN,Xa,WA]
 cases hv1:YL w.Locals
 ·rfl
 rw[Ws,Wa,Zi hw.glo hN,Xa,WA]
 cases hv2:Yx w.Globals.Entries
 ·rfl
 rw[Ws,Wa,Zi hw.wea hN,Xa,WA]
 cases hv3:Yx w.Weaks.Entries
 ·rfl
 rw[Ws,Wa,WA]
 cases decide (((w.Marks.length:Nat):Int)>64)
 rotate_left
 ·rfl
 rw[Wa,WS,WA]
 have h1:=ZM (l:=w.Things) (F:=Qdw N w) (q:=λ _=>Z2 w.Things.length) (λ n k p e=>by
  have hk:=Xq e
  have hpf:=hw.fields p (Ua e)
  have hrl:=XaW p.Header 0 p.Fields
  rw[Qdw,Xv hk,We,Xc,e,Xa,Zg,Xa,XfJ (by omega) hN,Xa,Jm (by omega) (by unfold Xam;omega) hN,Xa,Xe (by omega)]
  unfold Z2
  cases XD p.Header<;>cases (p.Header.Kind==0)<;>cases (((p.Fields.length:Nat):Int) != p.Header.Length)<;>cases XI w.Things.length (Xam p)<;>rfl) (λ n=>by rw[Qdw,Xp,Wa]) (n:=N) (by omega)
 rw[YN] at h1
 rw[h1,Xa]
 cases w.Things.all (Z2 w.Things.length)
 ·rw[Wa,Xl];rfl
 rw[We,Xk,X8 hw.glo hN,Xa,hv2,We,WA]
 have g64:=Jn hv2
 have h2:=ZM (l:=XA w.Globals.Entries) (F:=Qdx N w (XA w.Globals.Entries)) (q:=λ _ p=>!(p==0)) (λ n k p e=>by
  have hk:=Xq e
  rw[Qdx,Xf (by omega),Xv hk,We,Xc,e,Xa,Xe (by omega)]
  cases (p==0)<;>rfl) (λ n=>by rw[Qdx,Xf (by omega),Xp,Wa]) (n:=N) (by omega)
 rw[YN] at h2
 rw[h2,Xa]
 cases (XA w.Globals.Entries).all λ p=>!(p==0)
 ·rw[Wa,Xl];rfl
 rw[We,Xk,WA]
 have h3:=ZM (l:=w.Marks) (F:=Qdy N w (XA w.Globals.Entries)) (q:=Xcq w.Things.length w.Marks ()) (λ n k p e=>by
  have hk:=Xq e
  rw[Qdy,Xv hk,We,Xc,e,Xa,Xel (by omega) hN,Xa,Xe (by omega),XC (by omega) (by omega)]
  unfold Xcq
  cases decide (p.Id<1)<;>cases decide (p.Id>(w.Things.length:Int))<;>cases (YE w.Marks p.Id != (k:Int))<;>cases decide (p.Count<1)<;>cases decide (p.Count>1000)<;>rfl) (λ n=>by rw[Qdy,Xp,Wa]) (n:=N) (by omega)
 rw[h3,Xa]
 show exK (bif JF w.Things.length w.Marks then Ex.nxt () else Ex.ret false) _ _=_
 cases JF w.Things.length w.Marks
 ·rw[Wa,Xl];rfl
 rw[We,Xk,Jm (by omega) (by omega) hN,Xa,WA]
 cases XI w.Things.length w.Roots
 ·rfl
 have s1:=Xcs hv1
 rw[We,Zs hw.loc hN,Xa,hv1,We,Jm (by omega) (by omega) hN,Xa,WA]
 cases XI w.Things.length (XX w.Locals.Slots)
 ·rfl
 rw[We,Jm (by omega) (by omega) hN,Xa,WA]
 cases XI w.Things.length (XA w.Globals.Entries)
 ·rfl
 have s3:=Jn hv3
 rw[We,X8 hw.wea hN,Xa,hv3,We,Jm (by omega) (by omega) hN,Xa,WA]
end
def KT (v:Int):IV×Int :=
 if v=0 then (⟨0,0,0⟩,5) else if 1<=v % 4/\1<=v / 262144/\v / 262144<=4294967295 then (⟨v % 4,v / 4 % 65536,v / 262144⟩,0) else (⟨0,0,0⟩,6)
def Xle {N:Nat} {v:Int} (hv:tU v):Qb4 N v=some (KT v):=by
 obtain ⟨h0,h1⟩:=hv
 rw[Qb4,KT]
 by_cases hz:v=0
 ·subst hz;rfl
 rw[show (v==0)=false by simpa using hz,Wa,Wm hz]
 have a1:YF .u64 v 3=v % 4:=Zf v 2 (by omega) h0 h1
 have a2:Yf .u64 v 2=v / 4:=Zp v 2 (by omega) h0
 have a3:YF .u64 (v / 4) 65535=v / 4 % 65536:=Zf (v / 4) 16 (by omega) (by omega) (by omega)
 have a4:Yf .u64 v 18=v / 262144:=Zp v 18 (by omega) h0
 rw[a2,a1,a3,a4,Xd (n:=v % 4) (by omega) (by omega),Xd (n:=v / 4 % 65536) (by omega) (by omega),Xd (n:=v / 262144) (by omega) (by omega),QbO,QgN]
 have s1:∀ x:Int,K4 .u64 x 2=wU (x*4):=λ _=>rfl
 have s2:∀ x:Int,K4 .u64 x 18=wU (x*262144):=λ _=>rfl
 rw[Wj (show v / 4 % 65536>=0 by omega),Wj (show v / 4 % 65536<=65535 by omega),Wj (show v % 4<=3 by omega)]
 simp only[We]
 by_cases g1:v % 4>=1
 ·rw[Wj g1,We]
  by_cases g2:v / 262144>=1
  ·rw[Wj g2,We,Xa]
   by_cases g3:v / 262144<=4294967295
   ·rw[Wj g3,Ws,Wa,Xa,Wn ⟨g1,g2,g3⟩]
    have e:wU (wU (wU (v % 4)+K4 .u64 (wU (v / 4 % 65536)) 2)+K4 .u64 (wU (v / 262144)) 18)=v:=by
     rw[s1,s2,XC (n:=v % 4) (by omega) (by omega),XC (n:=v / 4 % 65536) (by omega) (by omega),XC (n:=v / 262144) (by omega) (by omega),XC (n:=v / 4 % 65536*4) (by omega) (by omega),XC (n:=v / 262144*262144) (by omega) (by omega),XC (n:=v % 4+v / 4 % 65536*4) (by omega) (by omega),XC (by omega) (by omega)]
     omega
    simp only[e]
    rw[show ((0:Int) != 0)=false from rfl,Wa,show (v != v)=false by simp,Wa]
   ·rw[Wk g3,WS,We,Xa,Wm (λ h=>g3 h.2.2)];rfl
  ·rw[Wk g2,Wa,Xa,WS,We,Xa,Wm (λ h=>g2 h.2.1)];rfl
 ·rw[Wk g1,Wa,Xa,WS,We,Xa,Wm (λ h=>g1 h.1)];rfl
def Zb (w:Wy) (v:Int):Int×Int :=
 if v=0 then (0,0) else if (KT v).2≠0 then (0,(KT v).2) else
 if (KT v).1.Tag=1 then Zz w.Locals (KT v).1.Index (KT v).1.Stamp else
 if (KT v).1.Tag=2 then Zk w.Globals.Entries (KT v).1.Index (KT v).1.Stamp else Zk w.Weaks.Entries (KT v).1.Index (KT v).1.Stamp
def XB (w:Wy) (a:Int):Int×Int:=if (Zb w a).2=0/\(Zb w a).1=0 then (0,5) else Zb w a
structure WF (w:Wy):Prop where
 conf:XZ w.Conf=true
 loc:YL w.Locals=true
 glo:Yx w.Globals.Entries=true
 wea:Yx w.Weaks.Entries=true
 m64:w.Marks.length<=64
 thing:∀ x∈w.Things,XD x.Header=true/\x.Header.Kind≠0/\(x.Fields.length:Int)=x.Header.Length/\∀ r∈Xam x,r<=w.Things.length
 mark:JF w.Things.length w.Marks=true
 roots:∀ r∈w.Roots,r<=w.Things.length
 rloc:∀ r∈XX w.Locals.Slots,r<=w.Things.length
 rglo:∀ r∈XA w.Globals.Entries,r<=w.Things.length
 rwea:∀ r∈XA w.Weaks.Entries,r<=w.Things.length
def KM {n:Nat} {l:List Int}:XI n l=true↔∀ r∈l,r<=n:=by
 unfold XI
 simp only[W3,Uv,Ub]
 exact ⟨λ h r hr=>by have:=h r hr;omega,λ h r hr=>by have:=h r hr;omega⟩
def KA {w:Wy} (h:Ye w=true):WF w:=by
 unfold Ye at h
 simp only[Ww,Uv,Ub] at h
 obtain ⟨h1,h2,h3,h4,h5,h6,h7,h8,h9,h10,h11,h12⟩:=h
 refine ⟨h1,h2,h3,h4,by omega,λ x hx=>?_,h8,KM.1 h9,KM.1 h10,KM.1 h11,KM.1 h12⟩
 have:=(W3.1 h6) x hx
 unfold Z2 at this
 simp only[Ww,Uv,bne_eq_false_iff_eq,Iz] at this
 exact ⟨this.1,this.2.1,this.2.2.1,KM.1 this.2.2.2⟩
def WF.mk_ {w:Wy} (h:WF w) {k:Nat} {m:U7} (hm:w.Marks[k]? = some m):1<=m.Id/\m.Id<=w.Things.length/\1<=m.Count/\m.Count<=1000:=by
 have:=(Ka w.Marks () 0).1 h.mark k m hm
 unfold Xcq at this
 simp only[Ww,Uv,Ub] at this
 obtain ⟨h1,h2,_,h3,h4⟩:=this
 omega
def Xi5 {l:List U1} {p:U1} (hp:p∈l) (hL:p.Live=true):p.Ref∈XX l:=by
 unfold XX;exact UH.2 ⟨p,UJ.2 ⟨hp,hL⟩,rfl⟩
def Xi6 {l:List Uj} {p:Uj} (hp:p∈l) (hL:p.Live=true):p.Ref∈XA l:=by
 unfold XA;exact UH.2 ⟨p,UJ.2 ⟨hp,hL⟩,rfl⟩
def XgP (a:WD) (i g:Int):(Zz a i g).2=0\/(Zz a i g).1=0:=by
 unfold Zz
 split
 ·exact .inr rfl
 split
 ·exact .inr rfl
 split
 ·exact .inr rfl
 split
 ·exact .inr rfl
 split
 ·exact .inr rfl
 split
 ·exact .inr rfl
 split
 ·exact .inl rfl
 ·exact .inr rfl
def XgQ (l:List Uj) (i g:Int):(Zk l i g).2=0\/(Zk l i g).1=0:=by
 unfold Zk
 split
 ·exact .inr rfl
 split
 ·exact .inr rfl
 split
 ·exact .inr rfl
 split
 ·exact .inr rfl
 split
 ·exact .inr rfl
 split
 ·exact .inl rfl
 ·exact .inr rfl
def XnU {w:Wy} (h:WF w) (v:Int):(Zb w v).1<=w.Things.length:=by
 have g:∀ i g,(Zz w.Locals i g).1<=w.Things.length:=by
  intro i g
  by_cases he:(Zz w.Locals i g).2=0
  ·obtain ⟨_,_,p,hp,_,hL,e⟩:=Xdl he
   rw[e];exact h.rloc _ (Xi5 (Ua hp) hL)
  ·have:=(XgP w.Locals i g).resolve_left he
   omega
 have t:∀ (t:WT),(∀ r∈XA t.Entries,r<=w.Things.length)->∀ i g,(Zk t.Entries i g).1<=w.Things.length:=by
  intro t ht i g
  by_cases he:(Zk t.Entries i g).2=0
  ·obtain ⟨_,_,p,hp,_,hL,e⟩:=Xdm he
   rw[e];exact ht _ (Xi6 (Ua hp) hL)
  ·have:=(XgQ t.Entries i g).resolve_left he
   omega
 unfold Zb
 split
 ·simp
 split
 ·simp
 split
 ·exact g _ _
 split
 ·exact t _ h.rglo _ _
 ·exact t _ h.rwea _ _
section
variable {N:Nat} {w:Wy} {k:Nat}
def K6 (hw:WB k w) (hN:1000000<N) (hv:Ye w=true) {v:Int} (tv:tU v):QaE N w v=some (Zb w v):=by
 rw[QaE,Xan hw hN,Xa,hv,Ws,Wa,Zb]
 by_cases hz:v=0
 ·rw[Wn hz,hz];rfl
 rw[Wm hz,show (v==0)=false by simpa using hz,Wa,Xle tv,Xa]
 by_cases he:(KT v).2=0
 ·rw[he,show ((0:Int) != 0)=false from rfl,Wa,Wm (by simp)]
  by_cases h1:(KT v).1.Tag=1
  ·rw[Wn h1,h1,show ((1:Int)==1)=true from rfl,We,Xei hw.loc hN,Xa]
  rw[Wm h1,show ((KT v).1.Tag==1)=false by simpa using h1,Wa]
  by_cases h2:(KT v).1.Tag=2
  ·rw[Wn h2,h2,show ((2:Int)==2)=true from rfl,We,Xaj hw.glo hN,Xa]
  rw[Wm h2,show ((KT v).1.Tag==2)=false by simpa using h2,Wa,Xaj hw.wea hN,Xa]
 ·rw[show ((KT v).2 != 0)=true by simpa using he,We,Wn he]
def Xao (hw:WB k w) (hN:1000000<N) (hv:Ye w=true) {v:Int} (tv:tU v):Qev N w v=some (XB w v):=by
 rw[Qev,K6 hw hN hv tv,Xa,XB]
 by_cases he:(Zb w v).2=0
 ·rw[he,show ((0:Int)==0)=true from rfl,We]
  by_cases h1:(Zb w v).1=0
  ·rw[h1,Wn ⟨rfl,rfl⟩];rfl
  ·rw[show ((Zb w v).1==0)=false by simpa using h1,Wa,Wm (λ h=>h1 h.2)]
   rw[← he]
 ·rw[show ((Zb w v).2==0)=false by simpa using he,Wa,Wm (λ h=>he h.1)]
end
def zTh:UL:=⟨⟨0,0,0⟩,[]⟩
def thg (w:Wy) (id:Int):UL:=w.Things.getD (id-1).toNat zTh
def K7 (a:WD) (id:Int):Int:=if id=0 then 0 else (VU a id).2.2.2
def okW (op a b:Int):Prop:=a<=2147483647/\(op=1->b<=4294967295)
instance (op a b:Int):Decidable (okW op a b):=by unfold okW;infer_instance
def hdW (op a b:Int):WI:=⟨op,a,if op=1 then b else 0⟩
def Xdq (c:Um) (d:WI):Bool:=XD d&&(d.Kind != 0&&XQ c (X1 d) != -1)
def Xap (w:Wy) (op a b:Int) (failed:Bool):Int :=
 if w.Marks.length>0 then 15 else if ¬ okW op a b then 1 else if Xdq w.Conf (hdW op a b)=false then 1 else
 if K7 w.Locals 1≠0 then K7 w.Locals 1 else if failed then 3 else 0
def Xbj (op:Int):Bool:=op==8||op==9
def XbD (w:Wy) (op a b c:Int):Int :=
 if (XB w a).2≠0 then (XB w a).2 else if b>=(thg w (XB w a).1).Header.Length then 2 else
 if ZK (thg w (XB w a).1).Header b≠Xbj op then 4 else
 if op=8 then K7 w.Locals ((thg w (XB w a).1).Fields.getD b.toNat 0) else if op=9 then (Zb w c).2 else 0
def Xct (w:Wy) (op a:Int):Int :=
 if a=0 then 5 else if (Zb w a).2≠0 then (Zb w a).2 else
 if (KT a).1.Tag≠(if op=16 then 3 else if op=14 then 2 else 1) then 4 else 0
def XgR (w:Wy) (op a:Int):Int :=
 if (XB w a).2≠0 then (XB w a).2 else (J7 (if op=15 then w.Weaks else w.Globals) (XB w a).1).2.2.2
def Xem (w:Wy) (op a:Int):Int :=
 if op=17 then (if a>64 then 1 else (JD w.Locals a).2) else
 if (Zb w a).2≠0 then (Zb w a).2 else if (ZO w.Locals).2≠0 then (ZO w.Locals).2 else K7 (ZO w.Locals).1 (Zb w a).1
def Xdr (l:List U7) (i:Int):U7:=l.getD i.toNat ⟨0,0,0⟩
def XhU (w:Wy) (op a:Int) (failed:Bool):Int :=
 if (XB w a).2≠0 then (XB w a).2 else
 if op=20 then (if YE w.Marks (XB w a).1<0 then 12 else 0) else
 if 0<=YE w.Marks (XB w a).1/\(Xdr w.Marks (YE w.Marks (XB w a).1)).Count=1000 then 18 else
 if YE w.Marks (XB w a).1<0/\w.Marks.length=64 then 18 else if failed then 18 else 0
def Xcu (w:Wy) (op a b:Int):Int :=
 if op=4\/op=5 then (XB w a).2 else if (Zb w a).2≠0 then (Zb w a).2 else
 if op=10 then (Zb w b).2 else K7 w.Locals (Zb w a).1
def Xlf (w:Wy) (op a b c:Int) (failed:Bool):Int :=
 if Ye w=false then 19 else
 if op=1\/op=2\/op=3 then Xap w op a b failed else
 if op=6\/op=7\/op=8\/op=9 then XbD w op a b c else
 if op=12\/op=14\/op=16 then Xct w op a else
 if op=13\/op=15 then XgR w op a else
 if op=17\/op=18 then Xem w op a else
 if op=19\/op=20 then XhU w op a failed else
 if op=4\/op=5\/op=10\/op=11 then Xcu w op a b else 1
def XO {a b:Int} (h:¬ a=b):(a==b)=false:=by simpa using h
def Yh {a b:Int} (h:a=b):(a==b)=true:=by simpa using h
def YX {a b:Int} (h:a=b):(a != b)=false:=by simpa using h
def Zc {a b:Int} (h:¬ a=b):(a != b)=true:=by simpa using h
section
variable {N:Nat} {w:Wy} {k:Nat}
def XnV (hw:WB k w) (hv:Ye w=true) (tw:Xz w) {v:Int} (tv:tU v):tU (Zb w v).1:=by
 have:=QfJ (N:=1000001) tw tv
 exact this _ (K6 (N:=1000001) hw (by omega) hv tv)
def Xds (hw:WB k w) (hv:Ye w=true) (tw:Xz w) {v:Int} (tv:tU v) (h:(XB w v).2=0):1<=(XB w v).1/\(XB w v).1<=w.Things.length/\XB w v=Zb w v:=by
 have h1:=XnV hw hv tw tv
 have h2:=XnU (KA hv) v
 unfold XB at h ⊢
 by_cases hc:(Zb w v).2=0/\(Zb w v).1=0
 ·rw[Wn hc] at h;cases h
 ·rw[Wm hc] at h ⊢
  have h3:(Zb w v).1≠0:=λ e=>hc ⟨h,e⟩
  unfold tU at h1
  exact ⟨by omega,h2,rfl⟩
def KZ (hw:WB k w) {id:Int} (h1:1<=id) (h2:id<=w.Things.length):Xb w.Things (wU (id-1))=some (thg w id)/\thg w id∈w.Things:=by
 have hk:=hw.kk
 have ht:=hw.things
 have e:=Wb (show (id-1).toNat<w.Things.length by omega)
 have e2:thg w id=w.Things[(id-1).toNat]'(by omega):=by unfold thg;rw[Wr,e];rfl
 rw[XC (by omega) (by omega),Yg (by omega) (by omega),e2]
 exact ⟨rfl,WW _⟩
def JG (hl:LBp w.Locals) (hN:1000000<N) (id:Int):Qc0 N w.Locals id=some (K7 w.Locals id):=by
 rw[Qc0,K7]
 by_cases h:id=0
 ·rw[Wn h,h];rfl
 ·rw[Wm h,XO h,Wa,Xak hl hN,Xa]
def XfK {a:WD} (hl:LBp a) (hN:1000000<N) (id:Int):Qc0 N a id=some (K7 a id):=JG (w:=⟨⟨0,0⟩,[],a,zT,zT,[],[]⟩) hl hN id
def XfL (op:Int) {a b:Int} (ta:tU a) (tb:tU b):∃ d,Qcg N op a b=some (d,decide (okW op a b))/\(okW op a b->d=hdW op a b):=by
 unfold tU at ta tb
 have hmask:a<=2147483647->wI (YF .u64 a 2147483647)=a:=λ h=>by
  have:YF .u64 a 2147483647=a % 2147483648:=Zf a 31 (by omega) ta.1 ta.2
  rw[this,Xd (by omega) (by omega)];omega
 rw[Qcg]
 by_cases h1:op=1
 ·rw[Yh h1,We]
  by_cases h2:a<=2147483647
  ·rw[Wj h2,We]
   refine ⟨⟨op,wI (YF .u64 a 2147483647),wW b⟩,?_,λ h=>?_⟩
   ·exact congrArg (λ x=>some (_,x)) (decide_eq_decide.2 ⟨λ h=>⟨h2,λ _=>h⟩,λ h=>h.2 h1⟩)
   ·rw[hmask h2,XoZ (by omega) (by have:=h.2 h1;omega),hdW,Wn h1]
  ·rw[Wk h2,Wa]
   refine ⟨⟨op,wI (YF .u64 a 2147483647),wW b⟩,?_,λ h=>absurd h.1 h2⟩
   rw[Wk (show ¬ okW op a b from λ h=>h2 h.1)]
 ·rw[XO h1,Wa]
  refine ⟨⟨op,wI (YF .u64 a 2147483647),0⟩,?_,λ h=>?_⟩
  ·exact congrArg (λ x=>some (_,x)) (decide_eq_decide.2 ⟨λ h=>⟨h,λ e=>absurd e h1⟩,λ h=>h.1⟩)
  ·rw[hmask h.1,hdW,Wm h1]
def XnW (hN:10<=N) (c:Um) (d:WI):Qc6 N c d=some (Xdq c d):=by
 rw[Qc6,Zg,Xa,Xdq,YB,Xa,Kl hN,Xa]
 cases XD d<;>cases (d.Kind != 0)<;>rfl
def XgS (hw:WB k w) (hN:1000000<N) (op:Int) {a b:Int} (ta:tU a) (tb:tU b) (f:Bool):QfO N w op a b f=some (Xap w op a b f):=by
 have hm:=hw.marks
 obtain ⟨d,hd,hd2⟩:=XfL (N:=N) op ta tb
 rw[QfO,Xap]
 by_cases h0:w.Marks.length>0
 ·rw[Wj (show ((w.Marks.length:Nat):Int)>0 by omega),We,Wn h0]
 rw[Wk (show ¬ ((w.Marks.length:Nat):Int)>0 by omega),Wa,Wm h0,hd,Xa]
 by_cases h1:okW op a b
 ·rw[Wj h1,Ws,Wa,Wm (by simpa using h1),XnW (by omega),Xa,hd2 h1]
  cases hA:Xdq w.Conf (hdW op a b)
  ·rfl
  ·rw[Ws,Wa,Wm (by simp),JG hw.loc hN,Xa]
   by_cases hL:K7 w.Locals 1=0
   ·rw[YX hL,Wa,Wm (by simpa using hL)]
    cases f<;>rfl
   ·rw[Zc hL,We,Wn hL]
 ·rw[Wk h1,WS,We,Wn h1]
def Xi7 (hw:WB k w) (hN:1000000<N) (hv:Ye w=true) (tw:Xz w) (op:Int) {a b c:Int} (ta:tU a) (tb:tU b) (tc:tU c):Qgj N w op a b c=some (XbD w op a b c):=by
 rw[Qgj,Xao hw hN hv ta,Xa,XbD]
 by_cases he:(XB w a).2=0
 rotate_left
 ·rw[Zc he,We,Wn he]
 obtain ⟨i1,i2,_⟩:=Xds hw hv tw ta he
 obtain ⟨g1,g2⟩:=KZ hw i1 i2
 obtain ⟨v1,v2,v3,v4⟩:=(KA hv).thing _ g2
 have vb:=XH v1
 unfold tU at tb
 rw[YX he,Wa,Wm (by simpa using he),g1,Xa,XC (n:=(thg w (XB w a).1).Header.Length) (by omega) (by omega)]
 by_cases h1:b>=(thg w (XB w a).1).Header.Length
 ·rw[Wj h1,We,Wn h1]
 rw[Wk h1,Wa,Wm h1,Xd (n:=b) (by omega) (by omega)]
 have key:∀ x:Bool,x=Xbj op->(bnd (QbN N (thg w (XB w a).1).Header b) λ y4 =>
  bif (!(y4==x)) then some 4
  else bif (op==8) then (bnd (Xb (thg w (XB w a).1).Fields b) λ p5 =>
   bnd (Qc0 N w.Locals p5) λ y6 =>
   some y6)
  else bif (op==9) then (bnd (QaE N w c) λ y7 =>
   some y7.2)
  else some (XB w a).2)=some (if ZK (thg w (XB w a).1).Header b≠Xbj op then 4 else
 if op=8 then K7 w.Locals ((thg w (XB w a).1).Fields.getD b.toNat 0) else if op=9 then (Zb w c).2 else 0):=by
  intro x hx
  subst hx
  rw[JA,Xa]
  by_cases h2:ZK (thg w (XB w a).1).Header b=Xbj op
  ·rw[show (ZK (thg w (XB w a).1).Header b==Xbj op)=true by simpa using h2,Ws,Wa,Wm (by simpa using h2)]
   by_cases h3:op=8
   ·rw[Yh h3,We,Wn h3,Yg (by omega) (by omega),Xa,JG hw.loc hN,Xa,Wr,Wb (by omega)];rfl
   rw[XO h3,Wa,Wm h3]
   by_cases h4:op=9
   ·rw[Yh h4,We,Wn h4,K6 hw hN hv tc,Xa]
   ·rw[XO h4,Wa,Wm h4,he]
  ·rw[show (ZK (thg w (XB w a).1).Header b==Xbj op)=false by simpa using h2,WS,We,Wn h2]
 rw[XN]
 cases h8:(op==8)
 ·have:=key (op==9) (by unfold Xbj;rw[h8,UZ])
  rw[h8] at this
  exact this
 ·have:=key true (by unfold Xbj;rw[h8,IY])
  rw[h8] at this
  exact this
def XgT (hw:WB k w) (hN:1000000<N) (hv:Ye w=true) (op:Int) {a:Int} (ta:tU a):QfP N w op a=some (Xct w op a):=by
 rw[QfP,Xct]
 by_cases h0:a=0
 ·rw[Yh h0,We,Wn h0]
 rw[XO h0,Wa,Wm h0,K6 hw hN hv ta,Xa]
 by_cases h1:(Zb w a).2=0
 rotate_left
 ·rw[Zc h1,We,Wn h1]
 rw[YX h1,Wa,Wm (by simpa using h1),Xle ta,Xa,XN]
 have fin:∀ t:Int,(bif ((KT a).1.Tag != t) then some (4:Int) else some 0)=some (if (KT a).1.Tag≠t then 4 else 0):=by
  intro t
  by_cases h:(KT a).1.Tag=t
  ·rw[YX h,Wa,Wm (by simpa using h)]
  ·rw[Zc h,We,Wn h]
 by_cases h2:op=16
 ·rw[Wn h2,Yh h2,← fin]
  cases (op==14)<;>rfl
 ·rw[Wm h2,XO h2]
  by_cases h3:op=14
  ·rw[Wn h3,Yh h3,We];exact fin 2
  ·rw[Wm h3,XO h3,Wa];exact fin 1
def Xlg (hw:WB k w) (hN:1000000<N) (hv:Ye w=true) (op:Int) {a:Int} (ta:tU a):QgO N w op a=some (XgR w op a):=by
 rw[QgO,Xao hw hN hv ta,Xa,XgR]
 by_cases h1:(XB w a).2=0
 rotate_left
 ·rw[Zc h1,We,Wn h1]
 rw[YX h1,Wa,Wm (by simpa using h1),XN]
 by_cases h2:op=15
 ·rw[Wn h2,Yh h2,We]
  show bnd (Qcs N w.Weaks (XB w a).1) _=_
  rw[KY hw.wea hN,Xa]
 ·rw[Wm h2,XO h2,Wa]
  show bnd (Qcs N w.Globals (XB w a).1) _=_
  rw[KY hw.glo hN,Xa]
def Xi8 (hw:WB k w) (hN:1000000<N) (hv:Ye w=true) (op:Int) {a:Int} (ta:tU a):Qgk N w op a=some (Xem w op a):=by
 rw[Qgk,Xem]
 by_cases h0:op=17
 ·rw[Yh h0,We,Wn h0]
  by_cases h1:a>64
  ·rw[Wj h1,We,Wn h1]
  ·unfold tU at ta
   rw[Wk h1,Wa,Wm h1,Xd (n:=a) (by omega) (by omega),Xal hw.loc hN,Xa]
 rw[XO h0,Wa,Wm h0,K6 hw hN hv ta,Xa]
 by_cases h1:(Zb w a).2=0
 rotate_left
 ·rw[Zc h1,We,Wn h1]
 rw[YX h1,Wa,Wm (by simpa using h1),XbA hw.loc hN,Xa]
 by_cases h2:(ZO w.Locals).2=0
 rotate_left
 ·rw[Zc h2,We,Wn h2]
 rw[YX h2,Wa,Wm (by simpa using h2),XfK (XbB hw.loc) hN,Xa]
def XaX {l:List U7} {id:Int} (h:0<=YE l id):YE l id<l.length/\Xb l (YE l id)=some (Xdr l (YE l id))/\(Xdr l (YE l id)).Id=id:=by
 unfold YE at h ⊢
 cases e:l.findIdx? (λ m=>m.Id==id) with
 | none=>rw[e] at h;simp at h
 | some j =>
  have h2:=List.findIdx?_eq_some_iff_getElem.1 e
  obtain ⟨hj,hp,_⟩:=h2
  simp only
  refine ⟨by omega,?_,?_⟩
  ·rw[Xc,Xdr,Wr,U5,Wb hj];rfl
  ·rw[Xdr,Wr,U5,Wb hj]
   simpa using hp
def Xi9 (hw:WB k w) (hN:1000000<N) (hv:Ye w=true) (op:Int) {a:Int} (ta:tU a) (f:Bool):Qg7 N w op a f=some (XhU w op a f):=by
 have hm:=hw.marks
 rw[Qg7,Xao hw hN hv ta,Xa,XhU]
 by_cases h1:(XB w a).2=0
 rotate_left
 ·rw[Zc h1,We,Wn h1]
 rw[YX h1,Wa,Wm (by simpa using h1),Xel (by omega) hN,Xa]
 by_cases h2:op=20
 ·rw[Yh h2,We,Wn h2]
  by_cases h3:YE w.Marks (XB w a).1<0
  ·rw[Wj h3,We,Wn h3]
  ·rw[Wk h3,Wa,Wm h3]
 rw[XO h2,Wa,Wm h2]
 by_cases h3:0<=YE w.Marks (XB w a).1
 ·obtain ⟨m1,m2,m3⟩:=XaX h3
  rw[Wj (show YE w.Marks (XB w a).1>=0 from h3),We,m2,Xa,Wk (show ¬ YE w.Marks (XB w a).1<0 by omega),Wa]
  rw[Wm (show ¬ (YE w.Marks (XB w a).1<0/\w.Marks.length=64) by omega)]
  by_cases h4:(Xdr w.Marks (YE w.Marks (XB w a).1)).Count=1000
  ·rw[Yh h4,We,Wn ⟨h3,h4⟩]
  ·rw[XO h4,Wa,Wm (λ h=>h4 h.2)]
   cases f<;>rfl
 ·rw[Wk (show ¬ YE w.Marks (XB w a).1>=0 from h3),Wa,Wj (show YE w.Marks (XB w a).1<0 by omega),We,Wm (λ h=>h3 h.1)]
  by_cases h4:w.Marks.length=64
  ·rw[h4,Wn ⟨by omega,rfl⟩];rfl
  ·rw[XO (show ¬ ((w.Marks.length:Nat):Int)=64 by omega),Wa,Wm (λ h=>h4 h.2)]
   cases f<;>rfl
def Xlh (hw:WB k w) (hN:1000000<N) (hv:Ye w=true) (op:Int) {a b:Int} (ta:tU a) (tb:tU b):QgP N w op a b=some (Xcu w op a b):=by
 rw[QgP,Xcu,XN,Xao hw hN hv ta,Xa]
 by_cases h4:op=4
 ·rw[Yh h4,We,Wn (.inl h4)]
 rw[XO h4,Wa]
 by_cases h5:op=5
 ·rw[Yh h5,We,Wn (.inr h5)]
 rw[XO h5,Wa,Wm (by omega),K6 hw hN hv ta,Xa]
 by_cases h1:(Zb w a).2=0
 rotate_left
 ·rw[Zc h1,We,Wn h1]
 rw[YX h1,Wa,Wm (by simpa using h1)]
 by_cases h10:op=10
 ·rw[Yh h10,We,Wn h10,K6 hw hN hv tb,Xa]
 ·rw[XO h10,Wa,Wm h10,JG hw.loc hN,Xa]
end
def Xo4 {β:Type} (K:Bool->β) (c1 c2:Bool):(jn K λ j=>bif c1 then j true else j c2)=K (c1||c2):=by
 rw[XN];cases c1<;>rfl
def b2 (op a b:Int):(op==a||op==b)=decide (op=a\/op=b):=by rw[Bool.decide_or];rfl
def bd (op a:Int) (p:Prop) [Decidable p]:(op==a||decide p)=decide (op=a\/p):=by rw[Bool.decide_or];rfl
def Xq7 {β:Type} {p:Prop} [Decidable p] (x y:β):(bif decide p then x else y)=if p then x else y:=by
 by_cases h:p
 ·rw[Wj h,Wn h];rfl
 ·rw[Wk h,Wm h];rfl
def XnX {β:Type} (o:Option β):(bnd o λ y=>some y)=o:=by
 cases o
 ·exact Xb3 _
 ·exact Xa _ _
def XnY {β:Type} {p:Prop} [Decidable p] (x y:β):(if p then some x else some y)=some (if p then x else y):=by split<;>rfl
section
variable {N:Nat} {w:Wy} {k:Nat}
def XpQ (hw:WB k w) (hN:1000000<N) (tw:Xz w) (op:Int) {a b c:Int} (ta:tU a) (tb:tU b) (tc:tU c) (f:Bool):QfQ N w op a b c f=some (Xlf w op a b c f):=by
 rw[QfQ,Xan hw hN,Xa,Xlf]
 cases hv:Ye w
 ·rfl
 rw[Ws,Wa,Wm (by simp)]
 simp only[Xo4,XnX,XgS hw hN op ta tb f,Xi7 hw hN hv tw op ta tb tc,XgT hw hN hv op ta,Xlg hw hN hv op ta,Xi8 hw hN hv op ta,Xi9 hw hN hv op ta f,Xlh hw hN hv op ta tb,b2,bd,Xq7,XnY]
end
def XaY (d:WI):∀ (k:Nat) (l:List Int),∀ r∈KK d k l,r∈l
 | k,[],r,h=>by simp[KK] at h
 | k,f::fs,r,h=>by
  unfold KK at h
  split at h
  ·rcases UQ.1 h with h | h
   ·exact h▸IX
   ·exact W4 _ (XaY d (k+1) fs r h)
  ·exact W4 _ (XaY d (k+1) fs r h)
def zWo:Wy:=⟨⟨0,0⟩,[],zL,zT,zT,[],[]⟩
def Xli {k:Nat} (hk:k<=900):WB k zWo:=⟨hk,by simp[zWo],λ x hx=>by simp[zWo] at hx,Zt,by simp[zWo,zT],by simp[zWo,zT],by simp[zWo],by simp[zWo]⟩
section
variable {N:Nat} {w:Wy} {k:Nat}
def Xcv (hm:w.Marks.length<=1000):∀ (n:Nat) (i:Int) (v:List Int),0<=i->i<=w.Marks.length->(w.Marks.length-i).toNat<n->v.length<=100000+i->(∀ x∈v,0<=x/\x<=w.Things.length)->(∀ m∈w.Marks,0<=m.Id/\m.Id<=w.Things.length)->Ok (QdZ N w n i v) λ r=>r.length<=v.length+(w.Marks.length-i)/\∀ x∈r,0<=x/\x<=w.Things.length
 | 0,i,v,_,_,hn,_,_,_=>by omega
 | n+1,i,v,h0,hi,hn,hv,hx,hmm=>by
  rw[QdZ]
  refine Wo (λ hc=>?_) λ hc=>Wh ⟨by omega,hx⟩
  have hc:i<w.Marks.length:=Wq hc
  rw[Xd (n:=i+1) (by omega) (by omega)]
  refine Ok.get h0 hc λ p hp=>WY (by omega) ?_
  have hpm:=Yo hp
  refine (Xcv hm n (i+1) _ (by omega) (by omega) (by omega) (by rw[Wp];simp;omega) (λ x hx'=>?_) hmm).mono λ r hr=>⟨?_,hr.2⟩
  ·rcases WK.1 hx' with h | h
   ·exact hx x h
   ·rw[UT.1 h];exact hmm p hpm
  ·have:=hr.1
   rw[Wp] at this
   simp at this
   omega
def XgU (hN:NB N) (hw:WB k w) (hv:Ye w=true) (tw:Xz w):Ok (Qgi N w) λ r=>r.length<=10000/\∀ x∈r,0<=x/\x<=w.Things.length:=by
 have hN':=hN
 unfold NB at hN'
 have hr:=hw.roots
 have hm:=hw.marks
 have wf:=KA hv
 obtain ⟨t1,t2,t3,t4,t5,t6⟩:=tw
 have l1:=Xcs wf.loc
 have l2:=Jn wf.glo
 rw[Qgi]
 refine WY (by omega) ?_
 rw[Zs hw.loc (by omega),Xa,wf.loc,We]
 refine WY (by omega) ?_
 rw[X8 hw.glo (by omega),Xa,wf.glo,We]
 refine WY (by omega) (WN (Xcv hm N 0 _ (by omega) (by omega) (by omega) (by simp only[Wp];omega) (λ x hx=>?_) λ m hmm=>?_) λ r _ h=>Wh ⟨?_,h.2⟩)
 ·simp only[WK] at hx
  rcases hx with (h | h) | h
  ·exact ⟨(t6 x h).1,wf.roots x h⟩
  ·refine ⟨?_,wf.rloc x h⟩
   unfold XX at h
   obtain ⟨p,hp,rfl⟩:=UH.1 h
   exact (t2 p (UJ.1 hp).1).1
  ·refine ⟨?_,wf.rglo x h⟩
   unfold XA at h
   obtain ⟨p,hp,rfl⟩:=UH.1 h
   exact (t3 p (UJ.1 hp).1).1
 ·obtain ⟨i,hi,e⟩:=WU hmm
  have:=wf.mk_ (k:=i) (m:=m) (by rw[Wb hi,e])
  omega
 ·have:=h.1
  simp only[Wp] at this
  omega
def Xaq (hN:NB N) (hw:WB k w) (hv:Ye w=true) (tw:Xz w) (M:Nat) (hM:M<=2000000):∀ (n:Nat) (i:Int) (v:List Bool) (q:List Int),0<=i->i<=q.length->(M-i).toNat<n->v.length=w.Things.length->(∀ x∈q,0<=x/\x<=w.Things.length)->q.length+1000*v.countP (λ b=>!b)<=M->Ok (Qb3 N w n i v q) λ r=>r.length=w.Things.length
 | 0,i,v,q,_,_,hn,_,_,_=>by omega
 | n+1,i,v,q,h0,hi,hn,hl,hq,hm=>by
  have hN':=hN
  unfold NB at hN'
  have hk:=hw.kk
  have ht:=hw.things
  rw[Qb3]
  refine WY (by omega) (Wo (λ hc=>?_) λ _=>Wh hl)
  have hc:i<q.length:=Wq hc
  rw[Xd (n:=i+1) (by omega) (by omega)]
  refine Ok.get h0 hc λ p hp=>?_
  have same:∀ p',Xb q i=some p'->p'=p:=λ p' h=>Ug (h.symm.trans hp)
  have hpq:=hq p (Yo hp)
  refine Wo (λ _=>Xaq hN hw hv tw M hM n (i+1) v q (by omega) (by omega) (by omega) hl hq hm) λ hz=>?_
  have hz:¬ p=0:=by simpa using hz
  refine Ok.get h0 hc λ p2 hp2=>?_
  obtain rfl:=same p2 hp2
  rw[XC (n:=p2-1) (by omega) (by omega)]
  refine Ok.get (by omega) (by omega) λ b hb=>Wo (λ _=>Xaq hN hw hv tw M hM n (i+1) v q (by omega) (by omega) (by omega) hl hq hm) λ hbf=>?_
  refine Ok.get h0 hc λ p3 hp3=>?_
  obtain rfl:=same p3 hp3
  rw[XC (n:=p3-1) (by omega) (by omega)]
  refine Ok.get (by omega) (by omega) λ _ _=>Ok.get h0 hc λ p4 hp4=>?_
  obtain rfl:=same p4 hp4
  obtain ⟨g1,g2⟩:=KZ hw (id:=p4) (by omega) (by omega)
  have hf:=hw.fields _ g2
  obtain ⟨v1,v2,v3,v4⟩:=(KA hv).thing _ g2
  have hrl:=XaW (thg w p4).Header 0 (thg w p4).Fields
  have hrl:(Xam (thg w p4)).length<=1000:=by unfold Xam;omega
  rw[g1,Xa,XfJ (by omega) (by omega),Xa]
  have hlt:(p4-1).toNat<v.length:=by omega
  have hbv:v[(p4-1).toNat]=false:=by
   rw[Yg (by omega) (by omega)] at hb
   rw[Ug hb];exact hbf
  have hcount:(v.set (p4-1).toNat true).countP (λ b=>!b)+1<=v.countP (λ b=>!b):=by
   have hpos:0<v.countP (λ b=>!b):=List.countP_pos_iff.2 ⟨v[(p4-1).toNat],WW _,by rw[hbv];rfl⟩
   rw[List.countP_set hlt,hbv]
   simp
   omega
  refine WY (by omega) (Xaq hN hw hv tw M hM n (i+1) _ _ (by omega) (by rw[Wp];omega) (by omega) (by rw[Wx];exact hl) (λ x hx=>?_) (by rw[Wp];omega))
  rcases WK.1 hx with h | h
  ·exact hq x h
  ·refine ⟨?_,v4 x h⟩
   exact ((tw.1 _ g2).2 x (XaY _ _ _ x h)).1
def XgV (hN:NB N) (hw:WB k w) (hv:Ye w=true) (tw:Xz w):Ok (QfN N w) λ r=>r.length=w.Things.length:=by
 have hN':=hN
 unfold NB at hN'
 have hk:=hw.kk
 have ht:=hw.things
 rw[QfN,Xan hw (by omega),Xa,hv,Ws,Wa]
 refine WY (by omega) (WN (XgU hN hw hv tw) λ y _ hy=>WN (Xaq hN hw hv tw 1100000 (by omega) N 0 _ y (by omega) (by omega) (by omega) (by rw[WO];omega) hy.2 ?_) λ r _ hr=>Wh hr)
 have:(List.replicate (((w.Things.length:Nat):Int)).toNat false).countP (λ b=>!b)<=1000:=by
  refine UB List.countP_le_length ?_
  rw[WO];omega
 have:=hy.1
 omega
def Xen (y:List Bool) (hy:y.length=w.Things.length) (hw:WB k w):∀ (n:Nat) (i:Int) (v:List Int),0<=i->i<=v.length->(v.length-i).toNat<n->v.length<=1000->(∀ x∈v,0<=x/\x<=w.Things.length)->Ok (QaQ N w y n i v) λ r=>r.length=v.length
 | 0,i,v,_,_,hn,_,_=>by omega
 | n+1,i,v,h0,hi,hn,hl,hx=>by
  have hk:=hw.kk
  have ht:=hw.things
  rw[QaQ]
  refine WY (by omega) (Wo (λ hc=>?_) λ _=>Wh rfl)
  have hc:i<v.length:=Wq hc
  rw[Xd (n:=i+1) (by omega) (by omega)]
  have next:=Xen y hy hw n (i+1) v (by omega) (by omega) (by omega) hl hx
  refine Ok.get h0 hc λ p hp=>Wo (λ hz=>Ok.get h0 hc λ p2 hp2=>?_) λ _=>next
  obtain rfl:p=p2:=Ug (hp.symm.trans hp2)
  have hpq:=hx p (Yo hp)
  have hz:¬ p=0:=by simpa using hz
  rw[XC (n:=p-1) (by omega) (by omega)]
  refine Ok.get (by omega) (by omega) λ _ _=>Wo (λ _=>Ok.get h0 hc λ _ _=>?_) λ _=>next
  refine (Xen y hy hw n (i+1) _ (by omega) (by rw[Wx];omega) (by rw[Wx];omega) (by rw[Wx];exact hl) λ x hx'=>?_).mono λ r hr=>by rw[hr,Wx]
  rcases UK hx' with h | h
  ·exact hx x h
  ·rw[h];omega
def Xbk (hN:NB N) (hw:WB k w) (tw:Xz w):Ok (Qdl N w) λ r=>WB k r.1:=by
 have hN':=hN
 unfold NB at hN'
 rw[Qdl,Xan hw (by omega),Xa]
 refine Wo (λ _=>Wh (Xli hw.kk)) λ hv=>?_
 have hv:Ye w=true:=by simpa using hv
 have wf:=KA hv
 have l3:=Jn wf.wea
 refine WN (XgV hN hw hv tw) λ y _ hy=>?_
 rw[X8 hw.wea (by omega),Xa,wf.wea,We]
 refine WN (Xen y hy hw N 0 _ (by omega) (by omega) (by omega) (by omega) λ x hx=>⟨?_,wf.rwea x hx⟩) λ z _ hz=>WN (Xdn hw.wea (by omega) (by omega)) λ t _ ht=>Wh ⟨hw.kk,hw.things,hw.fields,hw.loc,hw.gloK,UB ht hw.weaK,hw.marksK,hw.rootsK⟩
 unfold XA at hx
 obtain ⟨p,hp,rfl⟩:=UH.1 hx
 exact (tw.2.2.2.1 p (UJ.1 hp).1).1
end
def ON {β κ:Type} {P:β->Prop} {k:κ->Option β} {f:(κ->Option β)->Option β} (Q:κ->Prop) (h:∀ x,Q x->Ok (k x) P) (g:∀ j:κ->Option β,(∀ x,Q x->Ok (j x) P)->Ok (f j) P):Ok (Sx.jn k f) P:=by rw[XN];exact g k h
section
variable {N:Nat} {w:Wy} {k:Nat}
def Vu (hw:WB k w) (hN:1000000<N) (id:Int):Ok (Qcy N w id) λ r=>WB k r.1:=by
 rw[Qcy]
 refine Uh (Wh hw) ?_
 rw[Xak hw.loc hN,Xa]
 exact Ue (Zj _) λ y _=>Wh ⟨hw.kk,hw.things,hw.fields,XhL hw.loc id,hw.gloK,hw.weaK,hw.marksK,hw.rootsK⟩
def XhV (hw:WB k w) {id i v:Int} (h1:1<=id) (h2:id<=w.Things.length) (i0:0<=i) (i1:i<(thg w id).Fields.length):Ok (Qfy N w id i v) λ r=>WB k r:=by
 have hk:=hw.kk
 have ht:=hw.things
 obtain ⟨g1,g2⟩:=KZ hw h1 h2
 have hf:=hw.fields _ g2
 rw[Qfy,Xf (by omega),g1,Xa,Xf (by omega)]
 refine Ok.get i0 (by omega) λ _ _=>?_
 rw[Xa]
 refine Wh ⟨hw.kk,?_,λ x hx=>?_,hw.loc,hw.gloK,hw.weaK,hw.marksK,hw.rootsK⟩
 ·show (w.Things.set _ _).length<=_;rw[Wx];exact ht
 ·have hx:x∈w.Things.set _ _:=hx
  rcases UK hx with h | h
  ·exact hw.fields x h
  ·rw[h];show ((thg w id).Fields.set _ _).length<=_;rw[Wx];exact hf
def XfM (hw:WB k w) (hN:1000000<N) (op id:Int):Ok (Qd5 N w op id) λ r=>WB k r.1:=by
 rw[Qd5]
 refine IB (Uh ?_ ?_)
 ·rw[KY hw.wea hN,Xa]
  exact Ue (Zj _) λ y _=>Wh ⟨hw.kk,hw.things,hw.fields,hw.loc,hw.gloK,Xck hw.weaK id,hw.marksK,hw.rootsK⟩
 ·rw[KY hw.glo hN,Xa]
  exact Ue (Zj _) λ y _=>Wh ⟨hw.kk,hw.things,hw.fields,hw.loc,Xck hw.gloK id,hw.weaK,hw.marksK,hw.rootsK⟩
def XgW (hw:WB k w) (hN:1000000<N) (v:Int):Ok (QeF N w v) λ r=>WB k r:=by
 rw[QeF]
 refine Ue (XaV _) λ y _=>Uh ?_ (Uh ?_ ?_)
 ·rw[Xej hw.loc hN,Xa];exact Wh ⟨hw.kk,hw.things,hw.fields,XhM hw.loc _ _,hw.gloK,hw.weaK,hw.marksK,hw.rootsK⟩
 ·rw[Vr hw.glo hN,Xa];exact Wh ⟨hw.kk,hw.things,hw.fields,hw.loc,XfC hw.gloK _ _,hw.weaK,hw.marksK,hw.rootsK⟩
 ·rw[Vr hw.wea hN,Xa];exact Wh ⟨hw.kk,hw.things,hw.fields,hw.loc,hw.gloK,XfC hw.weaK _ _,hw.marksK,hw.rootsK⟩
def Xlj (hw:WB k w) (hN:1000000<N) (h64:w.Marks.length<=64) (op id b:Int) (h20:op=20->0<=YE w.Marks id):Ok (QfG N w op id b) λ r=>WB k r.1:=by
 have setM:∀ l:List U7,l.length<=100+k->WB k ⟨w.Conf,w.Things,w.Locals,w.Globals,w.Weaks,l,w.Roots⟩:=λ l hl=>⟨hw.kk,hw.things,hw.fields,hw.loc,hw.gloK,hw.weaK,hl,hw.rootsK⟩
 rw[QfG,Qg8,Xel (by omega) hN,Xa,Xa]
 refine WY (by omega) (Wo (λ h=>?_) λ _=>Wo (λ h=>?_) λ h=>WY (by omega) (Wh (setM _ (by rw[Wp];simp;omega))))
 ·have h:=h20 (by simpa using h)
  obtain ⟨m1,_,_⟩:=XaX h
  refine Ok.get h m1 λ _ _=>Ok.get h m1 λ _ _=>Ok.get h (by rw[Wx];exact m1) λ _ _=>Wo (λ _=>?_) λ _=>Wh (setM _ (by rw[Wx];omega))
  have e:=Xd (n:=YE w.Marks id+1) (by omega) (by omega)
  refine WY (by omega) (WY (by rw[e];omega) (WY (by rw[e];omega) (Wh (setM _ ?_))))
  simp only[WC,Wp,Wx,WR];omega
 ·have h:0<=YE w.Marks id:=Wq h
  obtain ⟨m1,_,_⟩:=XaX h
  exact Ok.get h m1 λ _ _=>Ok.get h m1 λ _ _=>Ok.get h (by rw[Wx];exact m1) λ _ _=>Wh (setM _ (by rw[Wx];omega))
def WB.up (hw:WB k w) (hk:k+1<=900):WB (k+1) w:=⟨hk,by have:=hw.things;omega,hw.fields,hw.loc,by have:=hw.gloK;omega,by have:=hw.weaK;omega,by have:=hw.marksK;omega,by have:=hw.rootsK;omega⟩
def Xlk (hN:NB N) (hw:WB k w) (hk:k+1<=900) (tw:Xz w) (op:Int) {a b c:Int} (ta:tU a) (tb:tU b) (tc:tU c) (ft:Oq):Ok (QfH N w op a b c ft) λ r=>WB (k+1) r.1:=by
 have hN':=hN
 unfold NB at hN'
 have hN1:1000000<N:=by omega
 have zero:WB (k+1) zWo:=Xli hk
 rw[QfH,XpQ hw hN1 tw op ta tb tc,Xa]
 refine Wo (λ _=>Wh zero) λ hz=>?_
 have hz:Xlf w op a b c ft.Failed=0:=by simpa using hz
 have hv:Ye w=true:=by
  cases h:Ye w
  ·unfold Xlf at hz;rw[h] at hz;cases hz
  ·rfl
 have wf:=KA hv
 unfold Xlf at hz
 rw[hv,Wm (by simp)] at hz
 have thing:(XB w a).2=0->1<=(Zb w a).1/\(Zb w a).1<=w.Things.length/\XB w a=Zb w a:=λ h=>by
  obtain ⟨t1,t2,t3⟩:=Xds hw hv tw ta h
  rw[t3] at t1 t2
  exact ⟨t1,t2,t3⟩
 refine ON (λ x=>¬ (op<=3\/op=17)->x=(Zb w a).1) (λ x3 hx3=>?_) λ j1 h1=>?_
 rotate_left
 ·refine Wo (λ hg=>Wo (λ h17=>?_) λ h17=>h1 _ λ h=>absurd (Or.inr (by simpa using h17)) h) λ hg=>h1 _ λ h=>absurd (Or.inl (by have:=WG hg;omega)) h
  rw[K6 hw hN1 hv ta,Xa]
  exact h1 _ λ _=>rfl
 simp only[Xo4]
 refine Wo (λ hc=>?_) λ hc=>?_
 ·
  have hc:op=1\/op=2\/op=3:=by simpa using hc
  rw[Wn hc] at hz
  obtain ⟨d,hd,hd2⟩:=XfL (N:=N) op ta tb
  have hfac:okW op a b/\Xdq w.Conf (hdW op a b)=true:=by
   unfold Xap at hz
   split at hz
   ·cases hz
   split at hz
   ·cases hz
   rename_i _ h2
   split at hz
   ·cases hz
   rename_i h3
   exact ⟨Classical.not_not.1 h2,by simpa using h3⟩
  have hdd:=hd2 hfac.1
  have hvd:XD d=true:=by
   have:=hfac.2
   unfold Xdq at this
   rw[Ww] at this
   rw[hdd];exact this.1
  have hb:=XH hvd
  have main:∀ w':Wy,WB k w'->Ok (α:=Wy×Int×Int) (bnd (Qcg N op a b) λ y17 =>
   grd (w'.Things.length*48<=140737488355328) <|
   grd (0<=y17.1.Length/\y17.1.Length.toNat*8<=140737488355328) <|
   grd ((w'.Things.length+1)*48<=140737488355328) <|
   grd ((w'.Things.length+1)<=140737488355328) <|
   bnd (Qcy N (Wy.mk (Um.mk w'.Conf.PageWords w'.Conf.Pages) (w'.Things++[(UL.mk y17.1 (List.replicate y17.1.Length.toNat 0))]) (WD.mk w'.Locals.Slots w'.Locals.Scopes w'.Locals.Issued) (WT.mk w'.Globals.Entries) (WT.mk w'.Weaks.Entries) w'.Marks w'.Roots) (wU (((w'.Things.length+1):Nat):Int))) λ y18 =>
   some (y18.1,y18.2,0)) λ r=>WB (k+1) r.1:=by
   intro w' hw'
   have ht:=hw'.things
   rw[hd,Xa]
   refine WY (by omega) (WY (by constructor<;>simp only<;>omega) (WY (by omega) (WY (by omega) (Ue (Vu (k:=k+1) (w:=⟨w'.Conf,w'.Things++[⟨d,List.replicate d.Length.toNat 0⟩],w'.Locals,w'.Globals,w'.Weaks,w'.Marks,w'.Roots⟩) ⟨hk,?_,λ x hx=>?_,hw'.loc,IM hw'.gloK,IM hw'.weaK,IM hw'.marksK,IM hw'.rootsK⟩ hN1 _) λ y hy=>Wh hy))))
   ·show (w'.Things++[_]).length<=_;rw[Wp];simp;omega
   ·rcases WK.1 hx with h | h
    ·exact hw'.fields x h
    ·rw[UT.1 h];show (List.replicate _ _).length<=_;rw[WO];omega
  refine IB (Wo (λ _=>WN (Xbk hN hw tw) λ y _ hy=>?_) λ _=>?_)
  ·exact main y.1 hy
  ·exact main w hw
 have hn1:¬ (op=1\/op=2\/op=3):=by simpa using hc
 rw[Wm hn1] at hz
 have sw:∀ v e:Int,Ok (α:=Wy×Int×Int) (some (w,v,e)) λ r=>WB (k+1) r.1:=λ v e=>Wh (hw.up hk)
 have up:∀ {w':Wy},WB k w'->WB (k+1) w':=λ h=>WB.up h hk
 have pl:(op=4\/op=5\/op=10\/op=11)->Xcu w op a b=0:=λ h=>by
  rw[Wm (by omega),Wm (by omega),Wm (by omega),Wm (by omega),Wm (by omega),Wn h] at hz
  exact hz
 have len:(op=4\/op=5)->1<=x3/\x3<=w.Things.length:=λ h=>by
  have h1:=pl (by omega)
  unfold Xcu at h1
  rw[Wn h] at h1
  have:=thing h1
  rw[hx3 (by omega)]
  exact ⟨this.1,this.2.1⟩
 have fld:(op=6\/op=7\/op=8\/op=9)->(1<=x3/\x3<=w.Things.length)/\b<(thg w x3).Fields.length/\wI b=b:=λ h=>by
  rw[Wn h] at hz
  unfold XbD at hz
  by_cases h1:(XB w a).2=0
  rotate_left
  ·rw[Wn h1] at hz;exact absurd hz h1
  rw[Wm (by simpa using h1)] at hz
  obtain ⟨t1,t2,t3⟩:=thing h1
  have e:x3=(Zb w a).1:=hx3 (by omega)
  rw[t3,← e] at hz
  rw[← e] at t1 t2
  obtain ⟨g1,g2⟩:=KZ hw t1 t2
  obtain ⟨v1,v2,v3,v4⟩:=wf.thing _ g2
  have vb:=XH v1
  by_cases h2:b>=(thg w x3).Header.Length
  ·rw[Wn h2] at hz;cases hz
  have:=tb.1
  exact ⟨⟨t1,t2⟩,by omega,Xd (by omega) (by omega)⟩
 refine Wo (λ h4=>?_) λ n4=>Wo (λ h5=>?_) λ n5=>Wo (λ h6=>?_) λ n6=>Wo (λ h7=>?_) λ n7=>Wo (λ h8=>?_) λ n8=>Wo (λ h9=>?_) λ n9=>Wo (λ h10=>?_) λ n10=>Wo (λ h11=>?_) λ n11=>?_
 ·have h4:op=4:=by simpa using h4
  have:=len (.inl h4)
  rw[(KZ hw this.1 this.2).1,Xa];exact sw _ _
 ·have h5:op=5:=by simpa using h5
  have:=len (.inr h5)
  rw[(KZ hw this.1 this.2).1,Xa];exact sw _ _
 ·have h6:op=6:=by simpa using h6
  obtain ⟨f1,f2,f3⟩:=fld (by omega)
  rw[(KZ hw f1.1 f1.2).1,Xa]
  exact Ok.get tb.1 f2 λ _ _=>sw _ _
 ·have h7:op=7:=by simpa using h7
  obtain ⟨f1,f2,f3⟩:=fld (by omega)
  rw[f3]
  exact Ue (XhV hw f1.1 f1.2 tb.1 f2) λ y hy=>Wh (up hy)
 ·have h8:op=8:=by simpa using h8
  obtain ⟨f1,f2,f3⟩:=fld (by omega)
  rw[(KZ hw f1.1 f1.2).1,Xa]
  exact Ok.get tb.1 f2 λ _ _=>Ue (Vu hw hN1 _) λ y hy=>Wh (up hy)
 ·have h9:op=9:=by simpa using h9
  obtain ⟨f1,f2,f3⟩:=fld (by omega)
  rw[K6 hw hN1 hv tc,Xa,f3]
  exact Ue (XhV hw f1.1 f1.2 tb.1 f2) λ y hy=>Wh (up hy)
 ·rw[K6 hw hN1 hv tb,Xa]
  exact Uh (sw _ _) (sw _ _)
 ·exact Ue (Vu hw hN1 _) λ y hy=>Wh (up hy)
 have n4:¬ op=4:=by simpa using n4
 have n5:¬ op=5:=by simpa using n5
 have n6:¬ op=6:=by simpa using n6
 have n7:¬ op=7:=by simpa using n7
 have n8:¬ op=8:=by simpa using n8
 have n9:¬ op=9:=by simpa using n9
 have n10:¬ op=10:=by simpa using n10
 have n11:¬ op=11:=by simpa using n11
 refine Wo (λ _=>Ue (XfM hw hN1 _ _) λ y hy=>Wh (up hy)) λ nl=>?_
 have nl:¬ (op=13\/op=15):=by simpa using nl
 refine Wo (λ _=>Ue (XgW hw hN1 _) λ y hy=>Wh (up hy)) λ nr=>?_
 have nr:¬ (op=12\/op=14\/op=16):=by simpa using nr
 refine Wo (λ _=>?_) λ n17=>Wo (λ _=>?_) λ n18=>?_
 ·rw[Xal hw.loc hN1,Xa]
  exact Wh (up ⟨hw.kk,hw.things,hw.fields,XfA hw.loc _,hw.gloK,hw.weaK,hw.marksK,hw.rootsK⟩)
 ·rw[XbA hw.loc hN1,Xa]
  exact Ue (Vu (w:=⟨w.Conf,w.Things,(ZO w.Locals).1,w.Globals,w.Weaks,w.Marks,w.Roots⟩) ⟨hw.kk,hw.things,hw.fields,XbB hw.loc,hw.gloK,hw.weaK,hw.marksK,hw.rootsK⟩ hN1 _) λ y hy=>Wh (up hy)
 have n17:¬ op=17:=by simpa using n17
 have n18:¬ op=18:=by simpa using n18
 rw[Wm (by omega),Wm (by omega),Wm (by omega),Wm (by omega)] at hz
 refine Ue (Xlj hw hN1 wf.m64 op x3 _ λ h20=>?_) λ y hy=>Wh (up hy)
 rw[Wn (.inr h20)] at hz
 unfold XhU at hz
 by_cases h1:(XB w a).2=0
 rotate_left
 ·rw[Wn h1] at hz;exact absurd hz h1
 rw[Wm (by simpa using h1),Wn h20,(thing h1).2.2,← hx3 (by omega)] at hz
 by_cases h2:YE w.Marks x3<0
 ·rw[Wn h2] at hz;cases hz
 ·omega
end
section
variable {N:Nat}
def XnZ {t:UV} {m:Int} (h0:0<=t.at_) (h1:t.at_<=m) (hm:m<=1000000) {a:Int} (ha:a<=1000000000):Ok (Qaa N t a) λ r=>0<=r.1/\(1<=a->r.1<a)/\0<=r.2.at_/\r.2.at_<=m+1:=by
 rw[Qaa]
 refine Wo (λ _=>Wh ⟨by simp,λ h=>by omega,h0,by simp only;omega⟩) λ hg=>?_
 have hg:=WG hg
 have rest:∀ x:Int,Ok (grd (a≠0) <| grd (a≠0) <| some (((wI ((x.tmod a)+a)).tmod a),(UV.mk t.L (wI (t.at_+1))))) λ r=>0<=r.1/\(1<=a->r.1<a)/\0<=r.2.at_/\r.2.at_<=m+1:=by
  intro x
  have b1:=Int.tmod_lt_of_pos x (show 0<a by omega)
  have b2 : -a<x.tmod a:=by
   have:=Int.tmod_lt_of_pos (-x) (show 0<a by omega)
   rw[Int.neg_tmod] at this
   omega
  have e:=Xd (n:=x.tmod a+a) (by omega) (by omega)
  have e2:=Xd (n:=t.at_+1) (by omega) (by omega)
  have c1:=Int.tmod_lt_of_pos (x.tmod a+a) (show 0<a by omega)
  have c2:=Int.tmod_nonneg a (show 0<=x.tmod a+a by omega)
  refine WY (by omega) (WY (by omega) (Wh ?_))
  simp only[e,e2]
  exact ⟨c2,λ _=>c1,by omega,by omega⟩
 refine IB (Wo (λ h=>Ok.get h0 (Wq h) λ p _=>rest p) λ _=>rest _)
def TA (m:Int) (t:UV):Prop:=0<=t.at_/\t.at_<=m
def nxp {t:UV} {m a:Int} (h:TA m t) (hm:m<=1000000) (ha1:1<=a) (ha:a<=1000000000):Ok (Qaa N t a) λ r=>0<=r.1/\r.1<a/\TA (m+1) r.2:=(XnZ h.1 h.2 hm ha).mono λ r hr=>⟨hr.1,hr.2.1 ha1,hr.2.2⟩
def TA.le {t:UV} {m n:Int} (h:TA m t) (hn:m<=n):TA n t:=⟨h.1,by have:=h.2;omega⟩
def Vv {p:ID} {t:UV} {m:Int} (hw:1<=p.Words.length) (hw2:p.Words.length<=1000) (h:TA m t) (hm:m+5<=1000000):Ok (QbD N p t) λ r=>TA (m+3) r.2:=by
 rw[QbD]
 have k2:∀ (t':UV) (x8:Bool),TA (m+1) t'->Ok (bif x8 then (bnd (Qaa N t' ((p.Words.length:Nat):Int)) λ y9=>bnd (Xb p.Words y9.1) λ p10=>some (p10,y9.2)) else bnd (Qaa N t' (if 6<((p.Words.length:Nat):Int) then 6 else ((p.Words.length:Nat):Int))) λ y11=>bnd (Xb p.Words (wI ((wI (((p.Words.length:Nat):Int)-1))-y11.1))) λ p12=>some (p12,y11.2)) λ r=>TA (m+3) r.2:= by
  intro t' x8 h'
  refine Wo (λ _=>Ue (nxp h' (by omega) (by omega) (by omega)) λ y hy=>Ok.get hy.1 hy.2.1 λ _ _=>Wh (hy.2.2.le (by omega))) λ _=>?_
  refine Ue (nxp h' (by omega) (by split<;>omega) (by split<;>omega)) λ y hy=>?_
  have h1:y.1<((p.Words.length:Nat):Int):=by
   have:=hy.2.1
   split at this<;>omega
  have h0:=hy.1
  rw[Xd (n:=((p.Words.length:Nat):Int)-1) (by omega) (by omega),Xd (n:=((p.Words.length:Nat):Int)-1-y.1) (by omega) (by omega)]
  exact Ok.get (by omega) (by omega) λ _ _=>Wh (hy.2.2.le (by omega))
 refine Ue (nxp h (by omega) (by omega) (by omega)) λ y hy=>Wo (λ _=>Ue (nxp hy.2.2 (by omega) (by omega) (by omega)) λ z hz=>Ok.get hz.1 hz.2.1 λ _ _=>Wh (hz.2.2.le (by omega))) λ _=>Wo (λ _=>?_) λ _=>?_
 ·exact Ue (nxp hy.2.2 (by omega) (by omega) (by omega)) λ z hz=>Ok.get hz.1 hz.2.1 λ _ _=>Ue (nxp hz.2.2 (by omega) (by omega) (by omega)) λ u hu=>Wh (hu.2.2.le (by omega))
 ·refine Oe (λ x8=>k2 _ x8 hy.2.2) λ j2 h2=>Uh (h2 _) (Oe (λ x7=>h2 _) λ j h=>Uh (h _) (h _))
def Xn0 {p:ID} {t:UV} {m:Int} (hw:1<=p.Words.length) (hw2:p.Words.length<=1000) (h:TA m t) (hm:m+30<=1000000):Ok (QcR N p t) λ r=>TA (m+20) r.2:=by
 rw[QcR]
 refine Ue (nxp h (by omega) (by omega) (by omega)) λ y1 h1=>Ok.get h1.1 h1.2.1 λ p2 _=>Wo (λ _=>?_) λ _=>?_
 ·refine Ue (nxp h1.2.2 (by omega) (by omega) (by omega)) λ y3 h3=>?_
  have e:=XC h3.1 (by have:=h3.2.1;omega)
  refine WY (by rw[e];exact h3.1) ?_
  have hs:1<=K4 .i64 1 (wU y3.1)/\K4 .i64 1 (wU y3.1)<=1000:=by
   rw[e]
   have a:=h3.1
   have b:=h3.2.1
   have c:y3.1=0\/y3.1=1\/y3.1=2\/y3.1=3:=by omega
   rcases c with c | c | c | c<;>rw[c]<;>decide
  exact Ue (nxp h3.2.2 (by omega) (by omega) (by omega)) λ y4 h4=>Wh (h4.2.2.le (by omega))
 ·refine Oe (λ x5=>Wo (λ _=>?_) λ _=>Wo (λ _=>?_) λ _=>?_) λ j h=>Uh (h _) (h _)
  ·exact Ue (nxp h1.2.2 (by omega) (by omega) (by omega)) λ y6 h6=>Ue (nxp h6.2.2 (by omega) (by omega) (by omega)) λ y7 h7=>Uh (Ue (nxp h7.2.2 (by omega) (by omega) (by omega)) λ y8 h8=>Wh (h8.2.2.le (by omega))) (Wh (h7.2.2.le (by omega)))
  ·exact Ue (nxp h1.2.2 (by omega) (by omega) (by omega)) λ y9 h9=>Wh (h9.2.2.le (by omega))
  ·refine Ue (Vv hw hw2 h1.2.2 (by omega)) λ y10 h10=>Ue (nxp h10 (by omega) (by omega) (by omega)) λ y11 h11=>Ue (nxp h11.2.2 (by omega) (by omega) (by omega)) λ y12 h12=>?_
   have k:∀ (l:List Int) (at_ c:Int),TA (m+12) ⟨l,at_⟩->Ok (bif (p2==10) then (bnd (QbD N p (UV.mk l at_)) λ y19 =>
    some ((Oo.mk p2 y10.1 y19.1 c),y19.2))
   else some ((Oo.mk p2 y10.1 (wU y11.1) c),(UV.mk l at_))) λ r=>TA (m+20) r.2:=λ l at_ c ht =>
    Uh (Ue (Vv hw hw2 ht (by omega)) λ y hy=>Wh (hy.le (by omega))) (Wh (ht.le (by omega)))
   refine IB (Uh (Ue (Vv hw hw2 h12.2.2 (by omega)) λ y hy=>k _ _ _ (hy.le (by omega))) (Ue (nxp h12.2.2 (by omega) (by omega) (by omega)) λ y13 h13=>Uh (Ue (Vv hw hw2 h13.2.2 (by omega)) λ y hy=>k _ _ _ (hy.le (by omega))) (k _ _ _ (h13.2.2.le (by omega)))))
structure PB (k:Nat) (p:ID):Prop where
 env:EB p.Env
 wor:WB k p.World
 ty:VO p
 w1:1<=p.Words.length
 w2:p.Words.length<=k+1
def XpR (a b:Ud) (op v e:Int):Ok (Qd4 N a b op v e) λ _=>True:=by
 rw[Qd4]
 have k2:∀ x y:Bool,Ok (bif (op==19) then (bif (e==0) then some (Oq.mk x y v)
  else some (Oq.mk x y 0))
  else some (Oq.mk x y 0)) λ _=>True:=λ x y=>Uh (Uh (Wh trivial) (Wh trivial)) (Wh trivial)
 refine Oe (λ x=>Oe (λ y=>k2 x y) λ j h=>Uh (h _) (h _)) λ j h=>Uh (h _) (Uh (h _) (h _))
def Xq8 (hN:NB N) {k:Nat} {p:ID} (hp:PB k p) (hk:k+1<=900) {d:Oo} (td:Xb6 d):Ok (Qb6 N p d) λ r=>PB (k+1) r.1:=by
 have ty:=λ r (e:Qb6 N p d=some r)=>QkM (N:=N) hp.ty td r e
 have main:Ok (Qb6 N p d) λ r=>EB r.1.Env/\WB (k+1) r.1.World/\1<=r.1.Words.length/\r.1.Words.length<=k+1+1:=by
  have w1:=hp.w1
  have w2:=hp.w2
  have up:=hp.wor.up hk
  rw[Qb6]
  refine Wo (λ _=>?_) λ _=>?_
  ·refine Ue (Va hN hp.env) λ y1 h1=>IB (Uh (Ue (Xbk hN hp.wor hp.ty.2.1) λ y2 h2=>Wh ⟨h1,h2.up hk,w1,IM w2⟩) (Wh ⟨hp.env,up,w1,IM w2⟩))
  ·refine WN (Xld hN hp.env _ _ _ _) λ y26 e26 h26=>Ue (XpR _ _ _ _ _) λ y27 _=>Ue (Xlk hN hp.wor hk hp.ty.2.1 d.Op td.1 td.2.1 td.2.2 y27) λ y28 h28=>?_
   have k2:∀ w:Wy,WB (k+1) w->Ok (α:=ID×Int×Int) (bif (y26.2.2==0) then (bif (y26.2.1 != 0) then (grd (p.Words.length*8<=140737488355328) <| grd ((p.Words.length+1)*8<=140737488355328) <| some ((ID.mk y26.1 w (p.Words++[y26.2.1])),y26.2.1,y26.2.2)) else some ((ID.mk y26.1 w p.Words),y26.2.1,y26.2.2)) else some ((ID.mk p.Env w p.Words),y26.2.1,y26.2.2)) λ r=>EB r.1.Env/\WB (k+1) r.1.World/\1<=r.1.Words.length/\r.1.Words.length<=k+1+1:= by
    intro w hw
    refine Uh (Uh (WY (by omega) (WY (by omega) (Wh ⟨h26,hw,?_,?_⟩))) (Wh ⟨h26,hw,w1,by simp only;omega⟩)) (Wh ⟨hp.env,hw,w1,by simp only;omega⟩)
    ·show 1<=(p.Words++[_]).length;rw[Wp];omega
    ·show (p.Words++[_]).length<=_;rw[Wp];simp;omega
   exact IB (Uh (k2 y28.1 h28) (k2 p.World up))
 obtain ⟨r,e,h⟩:=main
 exact ⟨r,e,h.1,h.2.1,(ty r e).1,h.2.2.1,h.2.2.2⟩
end
section
variable {N:Nat}
def Xja {t:UV} {m:Int} (h:TA m t) (hm:m+5<=1000000):Ok (Qdq N t) λ r=>TA (m+2) r.2:=by
 rw[Qdq]
 exact Ue (nxp h (by omega) (by omega) (by omega)) λ y hy=>Ok.get hy.1 hy.2.1 λ _ _=>Ue (nxp hy.2.2 (by omega) (by omega) (by omega)) λ z hz=>Ok.get hz.1 hz.2.1 λ _ _=>Wh (hz.2.2.le (by omega))
def Xll (c:Um):Ok (QeU N c) λ r=>EB r.1:=by
 rw[QeU,Qgf,YC,Xa]
 refine WN (Q:=λ r:Wv×Int=>HB r.1) ?_ λ y _ hy=>Wh ⟨hy,Zt,Xci,Xci,by simp,by simp⟩
 refine Wo (λ _=>Wh ZT) λ hv=>?_
 have hv:XZ c=true:=by simpa using hv
 have hvc:=Xj.1 hv
 have hm:=X5 hv (i:=0) (by omega) (by omega)
 have e:=Xd (n:=c.Pages*c.PageWords) (by omega) (by omega)
 refine WY (by rw[e];omega) (WY (by omega) (Wh ⟨?_,?_⟩))
 ·show (List.replicate _ _).length<=_;rw[WO,e];omega
 ·show (List.replicate _ _).length<=_;rw[WO];omega
def Xlm (c:Um):Ok (Qgg N c) λ r=>WB 0 r.1:=by
 rw[Qgg,YC,Xa]
 have z:∀ c:Um,WB 0 ⟨c,[],zL,zT,zT,[],[]⟩:=λ c=>⟨by omega,by simp,λ x hx=>by simp at hx,Zt,by simp[zT],by simp[zT],by simp,by simp⟩
 exact Uh (Wh (z _)) (Wh (z _))
def Xln {t:UV} {m:Int} (h:TA m t) (hm:m+5<=1000000):Ok (QbF N t) λ r=>PB 0 r.1/\TA (m+3) r.2:=by
 have main:Ok (QbF N t) λ r=>EB r.1.Env/\WB 0 r.1.World/\1<=r.1.Words.length/\r.1.Words.length<=1/\TA (m+3) r.2:=by
  rw[QbF]
  refine Ue (Xja h hm) λ y1 h1=>Ue (Xll _) λ y2 h2=>Ue (Xlm _) λ y3 h3=>Ue (nxp h1 (by omega) (by omega) (by omega)) λ y4 h4=>Wh ⟨⟨h2.heap,⟨h2.loc.1,by simp,h2.loc.2.2⟩,h2.glo,h2.wea,h2.pins,h2.roots⟩,⟨h3.kk,h3.things,h3.fields,⟨h3.loc.1,by simp,h3.loc.2.2⟩,h3.gloK,h3.weaK,h3.marksK,h3.rootsK⟩,by simp,by simp,h4.2.2.le (by omega)⟩
 obtain ⟨r,e,h1,h2,h3,h4,h5⟩:=main
 exact ⟨r,e,⟨h1,h2,QiS r e,h3,h4⟩,h5⟩
def Xlo {k:Nat} {w:Wy} (hw:WB k w) (hk:k+1<=900) {t:UV} (ht:TA 100000 t):Ok (QfI N w t) λ r=>WB (k+1) r.1/\TA 100010 r.2:=by
 have up:=hw.up hk
 have b1:=hw.rootsK
 have b2:=hw.things
 have b3:=hw.marksK
 have b4:=hw.weaK
 rw[QfI]
 refine Ue (nxp ht (by omega) (by omega) (by omega)) λ y1 h1=>Wo (λ _=>?_) λ _=>Wo (λ _=>Wo (λ hg=>?_) λ _=>Wh ⟨up,h1.2.2.le (by omega)⟩) λ _=>Wo (λ _=>?_) λ _=>Wo (λ _=>?_) λ _=>Wo (λ _=>?_) λ _=>Wo (λ hg=>?_) λ _=>Wh ⟨up,h1.2.2.le (by omega)⟩
 ·refine WY (by omega) (Ue (nxp h1.2.2 (by omega) (by omega) (by omega)) λ y2 h2=>WY (by omega) (Wh ⟨⟨hk,up.things,hw.fields,hw.loc,up.gloK,up.weaK,up.marksK,?_⟩,h2.2.2.le (by omega)⟩))
  show (w.Roots++[_]).length<=_;rw[Wp];simp;omega
 ·have hg:0<(w.Things.length:Int):=Wq hg
  refine WY (by omega) (Ue (nxp h1.2.2 (by omega) (by omega) (by omega)) λ y3 h3=>Ue (nxp h3.2.2 (by omega) (by omega) (by omega)) λ y4 h4=>Ok.get h3.1 h3.2.1 λ p hp=>Wh ⟨⟨hk,?_,λ x hx=>?_,hw.loc,up.gloK,up.weaK,up.marksK,up.rootsK⟩,h4.2.2.le (by omega)⟩)
  ·show (w.Things.set _ _).length<=_;rw[Wx];omega
  ·rcases UK hx with h | h
   ·exact hw.fields x h
   ·rw[h];exact hw.fields p (Yo hp)
 ·refine WY (by omega) (Ue (nxp h1.2.2 (by omega) (by omega) (by omega)) λ y2 h2=>Ue (nxp h2.2.2 (by omega) (by omega) (by omega)) λ y3 h3=>Ue (nxp h3.2.2 (by omega) (by omega) (by omega)) λ y4 h4=>WY (by omega) (Wh ⟨⟨hk,up.things,hw.fields,hw.loc,up.gloK,up.weaK,?_,up.rootsK⟩,h4.2.2.le (by omega)⟩))
  show (w.Marks++[_]).length<=_;rw[Wp];simp;omega
 ·refine WY (by omega) (Ue (nxp h1.2.2 (by omega) (by omega) (by omega)) λ y2 h2=>WY (by omega) (Wh ⟨⟨hk,up.things,hw.fields,hw.loc,up.gloK,?_,up.marksK,up.rootsK⟩,h2.2.2.le (by omega)⟩))
  show (w.Weaks.Entries++[_]).length<=_;rw[Wp];simp;omega
 ·exact Ue (nxp h1.2.2 (by omega) (by omega) (by omega)) λ y2 h2=>Wh ⟨⟨hk,up.things,hw.fields,hw.loc,up.gloK,up.weaK,up.marksK,up.rootsK⟩,h2.2.2.le (by omega)⟩
 ·have hg:0<(w.Things.length:Int):=Wq hg
  have e:=Xd (n:=((w.Things.length:Nat):Int)-1) (by omega) (by omega)
  refine WY (by rw[e];omega) (Wh ⟨⟨hk,?_,λ x hx=>hw.fields x (W9 hx),hw.loc,up.gloK,up.weaK,up.marksK,up.rootsK⟩,h1.2.2.le (by omega)⟩)
  show (w.Things.take _).length<=_;rw[WC];omega
def XfN {w:Wy} (hl:w.Things.length<=140737488355328):∀ (n:Nat) (i:Int),0<=i->i<=w.Things.length->(w.Things.length-i).toNat<n->Ok (QcL N w n i) λ e=>match e with | .ret b=>b=false | .nxt _=>∀ j,i<=j->∀ x,Xb w.Things j=some x->x.Fields.length<=300
 | 0,i,_,_,hn=>by omega
 | n+1,i,h0,hi,hn=>by
  rw[QcL]
  refine Wo (λ hc=>?_) λ hc=>Wh λ j hj x hx=>?_
  rotate_left
  ·have:=WG hc
   rw[Vo (by omega)] at hx;cases hx
  have hc:i<w.Things.length:=Wq hc
  rw[Xd (n:=i+1) (by omega) (by omega)]
  refine Ok.get h0 hc λ p hp=>Wo (λ _=>Wh rfl) λ hf=>?_
  have hf:=WG hf
  refine (XfN hl n (i+1) (by omega) (by omega) (by omega)).mono λ e he=>?_
  cases e with
  | ret b=>exact he
  | nxt u =>
   intro j hj x hx
   by_cases hij:j=i
   ·subst hij
    obtain rfl:p=x:=Ug (hp.symm.trans hx)
    omega
   ·exact he j (by omega) x hx
def Xlp {w:Wy} (hl:w.Things.length<=140737488355328) (hN:w.Things.length<N):Ok (QeT N w) λ b=>b=true->WB 100 w:=by
 rw[QeT]
 refine IW (XfN hl N 0 (by omega) (by omega) (by omega)) (λ b q=>Wh λ e=>?_) λ u q=>?_
 ·have q:b=false:=q
  rw[q] at e;cases e
 ·refine Wo (λ g1=>Wo (λ g2=>Wo (λ g3=>Wo (λ g4=>Wo (λ g5=>Wo (λ g6=>Wo (λ g7=>Wh λ g8=>?_) λ _=>Wh λ e=>by cases e) λ _=>Wh λ e=>by cases e) λ _=>Wh λ e=>by cases e) λ _=>Wh λ e=>by cases e) λ _=>Wh λ e=>by cases e) λ _=>Wh λ e=>by cases e) λ _=>Wh λ e=>by cases e
  have g1:=Wq g1
  have g2:=Wq g2
  have g3:=Wq g3
  have g4:=Wq g4
  have g5:=Wq g5
  have g6:=Wq g6
  have g7:=Wq g7
  have g8:=Wq g8
  refine ⟨by omega,by omega,λ x hx=>?_,⟨by omega,by omega,by omega⟩,by omega,by omega,by omega,by omega⟩
  obtain ⟨j,hj,e⟩:=WU hx
  have:=q (j:Int) (by omega) x (by rw[Xc,Wb hj,e])
  omega
end
def XhW {α:Type} {l:List α} {F:Nat->Int->Option (Ex Int Unit)} {p:α->Bool} (hl:l.length<=1000000)
 (hstep:∀ (n k:Nat) (x:α),l[k]? = some x->F (n+1) (k:Int)=bif p x then some (.ret (k:Int)) else F n ((k+1:Nat):Int))
 (hstop:∀ n:Nat,F (n+1) (l.length:Int)=some (.nxt ())):∀ (n k:Nat),k<=l.length->l.length-k<n->F n (k:Int)=some (match (l.drop k).findIdx? p with | some j=>.ret ((k+j:Nat):Int) | none=>.nxt ())
 | 0,k,_,hn=>by omega
 | n+1,k,hk,hn=>by
  by_cases h:k<l.length
  ·rw[hstep n k _ (Wb h),Wt h,List.findIdx?_cons]
   cases hp:p l[k]
   ·rw[Wa,XhW hl hstep hstop n (k+1) (by omega) (by omega),Wm (by simp)]
    cases (l.drop (k+1)).findIdx? p with
    | none=>rfl
    | some j=>simp only[Iv];rw[show k+1+j=k+(j+1) by omega]
   ·rw[We,Wn rfl];simp
  ·obtain rfl:k=l.length:=by omega
   rw[hstop,WL (Ui _)]
   rfl
def Vb {α:Type} (p:α->Bool) (l:List α):Int:=match l.findIdx? p with | some j=>(j:Int) | none=>-1
def KN {α:Type} {l:List α} {F:Nat->Int->Option (Ex Int Unit)} {p:α->Bool} {N:Nat} (hl:l.length<=1000000) (hN:1000000<N)
 (hstep:∀ (n k:Nat) (x:α),l[k]? = some x->F (n+1) (k:Int)=bif p x then some (.ret (k:Int)) else F n ((k+1:Nat):Int))
 (hstop:∀ n:Nat,F (n+1) (l.length:Int)=some (.nxt ())):(bnd (F N 0) λ e=>exK e (λ r=>some r) λ _=>some (-1))=some (Vb p l):=by
 have h:=XhW hl hstep hstop N 0 (by omega) (by omega)
 rw[show ((0:Nat):Int)=0 from rfl,WP] at h
 rw[h,Xa,Vb]
 cases l.findIdx? p with
 | none=>simp only[Xk]
 | some j=>simp only[Xl,Ut]
def Z3 {α:Type} (p:α->Bool) (l:List α):decide (Vb p l>=0)=l.any p:=by
 unfold Vb
 cases h:l.findIdx? p with
 | none =>
  rw[List.findIdx?_eq_none_iff] at h
  rw[show l.any p=false by rw[Ig];intro x hx;rw[h x hx];simp]
  rfl
 | some j =>
  obtain ⟨hj,hp,_⟩:=List.findIdx?_eq_some_iff_getElem.1 h
  rw[show l.any p=true by rw[Ik];exact ⟨_,WW hj,hp⟩]
  exact Wj (by show ((j:Nat):Int)>=0;omega)
section
variable {N:Nat}
def Xn1 (e:Uj):QfU N e=some (!Xai e):=by
 rw[QfU]
 unfold Xai
 cases decide (e.Gen<1)<;>cases decide (e.Gen>4294967295)<;>cases e.Live<;>cases (e.Ref != 0)<;>rfl
def Xar {α:Type} (p:α->Bool) (l:List α):(!l.any λ x=>!p x)=l.all p:=by
 rw[List.not_any_eq_all_not]
 congr 1
 funext x
 simp
def Vc {t:WT} (hl:TB t) (hN:1000000<N):QdP N t=some (Yx t.Entries):=by
 unfold TB at hl
 rw[QdP,QaB,QaL]
 rw[KN (p:=λ e=>!Xai e) hl hN (λ n k x e=>by
  have hk:=Xq e
  rw[Qaj,Xv hk,We,Xc,e,Xa,Xn1,Xa,Xe (by omega)]) (λ n=>by rw[Qaj,Xp,Wa])]
 rw[Xa,Xa,Z3,Xar,Yx,show decide (((t.Entries.length:Nat):Int)<=64)=decide (t.Entries.length<=64) from decide_eq_decide.2 (by omega)]
 cases t.Entries.all Xai<;>cases decide (t.Entries.length<=64)<;>rfl
def XaZ {t:WT} (hl:t.Entries.length<=1000000):∀ (n k:Nat) (v:List Int),k<=t.Entries.length->t.Entries.length-k<n->v.length<=k ->
 Qd7 N t n (k:Int) v=some (v++XA (t.Entries.drop k))
 | 0,k,v,_,hn,_=>by omega
 | n+1,k,v,hk,hn,hlv=>by
  rw[Qd7]
  by_cases h:k<t.Entries.length
  ·rw[Xv h,We,Xc,Wb h,Xa,Xe (by omega),Wt h,XA]
   cases hL:t.Entries[k].Live
   ·rw[Wa,XaZ hl n (k+1) v (by omega) (by omega) (by omega),UP (by rw[hL];simp)]
    rfl
   ·rw[We,Xf (by omega),XaZ hl n (k+1) _ (by omega) (by omega) (by rw[Wp];simp;omega),UY (by rw[hL])]
    simp[XA]
  ·obtain rfl:k=t.Entries.length:=by omega
   rw[Xp,Wa,WL (Ui _)]
   simp[XA]
def Jo {t:WT} (hl:TB t) (hN:1000000<N):QdQ N t=some (bif Yx t.Entries then XA t.Entries else []):=by
 rw[QdQ,Vc hl hN,Xa]
 cases hv:Yx t.Entries
 ·rfl
 ·have h:=XaZ (N:=N) (t:=t) hl N 0 [] (by omega) (by unfold TB at hl;omega) (by simp)
  rw[show ((0:Nat):Int)=0 from rfl,WP,Ux] at h
  rw[Ws,Wa,h,Xa];rfl
def Xjb (x:Int):QfT N x=some (!(!decide (x<0)&&!decide (x>4095))):=by
 rw[QfT,show decide (x>=4096)=decide (x>4095) from decide_eq_decide.2 (by omega)]
 cases decide (x<0)<;>cases decide (x>4095)<;>rfl
def Xdt {a:WD}:∀ (n:Nat) (s i:Int),QaG N ⟨a⟩ n s i=Qai N a n s i
 | 0,s,i=>by rw[QaG,Qai]
 | n+1,s,i=>by
  rw[QaG,Qai]
  have e:∀ s i,QaG N ⟨a⟩ n s i=Qai N a n s i:=Xdt n
  simp only[e]
def Xcw {a:WD}:∀ (n:Nat) (s i:Int),QaR N ⟨a⟩ n s i=Qal N a n s i
 | 0,s,i=>by rw[QaR,Qal]
 | n+1,s,i=>by
  rw[QaR,Qal]
  have e:∀ s i,QaR N ⟨a⟩ n s i=Qal N a n s i:=Xcw n
  have c:∀ p:U1,(p.Live==(p.Ref==0))=(!(p.Live==(p.Ref != 0))):=λ p=>by
   show (p.Live==(p.Ref==0))=(!(p.Live==!(p.Ref==0)))
   cases p.Live<;>cases (p.Ref==0)<;>rfl
  simp only[e,c]
def Xjc {a:WD} (hl:LBp a) (hne:neB a.Slots.length a.Scopes=true) {k:Nat} {p:U6} (hp:a.Scopes[k]? = some p):QdW N ⟨a⟩ (k:Int)=some ((a.Slots.drop p.From.toNat).take ((toL a k).toNat-p.From.toNat)):=by
 have hf:=J6 hne hp
 have hk:=Xq hp
 have hl2:=hl.2.1
 have hle:(Og.mk a).Locals.Slots.length=a.Slots.length:=rfl
 rw[QdW,Xe (by omega),toL]
 by_cases h:k+1<a.Scopes.length
 ·have e2:=Wb h
  have hf2:=J6 hne e2
  have:=hf.2.2.2.2.2 _ e2
  rw[Xv h,We,Xc,hp,Xa,Xc,e2,Xa,Xf (by omega)]
 ·rw[show decide (((k+1:Nat):Int)<((a.Scopes.length:Nat):Int))=false from Wk (by omega),Wa,Xc,hp,Xa,Xf (by omega),WZ (by omega)]
  congr 1
  rw[In]
  rw[WR];simp
def Xcx (l:List U1) (hl:l.length<=1000000):∀ (n k c:Nat),k<=l.length->l.length-k<n->c<=k->QbK N l n (c:Int) (k:Int)=some (((c+(l.drop k).countP (·.Live):Nat):Int))
 | 0,k,c,_,hn,_=>by omega
 | n+1,k,c,hk,hn,hc=>by
  rw[QbK]
  by_cases h:k<l.length
  ·rw[Xv h,We,Xc,Wb h,Xa,Xe (by omega),Xe (by omega),Wt h,List.countP_cons]
   cases hL:l[k].Live
   ·rw[Wa,Xcx l hl n (k+1) c (by omega) (by omega) (by omega)];simp
   ·rw[We,Xcx l hl n (k+1) (c+1) (by omega) (by omega) (by omega)];simp;omega
  ·obtain rfl:k=l.length:=by omega
   rw[Xp,Wa,WL (Ui _)];simp
def Xlq {a:WD} (hl:LBp a) (hN:1000000<N) (hne:neB a.Slots.length a.Scopes=true) {k:Nat} {p:U6} (hp:a.Scopes[k]? = some p):Qeg N ⟨a⟩ (k:Int)=some ((KX a.Slots p.From.toNat (toL a k).toNat:Nat):Int):=by
 have hl1:=hl.1
 rw[Qeg,Xjc hl hne hp,Xa]
 have hlen:((a.Slots.drop p.From.toNat).take ((toL a k).toNat-p.From.toNat)).length<=1000000:=by rw[WC,WR];omega
 have h:=Xcx (N:=N) _ hlen N 0 0 (by omega) (by omega) (by omega)
 rw[show ((0:Nat):Int)=0 from rfl,WP,Ut] at h
 rw[h,Xa];rfl
def Xcy {a:WD} (hl:LBp a) (hN:1000000<N):Qfb N a=some (YL a):=by
 have hl':=hl
 obtain ⟨hl1,hl2,hl3⟩:=hl
 rw[Qfb,Qbs,QbQ]
 rw[KN (p:=λ x=>!(!decide (x<0)&&!decide (x>4095))) hl3 hN (λ n k x e=>by
  have hk:=Xq e
  rw[QaA,Xv hk,We,Xc,e,Xa,Xjb,Xa,Xe (by omega)]) (λ n=>by rw[QaA,Xp,Wa])]
 have h2:=Jl (l:=a.Slots) (F:=λ n s i=>Qal N a n s i) (q:=stQ a.Issued) (nxp:=λ _ p=>p.Stamp) (I:=λ s=>0<=s) (λ n s k p hs e=>by
  have hk:=Xq e
  show Qal N a (n+1) s (k:Int)=_
  rw[Qal,Xv hk,We,Xc,e,Xa,Xe (by omega)]
  unfold stQ
  cases g1:decide (p.Stamp<=s)
  ·cases g2:decide (p.Stamp>((a.Issued.length:Nat):Int))
   ·have g1:=WG g1
    have g2:=WG g2
    rw[Wa,Wa,Xd (by omega) (by omega),Yg (by omega) (by omega),Xa]
    have ge:a.Issued[(p.Stamp-1).toNat]'(by omega)=a.Issued.getD (p.Stamp-1).toNat 0:=by
     rw[Wr,Wb (by omega)];rfl
    rw[ge]
    cases (a.Issued.getD (p.Stamp-1).toNat 0 != (k:Int))<;>cases (p.Live==(p.Ref != 0))<;>rfl
   ·rfl
  ·rfl) (λ n s=>by show Qal N a (n+1) s _=_;rw[Qal,Xp,Wa]) (λ s k p hs e hq=>by
   unfold stQ at hq
   simp only[Ww,Uv,Ub] at hq
   have:=hq.1
   omega) N 0 0 (by omega) (by omega) (by omega)
 have h3:=Jl (l:=a.Scopes) (F:=λ n s i=>Qai N a n s i) (q:=neQ a.Slots.length) (nxp:=λ _ p=>p.From) (I:=λ _=>True) (λ n s k p hs e=>by
  have hk:=Xq e
  show Qai N a (n+1) s (k:Int)=_
  rw[Qai,Xv hk,We,Xc,e,Xa,Xe (by omega)]
  unfold neQ
  cases ((k:Int)==0)<;>cases (p.From != 0)<;>cases p.Base<;>cases decide (p.From<s)<;>cases decide (p.From>((a.Slots.length:Nat):Int))<;>cases decide (p.Cap<0)<;>cases decide (p.Cap>64)<;>rfl) (λ n s=>by show Qai N a (n+1) s _=_;rw[Qai,Xp,Wa]) (λ _ _ _ _ _ _=>trivial) N 0 0 trivial (by omega) (by omega)
 rw[WP] at h2 h3
 have e2:Qal N a N 0 0=some (bif stB a.Issued a.Slots then .nxt () else .ret false):=h2
 have e3:Qai N a N 0 0=some (bif neB a.Slots.length a.Scopes then .nxt () else .ret false):=h3
 have en:Qdp N ⟨a⟩=some (!decide (((a.Scopes.length:Nat):Int)>64)&&((!(((a.Scopes.length:Nat):Int)==0)||!decide (((a.Slots.length:Nat):Int)>0))&&neB a.Slots.length a.Scopes)):=by
  rw[Qdp,XN,Xdt,e3,Xa]
  cases neB a.Slots.length a.Scopes<;>cases decide (((a.Scopes.length:Nat):Int)>64)<;>cases (((a.Scopes.length:Nat):Int)==0)<;>cases decide (((a.Slots.length:Nat):Int)>0)<;>simp only[We,Wa,Xl,Xk]<;>rfl
 have es:Qdb N ⟨a⟩=some (stB a.Issued a.Slots):=by
  rw[Qdb,Xcw,e2,Xa]
  cases stB a.Issued a.Slots<;>simp only[We,Wa,Xl,Xk]
 rw[Xa,Xa,Z3,en,Xa,es,Xa,YL,XnT]
 have ea:(a.Issued.any λ x=>!(!decide (x<0)&&!decide (x>4095))) = !(a.Issued.all λ p=>!decide (p<0)&&!decide (p>4095)):=by
  rw[← Xar,Bool.not_not]
 rw[ea]
 cases decide (((a.Issued.length:Nat):Int)>4096)
 rotate_left
 ·rfl
 cases (a.Issued.all λ p=>!decide (p<0)&&!decide (p>4095))
 ·cases decide (((a.Scopes.length:Nat):Int)>64)<;>cases (!(((a.Scopes.length:Nat):Int)==0)||!decide (((a.Slots.length:Nat):Int)>0))<;>rfl
 cases decide (((a.Scopes.length:Nat):Int)>64)
 rotate_left
 ·rfl
 cases (!(((a.Scopes.length:Nat):Int)==0)||!decide (((a.Slots.length:Nat):Int)>0))
 ·rfl
 cases hne:neB a.Slots.length a.Scopes
 ·cases stB a.Issued a.Slots<;>rfl
 cases stB a.Issued a.Slots
 ·rfl
 simp only[Wa,Ws,WS,WA,I5]
 have h4:=ZM (l:=a.Scopes) (F:=QdC N a) (q:=Xk9 a ()) (λ n k p e=>by
  have hk:=Xq e
  rw[QdC,Xv hk,We,Xc,e,Xa,Xlq hl' hN hne e,Xa,Xe (by omega)]
  unfold Xk9
  cases decide (((KX a.Slots p.From.toNat (toL a k).toNat:Nat):Int)>p.Cap)<;>rfl) (λ n=>by rw[QdC,Xp,Wa]) (n:=N) (by omega)
 rw[h4,Xa]
 show exK (bif XgK a then Ex.nxt () else Ex.ret false) _ _=_
 cases XgK a
 ·rw[Wa,Xl]
 ·rw[We,Xk]
def Xa0 {a:WD} (hl:a.Slots.length<=1000000):∀ (n k:Nat) (v:List Int),k<=a.Slots.length->a.Slots.length-k<n->v.length<=k ->
 Qd8 N a n (k:Int) v=some (v++XX (a.Slots.drop k))
 | 0,k,v,_,hn,_=>by omega
 | n+1,k,v,hk,hn,hlv=>by
  rw[Qd8]
  by_cases h:k<a.Slots.length
  ·rw[Xv h,We,Xc,Wb h,Xa,Xe (by omega),Wt h,XX]
   cases hL:a.Slots[k].Live
   ·rw[Wa,Xa0 hl n (k+1) v (by omega) (by omega) (by omega),UP (by rw[hL];simp)]
    rfl
   ·rw[We,Xf (by omega),Xa0 hl n (k+1) _ (by omega) (by omega) (by rw[Wp];simp;omega),UY (by rw[hL])]
    simp[XX]
  ·obtain rfl:k=a.Slots.length:=by omega
   rw[Xp,Wa,WL (Ui _)]
   simp[XX]
def Xdu {a:WD} (hl:LBp a) (hN:1000000<N):QgD N a=some (bif YL a then XX a.Slots else []):=by
 rw[QgD,Xcy hl hN,Xa]
 cases hv:YL a
 ·rfl
 ·have h:=Xa0 (N:=N) (a:=a) hl.1 N 0 [] (by omega) (by have:=hl.1;omega) (by simp)
  rw[show ((0:Nat):Int)=0 from rfl,WP,Ux] at h
  rw[Ws,Wa,h,Xa];rfl
end
def Xn2 {m:Int} (h0:0<=m) (h1:2*m+1<=18446744073709551615):bOr .u64 (m*2) 1=m*2+1:=by
 obtain ⟨n,rfl⟩:=Il h0
 have hb:IntKind.u64.bits=64:=rfl
 show IntKind.u64.wrap ((BitVec.ofInt IntKind.u64.bits ((n:Int)*2) ||| BitVec.ofInt IntKind.u64.bits 1).toNat:Int)=_
 rw[hb]
 have e1:BitVec.ofInt 64 ((n:Int)*2)=BitVec.ofNat 64 (n*2):=by
  rw[show (n:Int)*2=((n*2:Nat):Int) by omega];exact BitVec.ofInt_natCast 64 (n*2)
 have e2:BitVec.ofInt 64 (1:Int)=BitVec.ofNat 64 1:=by decide
 have hn:n*2 % 2 ^ 64=n*2:=Nat.mod_eq_of_lt (by omega)
 have h3:=Nat.shiftLeft_add_eq_or_of_lt (i:=1) (b:=1) (by decide) n
 rw[Nat.shiftLeft_eq,Nat.pow_one] at h3
 rw[e1,e2,BitVec.toNat_or,BitVec.toNat_ofNat,BitVec.toNat_ofNat,hn,show 1 % 2 ^ 64=1 from rfl,← h3]
 show wU _=_
 rw[XC (by omega) (by omega)]
 omega
section
variable {N:Nat}
def XhX {a:Int} (h0:0<=a) (h1:a<=64):∀ (n k:Nat),(k:Int)<=a->(a-k).toNat<n->Qfp N a n ((2:Int) ^ k-1) (k:Int)=some ((2:Int) ^ a.toNat-1)
 | 0,k,_,hn=>by omega
 | n+1,k,hk,hn=>by
  rw[Qfp]
  have e:(if 64<(if a<0 then 0 else a) then 64 else (if a<0 then 0 else a))=a:=by
   rw[Wm (show ¬ a<0 by omega),Wm (by omega)]
  rw[e]
  by_cases h:(k:Int)<a
  ·have hp:(1:Int)<=2 ^ k:=Int.pow_pos (n:=(2:Int)) (m:=k) (by decide)
   have hq:(2:Int) ^ k<=2 ^ 63:=by
    have:2 ^ k<=2 ^ 63:=Nat.pow_le_pow_right (by omega) (by omega)
    exact_mod_cast this
   have s1:K4 .u64 ((2:Int) ^ k-1) 1=wU (((2:Int) ^ k-1)*2):=rfl
   rw[Wj h,We,s1,XC (by omega) (by omega),Xn2 (by omega) (by omega),Xe (by omega)]
   have e2:((2:Int) ^ k-1)*2+1=2 ^ (k+1)-1:=by rw[Int.pow_succ];omega
   rw[e2]
   exact XhX h0 h1 n (k+1) (by omega) (by omega)
  ·rw[Wk h,Wa,show k=a.toNat by omega]
def XbE {a:Int} (h0:0<=a) (h1:a<=64) (hN:1000<N):Qe3 N a=some ((2:Int) ^ a.toNat-1):=by
 have:=XhX (N:=N) h0 h1 N 0 (by omega) (by omega)
 rw[Qe3]
 rw[show ((2:Int) ^ 0-1)=0 from rfl,show ((0:Nat):Int)=0 from rfl] at this
 rw[this,Xa]
def JH (hN:1000<N) (d:WI):QdV N d=some (XD d):=by
 rw[QdV,XD]
 by_cases h1:d.Kind<0
 ·rw[Wj h1,We,Wk (by omega),W5]
 rw[Wk h1,Wa]
 by_cases h2:d.Kind>3
 ·rw[Wj h2,We,Wk (by omega),W5]
 rw[Wk h2,Wa]
 by_cases h3:d.Length<0
 ·rw[Wj h3,We,Wk (by omega),W5]
 rw[Wk h3,Wa]
 by_cases h4:d.Length>255
 ·rw[Wj h4,We,Wk (p:=0<=d.Kind/\d.Kind<=3/\0<=d.Length/\d.Length<=255) (by omega),W5]
 rw[Wk h4,Wa,Wj (p:=0<=d.Kind/\d.Kind<=3/\0<=d.Length/\d.Length<=255) (by omega),WA]
 by_cases h5:d.Kind=1
 ·rw[Wn h5,Yh h5,We,XN]
  by_cases h6:d.Length<=32
  ·rw[Wj h6,We,XbE (by omega) (by omega) hN,Xa,WA,Xdb]
   exact congrArg some (decide_eq_decide.2 (by omega))
  ·rw[Wk h6,Wa,W5]
 ·rw[Wm h5,XO h5,Wa]
  simp only[BEq.rfl,WA]
  rfl
def Jp (hN:1000<N) (d:WI):QdO N d=some (X1 d):=by
 rw[QdO,JH hN,Xa,X1]
 cases h:XD d with
 | false=>rfl
 | true =>
  have:=XH h
  rw[Ws,Wa,Xd (n:=d.Length+1) (by omega) (by omega)]
  rfl
def XfO (hN:1000<N) (d:WI) (i:Int):QeB N d i=some (ZK d i):=by
 rw[QeB,JH hN,Xa,ZK]
 cases h:XD d with
 | false=>rfl
 | true =>
  have hb:=XH h
  rw[Ws,Wa,WA]
  by_cases h1:i<0
  ·rw[Wj h1,We,Wk (by omega),W5]
  rw[Wk h1,Wa]
  by_cases h2:i>=d.Length
  ·rw[Wj h2,We,Wk (by omega),W5]
  rw[Wk h2,Wa,Wj (p:=0<=i/\i<d.Length) (by omega),WA,XC (n:=i) (by omega) (by omega)]
  by_cases h3:d.Kind=2
  ·rw[Yh h3,We,Wj h3,IY]
  rw[XO h3,Wa,Wk h3,UZ]
  by_cases h4:d.Kind=1
  ·rw[Yh h4,We,Wj h4,WA,Xf (by omega)]
  ·rw[XO h4,Wa,Wk h4,W5]
def Xas (hN:1000<N) (d:WI) (hv:XD d=true):∀ (n:Nat) (i:Int) (v:List Int),0<=i->i<=d.Length+1->(d.Length+1-i).toNat<n->v.length+(d.Length+1-i).toNat<=1000->Qb7 N d (d.Length+1) n i v=some (v++X7 d (d.Length-i).toNat i)
 | 0,i,v,_,_,hn,_=>by omega
 | n+1,i,v,h0,h1,hn,hl=>by
  have hb:=XH hv
  rw[Qb7]
  by_cases h:i<d.Length+1
  ·rw[Wj h,We,XfO hN,Xa,Xd (n:=i+1) (by omega) (by omega)]
   by_cases h2:i<d.Length
   ·obtain ⟨k,hk⟩:∃ k,(d.Length-i).toNat=k+1:=⟨(d.Length-i).toNat-1,by omega⟩
    have hk2:(d.Length-(i+1)).toNat=k:=by omega
    rw[hk,X7]
    cases hp:ZK d i
    ·rw[Wa,Xas hN d hv n (i+1) v (by omega) (by omega) (by omega) (by omega),hk2];simp
    ·rw[We,Xf (by omega),Xas hN d hv n (i+1) _ (by omega) (by omega) (by omega) (by rw[Wp];simp only[Uc,UG];omega),hk2];simp
   ·have hp:ZK d i=false:=by
     unfold ZK
     rw[Wk (p:=0<=i/\i<d.Length) (by omega)];simp
    rw[hp,Wa,Xas hN d hv n (i+1) v (by omega) (by omega) (by omega) (by omega),show (d.Length-i).toNat=0 by omega,show (d.Length-(i+1)).toNat=0 by omega]
    rfl
  ·rw[Wk h,Wa,show (d.Length-i).toNat=0 by omega]
   simp[X7]
def Xdv (hN:1000<N) (d:WI) (hv:XD d=true):Qd0 N d=some (Y9 d):=by
 have hb:=XH hv
 have hs:X1 d=d.Length+1:=by unfold X1;rw[hv];rfl
 rw[Qd0,Jp hN,Xa,hs,Xas hN d hv N 0 [] (by omega) (by omega) (by omega) (by simp only[UG];omega),Xa,Y9,hv]
 simp
def Xdw (d:WI) (l0:List Int):∀ (l:List Int) (k:Nat),l=l0.drop k->KK d k l=(X7 d l.length k).map λ i=>l0.getD i.toNat 0
 | [],k,_=>by simp[KK,X7]
 | f::fs,k,h=>by
  have hk:k<l0.length:=by
   apply Nat.lt_of_not_le
   intro hle
   rw[WL hle] at h;cases h
  rw[Wt hk] at h
  obtain ⟨h1,h2⟩:=I6 h
  have ih:=Xdw d l0 fs (k+1) h2
  rw[KK,Uc,X7,IJ,ih]
  have hg:l0.getD k 0=f:=by rw[Wr,Wb hk,h1];rfl
  have e:((k+1:Nat):Int)=(k:Int)+1:=by omega
  rw[← e]
  split
  ·simp only[WX,Uz,Ia,Ux,U5,hg]
  ·simp
def Xdx {x:UL} (hv:XD x.Header=true) (hl:(x.Fields.length:Int)=x.Header.Length):Xam x=(Y9 x.Header).map λ i=>x.Fields.getD i.toNat 0:=by
 unfold Xam Y9
 rw[hv,Xdw x.Header x.Fields x.Fields 0 (by simp),show x.Header.Length.toNat=x.Fields.length by omega]
 rfl
variable {w:Wy} {k:Nat}
def Xcz (hw:WB k w) (hN:1000000<N) {l:List Int} (hl:l.length<=1000000):Qcr N w l=some (XI w.Things.length l):=by
 have hk:=hw.kk
 have ht:=hw.things
 rw[Qcr,QaX,Qbc]
 rw[KN (p:=λ x=>decide (x>(w.Things.length:Int))) hl hN (λ n j x e=>by
  have hk:=Xq e
  rw[Qar,Xv hk,We,Xc,e,Xa,Qd1,Xa,Xe (by omega),XC (by omega) (by omega)]) (λ n=>by rw[Qar,Xp,Wa])]
 rw[Xa,Xa,Z3,XI,← Xar]
 simp only[Bool.not_not]
def Xjd (hw:WB k w) (hN:1000000<N) {x:UL} (hx:x.Fields.length<=1000):QdX N w x=some (Z2 w.Things.length x):=by
 rw[QdX,JH (by omega),Xa,Z2]
 cases hv:XD x.Header
 ·rfl
 rw[Ws,Wa,WA]
 cases (x.Header.Kind==0)
 rotate_left
 ·rfl
 rw[Wa,WS,WA]
 by_cases hl:(x.Fields.length:Int)=x.Header.Length
 rotate_left
 ·rw[Zc hl];rfl
 have hpl:=Xdk x.Header
 rw[YX hl,Wa,WS,WA,Xdv (by omega) _ hv,Xa,Qbp,QbL]
 rw[KN (l:=Y9 x.Header) (p:=λ i:Int=>decide (x.Fields.getD i.toNat 0>(w.Things.length:Int))) (by omega) hN (λ n j i e=>by
  have hk:=Xq e
  have hr:=Xdj (Ua e)
  rw[Qaz,Xv hk,We,Xc,e,Xa,QdR,Yg hr.1 (by omega),Xa,Xcz hw hN (by simp),Xa,Xa,Xe (by omega)]
  have ge:x.Fields[i.toNat]'(by omega)=x.Fields.getD i.toNat 0:=by rw[Wr,Wb (by omega)];rfl
  rw[ge,XI,U2,List.all_nil,I5,Bool.not_not]) (λ n=>by rw[Qaz,Xp,Wa])]
 rw[Xa,Xa,Z3,Xdx hv hl,XI,List.all_map,← Xar]
 congr 3
 funext i
 simp
def Xlr (hm:w.Marks.length<=1000000) (hN:1000000<N) (id:Int):QeK N w id=some (YE w.Marks id):=by
 rw[QeK,QaH]
 rw[KN (p:=λ m:U7=>m.Id==id) hm hN (λ n j x e=>by
  have hk:=Xq e
  rw[Qah,Xv hk,We,Xc,e,Xa,Qen,Xa,Xe (by omega)]) (λ n=>by rw[Qah,Xp,Wa])]
 rw[Xa];rfl
end
section
variable {N:Nat} {w:Wy} {k:Nat}
def Xje (hw:WB k w) (hN:1000000<N) (tw:Xz w):QdY N w=some (JF w.Things.length w.Marks&&!decide (((w.Marks.length:Nat):Int)>64)):=by
 have hm:=hw.marks
 have h3:=ZM (l:=w.Marks) (F:=QbE N w) (q:=Xcq w.Things.length w.Marks ()) (λ n k p e=>by
  have hk:=Xq e
  have tp:=(tw.2.2.2.2.1 p (Ua e)).1.1
  have e0:(p.Id==0)=decide (p.Id<1):=by
   by_cases h:p.Id=0
   ·rw[Yh h,Wj (by omega)]
   ·rw[XO h,Wk (by omega)]
  rw[QbE,Xv hk,We,Xc,e,Xa,Xcz hw hN (by simp),Xa,Xlr (by omega) hN,Xa,Xe (by omega),e0,XI,U2,List.all_nil,I5]
  unfold Xcq
  cases decide (p.Id<1)<;>cases decide (p.Id>(w.Things.length:Int))<;>cases (YE w.Marks p.Id != (k:Int))<;>cases decide (p.Count<1)<;>cases decide (p.Count>1000)<;>rfl) (λ n=>by rw[QbE,Xp,Wa]) (n:=N) (by omega)
 rw[QdY,h3,Xa]
 show exK (bif JF w.Things.length w.Marks then Ex.nxt () else Ex.ret false) _ _=_
 have e:decide (((w.Marks.length:Nat):Int)<=64) = !decide (((w.Marks.length:Nat):Int)>64):=by
  by_cases h:((w.Marks.length:Nat):Int)>64
  ·rw[Wj h,Wk (by omega)];rfl
  ·rw[Wk h,Wj (by omega)];rfl
 cases JF w.Things.length w.Marks
 ·rw[Wa,Xl];rfl
 ·rw[We,Xk,e];rfl
def Xat {l:List Int} (hl:l.length<=1000000) (hN:1000000<N):QaW N l 0=some (!l.all λ p=>!(p==0)):=by
 rw[QaW,QcJ]
 rw[KN (p:=λ x:Int=>(0==x)) hl hN (λ n j x e=>by
  have hk:=Xq e
  rw[QaV,Xv hk,We,Xc,e,Xa,Xe (by omega)]) (λ n=>by rw[QaV,Xp,Wa])]
 rw[Xa,Z3,← Xar,Bool.not_not]
 congr 2
 funext x
 rw[Bool.not_not]
 by_cases h:x=0
 ·subst h;rfl
 ·rw[XO h,XO (λ e=>h e.symm)]
def Xau:List (List Int)->Nat
 | []=>0
 | l::ls=>l.length+Xau ls
def Xdy (ls:List (List Int)) (hl:ls.length<=1000):∀ (n k s:Nat),k<=ls.length->ls.length-k<n->s+Xau (ls.drop k)<=10000000->QaN N ls n (s:Int) (k:Int)=some (((s+Xau (ls.drop k):Nat):Int))
 | 0,k,s,_,hn,_=>by omega
 | n+1,k,s,hk,hn,hs=>by
  rw[QaN]
  by_cases h:k<ls.length
  ·rw[Wt h,Xau] at hs ⊢
   rw[Xv h,We,Xc,Wb h,Xa,Xd (n:=(s:Int)+((ls[k].length:Nat):Int)) (by omega) (by omega),Wk (by omega),Wa,Xe (by omega)]
   have:=Xdy ls hl n (k+1) (s+ls[k].length) (by omega) (by omega) (by omega)
   rw[show (s:Int)+((ls[k].length:Nat):Int)=((s+ls[k].length:Nat):Int) by omega,this,IN]
  ·obtain rfl:k=ls.length:=by omega
   rw[Xp,Wa,WL (Ui _)];simp[Xau]
def Xdz (ls:List (List Int)) (hl:ls.length<=1000):∀ (n k:Nat) (v:List Int),k<=ls.length->ls.length-k<n->v.length+Xau (ls.drop k)<=10000000->QaO N ls n (k:Int) v=some (v++(ls.drop k).flatten)
 | 0,k,v,_,hn,_=>by omega
 | n+1,k,v,hk,hn,hs=>by
  rw[QaO]
  by_cases h:k<ls.length
  ·rw[Wt h,Xau] at hs
   rw[Wt h,Xv h,We,Xc,Wb h,Xa,Xf (by omega),Xe (by omega),Xdz ls hl n (k+1) _ (by omega) (by omega) (by rw[Wp];omega),List.flatten_cons,Ul]
  ·obtain rfl:k=ls.length:=by omega
   rw[Xp,Wa,WL (Ui _)];simp
def Xa1 (ls:List (List Int)) (hl:ls.length<=1000) (hs:Xau ls<=10000000) (hN:1000000<N):Qa8 N ls=some ls.flatten:=by
 have h1:=Xdy (N:=N) ls hl N 0 0 (by omega) (by omega) (by rw[WP];omega)
 have h2:=Xdz (N:=N) ls hl N 0 [] (by omega) (by omega) (by rw[WP];simp;omega)
 rw[WP] at h1 h2
 rw[show ((0:Nat):Int)=0 from rfl,Ut] at h1
 rw[show ((0:Nat):Int)=0 from rfl,Ux] at h2
 have hg:Qbq N ((Xau ls:Nat):Int)=some []:=by
  rw[Qbq,Wk (by omega),Wa,Xd (n:=(0:Int)) (by omega) (by omega),Int.sub_zero]
  have e:=Xd (n:=((Xau ls:Nat):Int)) (by omega) (by omega)
  by_cases h:(wI ((Xau ls:Nat):Int))>0
  ·rw[Wj h,We,Xf ⟨rfl,rfl⟩,Xf (by rw[e];omega),Xf (by rw[e];omega),Xf (by rw[e];omega),List.take_zero]
  ·rw[Wk h,Wa]
 rw[Qa8,h1,Xa,hg,Xa,h2,Xa]
def VV (n:Nat) (a b:List Int):XI n (a++b)=(XI n a&&XI n b):=by
 unfold XI;rw[IK]
def Xls (hw:WB k w) (hN:1000000<N) (tw:Xz w):Qfc N w=some (Ye w):=by
 have hk:=hw.kk
 have ht:=hw.things
 have hm:=hw.marks
 have hr:=hw.roots
 have ec:QaZ N w.Conf=some (XZ w.Conf):=by
  rw[← YC N w.Conf,QaZ,Qax]
 rw[Qfc,ec,Xa,Ye]
 cases XZ w.Conf
 ·rfl
 rw[Ws,Wa,Xcy hw.loc hN,Xa,WA]
 cases hv1:YL w.Locals
 ·rfl
 rw[Ws,Wa,Vc hw.glo hN,Xa,WA]
 cases hv2:Yx w.Globals.Entries
 ·rfl
 rw[Ws,Wa,Vc hw.wea hN,Xa,WA]
 cases hv3:Yx w.Weaks.Entries
 ·rfl
 have g64:=Jn hv2
 have s1:=Xcs hv1
 have s3:=Jn hv3
 rw[Ws,Wa,WA,Jo hw.glo hN,Xa,hv2,We,Xat (by omega) hN,Xa]
 cases ((XA w.Globals.Entries).all λ p=>!(p==0))
 ·cases decide (((w.Marks.length:Nat):Int)>64)<;>cases w.Things.all (Z2 w.Things.length)<;>rfl
 rw[Ws,Wa,WA]
 have h1:=ZM (l:=w.Things) (F:=QdD N w) (q:=λ _=>Z2 w.Things.length) (λ n k p e=>by
  have hk:=Xq e
  have hpf:=hw.fields p (Ua e)
  rw[QdD,Xv hk,We,Xc,e,Xa,Xjd hw hN hpf,Xa,Xe (by omega)]
  cases Z2 w.Things.length p<;>rfl) (λ n=>by rw[QdD,Xp,Wa]) (n:=N) (by omega)
 rw[YN] at h1
 rw[h1,Xa]
 cases w.Things.all (Z2 w.Things.length)
 ·rw[Wa,Xl];cases decide (((w.Marks.length:Nat):Int)>64)<;>rfl
 rw[We,Xk,Xdu hw.loc hN,Xa,hv1,We,Xa,Jo hw.wea hN,Xa,hv3,We,Xa1 _ (by simp) (by simp only[Xau];omega) hN,Xa,WA]
 have ef:[w.Roots,XX w.Locals.Slots,XA w.Globals.Entries,XA w.Weaks.Entries].flatten=w.Roots++(XX w.Locals.Slots++(XA w.Globals.Entries++XA w.Weaks.Entries)):=by simp
 rw[ef,Xcz hw hN (by simp only[Wp];omega),Xa,VV,VV,VV,Xje hw hN tw,Xa]
 cases decide (((w.Marks.length:Nat):Int)>64)<;>cases JF w.Things.length w.Marks<;>cases XI w.Things.length w.Roots<;>cases XI w.Things.length (XX w.Locals.Slots)<;>cases XI w.Things.length (XA w.Globals.Entries)<;>cases XI w.Things.length (XA w.Weaks.Entries)<;>rfl
end
def Z4 (N:Nat) (c:Um):QaZ N c=some (XZ c):=by
 rw[show QaZ N c=Qax N c by rw[QaZ,Qax]]
 exact YC N c
def Xlt (N:Nat) (c:Um):Qda N c=some (smC c):=by
 rw[show Qda N c=Qb1 N c by rw[Qda,Qb1,Z4,YC]]
 exact Xhz N c
def Xlu (N:Nat) (c:Um) (w:Int):Qg1 N c w=some (XQ c w):=by
 simp only[Qg1,Z4,Xlt,Xa,XQ,smC]
 cases hc:XZ c with
 | false=>simp
 | true =>
  have h:=Xj.1 hc
  simp only[Ws,Wa,if_true,UI]
  rw[Xd (n:=4*c.PageWords) (by omega) (by omega)]
  by_cases h1:w<1
  ·rw[Wn h1,Wm (show ¬ (True/\1<=w) from λ h=>by omega)]
  rw[Wm h1,Wn (show True/\1<=w from ⟨trivial,by omega⟩)]
  by_cases h2:w>4*c.PageWords
  ·rw[Wn h2];simp only[Wm (show ¬ w<=c.PageWords / 4 by omega),Wm (show ¬ c.PageWords>=w by omega),Wm (show ¬ 2*c.PageWords>=w by omega),Wm (show ¬ 3*c.PageWords>=w by omega),Wm (show ¬ 4*c.PageWords>=w by omega)]
  rw[Wm h2]
  by_cases h3:w<=c.PageWords / 4
  ·rw[Wn h3,Wn h3]
  rw[Wm h3,Wm h3,Xf (by omega),Xd (n:=w+c.PageWords) (by omega) (by omega),Xd (n:=w+c.PageWords-1) (by omega) (by omega),Io (by omega)]
  have key:∀ k:Int,k*c.PageWords<=w+c.PageWords-1->w+c.PageWords-1<(k+1)*c.PageWords->(w+c.PageWords-1) / c.PageWords=k:=by
   intro k a b
   have b1:=Int.ediv_lt_of_lt_mul (show 0<c.PageWords by omega) b
   have a1:=Int.le_ediv_of_mul_le (show 0<c.PageWords by omega) a
   omega
  split
  ·rw[key 1 (by omega) (by omega)];rfl
  split
  ·rw[key 2 (by omega) (by omega)];rfl
  split
  ·rw[key 3 (by omega) (by omega)];rfl
  split
  ·rw[key 4 (by omega) (by omega)];rfl
  ·omega
def Xlv (N:Nat) (c:Um) (a:Int) (ha:a<=18446744073709551615):Qgx N c a=Qdr N c a:=by
 rw[Xae]
 simp only[Qgx,Z4,Xa,UI]
 cases hc:XZ c with
 | false=>simp
 | true =>
  have h:=Xj.1 hc
  have hm:=X5 hc (i:=0) (by omega) (by omega)
  simp only[Ws,Wa]
  rw[Wm (show ¬ (true=false) by simp),Om c.PageWords c.Pages]
  rw[Xd (n:=c.Pages*c.PageWords) (by omega) (by omega),XC (n:=c.Pages*c.PageWords) (by omega) (by omega)]
  by_cases h1:a<4096
  ·rw[Wn h1,Wm (by omega)]
  rw[Wm h1,XC (n:=a-4096) (by omega) (by omega)]
  by_cases h2:a>=4096+c.Pages*c.PageWords
  ·rw[Wn (by omega),Wm (by omega)]
  rw[Wm (by omega),Wn (by omega),Xf (by omega),Xf (by omega)]
  rw[Xd (n:=a-4096) (by omega) (by omega),Io (by omega),IG (by omega)]
  have hd:0<=(a-4096) / c.PageWords:=Int.ediv_nonneg (by omega) (by omega)
  have hd2:(a-4096) / c.PageWords<=a-4096:=Int.ediv_le_self _ (by omega)
  rw[Xd (by omega) (by omega)]
def XfP (N:Nat) (c:Um) (p o:Int):Qfq N c p o=Qca N c p o:=by
 rw[Vp]
 simp only[Qfq,Z4,Xa,UI]
 cases hc:XZ c with
 | false=>simp
 | true =>
  have h:=Xj.1 hc
  simp only[Ws,Wa]
  rw[Wm (show ¬ (true=false) by simp)]
  by_cases h1:p<0
  ·rw[Wn h1,Wm (by omega)]
  rw[Wm h1]
  by_cases h2:p>=c.Pages
  ·rw[Wn h2,Wm (by omega)]
  rw[Wm h2]
  by_cases h3:o<0
  ·rw[Wn h3,Wm (by omega)]
  rw[Wm h3]
  by_cases h4:o>=c.PageWords
  ·rw[Wn h4,Wm (by omega)]
  rw[Wm h4,Wn (by omega)]
  have hm:=X5 hc (i:=p) (by omega) (by omega)
  rw[Xd (n:=p*c.PageWords) (by omega) (by omega),Xd (n:=p*c.PageWords+o) (by omega) (by omega),XC (n:=p*c.PageWords+o) (by omega) (by omega),XC (by omega) (by omega)]
  unfold Xi;rw[Int.add_assoc]
def Z5 (sp:Int) (p:WM):Bool:=p.Kind==3&&p.Space==sp
def Vd (ps:List WM) (sp:Int) (i:Nat):Nat:=((ps.drop i).takeWhile (Z5 sp)).length
def XfQ (N:Nat) (ps:List WM) (sp:Int) (hl:ps.length<=1000000):∀ (n c i:Nat),i<=ps.length->c<=i->ps.length-i<n->QcN N ps sp n (c:Int) (i:Int)=some (((c+Vd ps sp i:Nat):Int))
 | 0,c,i,_,_,h=>by omega
 | n+1,c,i,h,hc,hn=>by
  rw[QcN]
  by_cases hlt:i<ps.length
  ·rw[Wj (by omega),We,Xc,Wb hlt,Xa,Xa]
   have hd:ps.drop i=ps[i]::ps.drop (i+1):=Wt hlt
   unfold Vd
   rw[hd,List.takeWhile_cons]
   cases h1:(ps[i].Kind==3) with
   | false=>simp[Z5,h1]
   | true =>
    rw[We]
    cases h2:(ps[i].Space==sp) with
    | false=>simp[Z5,h1,h2]
    | true =>
     rw[We,show Z5 sp ps[i]=true by simp[Z5,h1,h2],Wn rfl]
     rw[Xe (by omega),Xe (by omega),XfQ N ps sp hl n (c+1) (i+1) (by omega) (by omega) (by omega)]
     unfold Vd
     rw[Uc];congr 1;omega
  ·have:ps.drop i=[]:=WL (by omega)
   rw[Wk (by omega),Wa];simp[Vd,this]
def Xlw {N:Nat} (ps:List WM) (sp:Int) (hl:ps.length<=1000000) (hN:1000000<N) (i:Nat) (hi:i<ps.length):Qe7 N ps (i:Int) sp=some ((Vd ps sp (i+1):Nat):Int):=by
 rw[Qe7,Xe (by omega),show (0:Int)=((0:Nat):Int) from rfl,XfQ N ps sp hl N 0 (i+1) (by omega) (by omega) (by omega),Xa,Ut]
def Xav {α:Type} (q:α->Bool):∀ (l:List α) (k:Nat),k<=(l.takeWhile q).length↔k<=l.length/\(l.take k).all q=true
 | [],k=>by simp
 | a::l,0=>by simp
 | a::l,k+1=>by
  rw[List.takeWhile_cons]
  cases h:q a with
  | false=>simp[h]
  | true=>simp[h];exact Xav q l k |>.trans (by simp)
def X9 (sp:Int) (p:WM):Bool:=Z5 sp p&&(p.Used==0&&p.Pins==0)
def XhY (N:Nat) (a1:List WM) (a2:Int) (p1:WM) (x5 y6:Int) (l:List WM) (hl:l.length<=1000000)
 (hd:((a1.drop (wI (a2+1)).toNat).take ((wI (a2+y6)).toNat-(wI (a2+1)).toNat))=l) (hm:min ((wI (a2+y6)).toNat-(wI (a2+1)).toNat) (a1.length-(wI (a2+1)).toNat)=l.length) :
 ∀ (n k:Nat),k<=l.length->l.length-k<n->Qfo N a1 a2 p1 x5 y6 n (k:Int)=some (if (l.drop k).all (X9 p1.Space)=true then .nxt () else .ret 0)
 | 0,k,_,h=>by omega
 | n+1,k,h,hn=>by
  rw[Qfo,hd,hm]
  by_cases hlt:k<l.length
  ·rw[Wj (by omega),We,Xc,Wb hlt,Xa,Qfi,Xa,Wt hlt,U2]
   have e:((l[k].Kind==3)&&((l[k].Space==p1.Space)&&((l[k].Used==0)&&(l[k].Pins==0))))=X9 p1.Space l[k]:=by
    unfold X9 Z5;rw[Bool.and_assoc]
   rw[e]
   cases hq:X9 p1.Space l[k] with
   | false=>simp
   | true =>
    rw[Ws,Wa,Xe (by omega),XhY N a1 a2 p1 x5 y6 l hl hd hm n (k+1) (by omega) (by omega),WA]
  ·rw[Wk (by omega),Wa,WL (by omega)];rfl
def Yi (c:Um) (ps:List WM) (i:Nat) (p:WM):Nat :=
 if p.Kind=0 then (if p.Space=0/\p.Used=0/\p.Pins=0 then 1 else 0)
 else if (p.Space=0\/p.Space=1)/\0<=p.Pins/\p.Pins<=2147483647 then
  (if p.Kind=1 then (if 0<=p.Used/\p.Used<=c.PageWords then 1 else 0)
   else if p.Kind=2 then (if 1<=XQ c p.Used/\(XQ c p.Used).toNat<=ps.length-i/\((ps.drop (i+1)).take ((XQ c p.Used).toNat-1)).all (X9 p.Space)=true then (XQ c p.Used).toNat else 0)
   else 0)
 else 0
def KB (N:Nat) (p:WM):Qde N p=some (decide (p.Space=0\/p.Space=1)):=by
 rw[Qde]
 by_cases h:p.Space=0
 ·simp[h]
 ·rw[show (p.Space==0)=false by simpa using h,Wa]
  by_cases h1:p.Space=1
  ·simp[h1]
  ·rw[show (p.Space==1)=false by simpa using h1,Wk (by omega)]
def Vw (N:Nat) (p:WM):Qdf N p=some (decide (0<=p.Pins/\p.Pins<=2147483647)):=by
 rw[Qdf];exact Xbx N p.Pins
def KO {N:Nat} {c:Um} {ps:List WM} (hl:ps.length<=100000) (hN:1000000<N) {i:Nat} (hi:i<ps.length):Qht N c ps (i:Int)=some ((Yi c ps i ps[i]:Nat):Int):=by
 rw[Qht,Xc,Wb hi,Xa,XN]
 generalize hp:ps[i]=p
 unfold Yi
 by_cases k0:p.Kind<0
 ·rw[Wj k0,We,Wm (by omega),Wm (show ¬ p.Kind=1 by omega),Wm (show ¬ p.Kind=2 by omega)];simp
 rw[Wk k0,Wa]
 by_cases k3:p.Kind>=3
 ·rw[Wj k3,We,Wm (by omega),Wm (show ¬ p.Kind=1 by omega),Wm (show ¬ p.Kind=2 by omega)];simp
 rw[Wk k3,Wa]
 by_cases e0:p.Kind=0
 ·rw[show (p.Kind==0)=true by simpa using e0,We,Wn e0,Qf7,Xa]
  by_cases hz:p.Space=0/\p.Used=0/\p.Pins=0
  ·obtain ⟨z1,z2,z3⟩:=hz
   simp[z1,z2,z3]
  ·rw[Wm hz,show (((0:Int)==0)&&((p.Space==0)&&((p.Used==0)&&(p.Pins==0))))=false by
    rw[Bool.eq_false_iff];intro hh;simp only[Ww,beq_iff_eq] at hh;exact hz ⟨hh.2.1,hh.2.2.1,hh.2.2.2⟩]
   rfl
 rw[show (p.Kind==0)=false by simpa using e0,Wa,Wm e0]
 by_cases hsp:(p.Space=0\/p.Space=1)
 case neg =>
  rw[Wm (λ hh=>hsp hh.1)]
  by_cases e1:p.Kind=1
  ·rw[show (p.Kind==1)=true by simpa using e1,We,QdA,KB,Xa,Wk hsp,Wa,Xa];rfl
  ·have e2:p.Kind=2:=by omega
   rw[show (p.Kind==1)=false by simpa using e1,Wa,show (p.Kind==2)=true by simpa using e2,We,QdB,KB,Xa,Wk hsp,Wa,Xa];rfl
 by_cases hpn:0<=p.Pins/\p.Pins<=2147483647
 case neg =>
  rw[Wm (λ hh=>hpn hh.2)]
  by_cases e1:p.Kind=1
  ·rw[show (p.Kind==1)=true by simpa using e1,We,QdA,KB,Xa,Wj hsp,We,Vw,Xa,Wk hpn,Wa,Xa];rfl
  ·have e2:p.Kind=2:=by omega
   rw[show (p.Kind==1)=false by simpa using e1,Wa,show (p.Kind==2)=true by simpa using e2,We,QdB,KB,Xa,Wj hsp,We,Vw,Xa,Wk hpn,Wa,Xa];rfl
 rw[Wn ⟨hsp,hpn⟩]
 by_cases e1:p.Kind=1
 ·rw[show (p.Kind==1)=true by simpa using e1,We,QdA,KB,Xa,Wj hsp,We,Vw,Xa,Wj hpn,We,Wn e1]
  by_cases u0:0<=p.Used
  ·by_cases u1:p.Used<=c.PageWords
   ·simp[u0,u1,Xa]
   ·simp[u0,u1,Xa]
  ·simp[u0,Xa]
 have e2:p.Kind=2:=by omega
 rw[show (p.Kind==1)=false by simpa using e1,Wa,show (p.Kind==2)=true by simpa using e2,We,QdB,KB,Xa,Wj hsp,We,Vw,Xa,Wj hpn,We,Wm e1,Wn e2]
 simp only[Xlu,Xa]
 by_cases hn1:XQ c p.Used>=1
 case neg=>rw[Wk hn1,WS,We,Wm (λ hh=>hn1 hh.1)];rfl
 have hr:=KW c p.Used
 rw[Wj hn1,Ws,Wa,show ((2:Int) != 2)=false from rfl,Wa,Xd (n:=((ps.length:Nat):Int)-i) (by omega) (by omega)]
 by_cases hfit:XQ c p.Used>((ps.length:Nat):Int)-i
 ·rw[Wj hfit,We,Wm (λ hh=>by have:=hh.2.1;omega)];rfl
 rw[Wk hfit,Wa]
 have w1:wI ((i:Int)+1)=((i+1:Nat):Int):=Xe (by omega)
 have w2:wI ((i:Int)+XQ c p.Used)=(i:Int)+XQ c p.Used:=Xd (by omega) (by omega)
 rw[Xf (by rw[w1,w2];omega)]
 have t1:(wI ((i:Int)+1)).toNat=i+1:=by rw[w1];omega
 have t2:(wI ((i:Int)+XQ c p.Used)).toNat-(wI ((i:Int)+1)).toNat=(XQ c p.Used).toNat-1:=by rw[t1,w2];omega
 rw[show (0:Int)=((0:Nat):Int) from rfl,XhY N ps (i:Int) p 2 (XQ c p.Used) ((ps.drop (i+1)).take ((XQ c p.Used).toNat-1)) (by rw[WC];omega) (by rw[t2,t1]) (by rw[t2,t1,WC,WR]) N 0 (by omega) (by rw[WC];omega),Xa,WP]
 by_cases hall:((ps.drop (i+1)).take ((XQ c p.Used).toNat-1)).all (X9 p.Space)=true
 ·rw[Wn hall,Xk,Wn ⟨hn1,by omega,hall⟩];congr 1;omega
 ·rw[Wm hall,Xl,Wm (λ hh=>hall hh.2.2)];rfl
def XR {p:Prop} [Decidable p] (h:¬ p):decide p=false:=Wk h
def XdA {N:Nat} {h:Wv} (hl:h.Pages.length<=100000) {sp:Int} (hsp:sp=0\/sp=1):∀ (k n i:Nat),i+k<=h.Pages.length->((h.Pages.drop i).take k).all (Z5 sp)=true ->
 Qau N h (n+k) (k:Int) (i:Int)=if ((h.Pages.drop i).take k).all (X9 sp)=true then Qau N h n 0 ((i+k:Nat):Int) else some (.ret false)
 | 0,n,i,hik,ha=>by simp
 | k+1,n,i,hik,ha=>by
  have hlt:i<h.Pages.length:=by omega
  have hd:(h.Pages.drop i).take (k+1)=h.Pages[i]::(h.Pages.drop (i+1)).take k:=by rw[Wt hlt,Iy]
  rw[hd,U2,Ww] at ha
  rw[hd,U2,show n+(k+1)=(n+k)+1 from rfl,Qau,Wj (by omega),We,Xc,Wb hlt,Xa]
  have ih:=XdA (N:=N) hl hsp k n (i+1) (by omega) ha.2
  generalize h.Pages[i]=p at *
  have hk:p.Kind=3/\p.Space=sp:=by have:=ha.1;simp only[Z5,Ww,beq_iff_eq] at this;exact this
  obtain ⟨hk3,hks⟩:=hk
  have q3:(p.Kind==3)=true:=by simpa using hk3
  rw[q3,Wj (show (((k+1:Nat):Int)>0) by omega),show (!(true==true))=false from rfl,Wa,XR (show ¬ p.Space<0 by omega),Wa,XR (show ¬ p.Space>1 by omega),Wa,Xbx,Xa]
  by_cases hp:p.Pins=0
  case neg =>
   have hc:X9 sp p=false:=by simp[X9,hp]
   rw[hc,W5,Wm (by simp)]
   by_cases hp2:0<=p.Pins/\p.Pins<=2147483647
   ·rw[Wj hp2,Ws,Wa]
    simp only[XN,show (p.Kind==0)=false by rw[hk3];rfl,show (p.Kind==1)=false by rw[hk3];rfl,show (p.Kind==2)=false by rw[hk3];rfl,q3,Wa,We,show (p.Pins != 0)=true by simpa using hp,Bool.cond_self]
   ·rw[Wk hp2,WS,We]
  rw[Wj (show 0<=p.Pins/\p.Pins<=2147483647 by omega),Ws,Wa]
  simp only[XN,show (p.Kind==0)=false by rw[hk3];rfl,show (p.Kind==1)=false by rw[hk3];rfl,show (p.Kind==2)=false by rw[hk3];rfl,q3,Wa,We,show (p.Pins != 0)=false by simpa using hp]
  by_cases hu:p.Used=0
  ·have hc:X9 sp p=true:=by unfold X9;rw[ha.1];simp[hu,hp]
   rw[show (p.Used != 0)=false by simpa using hu,Wa,hc,WA,Xd (n:=((k+1:Nat):Int)-1) (by omega) (by omega),Xe (by omega)]
   have e:(if (0:Int)<((k+1:Nat):Int)-1 then ((k+1:Nat):Int)-1 else 0)=(k:Int):=by split<;>omega
   rw[e,ih,show i+1+k=i+(k+1) by omega]
  ·have hc:X9 sp p=false:=by simp[X9,hu]
   rw[show (p.Used != 0)=true by simpa using hu,We,hc,W5,Wm (by simp)]
def Xlx {α:Type} {p q:α->Bool} (h:∀ x,q x=true->p x=true):∀ {l:List α},l.all q=true->l.all p=true:=by
 intro l hl;rw[W3] at *;exact λ x hx=>h x (hl x hx)
def Xjf {N:Nat} {h:Wv} (hc:XZ h.Conf=true) (hl:h.Pages.length<=100000) (hN:1000000<N) {i:Nat} (hi:i<h.Pages.length) (n:Nat) (hn:10<=n) :
 Qau N h n 0 (i:Int)=if Yi h.Conf h.Pages i h.Pages[i]=0 then some (.ret false) else Qau N h (n-Yi h.Conf h.Pages i h.Pages[i]) 0 ((i+Yi h.Conf h.Pages i h.Pages[i]:Nat):Int):=by
 obtain ⟨n,rfl⟩:∃ m,n=m+1:=⟨n-1,by omega⟩
 rw[Qau,Wj (show (i:Int)<((h.Pages.length:Nat):Int) by omega),We,Xc,Wb hi,Xa]
 generalize h.Pages[i]=p
 have go:(if (0:Int)<wI (0-1) then wI (0-1) else 0)=0:=by rw[Xd (by omega) (by omega)];rfl
 have ge:wI ((i:Int)+1)=((i+1:Nat):Int):=Xe (by omega)
 generalize hs:Yi h.Conf h.Pages i p=s
 unfold Yi at hs
 have no:s=0->(if s=0 then some (.ret false) else Qau N h (n+1-s) 0 ((i+s:Nat):Int))=some (.ret false):=λ e=>Wn e
 rw[Wk (show ¬ (0:Int)>0 by omega)]
 by_cases k3:p.Kind=3
 ·rw[show (p.Kind==3)=true by simpa using k3,show (!(true==false))=true from rfl,We]
  rw[Wm (show ¬ p.Kind=0 by omega),Wm (show ¬ p.Kind=1 by omega),Wm (show ¬ p.Kind=2 by omega),ite_self] at hs
  exact (no hs.symm).symm
 have q3:(p.Kind==3)=false:=by simpa using k3
 rw[q3,show (!(false==false))=false from rfl,Wa]
 by_cases hsp:p.Space=0\/p.Space=1
 case neg =>
  have z:s=0:=by
   rw[← hs,Wm (c:=(p.Space=0\/p.Space=1)/\_) (λ hh=>hsp hh.1)]
   split
   ·rw[Wm (λ hh=>hsp (.inl hh.1))]
   ·rfl
  rw[no z]
  by_cases h0:p.Space<0
  ·rw[Wj h0,We]
  ·rw[XR h0,Wa,Wj (show p.Space>1 by omega),We]
 rw[XR (show ¬ p.Space<0 by omega),Wa,XR (show ¬ p.Space>1 by omega),Wa,Xbx,Xa]
 by_cases hpn:0<=p.Pins/\p.Pins<=2147483647
 case neg =>
  have z:s=0:=by
   rw[← hs,Wm (c:=(p.Space=0\/p.Space=1)/\_) (λ hh=>hpn hh.2)]
   split
   ·rw[Wm (λ hh=>hpn (by omega))]
   ·rfl
  rw[no z,XR hpn,WS,We]
 rw[Wn (c:=(p.Space=0\/p.Space=1)/\_) ⟨hsp,hpn⟩] at hs
 rw[Wj hpn,Ws,Wa]
 by_cases e0:p.Kind=0
 ·have q1:(p.Kind==1)=false:=by rw[e0];rfl
  have q2:(p.Kind==2)=false:=by rw[e0];rfl
  rw[Wn e0] at hs
  simp only[XN,show (p.Kind==0)=true by simpa using e0,q1,q2,q3,We,Wa,WA]
  by_cases hz:p.Space=0/\p.Used=0/\p.Pins=0
  ·rw[Wn hz] at hs
   subst hs
   obtain ⟨z1,z2,z3⟩:=hz
   rw[Wm (show ¬ (1:Nat)=0 by omega)]
   simp only[z1,z2,z3,show ((0:Int)==0)=true from rfl,Bool.and_self,Ws,Wa,go,ge,IZ]
  ·rw[Wm hz] at hs
   rw[no hs.symm,show ((p.Space==0)&&((p.Used==0)&&(p.Pins==0)))=false by
    rw[Bool.eq_false_iff];intro hh;simp only[Ww,beq_iff_eq] at hh;exact hz ⟨hh.1,hh.2.1,hh.2.2⟩]
   rfl
 have q0:(p.Kind==0)=false:=by simpa using e0
 rw[Wm e0] at hs
 by_cases e1:p.Kind=1
 ·have q2:(p.Kind==2)=false:=by rw[e1];rfl
  rw[Wn e1] at hs
  simp only[XN,show (p.Kind==1)=true by simpa using e1,q0,q2,q3,We,Wa]
  by_cases u0:p.Used<0
  ·rw[Wm (by omega)] at hs
   rw[Wj u0,We,no hs.symm]
  rw[XR u0,Wa]
  by_cases u1:p.Used>h.Conf.PageWords
  ·rw[Wm (by omega)] at hs
   rw[Wj u1,We,no hs.symm]
  rw[Wn (by omega)] at hs
  subst hs
  rw[XR u1,Wa,Wm (show ¬ (1:Nat)=0 by omega),go,ge,IZ]
 have q1:(p.Kind==1)=false:=by simpa using e1
 rw[Wm e1] at hs
 by_cases e2:p.Kind=2
 case neg =>
  have q2:(p.Kind==2)=false:=by simpa using e2
  rw[Wm e2] at hs
  simp only[XN,q0,q1,q2,q3,Wa]
  rw[no hs.symm]
 rw[Wn e2] at hs
 simp only[XN,show (p.Kind==2)=true by simpa using e2,q0,q1,q3,We,Wa,Kl (show 10<=N by omega),Xa]
 by_cases hn1:XQ h.Conf p.Used<1
 ·rw[Wm (λ hh=>by omega)] at hs
  rw[Wj hn1,We,no hs.symm]
 have hr:=KW h.Conf p.Used
 rw[XR hn1,Wa,Xlw h.Pages p.Space (by omega) hN i hi,Xa,Xd (n:=XQ h.Conf p.Used-1) (by omega) (by omega)]
 obtain ⟨k,hk⟩:∃ k:Nat,XQ h.Conf p.Used=((k+1:Nat):Int):=⟨(XQ h.Conf p.Used).toNat-1,by omega⟩
 have hk1:(XQ h.Conf p.Used).toNat=k+1:=by omega
 have tw:=Xav (Z5 p.Space) (h.Pages.drop (i+1)) k
 rw[hk1,IZ,hk] at hs
 rw[hk]
 by_cases ht:((Vd h.Pages p.Space (i+1):Nat):Int)<((k+1:Nat):Int)-1
 ·have hnot:¬ k<=((h.Pages.drop (i+1)).takeWhile (Z5 p.Space)).length:=by unfold Vd at ht;omega
  rw[Wm (λ hh=>hnot (tw.2 ⟨by rw[WR];omega,Xlx (λ x hx=>by unfold X9 at hx;rw[Ww] at hx;exact hx.1) hh.2.2⟩))] at hs
  rw[Wj ht,We,no hs.symm]
 rw[XR ht,Wa]
 have hyes:=tw.1 (by unfold Vd at ht;omega)
 rw[WR] at hyes
 have e:(if (0:Int)<((k+1:Nat):Int)-1 then ((k+1:Nat):Int)-1 else 0)=(k:Int):=by split<;>omega
 rw[e,ge]
 obtain ⟨m,rfl⟩:∃ m,n=m+k:=⟨n-k,by have:=KW h.Conf p.Used;omega⟩
 rw[XdA hl hsp k m (i+1) (by omega) hyes.2]
 by_cases hcl:((h.Pages.drop (i+1)).take k).all (X9 p.Space)=true
 ·rw[Wn (show 1<=((k+1:Nat):Int)/\k+1<=h.Pages.length-i/\_ from ⟨by omega,by omega,hcl⟩)] at hs
  subst hs
  rw[Wn hcl,Wm (show ¬ k+1=0 by omega),show m+k+1-(k+1)=m by omega,show i+1+k=i+(k+1) by omega]
 ·rw[Wm (λ hh=>hcl hh.2.2)] at hs
  rw[Wm hcl,no hs.symm]
def XcA {c:Um} {ps:List WM} {i:Nat} (hi:i<ps.length) {p:WM}:Yi c ps i p<=ps.length-i/\Yi c ps i p<=4:=by
 have hr:=KW c p.Used
 unfold Yi
 split
 ·split<;>omega
 split
 ·split
  ·split<;>omega
  split
  ·split
   ·rename_i hh;have:=hh.2.1;omega
   ·omega
  ·omega
 ·omega
def XcB {N:Nat} {h:Wv} (hc:XZ h.Conf=true) (hl:h.Pages.length<=100000) (hN:1000000<N):∀ (m i n n':Nat),i<=h.Pages.length->h.Pages.length-i<=m->h.Pages.length-i<n->h.Pages.length-i+10<=n'->Qae N h n (i:Int)=Qau N h n' 0 (i:Int)
 | m,i,0,n',_,_,h1,_=>by omega
 | m,i,n+1,n',hi,hm,h1,h2=>by
  by_cases hlt:i<h.Pages.length
  ·rw[Qae,Wj (by omega),We,KO hl hN hlt,Xa,Xjf hc hl hN hlt n' (by omega)]
   have hs:=XcA (c:=h.Conf) hlt (p:=h.Pages[i])
   generalize Yi h.Conf h.Pages i h.Pages[i]=s at *
   by_cases h0:s=0
   ·subst h0;rw[Wn rfl];rfl
   ·rw[Wm h0,show (((s:Nat):Int)==0)=false by simpa using h0,Wa,Xd (by omega) (by omega),show (i:Int)+(s:Int)=((i+s:Nat):Int) by omega]
    obtain ⟨m',rfl⟩:∃ m',m=m'+1:=⟨m-1,by omega⟩
    exact XcB hc hl hN m' (i+s) n (n'-s) (by omega) (by omega) (by omega) (by omega)
  ·rw[Qae,Wk (by omega),Wa]
   obtain ⟨k,rfl⟩:∃ k,n'=k+1:=⟨n'-1,by omega⟩
   rw[Qau,Wk (by omega),Wa]
def YR {N:Nat} {h:Wv} (hl:h.Pages.length<=100000) (hN:1000000<N):Qcz N h=Qab N h:=by
 rw[Qcz,Qab,Z4,YC]
 simp only[Xa,XN]
 cases hc:XZ h.Conf with
 | false=>rfl
 | true =>
 simp only[Ws,Wa,Om h.Conf.PageWords h.Conf.Pages]
 have e:=XcB hc hl hN h.Pages.length 0 N N (by omega) (by omega) (by omega) (by omega)
 rw[show ((0:Nat):Int)=0 from rfl] at e
 rw[e]
 congr 2
 by_cases s0:h.Space=0
 ·simp[s0]
 ·rw[show (h.Space != 0)=true by simpa using s0,We]
  by_cases s1:h.Space=1
  ·simp[s1]
  ·rw[show (h.Space != 1)=true by simpa using s1,We]
   by_cases s2:h.Space<0
   ·simp[s2]
   ·rw[XR s2,Wa,Wj (show h.Space>1 by omega),We]
end Go.Sx

namespace Go.Sx
section
variable {N:Nat}
def Xeo {w:Int} (hw:tU w):VP w=⟨w / 4 % 4,w / 16 % 4096,w / 65536 % 4294967296⟩:=by
 obtain ⟨h0,h1⟩:=hw
 unfold VP
 rw[show Yf .u64 w 2=w / 4 from Zp w 2 (by omega) h0,show Yf .u64 w 4=w / 16 from Zp w 4 (by omega) h0,show Yf .u64 w 16=w / 65536 from Zp w 16 (by omega) h0]
 rw[show YF .u64 (w / 4) 3=w / 4 % 4 from Zf (w / 4) 2 (by omega) (by omega) (by omega),show YF .u64 (w / 16) 4095=w / 16 % 4096 from Zf (w / 16) 12 (by omega) (by omega) (by omega)]
 rw[Xd (by omega) (by omega),Xd (by omega) (by omega),XkN]
def XpS {w:Int} (hw:tU w):okH w=(XD (VP w)&&(decide (w / 281474976710656=0)&&decide (w % 4=1))):=by
 obtain ⟨h0,h1⟩:=hw
 unfold okH
 cases hv:XD (VP w) with
 | false=>rfl
 | true =>
  rw[WA,WA]
  have hb:=XH hv
  rw[Xeo ⟨h0,h1⟩] at hb
  have hb:0<=w / 4 % 4/\w / 4 % 4<=3/\0<=w / 16 % 4096/\w / 16 % 4096<=255:=hb
  have e:XaS (VP w)=1+4*(w / 4 % 4)+16*(w / 16 % 4096)+w / 65536 % 4294967296*65536:=by
   rw[Xeo ⟨h0,h1⟩]
   unfold XaS
   have s:∀ x:Int,K4 .u64 x 16=wU (x*65536):=λ _=>rfl
   simp only[s]
   simp only[Xdb]
   omega
  rw[e]
  by_cases a:w / 281474976710656=0/\w % 4=1
  ·rw[Wj a.1,Wj a.2]
   simp only[Bool.and_self,beq_iff_eq];omega
  ·have:(decide (w / 281474976710656=0)&&decide (w % 4=1))=false:=by
    rw[Bool.eq_false_iff];intro hh;simp only[Ww,decide_eq_true_eq] at hh;exact a hh
   rw[this]
   simp only[Iz,ne_eq];omega
def Xq9:Xb [(2:Int),2,12,32] 0=some 2:=by unfold Xb;rfl
def Xra:Xb [(2:Int),2,12,32] 1=some 2:=by unfold Xb;rfl
def Xrb:Xb [(2:Int),2,12,32] 2=some 12:=by unfold Xb;rfl
def Xrc:Xb [(2:Int),2,12,32] 3=some 32:=by unfold Xb;rfl
def XgX (hN:1000000<N) {v:Int} (h0:0<=v) (h1:v<=18446744073709551615):QgQ N v [2,2,12,32]=some (if v / 281474976710656=0 then ([v % 4,v / 4 % 4,v / 16 % 4096,v / 65536 % 4294967296],0) else ([],2)):=by
 obtain ⟨m,rfl⟩:∃ m,N=m+5:=⟨N-5,by omega⟩
 have l3:([(2:Int),2,12,32].length:Nat)=4:=rfl
 have i1:wI (0+1)=1:=Xd (by omega) (by omega)
 have i2:wI (1+1)=2:=Xd (by omega) (by omega)
 have i3:wI (2+1)=3:=Xd (by omega) (by omega)
 have i4:wI (3+1)=4:=Xd (by omega) (by omega)
 have j1:wI (64-2)=62:=Xd (by omega) (by omega)
 have j2:wI (62-2)=60:=Xd (by omega) (by omega)
 have j3:wI (60-12)=48:=Xd (by omega) (by omega)
 have j4:wI (48-32)=16:=Xd (by omega) (by omega)
 have e1:QbT (m+5) v [2,2,12,32] (m+5) 64 0=some (.nxt ()):=by
  rw[QbT,l3,Xq9]
  simp only[Xa,i1,j1]
  rw[QbT,l3,Xra]
  simp only[Xa,i2,j2]
  rw[QbT,l3,Xrb]
  simp only[Xa,i3,j3]
  rw[QbT,l3,Xrc]
  simp only[Xa,i4,j4]
  rw[QbT,l3]
  rfl
 have o1:Qe3 (m+5) 2=some 3:=XbE (by omega) (by omega) (by omega)
 have o2:Qe3 (m+5) 12=some 4095:=XbE (by omega) (by omega) (by omega)
 have o3:Qe3 (m+5) 32=some 4294967295:=XbE (by omega) (by omega) (by omega)
 have s1:Yf .u64 v 2=v / 4:=Zp v 2 (by omega) h0
 have s2:Yf .u64 (v / 4) 2=v / 4 / 4:=Zp (v / 4) 2 (by omega) (by omega)
 have s3:Yf .u64 (v / 4 / 4) 12=v / 4 / 4 / 4096:=Zp (v / 4 / 4) 12 (by omega) (by omega)
 have s4:Yf .u64 (v / 4 / 4 / 4096) 32=v / 4 / 4 / 4096 / 4294967296:=Zp (v / 4 / 4 / 4096) 32 (by omega) (by omega)
 have a1:YF .u64 v 3=v % 4:=Zf v 2 (by omega) h0 h1
 have a2:YF .u64 (v / 4) 3=v / 4 % 4:=Zf (v / 4) 2 (by omega) (by omega) (by omega)
 have a3:YF .u64 (v / 4 / 4) 4095=v / 4 / 4 % 4096:=Zf (v / 4 / 4) 12 (by omega) (by omega) (by omega)
 have a4:YF .u64 (v / 4 / 4 / 4096) 4294967295=v / 4 / 4 / 4096 % 4294967296:=Zf (v / 4 / 4 / 4096) 32 (by omega) (by omega) (by omega)
 have e2:QbU (m+5) [2,2,12,32] (m+5) v 0 []=some (v / 4 / 4 / 4096 / 4294967296,[v % 4,v / 4 % 4,v / 4 / 4 % 4096,v / 4 / 4 / 4096 % 4294967296]):=by
  rw[QbU,l3,Xq9]
  rw[Wj (by omega),We,Xa,o1,Xa,Xf (by simp),Xf (by omega),s1,a1,i1]
  rw[QbU,l3,Xra]
  rw[Wj (by omega),We,Xa,o1,Xa,Xf (by simp),Xf (by omega),s2,a2,i2]
  rw[QbU,l3,Xrb]
  rw[Wj (by omega),We,Xa,o2,Xa,Xf (by simp),Xf (by omega),s3,a3,i3]
  rw[QbU,l3,Xrc]
  rw[Wj (by omega),We,Xa,o3,Xa,Xf (by simp),Xf (by omega),s4,a4,i4]
  rw[QbU,l3]
  rw[Wk (by omega),Wa]
  rfl
 rw[QgQ,e1,Xa,Xk,e2,Xa]
 have q0:v / 4 / 4=v / 16:=by omega
 have q1:v / 16 / 4096=v / 65536:=by omega
 have q2:v / 65536 / 4294967296=v / 281474976710656:=by omega
 rw[q0,q1,q2]
 by_cases h:v / 281474976710656=0
 ·rw[Wn h,h];rfl
 ·rw[Wm h,Zc h,We]
def Xly (hN:1000000<N) {w:Int} (hw:tU w):QfR N w=some (Z9 w,okH w):=by
 obtain ⟨h0,h1⟩:=hw
 rw[QfR,XgX hN h0 h1,Xa]
 unfold Z9
 rw[XpS ⟨h0,h1⟩]
 by_cases h:w / 281474976710656=0
 ·have g0:Xb [w % 4,w / 4 % 4,w / 16 % 4096,w / 65536 % 4294967296] 0=some (w % 4):=by unfold Xb;rfl
  have g1:Xb [w % 4,w / 4 % 4,w / 16 % 4096,w / 65536 % 4294967296] 1=some (w / 4 % 4):=by unfold Xb;rfl
  have g2:Xb [w % 4,w / 4 % 4,w / 16 % 4096,w / 65536 % 4294967296] 2=some (w / 16 % 4096):=by unfold Xb;rfl
  have g3:Xb [w % 4,w / 4 % 4,w / 16 % 4096,w / 65536 % 4294967296] 3=some (w / 65536 % 4294967296):=by unfold Xb;rfl
  rw[Wn h]
  simp only[g0,g1,g2,g3,Xa,show ((0:Int) != 0)=false from rfl,Wa,Xd (n:=w / 4 % 4) (by omega) (by omega),Xd (n:=w / 16 % 4096) (by omega) (by omega),XoZ (n:=w / 65536 % 4294967296) (by omega) (by omega)]
  rw[JH (by omega),Xa,← Xeo ⟨h0,h1⟩,Wj h,WA]
  by_cases hm:w % 4=1
  ·rw[hm,show ((1:Int) != 1)=false from rfl,Wa,Wj rfl,I5]
   cases XD (VP w)<;>rfl
  ·rw[show (w % 4 != 1)=true by simpa using hm,We,Wk hm,IF];rfl
 ·rw[Wm h,Wk h,W5,IF];rfl
def XdB {ws:List Int} (hl:ws.length<=1000000) {a:Int} (ha:a<=18446744073709551615) (n:Int):Qf1 N ws a n=QdH N ws a n:=by
 rw[Qf1,QdH]
 by_cases h1:a<4096
 ·rw[Wj h1,We,We]
 rw[XR h1,Wa,Wa,XC (n:=a-4096) (by omega) (by omega),XC (n:=((ws.length:Nat):Int)) (by omega) (by omega),XC (n:=4096+((ws.length:Nat):Int)) (by omega) (by omega)]
 rw[show decide (a-4096>((ws.length:Nat):Int))=decide (a>4096+((ws.length:Nat):Int)) from decide_eq_decide.2 (by omega)]
def XfR {ws:List Int} (hl:ws.length<=1000000) {a:Int} (ha:a<=18446744073709551615):Qgy N ws a=Qbm N ws a:=by
 rw[Qgy,Qbm,Qhq,QfY,XdB hl ha]
def XfS {ws:List Int} (hl:ws.length<=1000000) {a:Int} (ha:a<=18446744073709551615) (n:Int):Qgz N ws a n=Qc2 N ws a n:=by
 rw[Qgz,Qc2,XdB hl ha]
 by_cases h0:n<0
 ·rw[Wj h0,We,We]
 rw[XR h0,Wa,Wa]
 congr 1
 funext y
 cases y.2 with
 | false=>rfl
 | true =>
  simp only[Ws,Wa,QcI,Xa]
  unfold grd
  by_cases g:0<=y.1/\y.1<=wI (y.1+n)/\wI (y.1+n)<=((ws.length:Nat):Int)
  ·rw[Wn g,Wn g,Wn (by omega)]
  ·rw[Wm g,Wm g]
structure HT (h:Wv):Prop where
 hb:HB h
 tw:XJ h
def HT.word {h:Wv} (t:HT h) {i:Int} {w:Int} (e:Xb h.Words i=some w):tU w:=by
 have:=t.tw
 exact this w (Yo e)
def XcC (hN:NB N) {h:Wv} (ht:HT h) {a:Int} (ha:tU a):Qe4 N h a=Qav N h a:=by
 have hN':1000000<N:=by unfold NB at hN;omega
 have hb:=ht.hb
 unfold HB at hb
 rw[Qe4,Qav,YR (by omega) hN']
 obtain ⟨b,eb,hb2⟩:=Yr (N:=N) (by omega) (h:=h) (by omega) (by omega)
 rw[eb,Xa,Xa]
 cases b with
 | false=>rfl
 | true =>
 have hp:=hb2 rfl
 rw[Ws,Wa,Wa,Xlv _ _ _ ha.2,Xae,Wm (by rw[hp.conf];simp)]
 by_cases hr:4096<=a/\a<4096+h.Conf.Pages*h.Conf.PageWords
 case neg=>rw[Wm hr,Xa,Xa];rfl
 rw[Wn hr,Xa,Xa]
 simp only[show ((0:Int) != 0)=false from rfl,Wa]
 have po:=Xeb hp.conf hr.1 hr.2
 have hpl:=hp.pages
 generalize (a-4096) / h.Conf.PageWords=pn at *
 generalize (a-4096) % h.Conf.PageWords=po' at *
 have hpg:=hp.pgs pn (by omega) (by omega)
 have hsm:=hpg.small
 rw[Zx (by omega) (by omega),Xa,Xa]
 generalize pg h.Pages pn=p at hsm ⊢
 rw[QgU,XfR (by omega) ha.2]
 have hcv:=Xj.1 hp.conf
 have hmm:=X5 hp.conf (i:=0) (by omega) (by omega)
 have ew:∃ w,Qbm N h.Words a=some (w,0)/\tU w:=by
  rw[Qbm,QfY,QdH,XR (show ¬ a<4096 by omega),Wa,XC (n:=((h.Words.length:Nat):Int)) (by omega) (by omega),XC (n:=4096+((h.Words.length:Nat):Int)) (by omega) (by omega),XR (show ¬ a>4096+((h.Words.length:Nat):Int) by have:=hp.words;omega),Wa,XC (n:=a-4096) (by omega) (by omega),Xd (n:=a-4096) (by omega) (by omega),Xd (by omega) (by omega),Xa]
  rw[Wj (show 1<=((h.Words.length:Nat):Int)-(a-4096) by have:=hp.words;omega),Ws,Wa,Xa]
  simp only[show ((0:Int) != 0)=false from rfl,Wa]
  have hg:=Yg (l:=h.Words) (i:=a-4096) (by omega) (by have:=hp.words;omega)
  exact ⟨_,by rw[hg,Xa],ht.word hg⟩
 obtain ⟨w,ew,tw⟩:=ew
 rw[ew,Xa,Xa,Xa,Xly hN' tw,Xad,Xa,Xa]
 simp only[Jp (show 1000<N by omega),YB,Xa,XN]
 have hs:=Xdc w
 generalize Z9 w=d at *
 generalize X1 d=s at *
 cases okH w with
 | false =>
  simp only[WS,We,Bool.cond_self]
 | true =>
  simp only[Ws,Wa]
  by_cases k1:p.Kind=1
  ·have k2:(p.Kind==2)=false:=by rw[k1];rfl
   simp only[show (p.Kind != 1)=false by simpa using k1,show (p.Kind==1)=true by simpa using k1,k2,We,Wa]
   by_cases u:po'>=p.Used
   ·rw[Wj u,We,We];rfl
   ·rw[XR u,Wa,Wa]
    have hpo:po'<=64:=by omega
    by_cases z:wI (po'+s)>p.Used
    ·rw[Wj z,We]
     rw[Xd (n:=po'+s) (by omega) (by omega)] at z
     have:¬ s<=wI (p.Used-po'):=by
      rw[Xd (by omega) (by omega)];omega
     rw[XR this];rfl
    ·rw[XR z,Wa]
     rw[Xd (n:=po'+s) (by omega) (by omega)] at z
     have:=hsm k1
     rw[Xd (n:=p.Used-po') (by omega) (by omega),Wj (by omega)];rfl
  ·rw[show (p.Kind != 1)=true by simpa using k1,show (p.Kind==1)=false by simpa using k1]
   simp only[We,Wa]
   by_cases k2:p.Kind=2
   ·simp only[show (p.Kind != 2)=false by simpa using k2,show (p.Kind==2)=true by simpa using k2,We,Wa]
    by_cases u:po'>=p.Used
    ·rw[Wj u,We,We];rfl
    ·rw[XR u,Wa,Wa]
     by_cases z:po'=0
     ·rw[show (po'==0)=true by simpa using z,show (po' != 0)=false by simpa using z,We,Wa]
      by_cases q:s=p.Used
      ·rw[show (s==p.Used)=true by simpa using q,show (s != p.Used)=false by simpa using q];rfl
      ·rw[show (s==p.Used)=false by simpa using q,show (s != p.Used)=true by simpa using q];rfl
     ·rw[show (po'==0)=false by simpa using z,show (po' != 0)=true by simpa using z];rfl
   ·simp only[show (p.Kind != 2)=true by simpa using k2,show (p.Kind==2)=false by simpa using k2,We,Wa,WS,Bool.cond_self]
end
section
variable {N:Nat}
def fnd (h:Wv) (a:Int):U0:=⟨a,hdA h.Words a⟩
def XfT (l:List U0) (hl:l.length<=1000000):∀ (n k:Nat) (v:List Int),k<=l.length->l.length-k<n->v.length=k->Qdg N l n (k:Int) v=some (v++(l.drop k).map (·.addr))
 | 0,k,v,_,h,_=>by omega
 | n+1,k,v,hk,hn,hv=>by
  rw[Qdg]
  by_cases hlt:k<l.length
  ·rw[Wj (by omega),We,Xc,Wb hlt,Xa,Xf (by omega),Xe (by omega),XfT l hl n (k+1) _ (by omega) (by omega) (by simp[hv]),Wt hlt,Ul,WX]
   rfl
  ·rw[Wk (by omega),Wa,WL (by omega)];simp
def XcD (l:List U0) (hl:l.length<=1000000) (hN:1000000<N):Qck N l=some (l.map (·.addr)):=by
 rw[Qck,show (0:Int)=((0:Nat):Int) from rfl,XfT l hl N 0 [] (by omega) (by omega) rfl,Xa];simp
def Xn3 (h:Wv) (l:List Int):(l.map (fnd h)).map (·.addr)=l:=by
 rw[List.map_map];exact List.map_id'' (λ _=>rfl) l
def XsY (h:Wv):Ex (List Int×Int) (List Int)->List U0×Int
 | .ret r=>([],19)
 | .nxt l=>(l.map (fnd h),0)
def XdC (hN:NB N) {h:Wv} (ht:HT h) (hp:UR h) {i:Int} (h0:0<=i) (h1:i<h.Pages.length) (hk:(pg h.Pages i).Kind=1\/(pg h.Pages i).Kind=2):∀ (n:Nat) (o:Int) (l:List Int),0<=o->(66-o).toNat<n->(l.length:Int)<=o->((pg h.Pages i).Kind=1->o<=64)->((pg h.Pages i).Kind=2->o=0) ->
 ∃ e,Qbe N h i (pg h.Pages i) n o l=some e/\QbV N h i (pg h.Pages i) n o (l.map (fnd h))=some (XsY h e)/\(∀ r,e=.ret r->r=([],19))
 | 0,o,l,ho,hn,hl,k1,k2=>by
  rcases hk with hk | hk
  ·have:=k1 hk;omega
  ·have:=k2 hk;omega
 | n+1,o,l,ho,hn,hl,k1,k2=>by
  have hN':1000000<N:=by unfold NB at hN;omega
  have hv:=Xj.1 hp.conf
  have hpl:=hp.pages
  have hsm:=(hp.pgs i h0 h1).small
  have ho64:o<=64:=by rcases hk with hk | hk;exact k1 hk;have:=k2 hk;omega
  rw[Qbe,QbV]
  by_cases hlt:o<(pg h.Pages i).Used
  case neg=>rw[XR hlt,Wa,Wa];exact ⟨_,rfl,rfl,λ r e=>by cases e⟩
  have hopw:o<h.Conf.PageWords:=by
   rcases hk with hk | hk
   ·have:=hsm hk;omega
   ·have:=k2 hk;omega
  rw[Wj hlt,We,We,XfP,Vp,hp.conf,Xa,Xa,Wm (by simp),Wn (by omega)]
  dsimp only
  have hpw:=X5 hp.conf (i:=i) h0 (by omega)
  have ha:tU (Xi h.Conf i o):=by unfold Xi;exact ⟨by omega,by omega⟩
  rw[show ((0:Int)==0)=true from rfl,We,XcC hN ht ha]
  obtain ⟨y,ey,hy⟩:=Xfp hN ht.hb (Xi h.Conf i o)
  rw[ey,Xa,Xa]
  by_cases hy0:y.2=0
  case neg =>
   rw[show (y.2 != 0)=true by simpa using hy0,show (y.2==0)=false by simpa using hy0,We,Wa]
   exact ⟨_,rfl,rfl,λ r e=>by cases e;rfl⟩
  obtain ⟨_,_,hat,hhd⟩:=hy hy0
  have hsz:=ZL h.Words (Xi h.Conf i o)
  have hpi:=Xfr hp.conf (p:=i) ho hopw
  rw[show (y.2 != 0)=false by simpa using hy0,show (y.2==0)=true by simpa using hy0,We,Wa,hhd,Xf (by omega)]
  rw[Jp (by omega),Xa,hsz.1,Xf (by rw[W0];omega)]
  rw[show U0.mk (Xi h.Conf i o) (hdA h.Words (Xi h.Conf i o))=fnd h (Xi h.Conf i o) from rfl]
  have em:l.map (fnd h)++[fnd h (Xi h.Conf i o)]=(l++[Xi h.Conf i o]).map (fnd h):=by simp
  rw[em]
  rcases hk with hk | hk
  ·have hu:=hsm hk
   rw[show ((pg h.Pages i).Kind==2)=false by rw[hk];rfl,Wa,YB,Xa,hsz.1]
   have hat1:=hat.small
   rw[hpi.1,hpi.2] at hat1
   have:=hat1 hk
   rw[Xd (n:=o+szA h.Words (Xi h.Conf i o)) (by omega) (by omega)]
   exact XdC hN ht hp h0 h1 (.inl hk) n _ _ (by omega) (by omega) (by simp;omega) (λ _=>by omega) (λ k=>by omega)
  ·rw[show ((pg h.Pages i).Kind==2)=true by rw[hk];rfl,We]
   have hat2:=hat.large
   rw[hpi.1,hpi.2] at hat2
   have:=hat2 hk
   refine ⟨_,rfl,?_,λ r e=>by cases e⟩
   rw[Xd (n:=o+szA h.Words (Xi h.Conf i o)) (by omega) (by omega)]
   obtain ⟨m,rfl⟩:∃ m,n=m+1:=⟨n-1,by omega⟩
   rw[QbV,XR (by omega),Wa];rfl
def Y0 {h:Wv} (hN:NB N) (hb:HB h) (ep:Qab N h=some true):UR h:=by
 obtain ⟨b,eb,hb2⟩:=Yr (N:=N) (by unfold NB at hN;omega) hb.1 hb.2
 rw[ep] at eb;cases eb;exact hb2 rfl
def Jq (hN:NB N) {h:Wv} (hb:HB h):∃ b,Qab N h=some b:=by
 obtain ⟨b,eb,_⟩:=Yr (N:=N) (by unfold NB at hN;omega) hb.1 hb.2
 exact ⟨b,eb⟩
def XcE (hN:NB N) {h:Wv} (ht:HT h) (ep:Qab N h=some true) {i:Int} (h0:0<=i) (h1:i<h.Pages.length):∃ r,Qay N h i=some r/\Qf2 N h i=some (r.1.map (fnd h),r.2)/\(r.2≠0->r=([],19)):=by
 have hb:=ht.hb
 have hp:=Y0 hN hb ep
 rw[Qay,Qf2,ep,Xa,Zx h0 h1,Xa,Xa,Ws,Wa,XR (show ¬ i<0 by omega),Wa,XR (show ¬ i>=_ by omega),Wa]
 have hkk:=(hp.pgs i h0 h1).kind
 have main:((pg h.Pages i).Kind=1\/(pg h.Pages i).Kind=2)->∃ r,(bnd (Qbe N h i (pg h.Pages i) N 0 []) λ e=>exK e (λ r=>some r) λ y8=>some (y8,0))=some r/\QbV N h i (pg h.Pages i) N 0 []=some (r.1.map (fnd h),r.2)/\(r.2≠0->r=([],19)):=by
  intro hk
  obtain ⟨e,e1,e2,e3⟩:=XdC hN ht hp h0 h1 hk N 0 [] (by omega) (by unfold NB at hN;omega) (by simp) (λ _=>by omega) (λ _=>rfl)
  rw[e1,Xa]
  rw[Uz] at e2
  rw[e2]
  cases e with
  | ret r=>rw[e3 r rfl];rw[Xl];exact ⟨_,rfl,rfl,λ _=>rfl⟩
  | nxt l=>rw[Xk];exact ⟨_,rfl,rfl,λ h=>absurd rfl h⟩
 by_cases k1:(pg h.Pages i).Kind=1
 ·have:=main (.inl k1)
  rw[show ((pg h.Pages i).Kind==0)=false by rw[k1];rfl,show ((pg h.Pages i).Kind==3)=false by rw[k1];rfl,show ((pg h.Pages i).Kind != 1)=false by rw[k1];rfl]
  exact this
 by_cases k2:(pg h.Pages i).Kind=2
 ·have:=main (.inr k2)
  rw[show ((pg h.Pages i).Kind==0)=false by rw[k2];rfl,show ((pg h.Pages i).Kind==3)=false by rw[k2];rfl,show ((pg h.Pages i).Kind != 1)=true by rw[k2];rfl,show ((pg h.Pages i).Kind != 2)=false by rw[k2];rfl]
  exact this
 ·rw[show ((pg h.Pages i).Kind != 1)=true by simpa using k1,show ((pg h.Pages i).Kind != 2)=true by simpa using k2]
  simp only[We]
  refine ⟨([],0),?_,rfl,λ h=>absurd rfl h⟩
  by_cases k0:(pg h.Pages i).Kind=0
  ·rw[show ((pg h.Pages i).Kind==0)=true by simpa using k0,We]
  ·rw[show ((pg h.Pages i).Kind==0)=false by simpa using k0,show ((pg h.Pages i).Kind==3)=true by simp;omega];rfl
def QnI (hN:NB N) {h:Wv} (hb:HB h) (i:Int) {r:List Int×Int} (e:Qay N h i=some r):r.1.length<=64:=by
 have:=(Qo0 hN hb i).get_eq e
 exact this.2.1
def XfU (hN:NB N) {h:Wv} (ht:HT h) (i:Int):Qgl N h i=Qay N h i:=by
 have hb:=ht.hb
 rw[Qgl,YR (by have:=hb.2;omega) (by unfold NB at hN;omega)]
 obtain ⟨b,eb⟩:=Jq (N:=N) hN hb
 rw[eb,Xa]
 cases b with
 | false=>rw[Qay,eb,Xa];rfl
 | true =>
 by_cases h0:i<0
 ·rw[Qay,eb,Xa,Wj h0];rfl
 by_cases h1:i>=h.Pages.length
 ·rw[Qay,eb,Xa,XR h0,Wj h1];rfl
 obtain ⟨r,e1,e2,e3⟩:=XcE hN ht eb (i:=i) (by omega) (by omega)
 rw[Ws,Wa,XR h0,Wa,XR h1,Wa,e2,Xa,e1]
 have hl:=QnI hN hb i e1
 by_cases z:r.2=0
 ·dsimp only
  rw[show (r.2 != 0)=false by simpa using z,Wa,XcD _ (by rw[W0];omega) (by unfold NB at hN;omega),Xa,Xn3]
  congr 1;exact Prod.ext rfl z.symm
 ·dsimp only
  rw[show (r.2 != 0)=true by simpa using z,We,e3 z]
def XhZ (hN:NB N) {h:Wv} (ht:HT h) (ep:Qab N h=some true):∀ (n k:Nat) (l:List Int),k<=h.Pages.length->h.Pages.length-k<n->l.length<=64*k ->
 ∃ e,Qa2 N h n (k:Int) l=some e/\Qf4 N h n (k:Int) (l.map (fnd h))=some (match e with | .ret r=>.ret (r.1.map (fnd h),r.2) | .nxt l=>.nxt (l.map (fnd h)))/\(∀ r,e=.ret r->r=([],19))/\(∀ l',e=.nxt l'->l'.length<=64*h.Pages.length)
 | 0,k,l,_,h,_=>by omega
 | n+1,k,l,hk,hn,hl=>by
  have hb:=ht.hb
  have hb2:=hb.2
  rw[Qa2,Qf4]
  by_cases hlt:k<h.Pages.length
  case neg=>rw[Wk (show ¬ (k:Int)<_ by omega),Wa,Wa];refine ⟨_,rfl,rfl,?_,?_⟩<;>intro r e<;>cases e;omega
  rw[Wj (show (k:Int)<_ by omega),We,We]
  obtain ⟨r,e1,e2,e3⟩:=XcE hN ht ep (i:=(k:Int)) (by omega) (by omega)
  rw[e1,e2,Xa,Xa]
  have hr:=QnI hN hb (k:Int) e1
  dsimp only
  by_cases z:r.2=0
  ·rw[show (r.2 != 0)=false by simpa using z,Wa,Wa,Xf (by omega),Xf (by simp only[W0];omega),Xe (by omega),← IJ]
   exact XhZ hN ht ep n (k+1) _ (by omega) (by omega) (by rw[Wp];omega)
  ·rw[show (r.2 != 0)=true by simpa using z,We,We,e3 z]
   refine ⟨_,rfl,rfl,?_,?_⟩<;>intro r e<;>cases e;rfl
def Xn4 (hN:NB N) {h:Wv} (ht:HT h):∃ r,Qc3 N h=some r/\QhJ N h=some (r.1.map (fnd h),r.2)/\(r.2≠0->r.1=[])/\r.1.length<=6400000:=by
 have hb:=ht.hb
 have hb2:=hb.2
 rw[Qc3,QhJ,YR (by omega) (by unfold NB at hN;omega)]
 obtain ⟨b,eb⟩:=Jq (N:=N) hN hb
 rw[eb,Xa,Xa]
 cases b with
 | false=>exact ⟨_,rfl,rfl,λ _=>rfl,by simp⟩
 | true =>
 rw[Ws,Wa,Wa]
 obtain ⟨e,e1,e2,e3,e4⟩:=XhZ hN ht eb N 0 [] (by omega) (by unfold NB at hN;omega) (by simp)
 rw[Uz] at e2
 rw[show (0:Int)=((0:Nat):Int) from rfl,e1,e2,Xa,Xa]
 cases e with
 | ret r =>
  rw[Xl]
  dsimp only
  rw[Xl,e3 r rfl]
  exact ⟨_,rfl,rfl,λ _=>rfl,by simp⟩
 | nxt l =>
  have:=e4 l rfl
  rw[Xk]
  dsimp only
  rw[Xk]
  exact ⟨_,rfl,rfl,λ h=>absurd rfl h,by dsimp only;omega⟩
end
section
variable {N:Nat}
def KP (f:U0):Bool:=!(f.hd.Kind==0)
def XfV (h:Wv) (l:List Int):List Int:=l.filter λ a=>KP (fnd h a)
def XgY (l0:List U0) (hl:l0.length<=1000000):∀ (n i j:Nat) (v:List U0),i<=j->j<=l0.length->l0.length-j<n->v.length=l0.length->v.drop j=l0.drop j ->
 ∃ (i':Nat) (v':List U0),Qct N n (i:Int) (j:Int) v=some ((i':Int),v')/\v'.length=l0.length/\i'<=l0.length/\v'.take i'=v.take i++(l0.drop j).filter KP
 | 0,i,j,v,_,_,h,_,_=>by omega
 | n+1,i,j,v,hij,hj,hn,hv,hd=>by
  rw[Qct,Xf (by omega)]
  by_cases hlt:j<l0.length
  case neg =>
   rw[Wk (by omega),Wa]
   refine ⟨i,v,rfl,hv,by omega,?_⟩
   rw[WL (by omega)];simp
  have hjv:v[j]'(by omega)=l0[j]:=by
   have a:=Wt (l:=v) (i:=j) (by omega)
   have b:=Wt (l:=l0) (i:=j) (by omega)
   rw[hd,b] at a
   exact (I6 a).1.symm
  have hd1:v.drop (j+1)=l0.drop (j+1):=by
   have a:=Wt (l:=v) (i:=j) (by omega)
   have b:=Wt (l:=l0) (i:=j) (by omega)
   rw[hd,b] at a
   exact (I6 a).2.symm
  rw[Wj (by omega),We,Xc,Wb (by omega),Xa,QeA,Xa,hjv,Wt hlt]
  cases hk:(l0[j].hd.Kind==0) with
  | true =>
   rw[Ws,Wa,Xe (by omega),UP (by unfold KP;rw[hk];simp)]
   exact XgY l0 hl n i (j+1) v (by omega) (by omega) (by omega) hv hd1
  | false =>
   rw[WS,We,Xc,Wb (by omega),Xa,Xe (by omega),Xe (by omega),UY (by unfold KP;rw[hk];rfl)]
   rw[show ((i:Int)).toNat=i from rfl]
   obtain ⟨i',v',e1,e2,e3,e4⟩:=XgY l0 hl n (i+1) (j+1) (v.set i l0[j]) (by omega) (by omega) (by omega) (by rw[Wx];exact hv) (by rw[List.drop_set_of_lt (by omega)];exact hd1)
   refine ⟨i',v',e1,e2,e3,?_⟩
   rw[e4,List.take_succ,List.getElem?_set_self (by omega),List.take_set_of_le (Ui _)]
   simp
def Xn5 (l:List U0) (hl:l.length<=1000000) (hN:1000000<N):Qag N l=some (Vb (λ f=>f.hd.Kind==0) l):=by
 rw[Qag]
 exact KN (p:=λ f:U0=>f.hd.Kind==0) hl hN (λ n k x e=>by
  have hk:=Xq e
  rw[Qaf,Xv hk,We,Xc,e,Xa,QeA,Xa,Xe (by omega)]) (λ n=>by rw[Qaf,Xp,Wa])
def Xjg (l:List U0) (hl:l.length<=1000000) (hN:1000000<N):(bnd (Qag N l) λ y2 =>
 bif (y2==(-1)) then (bnd (Qck N l) λ y11 =>
  some (y11,(0:Int)))
 else bnd (Qct N N y2 (wI (y2+1)) l) λ y9 =>
 grd (0<=y9.1/\y9.1<=((y9.2.length:Nat):Int)/\((y9.2.length:Nat):Int)<=((y9.2.length:Nat):Int)) <|
 grd (0<=y9.1/\y9.1<=(((((min y9.1.toNat y9.2.length)+(y9.2.length-y9.1.toNat))+(y9.2.length-(y9.1.toNat+(y9.2.length-y9.1.toNat)))):Nat):Int)) <|
 bnd (Qck N ((((y9.2.take y9.1.toNat)++(List.replicate (y9.2.length-y9.1.toNat) (U0.mk 0 (WI.mk 0 0 0))))++(y9.2.drop (y9.1.toNat+(y9.2.length-y9.1.toNat)))).take y9.1.toNat)) λ y12 =>
 some (y12,0))=some ((l.filter KP).map (·.addr),0):=by
 rw[Xn5 l hl hN,Xa]
 unfold Vb
 cases hf:l.findIdx? (λ f=>f.hd.Kind==0) with
 | none =>
  have hall:l.filter KP=l:=by
   rw[List.findIdx?_eq_none_iff] at hf
   rw[IP]
   intro x hx
   unfold KP;rw[hf x hx];rfl
  dsimp only
  rw[show ((-1:Int)==-1)=true from rfl,We,XcD l hl hN,Xa,hall]
 | some j =>
  obtain ⟨hj,hp,hb⟩:=List.findIdx?_eq_some_iff_getElem.1 hf
  dsimp only
  rw[show (((j:Nat):Int)==-1)=false by simp,Wa,Xe (by omega)]
  obtain ⟨i',v',e1,e2,e3,e4⟩:=XgY (N:=N) l hl N j (j+1) l (by omega) (by omega) (by omega) rfl rfl
  rw[e1,Xa]
  dsimp only
  rw[Xf (by omega),Xf (by omega),show ((i':Int)).toNat=i' from rfl]
  have et:(((v'.take i')++(List.replicate (v'.length-i') (U0.mk 0 (WI.mk 0 0 0))))++(v'.drop (i'+(v'.length-i')))).take i'=v'.take i':=by
   rw[Ul,List.take_append_of_le_length (by rw[WC];omega),List.take_take,UM]
  have ef:l.filter KP=l.take j++(l.drop (j+1)).filter KP:=by
   conv=>lhs;rw[← I7 j l,List.filter_append,Wt hj,UP (by unfold KP;rw[hp];simp)]
   congr 1
   rw[IP]
   intro x hx
   obtain ⟨k,hk,rfl⟩:=WU hx
   rw[WC] at hk
   rw[List.getElem_take]
   have:=hb k (by omega)
   unfold KP
   simpa using this
  rw[et,e4,← ef]
  have hle:(l.filter KP).length<=l.length:=List.length_filter_le _ _
  rw[XcD _ (by omega) hN,Xa]
def XbF {h:Wv} (y:List Int×Int) (hy:y.1.length<=1000000) (hev:∀ a∈y.1,Qav N h a=some (hdA h.Words a,0)):∀ (n k:Nat) (v:List Int),k<=y.1.length->y.1.length-k<n->v.length<=k ->
 QaC N h y n (k:Int) v=some (v++XfV h (y.1.drop k))
 | 0,k,v,_,hn,_=>by omega
 | n+1,k,v,hk,hn,hv=>by
  rw[QaC]
  by_cases hlt:k<y.1.length
  ·rw[Wj (by omega),We,Xc,Wb hlt,Xa,hev _ (WW hlt),Xa,Xe (by omega),Wt hlt,XfV]
   dsimp only
   by_cases hk:(hdA h.Words y.1[k]).Kind=0
   ·rw[show ((hdA h.Words y.1[k]).Kind != 0)=false by simpa using hk,Wa,XbF y hy hev n (k+1) v (by omega) (by omega) (by omega),UP (by simp[KP,fnd,hk])]
    rfl
   ·rw[show ((hdA h.Words y.1[k]).Kind != 0)=true by simpa using hk,We,Xa,Xf (by omega),XbF y hy hev n (k+1) _ (by omega) (by omega) (by rw[Wp];simp;omega),UY (by simp[KP,fnd,hk])]
    simp[XfV]
  ·rw[Wk (by omega),Wa,WL (by omega)];simp[XfV]
def Ve (hN:NB N) {h:Wv} (ht:HT h):QeG N h=Qaq N h:=by
 have hN':1000000<N:=by unfold NB at hN;omega
 obtain ⟨r,e1,e2,e3,_⟩:=Xn4 hN ht
 obtain ⟨hs,hp,_⟩:=(XaT hN ht.hb).get_eq e1
 have hlen:=hs.len
 rw[QeG,Qaq,e1,e2,Xa,Xa]
 dsimp only
 rw[show (0:Int)=((0:Nat):Int) from rfl,XbF r (by omega) hs.obj.ev N 0 [] (by omega) (by omega) (by simp),Xa,WP,Ux]
 by_cases z:r.2=0
 ·rw[show (r.2 != ((0:Nat):Int))=false by simpa using z,Wa]
  have:=Xjg (N:=N) (r.1.map (fnd h)) (by rw[W0];omega) hN'
  rw[show ((0:Nat):Int)=0 from rfl,this,z]
  congr 2
  rw[List.filter_map,List.map_map]
  unfold XfV
  exact List.map_id'' (λ _=>rfl) _
 ·rw[show (r.2 != ((0:Nat):Int))=true by simpa using z,We,e3 z];rfl
end
section
variable {N:Nat}
def exM {α β γ:Type} (f:α->γ):Ex α β->Ex γ β
 | .ret a=>.ret (f a)
 | .nxt b=>.nxt b
def Of.tu {h:Wv} (hp:UR h) {a:Int} (ha:Of h a):tU a:=by
 have:=ha.rng;have:=X5 hp.conf (i:=0) (by omega) (by have:=Xj.1 hp.conf;omega)
 exact ⟨by omega,by omega⟩
def XdD (hN:NB N) {h:Wv} (ht:HT h) (hp:UR h) {i:Int} (h0:0<=i) (h1:i<h.Pages.length) (l:List Int) (hl:l.length<=4096) (hat:∀ a∈l,Of h a) (hev:∀ a∈l,Qav N h a=some (hdA h.Words a,0)):∀ (n k:Nat),k<=l.length->l.length-k<n ->
 ∃ e,Qbf N h i l n (k:Int)=some e/\Qcl N h i l n (k:Int)=some (exM (λ a=>(a,true)) e)/\∀ a,e=.ret a->a∈l
 | 0,k,_,hn=>by omega
 | n+1,k,hk,hn=>by
  rw[Qbf,Qcl]
  by_cases hlt:k<l.length
  case neg=>rw[Wk (by omega),Wa,Wa];exact ⟨_,rfl,rfl,λ a e=>by cases e⟩
  have hm:=WW hlt
  have hne:1000<N:=by unfold NB at hN;omega
  have nx:=XdD hN ht hp h0 h1 l hl hat hev n (k+1) (by omega) (by omega)
  simp only[Wj (show (k:Int)<((l.length:Nat):Int) by omega),We,Xc,Wb hlt,Xa,XcC hN ht ((hat _ hm).tu hp),hev _ hm,Jp hne,YB,Xlt,Xhz,Zx h0 h1,Xe (show k<=140737488355328 by omega)]
  cases ((pg h.Pages i).Kind==1)<;>cases ((pg h.Pages i).Kind==2)<;>cases (decide (X1 (hdA h.Words l[k])<=smC h.Conf))<;>cases ((hdA h.Words l[k]).Kind==0)
  all_goals simp only[We,Wa,Ws,WS]
  all_goals first
   | exact nx
   | exact ⟨_,rfl,rfl,λ a e=>by cases e;exact hm⟩
def Xjh (hN:NB N) {h:Wv} (ht:HT h) (hp:UR h) {i:Int} (h0:0<=i) (h1:i<h.Pages.length) (l:List Int) (hl:l.length<=4096) (hat:∀ a∈l,Of h a) (hev:∀ a∈l,Qav N h a=some (hdA h.Words a,0)) :
 ∃ a,Qeo N h i l=some a/\∃ b,Qf3 N h i l=some (b,a != 0):=by
 obtain ⟨e,e1,e2,e3⟩:=XdD hN ht hp h0 h1 l hl hat hev N 0 (by omega) (by unfold NB at hN;omega)
 rw[Qeo,Qf3,show (0:Int)=((0:Nat):Int) from rfl,e1,e2,Xa,Xa]
 cases e with
 | ret a =>
  have:=(hat a (e3 a rfl)).rng
  simp only[exM,Xl]
  exact ⟨a,rfl,a,by rw[show (a != ((0:Nat):Int))=true by simp;omega]⟩
 | nxt u=>simp only[exM,Xk];exact ⟨_,rfl,_,rfl⟩
def XfW {h:Wv} (hf:(pg h.Pages 0).Kind≠3) (hl:h.Pages.length<=100000):∀ (n i:Nat),i<h.Pages.length->i<n->QeP N h n (i:Int)=Qdh N h n (i:Int)
 | 0,i,_,hn=>by omega
 | n+1,i,hi,hn=>by
  rw[QeP,Qdh,Zx (by omega) (by omega),Xa,Xa]
  cases i with
  | zero=>rw[show decide (((0:Nat):Int)>0)=false from rfl,Wa,show ((pg h.Pages ((0:Nat):Int)).Kind==3)=false by simpa using hf,Wa]
  | succ j =>
   rw[Wj (by omega),We,Xd (by omega) (by omega),show ((j+1:Nat):Int)-1=(j:Int) by omega,XfW hf hl n j (by omega) (by omega)]
def Xlz (hN:NB N) {h:Wv} (hb:HB h) (hp:UR h) {i:Int} (h0:0<=i) (h1:i<h.Pages.length):Qg9 N h i=QeW N h i:=by
 obtain ⟨k,rfl⟩:∃ k:Nat,i=(k:Int):=⟨i.toNat,by omega⟩
 have:=hb.2
 rw[Qg9,QeW,XfW hp.first this N k (by omega) (by unfold NB at hN;omega)]
def Vf (h:Wv) (a:Int):Int:=if (hdA h.Words a).Kind=0 then 1 else szA h.Words a
def XpT (h:Wv) (i:Int) (l:List Int) (k:Int):Bool:=l.any λ a=>decide (a-Xi h.Conf i 0<=k/\k<a-Xi h.Conf i 0+Vf h a)
def Xh0 (h:Wv) (hp:UR h) (i:Int) (h0:0<=i) (h1:i<h.Pages.length) (l:List Int) (k:Nat) (a:Int) (hk:l[k]? = some a) (x:Int) (hx:x<=256) (ha:4096<=a/\a<=8192):∀ (n:Nat) (w:Int) (u:List Bool),0<=w->(x-w).toNat<n->u.length<=1000 ->
 ∃ u',Qbv N h i l (k:Int) x n w u=some u'/\u'.length=u.length/\∀ j,j<u.length->u'.getD j false=(u.getD j false||decide (a-Xi h.Conf i 0+w<=j/\(j:Int)<a-Xi h.Conf i 0+x))
 | 0,w,u,_,hn,_=>by omega
 | n+1,w,u,hw,hn,hu=>by
  have hpl:=hp.pages
  have hv:=Xj.1 hp.conf
  have hm:=X5 hp.conf (i:=i) h0 (by omega)
  rw[Qbv]
  by_cases hlt:w<x
  case neg =>
   rw[XR hlt,Wa]
   exact ⟨u,rfl,rfl,λ j hj=>by rw[XR (show ¬ _ by omega),Bool.or_false]⟩
  have ad:Xi h.Conf i 0=4096+i*h.Conf.PageWords:=by unfold Xi;omega
  rw[Wj hlt,We,Xc,hk,Xa]
  rw[Xd (n:=a) (by omega) (by omega),Xd (n:=a-4096) (by omega) (by omega),Xd (n:=a-4096+w) (by omega) (by omega),Xd (n:=i*h.Conf.PageWords) (by omega) (by omega),Xd (n:=a-4096+w-i*h.Conf.PageWords) (by omega) (by omega),Xd (n:=w+1) (by omega) (by omega)]
  generalize hq:a-4096+w-i*h.Conf.PageWords=q
  have step:∀ v:List Bool,v.length=u.length->(∀ j,j<u.length->v.getD j false=(u.getD j false||decide ((j:Int)=q)))->∃ u',Qbv N h i l (k:Int) x n (w+1) v=some u'/\u'.length=u.length/\∀ j,j<u.length->u'.getD j false=(u.getD j false||decide (a-Xi h.Conf i 0+w<=j/\(j:Int)<a-Xi h.Conf i 0+x)):=by
   intro v hv1 hv2
   obtain ⟨u',e1,e2,e3⟩:=Xh0 h hp i h0 h1 l k a hk x hx ha n (w+1) v (by omega) (by omega) (by omega)
   refine ⟨u',e1,e2.trans hv1,λ j hj=>?_⟩
   rw[e3 j (by omega),hv2 j hj,Bool.or_assoc]
   congr 1
   rw[← Bool.decide_or]
   exact decide_eq_decide.2 (by omega)
  by_cases q0:q>=0
  case neg =>
   rw[XR q0,Wa]
   exact step u rfl λ j hj=>by rw[XR (show ¬ (j:Int)=q by omega),Bool.or_false]
  rw[Wj q0,We,Xf (by omega)]
  by_cases q1:q<u.length
  case neg =>
   rw[XR q1,Wa]
   exact step u rfl λ j hj=>by rw[XR (show ¬ (j:Int)=q by omega),Bool.or_false]
  rw[Wj q1,We,Yg q0 q1,Xa]
  refine step _ (by rw[Wx]) λ j hj=>?_
  rw[Wr,Is]
  by_cases hjq:q.toNat=j
  ·rw[Wn hjq,Wn (by omega),Wj (show (j:Int)=q by omega),Bool.or_true];rfl
  ·rw[Wm hjq,XR (show ¬ (j:Int)=q by omega),Bool.or_false,Wr]
end
section
variable {N:Nat}
def Xji (h:Wv) (i:Int) (k:Int) (a:Int):Bool:=decide (a-Xi h.Conf i 0<=k/\k<a-Xi h.Conf i 0+Vf h a)
def Xep (h:Wv) (i:Int) (l:List Int) (k:Int):XpT h i l k=l.any (Xji h i k):=rfl
def XlA (h:Wv) (a:Int):1<=Vf h a/\Vf h a<=256:=by
 have:=ZL h.Words a
 unfold Vf;split<;>omega
def Xh1 (hN:NB N) {h:Wv} (hp:UR h) (i:Int) (h0:0<=i) (h1:i<h.Pages.length) (l:List Int) (hl:l.length<=4096) (hat:∀ a∈l,Of h a) (hev:∀ a∈l,Qav N h a=some (hdA h.Words a,0)):∀ (n k:Nat) (u:List Bool),k<=l.length->l.length-k<n->u.length<=1000 ->
 ∃ u',QcC N h i l n (k:Int) u=some u'/\u'.length=u.length/\∀ j:Nat,j<u.length->u'.getD j false=(u.getD j false||(l.drop k).any (Xji h i (j:Int)))
 | 0,k,u,_,hn,_=>by omega
 | n+1,k,u,hk,hn,hu=>by
  have hv:=Xj.1 hp.conf
  have hm:=X5 hp.conf (i:=0) (by omega) (by omega)
  have hN':1000000<N:=by unfold NB at hN;omega
  rw[QcC]
  by_cases hlt:k<l.length
  case neg =>
   rw[Wk (by omega),Wa,WL (by omega)]
   exact ⟨u,rfl,rfl,λ j hj=>by simp⟩
  have hmem:=WW hlt
  have hr:=(hat _ hmem).rng
  have hx:=XlA h l[k]
  have hsz:=ZL h.Words l[k]
  have e:∀ kk:Int->Option (List Bool),(jn kk λ j1=>bif ((hdA h.Words l[k]).Kind==0) then j1 1 else j1 (X1 (hdA h.Words l[k])))=kk (Vf h l[k]):=by
   intro kk
   rw[XN]
   unfold Vf
   rw[hsz.1]
   by_cases q:(hdA h.Words l[k]).Kind=0
   ·rw[Wn q,show ((hdA h.Words l[k]).Kind==0)=true by simpa using q,We]
   ·rw[Wm q,show ((hdA h.Words l[k]).Kind==0)=false by simpa using q,Wa]
  rw[Wj (by omega),We,Xc,Wb hlt,Xa,hev _ hmem,Xa,YB,Xa]
  dsimp only
  rw[e]
  obtain ⟨u1,f1,f2,f3⟩:=Xh0 (N:=N) h hp i h0 h1 l k l[k] (Wb hlt) (Vf h l[k]) hx.2 (by omega) N 0 u (by omega) (by omega) hu
  rw[f1,Xa,Xe (by omega)]
  obtain ⟨u',g1,g2,g3⟩:=Xh1 hN hp i h0 h1 l hl hat hev n (k+1) u1 (by omega) (by omega) (by omega)
  refine ⟨u',g1,g2.trans f2,λ j hj=>?_⟩
  rw[g3 j (by omega),f3 j hj,Bool.or_assoc,Wt hlt,List.any_cons]
  congr 2
  unfold Xji
  exact decide_eq_decide.2 (by omega)
def Xn6 (hN:NB N) {h:Wv} (hp:UR h) (i:Int) (h0:0<=i) (h1:i<h.Pages.length) (l:List Int) (hl:l.length<=4096) (hat:∀ a∈l,Of h a) (hev:∀ a∈l,Qav N h a=some (hdA h.Words a,0)) :
 ∃ u,Qgt N h i l=some u/\u.length=h.Conf.PageWords.toNat/\∀ j:Nat,j<u.length->u.getD j false=XpT h i l (j:Int):=by
 have hv:=Xj.1 hp.conf
 rw[Qgt,Xf (by omega),show (0:Int)=((0:Nat):Int) from rfl]
 obtain ⟨u,e1,e2,e3⟩:=Xh1 hN hp i h0 h1 l hl hat hev N 0 (List.replicate h.Conf.PageWords.toNat false) (by omega) (by unfold NB at hN;omega) (by rw[WO];omega)
 rw[e1,Xa]
 rw[WO] at e2 e3
 refine ⟨u,rfl,e2,λ j hj=>?_⟩
 rw[e3 j (by omega),WP,Xep,show (List.replicate h.Conf.PageWords.toNat false).getD j false=false by rw[Wr,IT];split<;>rfl,UZ]
def wdP (h:Wv) (i:Int) (k:Nat):Int:=wd h.Words (Xi h.Conf i 0+k)
def Xn7 (hN:NB N) {h:Wv} (hb:HB h) (hp:UR h) {i:Int} (h0:0<=i) (h1:i<h.Pages.length) {k:Nat} (hk:(k:Int)<h.Conf.PageWords):Qfz N h i (k:Int)=some (wdP h i k):=by
 have hv:=Xj.1 hp.conf
 have hpl:=hp.pages
 have hm:=X5 hp.conf (i:=i) h0 (by omega)
 rw[Qfz,Qg6,Vp,hp.conf,Wm (by simp),Wn (by omega),Xa,ZJ (by unfold BIG;have:=hb.1;omega),Xa,Xa]
 have ea:Xi h.Conf i (k:Int)=Xi h.Conf i 0+k:=by unfold Xi;omega
 have hw:=hp.words
 rw[ea,Wn (by unfold inW Xi;simp;omega)]
 rfl
def Xh2 (hN:NB N) {h:Wv} (hb:HB h) (hp:UR h) {i:Int} (h0:0<=i) (h1:i<h.Pages.length) (u:List Bool) (hu:u.length=h.Conf.PageWords.toNat):∀ (n k:Nat),k<=u.length->u.length-k<n ->
 ∃ e,Qcb N h i u n (k:Int)=some e/\((∃ j,k<=j/\j<u.length/\u.getD j false=false/\wdP h i j≠0)->∃ a,e=.ret a/\a≠0)/\((¬ ∃ j,k<=j/\j<u.length/\u.getD j false=false/\wdP h i j≠0)->e=.nxt ())
 | 0,k,_,hn=>by omega
 | n+1,k,hk,hn=>by
  have hv:=Xj.1 hp.conf
  have hpl:=hp.pages
  have hm:=X5 hp.conf (i:=i) h0 (by omega)
  rw[Qcb]
  by_cases hlt:k<u.length
  case neg =>
   rw[Wk (by omega),Wa]
   exact ⟨_,rfl,λ ⟨j,a,b,_⟩=>by omega,λ _=>rfl⟩
  rw[Wj (by omega),We,Xc,Wb hlt,Xa,Xn7 hN hb hp h0 h1 (by omega),Xa,Xe (by omega)]
  have hg:u.getD k false=u[k]:=by rw[Wr,Wb hlt];rfl
  have skip:(u[k]=true\/wdP h i k=0)->∃ e,Qcb N h i u n ((k+1:Nat):Int)=some e/\((∃ j,k<=j/\j<u.length/\u.getD j false=false/\wdP h i j≠0)->∃ a,e=.ret a/\a≠0)/\((¬ ∃ j,k<=j/\j<u.length/\u.getD j false=false/\wdP h i j≠0)->e=.nxt ()):=by
   intro hs
   obtain ⟨e,e1,e2,e3⟩:=Xh2 hN hb hp h0 h1 u hu n (k+1) (by omega) (by omega)
   refine ⟨e,e1,λ ⟨j,a,b,c,d⟩=>e2 ⟨j,?_,b,c,d⟩,λ hh=>e3 λ ⟨j,a,b⟩=>hh ⟨j,by omega,b⟩⟩
   by_cases hjk:j=k
   ·subst hjk
    rw[hg] at c
    rcases hs with hs | hs
    ·rw[hs] at c;cases c
    ·exact absurd hs d
   ·omega
  cases hc:u[k] with
  | true=>rw[Ws,Wa];exact skip (.inl hc)
  | false =>
   rw[WS,We]
   by_cases hz:wdP h i k=0
   ·rw[show (wdP h i k != 0)=false by simpa using hz,Wa];exact skip (.inr hz)
   ·rw[show (wdP h i k != 0)=true by simpa using hz,We,QfM,Xa]
    refine ⟨_,rfl,λ _=>⟨_,rfl,?_⟩,λ hh=>absurd ⟨k,by omega,hlt,by rw[hg,hc],hz⟩ hh⟩
    rw[Xd (n:=i*h.Conf.PageWords) (by omega) (by omega),Xd (n:=4096+i*h.Conf.PageWords) (by omega) (by omega),Xd (by omega) (by omega),XC (by omega) (by omega)]
    omega
end
section
variable {N:Nat}
def ZP (L x:Int):Int:=if L<(if x<0 then 0 else x) then L else (if x<0 then 0 else x)
def Xeq {v:List Int} {lo hi:Nat} (h1:lo<=hi) (h2:hi<=v.length):(((v.take lo)++(List.replicate (hi-lo) 0))++(v.drop (lo+(hi-lo)))).length=v.length:=by
 simp only[Wp,WC,WO,WR];omega
def Xn8 {v:List Int} {lo hi:Nat} (h1:lo<=hi) (h2:hi<=v.length) (j:Nat):(((v.take lo)++(List.replicate (hi-lo) 0))++(v.drop (lo+(hi-lo)))).getD j 0=if lo<=j/\j<hi then 0 else v.getD j 0:=by
 simp only[Wr,UN,Wp,WC,WO,W6,IT,Uu]
 by_cases a:j<lo
 ·rw[Wn (by omega),Wn (by omega),Wn a,Wm (by omega)]
 by_cases b:j<hi
 ·rw[Wn (by omega),Wm (by omega),Wn (by omega),Wn (by omega)];rfl
 ·rw[Wm (by omega),Wm (by omega)]
  congr 2;omega
def XfX (hN:NB N) {h:Wv} (ht:HT h) (hp:UR h) (i:Int) (h0:0<=i) (h1:i<h.Pages.length) (y4:List Int×Int) (hl:y4.1.length<=4096) (hat:∀ a∈y4.1,Of h a) (hev:∀ a∈y4.1,Qav N h a=some (hdA h.Words a,0)):∀ (n k:Nat) (v:List Int),k<=y4.1.length->y4.1.length-k<n->v.length<=1000 ->
 ∃ v',Qd6 N h (Xi h.Conf i 0,0) y4 n (k:Int) v=some v'/\v'.length=v.length/\∀ j:Nat,j<v.length->v'.getD j 0=if (y4.1.drop k).any (Xji h i (j:Int))=true then 0 else v.getD j 0
 | 0,k,v,_,hn,_=>by omega
 | n+1,k,v,hk,hn,hv=>by
  have hcv:=Xj.1 hp.conf
  have hpl:=hp.pages
  have hm:=X5 hp.conf (i:=i) h0 (by omega)
  have hN':1000000<N:=by unfold NB at hN;omega
  rw[Qd6]
  by_cases hlt:k<y4.1.length
  case neg =>
   rw[Wk (by omega),Wa,WL (by omega)]
   exact ⟨v,rfl,rfl,λ j hj=>by simp⟩
  have hmem:=WW hlt
  have hr:=(hat _ hmem).rng
  have hx:=XlA h y4.1[k]
  have hsz:=ZL h.Words y4.1[k]
  have e:∀ kk:Int->Option (List Int),(jn kk λ j1=>bif ((hdA h.Words y4.1[k]).Kind != 0) then (bnd (some (X1 (hdA h.Words y4.1[k]))) λ y9=>j1 y9) else j1 1)=kk (Vf h y4.1[k]):=by
   intro kk
   rw[XN]
   unfold Vf
   rw[hsz.1]
   by_cases q:(hdA h.Words y4.1[k]).Kind=0
   ·rw[Wn q,show ((hdA h.Words y4.1[k]).Kind != 0)=false by simpa using q,Wa]
   ·rw[Wm q,show ((hdA h.Words y4.1[k]).Kind != 0)=true by simpa using q,We,Xa]
  rw[Wj (show (k:Int)<((y4.1.length:Nat):Int) by omega),We,Xc,Wb hlt,Xa,XcC hN ht ((hat _ hmem).tu hp),hev _ hmem,Xa,Jp (by omega)]
  dsimp only
  rw[e]
  have ad:Xi h.Conf i 0=4096+i*h.Conf.PageWords:=by unfold Xi;omega
  have w0:wI y4.1[k]=y4.1[k]:=Xd (by omega) (by omega)
  have w1:wI (Xi h.Conf i 0)=Xi h.Conf i 0:=Xd (by omega) (by omega)
  have w2:wI (y4.1[k]-Xi h.Conf i 0)=y4.1[k]-Xi h.Conf i 0:=Xd (by omega) (by omega)
  have w3:wI (y4.1[k]-Xi h.Conf i 0+Vf h y4.1[k])=y4.1[k]-Xi h.Conf i 0+Vf h y4.1[k]:=Xd (by omega) (by omega)
  simp only[w0,w1,w2,w3,Xe (show k<=140737488355328 by omega)]
  rw[Xf (by omega),Xf (by omega)]
  have cl:∀ x:Int,(if ((v.length:Nat):Int)<(if x<0 then 0 else x) then ((v.length:Nat):Int) else (if x<0 then 0 else x))=ZP v.length x:=λ _=>rfl
  simp only[cl]
  have c1:∀ x:Int,0<=ZP v.length x/\ZP v.length x<=v.length:=by intro x;unfold ZP;split<;>split<;>omega
  generalize hA:y4.1[k]-Xi h.Conf i 0=A at *
  have a1:=c1 A
  have a2:=c1 (A+Vf h y4.1[k])
  have a3:ZP v.length A<=ZP v.length (A+Vf h y4.1[k]):=by
   unfold ZP;repeat' split
   all_goals omega
  rw[Xf (by omega)]
  obtain ⟨v',g1,g2,g3⟩:=XfX hN ht hp i h0 h1 y4 hl hat hev n (k+1) _ (by omega) (by omega) (by rw[Xeq (v:=v) (lo:=(ZP v.length A).toNat) (hi:=(ZP v.length (A+Vf h y4.1[k])).toNat) (by omega) (by omega)];exact hv)
  refine ⟨v',g1,by rw[g2,Xeq (by omega) (by omega)],λ j hj=>?_⟩
  rw[g3 j (by rw[Xeq (by omega) (by omega)];exact hj),Xn8 (by omega) (by omega),Wt hlt,List.any_cons]
  have ec:Xji h i (j:Int) y4.1[k]=decide ((ZP v.length A).toNat<=j/\j<(ZP v.length (A+Vf h y4.1[k])).toNat):=by
   unfold Xji
   rw[hA]
   refine decide_eq_decide.2 ?_
   unfold ZP
   repeat' split
   all_goals omega
  rw[ec]
  by_cases q:(ZP v.length A).toNat<=j/\j<(ZP v.length (A+Vf h y4.1[k])).toNat
  ·rw[Wn q,Wj q,IY,Wn rfl];exact ite_self _
  ·rw[Wm q,Wk q,UZ]
def Xn9 (l:List Int) (hl:l.length<=1000000) (hN:1000000<N):QaI N l=some (Vb (λ x=>x != 0) l):=by
 rw[QaI]
 exact KN (p:=λ x:Int=>x != 0) hl hN (λ n k x e=>by
  have hk:=Xq e
  rw[Qat,Xv hk,We,Xc,e,Xa,Qha,Xa,Xe (by omega)]) (λ n=>by rw[Qat,Xp,Wa])
def XlB (hN:NB N) {h:Wv} (ht:HT h) (ep:Qab N h=some true) {i:Int} (h0:0<=i) (h1:i<h.Pages.length) :
 ∃ a,QeX N h i=some a/\∃ b,QgA N h i=some (b,a != 0):=by
 have hN':1000000<N:=by unfold NB at hN;omega
 have hb:=ht.hb
 have hp:=Y0 hN hb ep
 have hcv:=Xj.1 hp.conf
 have hpl:=hp.pages
 have hm:=X5 hp.conf (i:=i) h0 (by omega)
 have ad:Xi h.Conf i 0=4096+i*h.Conf.PageWords:=by unfold Xi;omega
 have hw:=hp.words
 obtain ⟨pw,hpw⟩:∃ pw:Nat,h.Conf.PageWords=(pw:Int):=⟨h.Conf.PageWords.toNat,by omega⟩
 have hin:Yq h.Words (Xi h.Conf i 0) pw:=by unfold Yq;omega
 have erd:Qc2 N h.Words (Xi h.Conf i 0) h.Conf.PageWords=some ((h.Words.drop (ix (Xi h.Conf i 0))).take pw,0):=by
  rw[hpw,Xbv (by unfold BIG;have:=hb.1;omega) N _ pw (by omega),Wn hin]
 have eadr:Qca N h.Conf i 0=some (Xi h.Conf i 0,0):=by rw[Vp,hp.conf,Wm (by simp),Wn (by omega)]
 have hau:Xi h.Conf i 0<=18446744073709551615:=by omega
 obtain ⟨hd,eh,hh0,hh1⟩:=Xee N (h:=h) hp.first N i h0 h1 hb.2 (by have:=hb.2;unfold NB at hN;omega)
 have eh':QeW N h i=some hd:=by rw[QeW,eh,Xa]
 obtain ⟨r,er,hr,hlen⟩:=Qh0 hN hb hp hd hh0 hh1
 obtain ⟨⟨hat,hev,_⟩,_,_⟩:=hr
 obtain ⟨u,eu,hu1,hu2⟩:=Xn6 hN hp i h0 h1 r.1 (by omega) hat hev
 obtain ⟨e,e1,e2,e3⟩:=Xh2 hN hb hp h0 h1 u hu1 N 0 (by omega) (by omega)
 rw[QeX,eh',Xa,er,Xa,eu,Xa,show (0:Int)=((0:Nat):Int) from rfl,e1,Xa]
 rw[QgA,XfP,eadr,Xa,XfS (by have:=hb.1;omega) hau]
 dsimp only
 rw[erd,Xa,Xlz hN hb hp h0 h1,eh',Xa,XfU hN ht,er,Xa]
 dsimp only
 have hvl:((h.Words.drop (ix (Xi h.Conf i 0))).take pw).length=pw:=by
  rw[WC,WR];unfold ix;unfold Yq at hin;omega
 obtain ⟨v,g1,g2,g3⟩:=XfX hN ht hp i h0 h1 r (by omega) hat hev N 0 ((h.Words.drop (ix (Xi h.Conf i 0))).take pw) (by omega) (by omega) (by omega)
 have g1':Qd6 N h (Xi h.Conf i 0,0) r N 0 ((h.Words.drop (ix (Xi h.Conf i 0))).take pw)=some v:=g1
 have hul:u.length=pw:=by clear e2 e3;omega
 have hvL:v.length=pw:=by rw[g2,hvl]
 rw[g1',Xa,Xn9 v (by clear e2 e3;omega) hN',Xa]
 have hany:decide (Vb (λ x=>x != 0) v>=0)=v.any (λ x=>x != 0):=Z3 _ v
 rw[hany]
 have hword:∀ j,j<pw->((h.Words.drop (ix (Xi h.Conf i 0))).take pw).getD j 0=wdP h i j:=by
  intro j hj
  unfold wdP wd ix
  rw[Wr,W6,Wn hj,Uu,Wr]
  congr 2;omega
 clear hu1
 have iff1:v.any (λ x=>x != 0)=true↔∃ j,0<=j/\j<u.length/\u.getD j false=false/\wdP h i j≠0:=by
  rw[Ik]
  constructor
  ·rintro ⟨x,hx,hx0⟩
   obtain ⟨j,hj,rfl⟩:=WU hx
   have hj':j<pw:=by omega
   have:=g3 j (by omega)
   rw[Wr,Wb hj,UF,hword j hj',WP,← Xep] at this
   have hne:v[j]≠0:=by simpa using hx0
   refine ⟨j,Un _,by omega,?_,?_⟩
   ·rw[hu2 j (by omega)]
    cases hc:XpT h i r.1 (j:Int) with
    | false=>rfl
    | true=>rw[hc,Wn rfl] at this;exact absurd this hne
   ·intro hz
    rw[hz,ite_self] at this;exact hne this
  ·rintro ⟨j,_,hj,hc,hz⟩
   have hj':j<v.length:=by omega
   refine ⟨v[j],WW hj',?_⟩
   have:=g3 j (by omega)
   rw[Wr,Wb hj',UF,hword j (by omega),WP,← Xep,← hu2 j hj,hc,Wm (by simp)] at this
   rw[this];simpa using hz
 by_cases hex:∃ j,0<=j/\j<u.length/\u.getD j false=false/\wdP h i j≠0
 ·obtain ⟨a,rfl,ha⟩:=e2 hex
  rw[Xl,iff1.2 hex]
  exact ⟨a,rfl,_,by rw[show (a != ((0:Nat):Int))=true by simpa using ha]⟩
 ·have hne:=e3 hex
  subst hne
  rw[Xk,show v.any (λ x=>x != 0)=false by rw[← IR];exact λ hh=>hex (iff1.1 hh)]
  exact ⟨_,rfl,_,rfl⟩
end
def K1 {α β:Type} {L:Nat} {F:Nat->Int->Option (Ex α β)} {p:Nat->Prop} {Q:α->Prop} {u:β}
 (hbad:∀ n k,k<L->p k->∃ a,F (n+1) (k:Int)=some (.ret a)/\Q a)
 (hok:∀ n k,k<L->¬ p k->F (n+1) (k:Int)=F n ((k+1:Nat):Int))
 (hstop:∀ n,F (n+1) (L:Int)=some (.nxt u)):∀ (n k:Nat),k<=L->L-k<n ->
 ∃ e,F n (k:Int)=some e/\((∃ j,k<=j/\j<L/\p j)->∃ a,e=.ret a/\Q a)/\((¬ ∃ j,k<=j/\j<L/\p j)->e=.nxt u)
 | 0,k,_,hn=>by omega
 | n+1,k,hk,hn=>by
  by_cases hlt:k<L
  case neg =>
   obtain rfl:k=L:=by omega
   exact ⟨_,hstop n,λ ⟨j,a,b,_⟩=>by omega,λ _=>rfl⟩
  by_cases hp:p k
  ·obtain ⟨a,e,hq⟩:=hbad n k hlt hp
   exact ⟨_,e,λ _=>⟨a,rfl,hq⟩,λ hh=>absurd ⟨k,Ui _,hlt,hp⟩ hh⟩
  ·obtain ⟨e,e1,e2,e3⟩:=K1 hbad hok hstop n (k+1) (by omega) (by omega)
   refine ⟨e,(hok n k hlt hp).trans e1,λ ⟨j,a,b,c⟩=>e2 ⟨j,?_,b,c⟩,λ hh=>e3 λ ⟨j,a,b⟩=>hh ⟨j,by omega,b⟩⟩
   by_cases hjk:j=k
   ·subst hjk;exact absurd c hp
   ·omega
section
variable {N:Nat}
def XlC (l:List Int) (x:Int) (hl:l.length<=1000000) (hs:l.Pairwise (·<·)):∀ (n lo hi:Nat),lo<=hi->hi<=l.length->hi-lo<n->(∀ i (h:i<l.length),i<lo->l[i]<x)->(∀ i (h:i<l.length),hi<=i->x<=l[i]) ->
 ∃ k:Nat,Qao N l x n (lo:Int) (hi:Int)=some (k:Int)/\k<=l.length/\(∀ i (h:i<l.length),i<k->l[i]<x)/\(∀ i (h:i<l.length),k<=i->x<=l[i])
 | 0,lo,hi,_,_,hn,_,_=>by omega
 | n+1,lo,hi,h1,h2,hn,ha,hb=>by
  rw[Qao]
  by_cases hlt:lo<hi
  case neg =>
   rw[Wk (by omega),Wa]
   exact ⟨lo,rfl,by omega,ha,λ i h hi'=>hb i h (by omega)⟩
  have hmid:wI (Yf .u64 (wU (wI ((lo:Int)+hi))) 1)=(((lo+hi) / 2:Nat):Int):=by
   rw[Xd (n:=(lo:Int)+hi) (by omega) (by omega),XC (by omega) (by omega),show Yf .u64 ((lo:Int)+hi) 1=((lo:Int)+hi) / 2 from Zp _ 1 (by omega) (by omega),Xd (by omega) (by omega)]
   omega
  have hm:(lo+hi) / 2<l.length:=by omega
  have hlm:lo<=(lo+hi) / 2/\(lo+hi) / 2<hi:=by omega
  generalize (lo+hi) / 2=m at *
  rw[Wj (by omega),We,hmid,Xc,Wb hm,Xa,Qf8,QeH,Xa,show (l[m] != l[m])=false by simp,Wa,Xa]
  have hpw:=Ie.1 hs
  by_cases hc:l[m]<x
  ·rw[Wj hc,We,Xe (by omega)]
   refine XlC l x hl hs n (m+1) hi (by omega) h2 (by omega) (λ i h hi'=>?_) hb
   by_cases him:i=m
   ·subst him;exact hc
   ·exact Int.lt_trans (hpw i m h hm (by omega)) hc
  ·rw[Wk hc,Wa]
   refine XlC l x hl hs n lo m (by omega) (by omega) (by omega) ha (λ i h hi'=>?_)
   by_cases him:i=m
   ·subst him;omega
   ·have:=hpw m i hm h (by omega);omega
def XlD (l:List Int) (x:Int) (hl:l.length<=1000000) (hN:1000000<N) (hs:l.Pairwise (·<·)):∃ k:Int,Qaw N l x=some (k,l.contains x):=by
 obtain ⟨k,e,hk,h1,h2⟩:=XlC (N:=N) l x hl hs N 0 l.length (by omega) (by omega) (by omega) (λ i h hi=>by omega) (λ i h hi=>by omega)
 rw[Qaw,show (0:Int)=((0:Nat):Int) from rfl,e,Xa]
 by_cases hlt:k<l.length
 ·rw[Wj (by omega),We,Xc,Wb hlt,Xa]
  by_cases hx:l[k]=x
  ·refine ⟨k,?_⟩
   rw[show (l[k]==x)=true by simpa using hx,We,show l.contains x=true by rw[Ii,← hx];exact WW hlt]
  ·refine ⟨k,?_⟩
   rw[show (l[k]==x)=false by simpa using hx,Wa,Xa,Qdo,Xa,show (l[k] != l[k])=false by simp,Wa]
   have:l.contains x=false:=by
    rw[← IR,Ii]
    intro hm
    obtain ⟨i,hi,rfl⟩:=WU hm
    have hpw:=Ie.1 hs
    by_cases hik:i<k
    ·have:=h1 i hi hik;omega
    ·have a:=h2 k hlt (Ui _)
     by_cases heq:i=k
     ·subst heq;exact hx rfl
     ·have:=hpw k i hlt hi (by omega);omega
   rw[this]
 ·refine ⟨k,?_⟩
  rw[Wk (by omega),Wa]
  have:l.contains x=false:=by
   rw[← IR,Ii]
   intro hm
   obtain ⟨i,hi,rfl⟩:=WU hm
   have:=h1 i hi (by omega);omega
  rw[this]
def Oz.asc {h:Wv} {l:List Int} (o:Oz N h l):l.Pairwise (·<·) :=
 o.pw.imp λ {a b} hab=>by have:=(ZL h.Words a).2;omega
def VG {d:WI}:∀ {k:Nat} {i x:Int},i<=x->x<i+k->ZK d x=true->x∈X7 d k i
 | 0,i,x,h1,h2,_=>by omega
 | k+1,i,x,h1,h2,h3=>by
  simp only[X7,WK]
  by_cases hx:x=i
  ·subst hx;left;rw[Wn h3];simp
  ·right;exact VG (by omega) (by omega) h3
def Vx {d:WI} (hv:XD d=true) {x:Int}:x∈Y9 d↔0<=x/\x<d.Length/\ZK d x=true:=by
 have hb:=XH hv
 unfold Y9
 rw[Wn hv]
 constructor
 ·intro h;have:=JB h;exact ⟨by omega,by omega,this.2.2⟩
 ·intro h;exact VG (by omega) (by omega) h.2.2
end
section
variable {N:Nat}
def XpU (h:Wv) (l:List Int) (a i:Int):Prop:=wd h.Words (a+1+i)≠0/\l.contains (wd h.Words (a+1+i))=false
def JI (h:Wv) (l:List Int) (a:Int):Prop:=∃ i,i∈Y9 (hdA h.Words a)/\XpU h l a i
def KC (h:Wv) (a:Int):XD (hdA h.Words a)=true:=ZY _
def Xoa {h:Wv} (hp:UR h) {a:Int} (ha:Of h a) {i:Int} (h0:0<=i) (h1:i<(hdA h.Words a).Length):4096<=a+1+i/\a+1+i<4096+h.Words.length/\a+1+i<=8192/\(hdA h.Words a).Length<=255:=by
 have:=Vq hp ha
 have:=ha.rng
 have:=ZL h.Words a
 have hv:=Xj.1 hp.conf
 have:=X5 hp.conf (i:=0) (by omega) (by omega)
 have:=hp.words
 unfold szA at *
 omega
def Xrd (hN:NB N) {h:Wv} (ht:HT h) (hp:UR h) (y1:List Int×Int) (hl:y1.1.length<=1000000) (hs:y1.1.Pairwise (·<·)) (v2:Int) {a:Int} (ha:Of h a) :
 ∃ e,QaF N h y1 v2 a (Y9 (hdA h.Words a)) N 0=some e/\(JI h y1.1 a->∃ b,e=.ret b/\b≠0)/\(¬ JI h y1.1 a->e=.nxt ()):=by
 have hN':1000000<N:=by unfold NB at hN;omega
 have hb:=ht.hb
 have hv:=KC h a
 have hb255:=XH hv
 have hpl:(Y9 (hdA h.Words a)).length<=255:=by
  unfold Y9;rw[Wn hv];have:=JC (d:=hdA h.Words a) (k:=(hdA h.Words a).Length.toNat) (i:=0);omega
 have hmem:∀ k (hk:k<(Y9 (hdA h.Words a)).length),0<=(Y9 (hdA h.Words a))[k]/\(Y9 (hdA h.Words a))[k]<(hdA h.Words a).Length:=λ k hk=>by
  have:=(Vx hv).1 (WW hk);exact ⟨this.1,this.2.1⟩
 generalize hps:Y9 (hdA h.Words a)=ps at *
 have hr:=ha.rng
 have step:∀ n k (hk:k<ps.length),QaF N h y1 v2 a ps (n+1) (k:Int)=bif (wd h.Words (a+1+ps[k]) != 0) then (bif (!y1.1.contains (wd h.Words (a+1+ps[k]))) then some (.ret (a+1+ps[k])) else QaF N h y1 v2 a ps n ((k+1:Nat):Int)) else QaF N h y1 v2 a ps n ((k+1:Nat):Int):=by
  intro n k hk
  have hm:=hmem k hk
  have hf:=Xoa hp ha hm.1 hm.2
  have hw8:(h.Words.length:Int)<=100000:=by have:=hb.1;omega
  have w1:wU (wU (a+1)+wU ps[k])=a+1+ps[k]:=by
   rw[XC (n:=a+1) (by omega) (by omega),XC (n:=ps[k]) (by omega) (by omega),XC (by omega) (by omega)]
  rw[QaF,Wj (by omega),We,Xc,Wb hk,Xa,w1,XfR (by have:=hb.1;omega) (by omega),ZJ (by unfold BIG;have:=hb.1;omega),Wn (by unfold inW;omega),Xa]
  dsimp only
  obtain ⟨q,eq⟩:=XlD (N:=N) y1.1 (h.Words.getD (ix (a+1+ps[k])) 0) hl hN' hs
  rw[eq,Xa,Xe (by omega)]
  rfl
 have key:=K1 (L:=ps.length) (F:=QaF N h y1 v2 a ps) (p:=λ k=>∃ hk:k<ps.length,XpU h y1.1 a ps[k]) (Q:=λ b=>b≠0) (u:=())
  (λ n k hk hbad=>by
   obtain ⟨hk',h1,h2⟩:=hbad
   refine ⟨a+1+ps[k],?_,?_⟩
   ·rw[step n k hk,show (wd h.Words (a+1+ps[k]) != 0)=true by simpa using h1,We,h2];rfl
   ·have:=hmem k hk;omega)
  (λ n k hk hnb=>by
   rw[step n k hk]
   by_cases h1:wd h.Words (a+1+ps[k])=0
   ·rw[show (wd h.Words (a+1+ps[k]) != 0)=false by simpa using h1,Wa]
   ·rw[show (wd h.Words (a+1+ps[k]) != 0)=true by simpa using h1,We]
    cases h2:y1.1.contains (wd h.Words (a+1+ps[k])) with
    | true=>rfl
    | false=>exact absurd ⟨hk,h1,h2⟩ hnb)
  (λ n=>by rw[QaF,Wk (by omega),Wa]) N 0 (by omega) (by omega)
 obtain ⟨e,e1,e2,e3⟩:=key
 refine ⟨e,e1,λ hbo=>?_,λ hbo=>?_⟩
 ·obtain ⟨i,hi,hbp⟩:=hbo
  rw[hps] at hi
  obtain ⟨j,hj,rfl⟩:=WU hi
  exact e2 ⟨j,Un _,hj,hj,hbp⟩
 ·refine e3 λ ⟨j,_,hj,hj',hbp⟩=>hbo ⟨ps[j],?_,hbp⟩
  rw[hps];exact WW hj
def Xo5 (hN:NB N) {h:Wv} (ht:HT h) (hp:UR h) (y1:List Int×Int) (hl:y1.1.length<=1000000) (hs:y1.1.Pairwise (·<·)) (hat:∀ a∈y1.1,Of h a) (hev:∀ a∈y1.1,Qav N h a=some (hdA h.Words a,0)):∀ (n k:Nat),k<=y1.1.length->y1.1.length-k<n ->
 ∃ r,Qcq N h y1 n (k:Int)=some r/\((∃ a∈y1.1.drop k,JI h y1.1 a)->r≠0)/\((¬ ∃ a∈y1.1.drop k,JI h y1.1 a)->r=0)
 | 0,k,_,hn=>by omega
 | n+1,k,hk,hn=>by
  have hN':1000000<N:=by unfold NB at hN;omega
  rw[Qcq]
  by_cases hlt:k<y1.1.length
  case neg =>
   rw[Wk (by omega),Wa,WL (by omega)]
   exact ⟨0,rfl,λ ⟨a,ha,_⟩=>by simp at ha,λ _=>rfl⟩
  have hm:=WW hlt
  rw[Wj (by omega),We,Xc,Wb hlt,Xa,XcC hN ht ((hat _ hm).tu hp),hev _ hm,Xa,Xdv (by omega) _ (KC h _),Xa]
  obtain ⟨e,e1,e2,e3⟩:=Xrd hN ht hp y1 hl hs (k:Int) (hat _ hm)
  rw[e1,Xa,Wt hlt]
  by_cases hbo:JI h y1.1 y1.1[k]
  ·obtain ⟨b,rfl,hb0⟩:=e2 hbo
   rw[Xl]
   exact ⟨b,rfl,λ _=>hb0,λ hh=>absurd ⟨_,IX,hbo⟩ hh⟩
  ·have:=e3 hbo
   subst this
   rw[Xk,Xe (by omega)]
   obtain ⟨r,r1,r2,r3⟩:=Xo5 hN ht hp y1 hl hs hat hev n (k+1) (by omega) (by omega)
   refine ⟨r,r1,λ ⟨a,ha,hb⟩=>r2 ⟨a,?_,hb⟩,λ hh=>r3 λ ⟨a,ha,hb⟩=>hh ⟨a,W4 _ ha,hb⟩⟩
   rcases UQ.1 ha with rfl | ha
   ·exact absurd hb hbo
   ·exact ha
def XgZ (hN:NB N) {h:Wv} (hb:HB h) (ep:Qab N h=some true) {a:Int} (ha:Of h a) (hev:Qav N h a=some (hdA h.Words a,0)) (hk:(hdA h.Words a).Kind≠0):Qbn N h a=some (hdA h.Words a,0):=by
 have:=ha.rng
 rw[Qbn,ep,Xa,Ws,Wa,show (a==0)=false by simp;omega,Wa,hev,Xa]
 dsimp only
 rw[show ((0:Int)==0)=true from rfl,We,show ((hdA h.Words a).Kind==0)=false by simpa using hk,Wa]
def XdE (hN:NB N) {h:Wv} (hb:HB h) (ep:Qab N h=some true) {a:Int} (ha:Of h a) (hev:Qav N h a=some (hdA h.Words a,0)) (hk:(hdA h.Words a).Kind≠0):∃ l,Qcv N h a=some (l,0)/\(l.length:Int)=(hdA h.Words a).Length/\∀ (j:Nat) (hj:j<l.length),l[j]=wd h.Words (a+1+j):=by
 have hp:=Y0 hN hb ep
 have hv:=XH (KC h a)
 have hr:=ha.rng
 have hfit:=Vq hp ha
 have hm:=X5 hp.conf (i:=0) (by omega) (by have:=Xj.1 hp.conf;omega)
 have hw:=hp.words
 unfold szA at hfit
 obtain ⟨m,hm'⟩:∃ m:Nat,(hdA h.Words a).Length=(m:Int):=⟨(hdA h.Words a).Length.toNat,by omega⟩
 rw[Qcv,XgZ hN hb ep ha hev hk,Xa]
 dsimp only
 rw[show ((0:Int) != 0)=false from rfl,Wa,XC (n:=a+1) (by omega) (by omega),hm',Xbv (by unfold BIG;have:=hb.1;omega) N _ m (by omega),Wn (by unfold Yq;omega),Xa]
 refine ⟨_,rfl,?_,λ j hj=>?_⟩
 ·rw[WC,WR];unfold ix;omega
 ·have hj':j<m:=by rw[WC] at hj;omega
  rw[List.getElem_take,List.getElem_drop]
  unfold wd
  rw[Wr,show ix (a+1+(j:Int))=ix (a+1)+j by unfold ix;omega,Wb (by rw[WC,WR] at hj;omega)];rfl
end
section
variable {N:Nat}
def Xre (hN:NB N) {h:Wv} (hb:HB h) (hp:UR h) (y1 y6:List Int×Int) (hl:y1.1.length<=1000000) (v2:Int) {a:Int} (hv2:Xb y1.1 v2=some a) (ha:Of h a) (hy:(y6.1.length:Int)=(hdA h.Words a).Length) (hf:∀ (j:Nat) (hj:j<y6.1.length),y6.1[j]=wd h.Words (a+1+j)) :
 ∃ e,Qan N h y1 y6 v2 (hdA h.Words a,0) N 0=some e/\(JI h y1.1 a->∃ f,e=.ret f/\f.Fault≠0)/\(¬ JI h y1.1 a->e=.nxt ()):=by
 have hN':1000000<N:=by unfold NB at hN;omega
 have hv:=KC h a
 have hb255:=XH hv
 have step:∀ n k (hk:k<y6.1.length),Qan N h y1 y6 v2 (hdA h.Words a,0) (n+1) (k:Int)=bif ZK (hdA h.Words a) (k:Int) then (bif (wd h.Words (a+1+k) != 0) then (bif (!y1.1.contains (wd h.Words (a+1+k))) then (bnd (Qdr N h.Conf (wU ((wU (a+1))+(wU (k:Int))))) λ y13=>some (.ret (Us.mk 6 y13.1 (wU ((wU (a+1))+(wU (k:Int))))))) else Qan N h y1 y6 v2 (hdA h.Words a,0) n ((k+1:Nat):Int)) else Qan N h y1 y6 v2 (hdA h.Words a,0) n ((k+1:Nat):Int)) else Qan N h y1 y6 v2 (hdA h.Words a,0) n ((k+1:Nat):Int):=by
  intro n k hk
  rw[Qan,Wj (by omega),We,JA,Xa,Xc,Wb hk,hf k hk,Xe (by omega)]
  simp only[Xa,YZ (wd h.Words (a+1+(k:Int))) (show y1.1.length<=1000000000 by omega) (show y1.1.length<N by omega),hv2]
 have key:=K1 (L:=y6.1.length) (F:=Qan N h y1 y6 v2 (hdA h.Words a,0)) (p:=λ k=>ZK (hdA h.Words a) (k:Int)=true/\XpU h y1.1 a (k:Int)) (Q:=λ f=>f.Fault≠0) (u:=())
  (λ n k hk hbad=>by
   obtain ⟨h0,h1,h2⟩:=hbad
   rw[step n k hk,h0,We,show (wd h.Words (a+1+(k:Int)) != 0)=true by simpa using h1,We,h2,WS,We,Xae,Xa]
   exact ⟨_,rfl,by show (6:Int)≠0;omega⟩)
  (λ n k hk hnb=>by
   rw[step n k hk]
   cases h0:ZK (hdA h.Words a) (k:Int) with
   | false=>rfl
   | true =>
   rw[We]
   by_cases h1:wd h.Words (a+1+(k:Int))=0
   ·rw[show (wd h.Words (a+1+(k:Int)) != 0)=false by simpa using h1,Wa]
   ·rw[show (wd h.Words (a+1+(k:Int)) != 0)=true by simpa using h1,We]
    cases h2:y1.1.contains (wd h.Words (a+1+(k:Int))) with
    | true=>rfl
    | false=>exact absurd ⟨h0,h1,h2⟩ hnb)
  (λ n=>by rw[Qan,Wk (by omega),Wa]) N 0 (by omega) (by omega)
 obtain ⟨e,e1,e2,e3⟩:=key
 refine ⟨e,e1,λ hbo=>?_,λ hbo=>?_⟩
 ·obtain ⟨i,hi,hbp⟩:=hbo
  have hm:=(Vx hv).1 hi
  obtain ⟨j,rfl⟩:∃ j:Nat,i=(j:Int):=⟨i.toNat,by omega⟩
  exact e2 ⟨j,Un _,by omega,hm.2.2,hbp⟩
 ·exact e3 λ ⟨j,_,hj,hpj,hbp⟩=>hbo ⟨(j:Int),(Vx hv).2 ⟨by omega,by omega,hpj⟩,hbp⟩
def Xo6 (hN:NB N) {h:Wv} (hb:HB h) (ep:Qab N h=some true) (y1:List Int×Int) (hl:y1.1.length<=1000000) (hat:∀ a∈y1.1,Of h a) (hev:∀ a∈y1.1,Qav N h a=some (hdA h.Words a,0)) (hkd:∀ a∈y1.1,(hdA h.Words a).Kind≠0):∀ (n k:Nat),k<=y1.1.length->y1.1.length-k<n ->
 ∃ e,Qbr N h y1 n (k:Int)=some e/\((∃ a∈y1.1.drop k,JI h y1.1 a)->∃ f,e=.ret f/\f.Fault≠0)/\((¬ ∃ a∈y1.1.drop k,JI h y1.1 a)->e=.nxt ())
 | 0,k,_,hn=>by omega
 | n+1,k,hk,hn=>by
  have hN':1000000<N:=by unfold NB at hN;omega
  have hp:=Y0 hN hb ep
  rw[Qbr]
  by_cases hlt:k<y1.1.length
  case neg =>
   rw[Wk (by omega),Wa,WL (by omega)]
   exact ⟨_,rfl,λ ⟨a,ha,_⟩=>by simp at ha,λ _=>rfl⟩
  have hm:=WW hlt
  have hg:Xb y1.1 (k:Int)=some y1.1[k]:=by rw[Xc,Wb hlt]
  obtain ⟨l,f1,f2,f3⟩:=XdE hN hb ep (hat _ hm) (hev _ hm) (hkd _ hm)
  rw[Wj (by omega),We,hg,Xa,XgZ hN hb ep (hat _ hm) (hev _ hm) (hkd _ hm),Xa,Xa,f1,Xa]
  obtain ⟨e,e1,e2,e3⟩:=Xre hN hb hp y1 (l,0) hl (k:Int) hg (hat _ hm) f2 f3
  rw[e1,Xa,Wt hlt]
  by_cases hbo:JI h y1.1 y1.1[k]
  ·obtain ⟨f,rfl,hb0⟩:=e2 hbo
   rw[Xl]
   exact ⟨_,rfl,λ _=>⟨f,rfl,hb0⟩,λ hh=>absurd ⟨_,IX,hbo⟩ hh⟩
  ·have:=e3 hbo
   subst this
   rw[Xk,Xe (by omega)]
   obtain ⟨r,r1,r2,r3⟩:=Xo6 hN hb ep y1 hl hat hev hkd n (k+1) (by omega) (by omega)
   refine ⟨r,r1,λ ⟨a,ha,hb⟩=>r2 ⟨a,?_,hb⟩,λ hh=>r3 λ ⟨a,ha,hb⟩=>hh ⟨a,W4 _ ha,hb⟩⟩
   rcases UQ.1 ha with rfl | ha
   ·exact absurd hb hbo
   ·exact ha
def K2 (hN:NB N) {h:Wv} (hb:HB h):∃ y,Qaq N h=some y/\y.1.length<=4096/\y.1.Pairwise (·<·)/\(∀ a∈y.1,Of h a)/\(∀ a∈y.1,Qav N h a=some (hdA h.Words a,0))/\(∀ a∈y.1,(hdA h.Words a).Kind≠0):=by
 obtain ⟨y,e,hs,_,_⟩:=Zy hN hb
 refine ⟨y,e,hs.len,hs.obj.asc,hs.obj.at_,hs.obj.ev,?_⟩
 obtain ⟨r,er,hr,_,_⟩:=XaT hN hb
 have hlen:=hr.len
 rw[Qaq,er,Xa,show (0:Int)=((0:Nat):Int) from rfl,XbF r (by omega) hr.obj.ev N 0 [] (by omega) (by unfold NB at hN;omega) (by simp),Xa,WP,Ux] at e
 cases e
 intro a ha
 have:=(UJ.1 ha).2
 simpa [KP,fnd] using this
def zF:Us:=⟨0,0,0⟩
def Xob (P:Prop) (o:Option Us):Prop:=∃ f,o=some f/\(P->f.Fault≠0)/\(¬ P->f=zF)
def Xbl (hN:NB N) {h:Wv} (ht:HT h) (ep:Qab N h=some true) {y:List Int×Int} (ey:Qaq N h=some y):Xob (∃ a∈y.1,JI h y.1 a) (Qfr N h)/\Xob (∃ a∈y.1,JI h y.1 a) (Qds N h):=by
 have hb:=ht.hb
 have hp:=Y0 hN hb ep
 obtain ⟨y',ey',hl,hs,hat,hev,hkd⟩:=K2 hN hb
 rw[ey] at ey';cases ey'
 have hbig:y.1.length<N:=by unfold NB at hN;omega
 constructor
 ·obtain ⟨r,e1,e2,e3⟩:=Xo5 hN ht hp y (by omega) hs hat hev N 0 (by omega) (by omega)
  rw[Qfr,Ve hN ht,ey,Xa]
  have e1':Qcq N h y N 0=some r:=e1
  rw[e1',Xa]
  rw[WP] at e2 e3
  by_cases hbo:∃ a∈y.1,JI h y.1 a
  ·rw[show (r==0)=false by simpa using e2 hbo,Wa]
   have:∃ q,Qgx N h.Conf r=some q:=by
    rw[Qgx,Z4,Xa]
    cases hc:XZ h.Conf with
    | false=>exact ⟨_,rfl⟩
    | true =>
     have:=Xj.1 hc
     rw[Ws,Wa]
     cases decide (r<4096)
     ·rw[Wa]
      cases decide (wU (r-4096)>=wU (wI (h.Conf.PageWords*h.Conf.Pages)))
      ·rw[Wa,Xf (by omega),Xf (by omega)];exact ⟨_,rfl⟩
      ·exact ⟨_,rfl⟩
     ·exact ⟨_,rfl⟩
   obtain ⟨q,eq⟩:=this
   rw[eq,Xa]
   exact ⟨_,rfl,λ _=>by show (6:Int)≠0;omega,λ hh=>absurd hbo hh⟩
  ·rw[e3 hbo]
   exact ⟨_,rfl,λ hh=>absurd hh hbo,λ _=>rfl⟩
 ·obtain ⟨e,e1,e2,e3⟩:=Xo6 hN hb ep y (by omega) hat hev hkd N 0 (by omega) (by omega)
  rw[Qds,ey,Xa]
  have e1':Qbr N h y N 0=some e:=e1
  rw[e1',Xa]
  rw[WP] at e2 e3
  by_cases hbo:∃ a∈y.1,JI h y.1 a
  ·obtain ⟨f,rfl,hf⟩:=e2 hbo
   rw[Xl]
   exact ⟨_,rfl,λ _=>hf,λ hh=>absurd hbo hh⟩
  ·rw[e3 hbo,Xk]
   exact ⟨_,rfl,λ hh=>absurd hh hbo,λ _=>rfl⟩
end
section
variable {N:Nat}
def Xer (hN:NB N) {h:Wv} (ht:HT h) (ep:Qab N h=some true) {i:Nat} (h1:i<h.Pages.length) :
 ∃ f,QeY N h (i:Int)=some f/\((f.Fault≠0/\∀ n,∃ f',Qa0 N h (n+1) (i:Int)=some (.ret f')/\f'.Fault≠0)\/(f.Fault=0/\∀ n,Qa0 N h (n+1) (i:Int)=Qa0 N h n ((i+1:Nat):Int))):=by
 have hb:=ht.hb
 have hp:=Y0 hN hb ep
 have hpl:h.Pages.length<=100000:=hb.2
 have hg:Xb h.Pages (i:Int)=some (pg h.Pages (i:Int)):=Zx (by omega) (by omega)
 have hst:∀ n,Qa0 N h (n+1) (i:Int)=jn (λ (_:Unit) =>
  bnd (Qgl N h (i:Int)) λ y3 =>
  bif (y3.2 != 0) then some (.ret (Us.mk 3 (i:Int) 0))
  else bnd (Qf3 N h (i:Int) y3.1) λ y4 =>
  bif y4.2 then some (.ret (Us.mk 5 (i:Int) y4.1))
  else bnd (QgA N h (i:Int)) λ y5 =>
  bif y5.2 then some (.ret (Us.mk 4 (i:Int) y5.1))
  else Qa0 N h n ((i+1:Nat):Int)) λ j1 =>
  bif ((pg h.Pages (i:Int)).Kind != 0) then (bif ((pg h.Pages (i:Int)).Space != h.Space) then some (.ret (Us.mk 2 (i:Int) 0))
   else j1 ())
  else j1 ():=by
  intro n
  rw[Qa0,Wj (by omega),We,hg,Xa,Xe (by omega)]
 simp only[hst,XN]
 rw[QeY,XN,hg]
 simp only[Xa]
 by_cases hsp:(pg h.Pages (i:Int)).Kind≠0/\(pg h.Pages (i:Int)).Space≠h.Space
 ·rw[show ((pg h.Pages (i:Int)).Kind != 0)=true by simpa using hsp.1,show ((pg h.Pages (i:Int)).Space != h.Space)=true by simpa using hsp.2]
  exact ⟨_,rfl,.inl ⟨by show (2:Int)≠0;omega,λ n=>⟨_,rfl,by show (2:Int)≠0;omega⟩⟩⟩
 have e1:∀ {α:Type} (x y:α),(bif ((pg h.Pages (i:Int)).Kind != 0) then (bif ((pg h.Pages (i:Int)).Space != h.Space) then x else y) else y)=y:=by
  intro α x y
  by_cases k0:(pg h.Pages (i:Int)).Kind=0
  ·rw[show ((pg h.Pages (i:Int)).Kind != 0)=false by simpa using k0,Wa]
  ·have:(pg h.Pages (i:Int)).Space=h.Space:=Classical.byContradiction λ hh=>hsp ⟨k0,hh⟩
   rw[show ((pg h.Pages (i:Int)).Space != h.Space)=false by simpa using this,Wa,Bool.cond_self]
 simp only[e1]
 obtain ⟨r,er,hr,hlen⟩:=Qh0 hN hb hp (i:Int) (by omega) (by omega)
 simp only[XfU hN ht,er,Xa]
 by_cases hz:r.2=0
 case neg =>
  rw[show (r.2 != 0)=true by simpa using hz]
  exact ⟨_,rfl,.inl ⟨by show (3:Int)≠0;omega,λ n=>⟨_,rfl,by show (3:Int)≠0;omega⟩⟩⟩
 rw[show (r.2 != 0)=false by simpa using hz]
 simp only[Wa]
 obtain ⟨⟨hat,hev,_⟩,_,_⟩:=hr
 obtain ⟨a,ea,b,eb⟩:=Xjh hN ht hp (i:=(i:Int)) (by omega) (by omega) r.1 (by omega) hat hev
 simp only[ea,eb,Xa]
 by_cases ha:a=0
 case neg =>
  rw[show (a != 0)=true by simpa using ha]
  exact ⟨_,rfl,.inl ⟨by show (5:Int)≠0;omega,λ n=>⟨_,rfl,by show (5:Int)≠0;omega⟩⟩⟩
 rw[show (a != 0)=false by simpa using ha]
 simp only[Wa]
 obtain ⟨d,ed,d',ed'⟩:=XlB hN ht ep (i:=(i:Int)) (by omega) (by omega)
 simp only[ed,ed',Xa]
 by_cases hd:d=0
 case neg =>
  rw[show (d != 0)=true by simpa using hd]
  exact ⟨_,rfl,.inl ⟨by show (4:Int)≠0;omega,λ n=>⟨_,rfl,by show (4:Int)≠0;omega⟩⟩⟩
 rw[show (d != 0)=false by simpa using hd]
 simp only[Wa]
 first
  | exact ⟨_,rfl,.inr ⟨rfl,λ n=>rfl⟩⟩
  | exact ⟨_,rfl,.inr ⟨rfl,trivial⟩⟩
  | exact ⟨_,rfl,.inr rfl⟩
  | simp
def XlE (hN:NB N) {h:Wv} (ht:HT h) (ep:Qab N h=some true):∃ P:Prop,Xob P (QgR N h)/\∃ e,QaY N h N 0=some e/\(P->∃ f,e=.ret f/\f.Fault≠0)/\(¬ P->e=.nxt ()):=by
 have hb:=ht.hb
 have hpl:h.Pages.length<=100000:=hb.2
 have hbig:h.Pages.length<N:=by unfold NB at hN;omega
 let p:Nat->Prop:=λ k=>∃ f,QeY N h (k:Int)=some f/\f.Fault≠0
 refine ⟨∃ j,0<=j/\j<h.Pages.length/\p j,?_,?_⟩
 ·have key:=K1 (L:=h.Pages.length) (F:=Qa0 N h) (p:=p) (Q:=λ f=>f.Fault≠0) (u:=())
   (λ n k hk hbad=>by
    obtain ⟨f,ef,hf⟩:=hbad
    obtain ⟨f2,ef2,hor⟩:=Xer hN ht ep hk
    rw[ef] at ef2;cases ef2
    rcases hor with hor | hor
    ·obtain ⟨f',e',hf'⟩:=hor.2 n;exact ⟨f',e',hf'⟩
    ·exact absurd hor.1 hf)
   (λ n k hk hnb=>by
    obtain ⟨f2,ef2,hor⟩:=Xer hN ht ep hk
    rcases hor with hor | hor
    ·exact absurd ⟨f2,ef2,hor.1⟩ hnb
    ·exact hor.2 n)
   (λ n=>by rw[Qa0,Wk (by omega),Wa]) N 0 (by omega) (by omega)
  obtain ⟨e,e1,e2,e3⟩:=key
  have e1':Qa0 N h N 0=some e:=e1
  unfold Xob
  rw[QgR,e1',Xa]
  by_cases hP:∃ j,0<=j/\j<h.Pages.length/\p j
  ·obtain ⟨f,rfl,hf⟩:=e2 hP
   rw[Xl]
   exact ⟨_,rfl,λ _=>hf,λ hh=>absurd hP hh⟩
  ·rw[e3 hP,Xk];exact ⟨_,rfl,λ hh=>absurd hh hP,λ _=>rfl⟩
 ·have key:=K1 (L:=h.Pages.length) (F:=QaY N h) (p:=p) (Q:=λ f=>f.Fault≠0) (u:=())
   (λ n k hk hbad=>by
    obtain ⟨f,ef,hf⟩:=hbad
    rw[QaY,Wj (by omega),We,ef,Xa,show (f.Fault != 0)=true by simpa using hf]
    exact ⟨f,rfl,hf⟩)
   (λ n k hk hnb=>by
    obtain ⟨f2,ef2,hor⟩:=Xer hN ht ep hk
    have hz:f2.Fault=0:=Classical.byContradiction λ hh=>hnb ⟨f2,ef2,hh⟩
    rw[QaY,Wj (by omega),We,ef2,Xa,show (f2.Fault != 0)=false by simpa using hz,Wa,Xe (by omega)])
   (λ n=>by rw[QaY,Wk (by omega),Wa]) N 0 (by omega) (by omega)
  exact key
def Xes {f:Us} (hf:f.Fault≠0):((f.Fault==0)&&((f.Page==0)&&(f.Addr==0)))=false:=by
 rw[show (f.Fault==0)=false by simpa using hf,W5]
def XfY (hN:NB N) {h:Wv} (ht:HT h):QgB N h=Qa6 N h:=by
 have hb:=ht.hb
 have hpl:h.Pages.length<=100000:=hb.2
 rw[QgB,Qa6,Qhr,Qep,YR hpl (by unfold NB at hN;omega)]
 obtain ⟨b,eb⟩:=Jq (N:=N) hN hb
 simp only[eb,Xa]
 cases b with
 | false=>rfl
 | true =>
 rw[Ws,Wa,Wa]
 obtain ⟨P,⟨f,ef,hf1,hf2⟩,e,e1,e2,e3⟩:=XlE hN ht eb
 obtain ⟨y,ey,_⟩:=K2 hN hb
 obtain ⟨⟨g,eg,hg1,hg2⟩,⟨g',eg',hg1',hg2'⟩⟩:=Xbl hN ht eb ey
 simp only[ef,e1,Xa]
 by_cases hP:P
 ·obtain ⟨f',rfl,hf'⟩:=e2 hP
  simp only[Xl,Xes (hf1 hP),WS,We,Xa,Xes hf']
 rw[e3 hP,hf2 hP]
 simp only[Xk,eg,eg',Xa,zF,show ((0:Int)==0)=true from rfl,Bool.and_self,Ws,Wa]
 by_cases hQ:∃ a∈y.1,JI h y.1 a
 ·simp only[Xes (hg1 hQ),WS,We,Xa,show (g'.Fault != 0)=true by simpa using hg1' hQ,Xes (hg1' hQ)]
 rw[hg2 hQ,hg2' hQ]
 simp only[zF,show ((0:Int)==0)=true from rfl,show ((0:Int) != 0)=false from rfl,Bool.and_self,Ws,Wa]
 have hl2:∀ (n:Nat) (c i:Int),Qcm N h n c i=QbA N h n c i:=by
  intro n
  induction n with
  | zero=>intro c i;rw[Qcm,QbA]
  | succ n ih =>
   intro c i
   rw[Qcm,QbA]
   simp only[ih]
   cases hg:Xb h.Pages i with
   | none=>simp only[Xb3]
   | some p=>simp only[Xa]
 rw[hl2]
def Xjj (hN:NB N) {h:Wv} (ht:HT h) {l:List Int} (hl:l.length<=1000000):Qgm N h l=Qa5 N h l:=by
 have hN':1000000<N:=by unfold NB at hN;omega
 have hb:=ht.hb
 rw[Qgm,Qa5,XfY hN ht]
 obtain ⟨b,eb,_⟩:=Km hN hb
 rw[eb,Xa,Xa]
 cases b with
 | false=>rfl
 | true =>
 obtain ⟨y,ey,hy,hs,_⟩:=K2 hN hb
 rw[Ws,Wa,Wa,Ve hN ht,ey,Xa,Xa]
 have hr1:∀ x:Int,QeJ N x y.1=some (x != 0&&!y.1.contains x):=by
  intro x
  obtain ⟨k,ek⟩:=XlD (N:=N) y.1 x (by omega) hN' hs
  rw[QeJ,ek,Xa]
  cases (x != 0)<;>rfl
 rw[QaS,Qa7]
 rw[KN (p:=λ x:Int=>x != 0&&!y.1.contains x) hl hN' (λ n k x e=>by
  have hk:=Xq e
  rw[Qap,Xv hk,We,Xc,e,Xa,hr1,Xa,Xe (by omega)]) (λ n=>by rw[Qap,Xp,Wa])]
 rw[Xa,Xa,Z3]
 have key:=K1 (L:=l.length) (F:=Qak N l y) (p:=λ k=>∃ hk:k<l.length,(l[k] != 0&&!y.1.contains l[k])=true) (Q:=λ b=>b=false) (u:=())
  (λ n k hk hbad=>by
   obtain ⟨hk',hq⟩:=hbad
   simp only[Ww] at hq
   refine ⟨false,?_,rfl⟩
   rw[Qak,Wj (by omega),We,Xc,Wb hk,Xa,hq.1,We,Xa,YZ _ (by omega) (by omega),Xa,hq.2,We])
  (λ n k hk hnb=>by
   rw[Qak,Wj (by omega),We,Xc,Wb hk,Xa,Xa,YZ _ (by omega) (by omega),Xa,Xe (by omega)]
   have:(l[k] != 0&&!y.1.contains l[k])=false:=by rw[← IR];exact λ hh=>hnb ⟨hk,hh⟩
   cases h1:(l[k] != 0) with
   | false=>rfl
   | true=>rw[h1,WA] at this;rw[this];rfl)
  (λ n=>by rw[Qak,Wk (by omega),Wa]) N 0 (by omega) (by omega)
 obtain ⟨e,e1,e2,e3⟩:=key
 have e1':Qak N l y N 0=some e:=e1
 rw[e1',Xa]
 cases hA:l.any (λ x=>x != 0&&!y.1.contains x) with
 | true =>
  obtain ⟨x,hx,hq⟩:=Ik.1 hA
  obtain ⟨j,hj,rfl⟩:=WU hx
  obtain ⟨b,rfl,hbf⟩:=e2 ⟨j,Un _,hj,hj,hq⟩
  rw[Xl,hbf];rfl
 | false =>
  have:=e3 λ ⟨j,_,hj,hj',hq⟩=>by
   rw[Ig] at hA
   exact hA _ (WW hj) hq
  subst this
  rw[Xk];rfl
def Xbm (hN:NB N) {h:Wv} (ht:HT h) {l:List Int} (hl:l.length<=10000000 / 4) (eg:Qa6 N h=some true) {y:List Int×Int} (ey:Qaq N h=some y):Qa5 N h l=some (l.all λ x=>x==0||y.1.contains x):=by
 have hb:=ht.hb
 obtain ⟨y',ey',hy,hs,_⟩:=K2 hN hb
 rw[ey] at ey';cases ey'
 have hbig:l.length<N:=by unfold NB at hN;omega
 have hN':1000000<N:=by unfold NB at hN;omega
 rw[Qa5,eg,Xa,Ws,Wa,ey,Xa]
 have key:=K1 (L:=l.length) (F:=Qak N l y) (p:=λ k=>∃ hk:k<l.length,(l[k]==0||y.1.contains l[k])=false) (Q:=λ b=>b=false) (u:=())
  (λ n k hk hbad=>by
   obtain ⟨hk',hq⟩:=hbad
   simp only[Bool.or_eq_false_iff] at hq
   refine ⟨false,?_,rfl⟩
   rw[Qak,Wj (by omega),We,Xc,Wb hk,Xa,show (l[k] != 0)=true by simpa using hq.1,We,Xa,YZ _ (by omega) (by omega),Xa,hq.2];rfl)
  (λ n k hk hnb=>by
   rw[Qak,Wj (by omega),We,Xc,Wb hk,Xa,Xa,YZ _ (by omega) (by omega),Xa,Xe (by omega)]
   have:(l[k]==0||y.1.contains l[k])=true:=by rw[← Bool.not_eq_false];exact λ hh=>hnb ⟨hk,hh⟩
   by_cases h1:l[k]=0
   ·rw[show (l[k] != 0)=false by simpa using h1,Wa]
   ·rw[show (l[k]==0)=false by simpa using h1,UZ] at this
    rw[show (l[k] != 0)=true by simpa using h1,this];rfl)
  (λ n=>by rw[Qak,Wk (by omega),Wa]) N 0 (by omega) (by omega)
 obtain ⟨e,e1,e2,e3⟩:=key
 have e1':Qak N l y N 0=some e:=e1
 rw[e1',Xa]
 cases hA:l.all (λ x=>x==0||y.1.contains x) with
 | false =>
  obtain ⟨x,hx,hq⟩:=List.all_eq_false.1 hA
  obtain ⟨j,hj,rfl⟩:=WU hx
  obtain ⟨b,rfl,hbf⟩:=e2 ⟨j,Un _,hj,hj,by simpa using hq⟩
  rw[Xl,hbf]
 | true =>
  have:=e3 λ ⟨j,_,hj,hj',hq⟩=>by
   rw[W3] at hA
   rw[hA _ (WW hj)] at hq;cases hq
  subst this
  rw[Xk]
end
section
variable {N:Nat}
def XpV (l:List U4) (r:Int) (hl:l.length<=1000000) (hN:1000000<N):QfA N l r=some (Vb (λ p=>p.Ref==r) l):=by
 rw[QfA]
 exact KN (p:=λ p:U4=>p.Ref==r) hl hN (λ n k x e=>by
  have hk:=Xq e
  rw[Qeq,Xv hk,We,Xc,e,Xa,Xe (by omega)]) (λ n=>by rw[Qeq,Xp,Wa])
def XlF (l:List U4) (r:Int) (hl:l.length<=1000000) (hN:1000000<N):QfS N l r=some (Vb (λ p=>p.Ref==r) l):=by
 rw[QfS,Qa4]
 rw[KN (p:=λ p:U4=>p.Ref==r) hl hN (λ n k x e=>by
  have hk:=Xq e
  rw[Qam,Xv hk,We,Xc,e,Xa,Qfj,Xa,Xe (by omega)]) (λ n=>by rw[Qam,Xp,Wa]),Xa]
def VW (hN:NB N) {h:Wv} (ht:HT h) (hp:UR h) (pins:List U4) (hpn:pins.length<=1000000) (y:List Int×Int) (hy:y.1.length<=4096) (hs:y.1.Pairwise (·<·)) (hat:∀ a∈y.1,Of h a):∀ (n k:Nat) (v:List Int),k<=pins.length->pins.length-k<n->v.length=h.Pages.length ->
 ∃ e,Qbg N h pins y n (k:Int) v=some e/\Qb8 N pins h y n (k:Int) v=some (match e with | .ret _=>.ret ([],false) | .nxt v=>.nxt v)/\(∀ b,e=.ret b->b=false)/\(∀ v',e=.nxt v'->v'.length=h.Pages.length/\∀ p∈pins.drop k,y.1.contains p.Ref=true)
 | 0,k,v,_,hn,_=>by omega
 | n+1,k,v,hk,hn,hv=>by
  have hN':1000000<N:=by unfold NB at hN;omega
  rw[Qbg,Qb8]
  by_cases hlt:k<pins.length
  case neg =>
   rw[Wk (by omega),Wa,Wa]
   refine ⟨_,rfl,rfl,?_,?_⟩<;>intro v' e<;>cases e
   exact ⟨hv,λ p hp=>by rw[WL (by omega)] at hp;cases hp⟩
  obtain ⟨q,eq⟩:=XlD (N:=N) y.1 pins[k].Ref (by omega) hN' hs
  have fin:∀ (o:Option (Ex (List Int×Bool) (List Int))),o=some (.ret ([],false))->∃ e:Ex Bool (List Int),some (.ret false)=some e/\o=some (match e with | .ret _=>.ret ([],false) | .nxt v=>.nxt v)/\(∀ b,e=.ret b->b=false)/\(∀ v',e=.nxt v'->v'.length=h.Pages.length/\∀ p∈pins.drop k,y.1.contains p.Ref=true):=by
   intro o ho
   refine ⟨_,rfl,ho,?_,?_⟩<;>intro b e<;>cases e
   rfl
  have hg:Xb pins (k:Int)=some pins[k]:=by rw[Xc,Wb hlt]
  simp only[Wj (show (k:Int)<((pins.length:Nat):Int) by omega),We,hg,Xa,YZ pins[k].Ref (show y.1.length<=1000000000 by omega) (show y.1.length<N by omega),eq,XpV pins pins[k].Ref hpn hN',XlF pins pins[k].Ref hpn hN']
  cases hc:y.1.contains pins[k].Ref with
  | false=>exact fin _ rfl
  | true =>
  have ha:=hat _ (by rw[Ii] at hc;exact hc)
  have hta:=ha.tu hp
  obtain ⟨eh,eh1,eh2⟩:=XbC (N:=N) hp ha
  have eo:Qdr N h.Conf pins[k].Ref=some (pgi h.Conf pins[k].Ref,pgo h.Conf pins[k].Ref,0):=by
   rw[Xae,Wm (by rw[hp.conf];simp),Wn ha.rng];rfl
  obtain ⟨c,hvc⟩:∃ c,Xb v (pgi h.Conf pins[k].Ref)=some c:=⟨_,Yg eh1 (by omega)⟩
  simp only[Ws,Wa,eh,Xlv N h.Conf pins[k].Ref hta.2,eo,Xa,hvc,Xe (show k<=140737488355328 by omega)]
  obtain ⟨e,n1,n2,n3,n4⟩:=VW hN ht hp pins hpn y hy hs hat n (k+1) (v.set (pgi h.Conf pins[k].Ref).toNat (wI (c+pins[k].Count))) (by omega) (by omega) (by rw[Wx];exact hv)
  have n5:∀ v',e=.nxt v'->v'.length=h.Pages.length/\∀ p∈pins.drop k,y.1.contains p.Ref=true:=λ v' hv'=>⟨(n4 v' hv').1,λ p hp=>by
   rw[Wt hlt] at hp
   rcases UQ.1 hp with rfl | hp
   ·exact hc
   ·exact (n4 v' hv').2 p hp⟩
  cases (Vb (λ p:U4=>p.Ref==pins[k].Ref) pins != (k:Int))<;>cases (decide (pins[k].Count<1))<;>cases (decide (pins[k].Count>1000))
  all_goals simp only[We,Wa]
  all_goals first
   | exact ⟨e,n1,n2,n3,n5⟩
   | exact fin _ rfl
def Xjk (hN:NB N) {h:Wv} (ht:HT h) {pins:List U4} (hpn:pins.length<=1000000):Qhu N h pins=QbG N h pins:=by
 have hN':1000000<N:=by unfold NB at hN;omega
 have hb:=ht.hb
 have hpl:h.Pages.length<=100000:=hb.2
 rw[Qhu,QbG,XfY hN ht]
 obtain ⟨b,eb,hgd⟩:=Km hN hb
 rw[eb,Xa,Xa]
 cases b with
 | false=>rfl
 | true =>
 rw[Ws,Wa,Wa]
 cases decide (((pins.length:Nat):Int)>64) with
 | true=>rfl
 | false =>
 have hp:UR h:=(hgd rfl).prop
 obtain ⟨y,ey,hy,hs,hat,_⟩:=K2 hN hb
 rw[Wa,Wa,Qf9,Ve hN ht,ey,Xa,Xa]
 rw[Xf (by omega)]
 obtain ⟨e,e1,e2,e3,e4⟩:=VW hN ht hp pins hpn y hy hs hat N 0 (List.replicate ((h.Pages.length:Nat):Int).toNat 0) (by omega) (by omega) (by rw[WO];rfl)
 have e1':Qbg N h pins y N 0 (List.replicate ((h.Pages.length:Nat):Int).toNat 0)=some e:=e1
 have e2':Qb8 N pins h y N 0 (List.replicate ((h.Pages.length:Nat):Int).toNat 0)=_:=e2
 rw[Xf (by omega),e1',e2',Xa,Xa]
 cases e with
 | ret b =>
  dsimp only
  rw[e3 b rfl,Xl,Xl,Xa];rfl
 | nxt v =>
  dsimp only
  rw[Xk,Xk,Xa]
  have hl:∀ (n:Nat) (i:Int),QeI N h (v,true) n i=QbB N h v n i:=by
   intro n
   induction n with
   | zero=>intro i;rw[QeI,QbB]
   | succ n ih=>intro i;rw[QeI,QbB];simp only[ih]
  simp only[hl,Ws,Wa]
def Xg0 (hN:NB N) {h:Wv} (ht:HT h) {pins:List U4} (hpn:pins.length<=1000000) (em:QbG N h pins=some true):Qa6 N h=some true/\pins.length<=64/\∀ y,Qaq N h=some y->∀ p∈pins,y.1.contains p.Ref=true:=by
 have hb:=ht.hb
 have hpl:h.Pages.length<=100000:=hb.2
 rw[QbG] at em
 obtain ⟨b,eb,hgd⟩:=Km hN hb
 rw[eb,Xa] at em
 cases b with
 | false=>cases em
 | true =>
 rw[Ws,Wa] at em
 refine ⟨eb,?_,λ y ey p hpm=>?_⟩
 ·cases hd:decide (((pins.length:Nat):Int)>64) with
  | true=>rw[hd] at em;cases em
  | false=>have:=WG hd;omega
 have hp:UR h:=(hgd rfl).prop
 obtain ⟨y',ey',hy,hs,hat,_⟩:=K2 hN hb
 rw[ey] at ey';cases ey'
 cases hd:decide (((pins.length:Nat):Int)>64) with
 | true=>rw[hd] at em;cases em
 | false =>
 rw[hd,Wa,ey,Xa,Xf (by omega)] at em
 obtain ⟨e,e1,e2,e3,e4⟩:=VW hN ht hp pins hpn y hy hs hat N 0 (List.replicate ((h.Pages.length:Nat):Int).toNat 0) (by omega) (by unfold NB at hN;omega) (by rw[WO];rfl)
 have e1':Qbg N h pins y N 0 (List.replicate ((h.Pages.length:Nat):Int).toNat 0)=some e:=e1
 rw[e1',Xa] at em
 cases e with
 | ret b=>rw[e3 b rfl,Xl] at em;cases em
 | nxt v=>exact (e4 v rfl).2 p (by rw[WP];exact hpm)
def XcF {x:Ud} (hp:x.Pins.length<=1000000):∀ (n k:Nat) (v:List Int),k<=x.Pins.length->x.Pins.length-k<n->v.length<=10000000+k ->
 QeQ N x n (k:Int) v=some (v++(x.Pins.drop k).map (·.Ref))/\Qa3 N x n (k:Int) v=some (v++(x.Pins.drop k).map (·.Ref))
 | 0,k,v,_,hn,_=>by omega
 | n+1,k,v,hk,hn,hv=>by
  rw[QeQ,Qa3]
  by_cases hlt:k<x.Pins.length
  ·rw[Wj (by omega),We,We,Xc,Wb hlt,Xa,Xa,Xf (by omega),Xf (by omega),Xe (by omega)]
   obtain ⟨a,b⟩:=XcF hp n (k+1) (v++[x.Pins[k].Ref]) (by omega) (by omega) (by rw[Wp];simp;omega)
   rw[a,b,Wt hlt,Ul,WX]
   exact ⟨rfl,rfl⟩
  ·rw[Wk (by omega),Wa,Wa,WL (by omega)];simp
def XfZ (x:Ud):List Int:=((x.Roots++(bif YL x.Locals then XX x.Locals.Slots else []))++(bif Yx x.Globals.Entries then XA x.Globals.Entries else []))++x.Pins.map (·.Ref)
def XlG {x:Ud} (hx:EB x):(XfZ x).length<=104160+x.Pins.length:=by
 have h1:=Z0 hx.loc
 have h2:=YK x.Globals.Entries
 have h3:=hx.pins
 have h4:=hx.roots
 unfold XfZ
 simp only[Wp,W0]
 omega
def Xg1 (hN:NB N) {x:Ud} (hx:EB x):Qhb N x=some (XfZ x):=by
 have h1:=Z0 hx.loc
 have h2:=YK x.Globals.Entries
 have h3:=hx.pins
 have h4:=hx.roots
 have hN':1000000<N:=by unfold NB at hN;omega
 rw[Qhb,Xdu hx.loc hN',Xa,Jo hx.glo hN',Xa,QhF]
 have:=(XcF (N:=N) h3 N 0 [] (by omega) (by omega) (by simp)).1
 rw[show (0:Int)=((0:Nat):Int) from rfl,this,Xa,Xa,WP,Ux,QgC,Xa1 _ (by simp) (by simp only[Xau,W0];omega) hN',Xa,Xa]
 unfold XfZ
 simp[Ul]
structure ET (x:Ud):Prop where
 eb:EB x
 tw:XJ x.Heap
def ET.ht {x:Ud} (t:ET x):HT x.Heap:=⟨t.eb.heap,t.tw⟩
end
section
variable {N:Nat}
def XlH (l:List Int):(!l.all λ p=>!(p==0))=l.contains 0:=by
 cases h:l.contains 0 with
 | true =>
  rw[Ii] at h
  rw[show (l.all λ p=>!(p==0))=false from List.all_eq_false.2 ⟨0,h,by simp⟩];rfl
 | false =>
  have h':¬ (0:Int)∈l:=by rw[← Ii,h];simp
  rw[show (l.all λ p=>!(p==0))=true from W3.2 λ x hx=>by
   by_cases hz:x=0
   ·subst hz;exact absurd hx h'
   ·simpa using hz];rfl
def Xoc (hN:NB N) {x:Ud} (ht:ET x):Qgn N x=QbH N x:=by
 have hN':1000000<N:=by unfold NB at hN;omega
 have hx:=ht.eb
 have h1:=Z0 hx.loc
 have h2:=YK x.Globals.Entries
 have h5:=YK x.Weaks.Entries
 have h3:=hx.pins
 have h4:=hx.roots
 rw[Qgn,QbH,Xjk hN ht.ht h3]
 obtain ⟨b,eb,_⟩:=J9 hN hx.heap h3
 rw[eb,Xa,Xa]
 cases b with
 | false=>rfl
 | true =>
 obtain ⟨eg,hp64,hpn⟩:=Xg0 hN ht.ht h3 eb
 simp only[Ws,Wa,Xcy hx.loc hN',ZN hx.loc hN',Vc hx.glo hN',Zi hx.glo hN',Vc hx.wea hN',Zi hx.wea hN',Jo hx.glo hN',X8 hx.glo hN',Jo hx.wea hN',X8 hx.wea hN',Zs hx.loc hN',Xa,Xg1 hN hx]
 cases el:YL x.Locals with
 | false=>rfl
 | true =>
 cases et:Yx x.Globals.Entries with
 | false=>rfl
 | true =>
 cases ew:Yx x.Weaks.Entries with
 | false=>rfl
 | true =>
 have hl:XfZ x=((x.Roots++XX x.Locals.Slots)++XA x.Globals.Entries)++x.Pins.map (·.Ref):=by unfold XfZ;rw[el,et];rfl
 have hlen:=XlG hx
 rw[el,We] at h1
 rw[et,We] at h2
 rw[ew,We] at h5
 simp only[Ws,Wa,We]
 rw[Xat (by omega) hN',Xa,XlH,YZ 0 (by omega) (by omega),Xa]
 cases (XA x.Globals.Entries).contains 0 with
 | true=>rfl
 | false =>
 rw[Wa,Wa,Xf (by omega),Xf (by omega),Xf (by omega),Xf (by omega)]
 rw[QgC,Xa1 _ (by simp) (by simp only[Xau];omega) hN',Xa,Xa]
 obtain ⟨y,ey,hy,_⟩:=K2 hN hx.heap
 have e1:[XfZ x,XA x.Weaks.Entries].flatten=XfZ x++XA x.Weaks.Entries:=by simp
 rw[e1,Xjj hN ht.ht (by rw[Wp];omega),Xbm hN ht.ht (by rw[Wp];omega) eg ey,Xbm hN ht.ht (by simp only[Wp];omega) eg ey,Xa,Xa,hl]
 simp only[IK]
 have hp:(x.Pins.map (·.Ref)).all (λ x=>x==0||y.1.contains x)=true:=by
  rw[W3]
  intro r hr
  obtain ⟨p,hp,rfl⟩:=UH.1 hr
  rw[hpn y ey p hp,Bool.or_true]
 rw[hp,I5]
end
section
variable {N:Nat} {w:Wy} {k:Nat}
def Xh3 (hl:w.Things.length<=1000):∀ (n j:Nat) (v:List UL),j<=w.Things.length->w.Things.length-j<n->v.length=j->QbW N w n (j:Int) v=some (v++w.Things.drop j)
 | 0,j,v,_,hn,_=>by omega
 | n+1,j,v,hj,hn,hv=>by
  rw[QbW]
  by_cases h:j<w.Things.length
  ·rw[Xv h,We,Xc,Wb h,Xa,Xa,Xf (by omega),Xe (by omega),Xh3 hl n (j+1) _ (by omega) (by omega) (by rw[Wp];simp;omega),Wt h,Ul]
   rfl
  ·obtain rfl:j=w.Things.length:=by omega
   rw[Xp,Wa,WL (Ui _),Iw]
def Xh4 (y:List UL) (hl:w.Marks.length<=1000):∀ (n j:Nat) (v:List U7),j<=w.Marks.length->w.Marks.length-j<n->v.length=j->QbX N w y n (j:Int) v=some (v++w.Marks.drop j)
 | 0,j,v,_,hn,_=>by omega
 | n+1,j,v,hj,hn,hv=>by
  rw[QbX]
  by_cases h:j<w.Marks.length
  ·rw[Xv h,We,Xc,Wb h,Xa,Xa,Xa,Xf (by omega),Xe (by omega),Xh4 y hl n (j+1) _ (by omega) (by omega) (by rw[Wp];simp;omega),Wt h,Ul]
   rfl
  ·obtain rfl:j=w.Marks.length:=by omega
   rw[Xp,Wa,WL (Ui _),Iw]
def Xod (hw:WB k w) (hN:1000000<N):Qcu N w=some w:=by
 have hk:=hw.kk
 have ht:=hw.things
 have hm:=hw.marks
 have h1:=Xh3 (N:=N) (w:=w) (by omega) N 0 [] (by omega) (by omega) rfl
 have h2:=λ y=>Xh4 (N:=N) (w:=w) y hm N 0 [] (by omega) (by omega) rfl
 rw[show ((0:Nat):Int)=0 from rfl,WP,Ux] at h1
 simp only[show ((0:Nat):Int)=0 from rfl,WP,Ux] at h2
 rw[Qcu,h1,Xa,h2,Xa]
end
def Wd (w:Wy):Prop:=(∃ k,k<=200/\WB k w)/\Xz w
section
variable {N:Nat}
def XlI {α β:Type} {L:Nat} {F:Nat->Int->Option (Ex α β)} {u:β} (hok:∀ n k,k<L->F (n+1) (k:Int)=F n ((k+1:Nat):Int)) (hstop:∀ n,F (n+1) (L:Int)=some (.nxt u)) {n:Nat} (hn:L<n):F n 0=some (.nxt u):=by
 obtain ⟨e,e1,_,e3⟩:=K1 (p:=λ _=>False) (Q:=λ _=>True) (u:=u) (λ n k _ h=>h.elim) (λ n k hk _=>hok n k hk) hstop n 0 (by omega) (by omega)
 rw[e3 (λ ⟨_,_,_,h⟩=>h)] at e1
 exact e1
def Xjl (x:Ud):Ok (QfL N x) λ b=>b=true->EB x:=by
 rw[QfL,QhD]
 refine WN (Q:=λ b=>b=true->HB x.Heap) ?_ λ y _ hy=>?_
 ·refine Wo (λ h=>Wh λ h2=>?_) λ _=>Wh λ h=>by cases h
  have a:=Wq h
  have b:=Wq h2
  exact ⟨by omega,by omega⟩
 ·refine Wo (λ h0=>Wo (λ h1=>Wo (λ h2=>Wo (λ h3=>Wo (λ h4=>Wo (λ h5=>Wo (λ h6=>Wh λ h7=>?_) λ _=>Wh λ h=>by cases h) λ _=>Wh λ h=>by cases h) λ _=>Wh λ h=>by cases h) λ _=>Wh λ h=>by cases h) λ _=>Wh λ h=>by cases h) λ _=>Wh λ h=>by cases h) λ _=>Wh λ h=>by cases h
  have a1:=Wq h1
  have a2:=Wq h2
  have a3:=Wq h3
  have a4:=Wq h4
  have a5:=Wq h5
  have a6:=Wq h6
  have a7:=Wq h7
  exact ⟨hy h0,⟨by omega,by omega,by omega⟩,by unfold TB;omega,by unfold TB;omega,by omega,by omega⟩
end
section
variable {N:Nat}
def Xf0 (p:WM):Bool:=p.Kind != 0
def Kf (ps l:List WM) (i:Nat):List WM:=(ps.take i++l)++ps.drop (i+l.length)
def Vg {ps l:List WM} {i:Nat} (h:i+l.length<=ps.length):(Kf ps l i).length=ps.length:=by
 unfold Kf;simp only[Wp,WC,WR];omega
def Xh5 (hl:Nat) (i k:Nat) (f r:WM) (ps:List WM) (hps:ps.length<=100000) (hik:i+k<=ps.length):∀ (n m:Nat),m<=k->k-m<n ->
 Qdj N (i:Int) (k:Int) f r n (m:Int) (Kf ps (List.replicate m r) i)=some (if ((ps.drop (i+m)).take (k-m)).any Xf0=true then .ret ([],20) else .nxt (Kf ps (List.replicate k r) i))
 | 0,m,_,h=>by omega
 | n+1,m,hm,hn=>by
  rw[Qdj]
  by_cases hlt:m<k
  case neg =>
   obtain rfl:m=k:=by omega
   rw[Wk (by omega),Wa,Nat.sub_self,List.take_zero,List.any_nil,Wm (by simp)]
  have hlen:(Kf ps (List.replicate m r) i).length=ps.length:=Vg (by rw[WO];omega)
  have hg:(Kf ps (List.replicate m r) i)[i+m]? = some (ps[i+m]'(by omega)):=by
   unfold Kf
   rw[UW (by simp;omega),Uu]
   simp only[Wp,WC,WO]
   rw[show i+m+(i+m-(min i ps.length+m))=i+m by omega]
   exact Wb (by omega)
  have hs:(Kf ps (List.replicate m r) i).set (i+m) r=Kf ps (List.replicate (m+1) r) i:=by
   unfold Kf
   rw[List.set_append_right _ _ (by simp;omega)]
   simp only[Wp,WC,WO]
   rw[show i+m-(min i ps.length+m)=0 by omega,Wt (show i+m<ps.length by omega),List.set_cons_zero,List.replicate_succ',← Ul (ps.take i),Ul (ps.take i++List.replicate m r)]
   rfl
  have hw:wI ((i:Int)+(m:Int))=((i+m:Nat):Int):=by rw[Xd (by omega) (by omega)];omega
  rw[Wj (by omega),We,hw,Xc,hg,Xa,Xa,Xe (by omega),show (((i+m:Nat):Int)).toNat=i+m from rfl,hs]
  have hd:(ps.drop (i+m)).take (k-m)=ps[i+m]'(by omega)::(ps.drop (i+(m+1))).take (k-(m+1)):=by
   rw[Wt (show i+m<ps.length by omega),show k-m=(k-(m+1))+1 by omega,Iy];rfl
  rw[hd,List.any_cons]
  cases hb:((ps[i+m]'(by omega)).Kind != 0) with
  | true=>rw[We,show Xf0 (ps[i+m]'(by omega))=true from hb,IY,Wn rfl]
  | false =>
   rw[Wa,show Xf0 (ps[i+m]'(by omega))=false from hb,UZ]
   exact Xh5 hl i k f r ps hps hik n (m+1) (by omega) (by omega)
end
end Go.Sx
