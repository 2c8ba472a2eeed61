import Derived.KernelRfl
import Derived.Test.YtbikeogjhdcfmaaGreatVD
set_option linter.all false
namespace Go.Sx
section
variable {N:Nat}
theorem Y9 (h:Iy):Ok (Qbr N h) λ _=>True:=by
 rw[Qbr]
 refine WH (Q:=λ _=>True) ?_ λ b _ _=>Wo (λ _=>Wg trivial) λ _=>Wg trivial
 rw[Qf3]
 exact Wo (λ _=>Wo (λ _=>Wo (λ _=>Wo (λ _=>Wo (λ _=>Wg trivial) λ _=>Wg trivial) λ _=>Wg trivial) λ _=>Wg trivial) λ _=>Wg trivial) λ _=>Wg trivial
theorem Xai (a:Int):Ok (QbM N a) λ _=>True:=by
 rw[QbM]
 exact Wo (λ _=>Wg trivial) λ _=>WH (Y9 _) λ _ _ _=>Wo (λ _=>Wg trivial) λ _=>Wo (λ _=>Wg trivial) λ _=>Wg trivial
theorem Xnk {l:List UG} (r:Int) (hl:l.length<=1000000):∀ (n:Nat) (k:Int),0<=k->k<=l.length->(l.length-k).toNat<n->Ok (QdP N l r n k) λ e=>∀ i,e=.ret i->0<=i/\i<l.length/\∃ p∈l,p.Ref=r
 | 0,k,_,_,hn=>by omega
 | n+1,k,h0,hk,hn=>by
  rw[QdP]
  refine Wo (λ hc=>?_) λ _=>Wg λ i e=>by cases e
  have hc:k<l.length:=Wr hc
  rw[Xc (n:=k+1) (by omega) (by omega)]
  refine Ok.get h0 hc λ p hp=>Wo (λ h=>Wg λ i e=>?_) λ _=>Xnk r hl n (k+1) (by omega) (by omega) (by omega)
  cases e
  exact ⟨h0,hc,p,Yq hp,by simpa using h⟩
theorem XbJ {l:List UG} (r:Int) (hl:l.length<=1000000) (hN:1000000<N):Ok (QeP N l r) λ i=>i = -1\/(0<=i/\i<l.length/\∃ p∈l,p.Ref=r):=by
 rw[QeP]
 exact IT (Xnk r hl N 0 (by omega) (by omega) (by omega)) (λ i q=>Wg (.inr (q i rfl))) λ _ _=>Wg (.inl rfl)
theorem Xa0 {h:Wn} (hp:UI h) {a:Int} (ha:I8 h a):QeQ N h a=some (pgi h.Conf a)/\0<=pgi h.Conf a/\pgi h.Conf a<h.Pages.length:=by
 have hv:=Xi.1 hp.conf
 obtain ⟨_,q0,q1,_⟩:=JC hp.conf ha.rng
 have:=hp.pages
 refine ⟨?_,q0,by omega⟩
 rw[QeQ,VI,Xa,hp.conf,Wk (by simp),Wm ha.rng]
 rfl
theorem XeY {h:Wn} {pins:List UG} (hN:NB N) (hp:UI h) (y:List Int×Int) (hy:Oc N h y.1) (hl:pins.length<=64) (hb:HB h):∀ (n:Nat) (k:Int) (v:List Int),0<=k->k<=pins.length->(pins.length-k).toNat<n->v.length=h.Pages.length->Ok (Qbu N h pins y n k v) λ e=>match e with | .ret b=>b=false | .nxt v=>v.length=h.Pages.length/\∀ i,k<=i->∀ p,Xb pins i=some p->I8 h p.Ref
 | 0,k,v,_,_,hn,_=>by omega
 | n+1,k,v,h0,hk,hn,hv=>by
  have hN':=hN
  unfold NB at hN'
  have hyl:=hy.len
  rw[Qbu]
  refine Wo (λ hc=>?_) λ hc=>Wg ⟨hv,λ i hi p hp=>?_⟩
  rotate_left
  ·have:=WI hc
   rw[XhU (by omega)] at hp;cases hp
  have hc:k<pins.length:=Wr hc
  rw[Xc (n:=k+1) (by omega) (by omega)]
  have a1:0<=k+1:=by omega
  have a2:k+1<=pins.length:=by omega
  have a3:(pins.length-(k+1)).toNat<n:=by omega
  refine Ok.get h0 hc λ p hp1=>?_
  have same:∀ q,Xb pins k=some q->q=p:=λ q hq=>WV (hq.symm.trans hp1)
  rw[Ze p.Ref (by omega) (by omega),Xa]
  refine Wo (λ _=>Wg rfl) λ hh=>?_
  have hm:p.Ref∈y.1:=Va (by simpa using hh)
  have hat:=hy.obj.at_ _ hm
  refine Ok.get h0 hc λ q hq=>?_
  obtain rfl:=same q hq
  refine WH (XbJ _ (by omega) (by omega)) λ _ _ _=>Wo (λ _=>Wg rfl) λ _=>Ok.get h0 hc λ _ _=>Wo (λ _=>Wg rfl) λ _=>Ok.get h0 hc λ _ _=>Wo (λ _=>Wg rfl) λ _=>Ok.get h0 hc λ q hq=>?_
  obtain rfl:=same q hq
  obtain ⟨e,q0,q1⟩:=Xa0 (N:=N) hp hat
  rw[e,Xa]
  refine Ok.get q0 (by omega) λ _ _=>Ok.get h0 hc λ _ _=>Ok.get q0 (by omega) λ _ _=>?_
  refine (XeY hN hp y hy hl hb n (k+1) _ a1 a2 a3 (by rw[Wx];exact hv)).mono λ e he=>?_
  cases e with
  | ret b=>exact he
  | nxt v =>
   refine ⟨he.1,λ i hi p' hp'=>?_⟩
   by_cases hik:i=k
   ·subst hik
    obtain rfl:=same p' hp'
    exact hat
   ·exact he.2 i (by omega) p' hp'
theorem XeZ {h:Wn} (hb:HB h) (v:List Int) (hv:v.length=h.Pages.length):∀ (n:Nat) (k:Int),0<=k->k<=h.Pages.length->(h.Pages.length-k).toNat<n->Ok (Qb6 N h v n k) λ e=>∀ b,e=.ret b->b=false
 | 0,k,_,_,hn=>by omega
 | n+1,k,h0,hk,hn=>by
  have:=hb.2
  rw[Qb6]
  refine Wo (λ hc=>?_) λ _=>Wg λ b e=>by cases e
  have hc:k<h.Pages.length:=Wr hc
  rw[Xc (n:=k+1) (by omega) (by omega)]
  exact Ok.get h0 hc λ _ _=>Ok.get h0 (by omega) λ _ _=>Wo (λ _=>Wg λ b e=>by cases e;rfl) λ _=>XeZ hb v hv n (k+1) (by omega) (by omega) (by omega)
structure Oy (N:Nat) (h:Wn) (pins:List UG):Prop where
 good:Oq N h
 len:pins.length<=64
 at_:∀ p∈pins,I8 h p.Ref
theorem JG (hN:NB N) {h:Wn} (hb:HB h) {pins:List UG} (hl:pins.length<=1000000):Ok (QbU N h pins) λ b=>b=true->Oy N h pins:=by
 have hN':=hN
 unfold NB at hN'
 have hb2:=hb.2
 rw[QbU]
 refine WH (Z7 hN hb) λ b _ hg=>Wo (λ _=>Wg λ e=>by cases e) λ hb1=>?_
 have hg:=hg (by simpa using hb1)
 refine Wo (λ _=>Wg λ e=>by cases e) λ h64=>?_
 have h64:=WI h64
 refine WH (Zn hN hb) λ y _ hy=>WS (by omega) ?_
 refine IT (XeY hN hg.prop y hy.1 (by omega) hb N 0 _ (by omega) (by omega) (by omega) (by rw[WC];omega)) (λ b q=>Wg λ e=>?_) λ v q=>?_
 ·have q:b=false:=q
  rw[q] at e;cases e
 refine IT (XeZ hb v q.1 N 0 (by omega) (by omega) (by omega)) (λ b q=>Wg λ e=>?_) λ _ _=>Wg λ _=>⟨hg,by omega,λ p hp=>?_⟩
 ·rw[q b rfl] at e;cases e
 ·obtain ⟨i,hi,e⟩:=WZ hp
  exact q.2 (i:Int) (by omega) p (by rw[Xd,Wd hi,e])
theorem Xe0 {h:Wn} (hb:HB h) (hp:UI h) {a:Int} (ha:I8 h a) (d:Int):Ok (Qb3 N h a d) HB:=by
 have hb2:=hb.2
 obtain ⟨e,q0,q1⟩:=Xa0 (N:=N) hp ha
 rw[Qb3,Xe (by omega),e,Xa]
 exact Ok.get q0 q1 λ _ _=>Ok.get q0 q1 λ _ _=>Wg ⟨hb.1,by show (h.Pages.set _ _).length<=_;rw[Wx];exact hb2⟩
theorem Xf2 (hN:NB N) {h:Wn} (hb:HB h) {pins:List UG} (hl:pins.length<=1000000) (a:Int):Ok (Qbf N h pins a) λ r=>HB r.1/\r.2.1.length<=1000000:=by
 have hN':=hN
 unfold NB at hN'
 have zero:HB zH/\([]:List UG).length<=1000000:=⟨ZE,by simp⟩
 rw[Qbf]
 refine WH (JG hN hb hl) λ b _ hm=>Wo (λ _=>Wg zero) λ hb1=>?_
 have hm:=hm (by simpa using hb1)
 refine Wo (λ _=>Wg zero) λ _=>WH (XbJ _ hl (by omega)) λ i _ hi=>Wo (λ _=>Wg zero) λ h0=>?_
 have h0:=WI h0
 obtain ⟨i0,i1,p,hpm,hpr⟩:0<=i/\i<pins.length/\∃ p∈pins,p.Ref=a:=by
  rcases hi with h | h
  ·omega
  ·exact h
 have hat:=hm.at_ p hpm
 rw[hpr] at hat
 have hc:=Xe0 (N:=N) hb hm.good.prop hat (-1)
 refine WS (by omega) (Ok.get i0 i1 λ _ _=>Ok.get i0 i1 λ _ _=>Ok.get i0 (by rw[Wx];exact i1) λ _ _=>?_)
 rw[Xc (n:=i+1) (by omega) (by omega)]
 refine Wo (λ _=>WS (by omega) (WS (by omega) (WS (by omega) (WH hc λ y _ hy=>Wg ⟨hy,?_⟩)))) λ _=>WH hc λ y _ hy=>Wg ⟨hy,?_⟩
 ·simp only[Wy,Wq,Wx,WN];omega
 ·show (pins.set _ _).length<=_;rw[Wx];exact hl
theorem XbK {h:Wn} (hb:HB h) (a:Int):∀ (n:Nat) (c k:Int),0<=k->k<=h.Pages.length->(h.Pages.length-k).toNat<n->Ok (QbN N h a n c k) λ _=>True
 | 0,c,k,_,_,hn=>by omega
 | n+1,c,k,h0,hk,hn=>by
  have:=hb.2
  rw[QbN]
  refine Wo (λ hc=>?_) λ _=>Wg trivial
  have hc:k<h.Pages.length:=Wr hc
  rw[Xc (n:=k+1) (by omega) (by omega)]
  have next:=λ c'=>XbK hb a n c' (k+1) (by omega) (by omega) (by omega)
  exact Ok.get h0 hc λ _ _=>Wo (λ _=>Ok.get h0 hc λ _ _=>Wo (λ _=>next _) λ _=>next _) λ _=>next _
theorem Jg (hN:NB N) {h:Wn} (hb:HB h) (a:Int):Ok (Qc4 N h a) λ _=>True:=by
 have hN':=hN
 unfold NB at hN'
 have hb2:=hb.2
 rw[Qc4]
 refine WH (Z7 hN hb) λ b _ hg=>Wo (λ _=>Wg trivial) λ hb1=>?_
 refine WH (XaC hN hb a) λ b _ ho=>Wo (λ _=>Wg trivial) λ hb1=>?_
 obtain ⟨hp,hat⟩:=ho (by simpa using hb1)
 obtain ⟨e,q0,q1⟩:=Xa0 (N:=N) hp hat
 refine WH (XbK hb a N 0 0 (by omega) (by omega) (by omega)) λ c _ _=>?_
 rw[e,Xa]
 exact Ok.get q0 q1 λ _ _=>Wo (λ _=>Wo (λ _=>Wg trivial) λ _=>Wg trivial) λ _=>Wg trivial
theorem Xh1 (hN:NB N) {h:Wn} (hb:HB h) {pins:List UG} (hl:pins.length<=1000000) (a:Int):Ok (Qc5 N h pins a) λ r=>HB r.1/\r.2.1.length<=1000000:=by
 have hN':=hN
 unfold NB at hN'
 have zero:HB zH/\([]:List UG).length<=1000000:=⟨ZE,by simp⟩
 rw[Qc5]
 refine WH (JG hN hb hl) λ b _ hm=>Wo (λ _=>Wg zero) λ hb1=>?_
 have hm:=hm (by simpa using hb1)
 refine Wo (λ _=>Wg zero) λ _=>WH (XaC hN hb a) λ b _ ho=>Wo (λ _=>Wg zero) λ hb1=>?_
 obtain ⟨hp,hat⟩:=ho (by simpa using hb1)
 have hc:=Xe0 (N:=N) hb hm.good.prop hat 1
 have h64:=hm.len
 refine WH (XbJ _ hl (by omega)) λ i _ hi=>?_
 have rest:Ok (α:=Wn×List UG×Int×Int) (grd (pins.length*16<=140737488355328) <|
  jn (λ (x11:List UG) =>
   bnd (Qb3 N h a 1) λ y12 =>
   some (y12,x11,(wU (a+1)),0)) λ j2 =>
  bif (decide (i>=0)) then (bnd (Xb pins i) λ p9 =>
   bnd (Xb pins i) λ p10 =>
   j2 (pins.set i.toNat (UG.mk p10.Ref (wI (p9.Count+1)))))
  else grd ((pins.length+1)*16<=140737488355328) <|
  j2 (pins++[(UG.mk a 1)])) λ r=>HB r.1/\r.2.1.length<=1000000:=by
  refine WS (by omega) (In (Wo (λ h0=>?_) λ _=>WS (by omega) (WH hc λ y _ hy=>Wg ⟨hy,?_⟩)))
  ·have h0:0<=i:=Wr h0
   have i1:i<pins.length:=by rcases hi with h | h;omega;exact h.2.1
   exact Ok.get h0 i1 λ _ _=>Ok.get h0 i1 λ _ _=>WH hc λ y _ hy=>Wg ⟨hy,by show (pins.set _ _).length<=_;rw[Wx];exact hl⟩
  ·show (pins++[_]).length<=_;rw[Wq];simp;omega
 refine In (Wo (λ h0=>?_) λ _=>Wo (λ _=>Wo (λ _=>Wg zero) λ _=>WH (Jg hN hb a) λ _ _ _=>Wo (λ _=>Wg zero) λ _=>rest) λ _=>WH (Jg hN hb a) λ _ _ _=>Wo (λ _=>Wg zero) λ _=>rest)
 have h0:0<=i:=Wr h0
 have i1:i<pins.length:=by rcases hi with h | h;omega;exact h.2.1
 exact Ok.get h0 i1 λ _ _=>Wo (λ _=>Wg zero) λ _=>Wo (λ _=>Wo (λ _=>Wg zero) λ _=>WH (Jg hN hb a) λ _ _ _=>Wo (λ _=>Wg zero) λ _=>rest) λ _=>WH (Jg hN hb a) λ _ _ _=>Wo (λ _=>Wg zero) λ _=>rest
end
end Go.Sx
namespace Go.Sx
section
variable {N:Nat}
theorem Xg5 (hN:NB N) (c:WQ) (d:Wz):Ok (Qb7 N c d) λ b=>b=true->Xx d=true/\d.Kind≠0/\XA c (XG d)≠-1:=by
 have hN':=hN
 unfold NB at hN'
 rw[Qb7,YS,Xa]
 refine Wo (λ hv=>Wo (λ hk=>?_) λ _=>Wg λ e=>by cases e) λ _=>Wg λ e=>by cases e
 rw[Yg,Xa,Zl (by omega),Xa]
 exact Wg λ e=>⟨hv,by simpa using hk,by simpa using e⟩
theorem Xe1 (hN:NB N) {h:Wn} (hb:HB h) (hp:UI h) (n:Int):Ok (Qdo N h n) λ r=>HB r.1:=by
 have hN':=hN
 unfold NB at hN'
 have hb2:=hb.2
 have setP:∀ (ps:List Wv) (i:Nat) (p:Wv) (s b:Int),ps.length<=100000->HB ⟨h.Conf,h.Words,ps.set i p,s,b⟩:=λ ps i p s b hl=>⟨hb.1,by show (ps.set i p).length<=_;rw[Wx];exact hl⟩
 rw[Qdo]
 refine WS (by omega) ?_
 rw[Xbw,Xa]
 refine WH (JB (by omega) (by omega)) λ u _ _=>?_
 have fresh:Ok (α:=Wn×Int×Bool) (bnd (Qbw N h.Pages 1) λ y5 =>
  bif (decide (y5<0)) then some ((Wn.mk (WQ.mk 0 0) [] [] 0 0),0,false)
  else bif (decide (u>=Y0 h.Conf)) then some ((Wn.mk (WQ.mk 0 0) [] [] 0 0),0,false)
  else bnd (Qbx N h.Pages y5 h.Space) λ y6 =>
  bnd (Xb y6.1 y5) λ p11 =>
  bnd (Xb y6.1 y5) λ p12 =>
  bnd (Xb y6.1 y5) λ p13 =>
  some ((Wn.mk h.Conf h.Words (y6.1.set y5.toNat (Wv.mk p13.Kind p13.Space (wI (p12.Used+n)) p13.Pins)) h.Space y5),(wU (wI ((wI (4096+(wI (y5*h.Conf.PageWords))))+p11.Used))),true)) λ r=>HB r.1:=by
  refine WH (Y1 1 (by omega) (by omega)) λ j _ hj=>Wo (λ _=>Wg ZE) λ hj0=>Wo (λ _=>Wg ZE) λ _=>?_
  have hr:RunOK h.Pages j 1:=by
   rcases hj with rfl | hj
   ·cases hj0
   ·exact hj
  have hsp:=hp.space
  refine WH (XeJ j h.Space (by omega) (by omega)) λ y _ hy=>?_
  obtain ⟨q0,q1,q2,q3⟩:=hy.1 (hy.2.2 hr (by omega) (by omega))
  have hjl:j<y.1.length:=by omega
  exact Ok.get q0 hjl λ _ _=>Ok.get q0 hjl λ _ _=>Ok.get q0 hjl λ _ _=>Wg (setP _ _ _ _ _ (by omega))
 refine In (Wo (λ _=>fresh) λ h0=>?_)
 have h0:=WI h0
 have hbu:=hp.bump
 have h1:h.Bump<h.Pages.length:=by rcases hbu with h | h;omega;exact h.2.1
 have h0:0<=h.Bump:=by omega
 exact Ok.get h0 h1 λ _ _=>Wo (λ _=>fresh) λ _=>Ok.get h0 h1 λ _ _=>Wo (λ _=>fresh) λ _=>Wo (λ _=>fresh) λ _=>Ok.get h0 h1 λ _ _=>Ok.get h0 h1 λ _ _=>Ok.get h0 h1 λ _ _=>Wg (setP _ _ _ _ _ hb2)
theorem Xe2 (hN:NB N) {h:Wn} (hb:HB h) (hp:UI h) (w k:Int):Ok (QdU N h w k) λ r=>HB r.1:=by
 have hN':=hN
 unfold NB at hN'
 have hb2:=hb.2
 rw[QdU]
 refine WH (Y1 k (by omega) (by omega)) λ j _ hj=>Wo (λ _=>Wg ZE) λ hj0=>WH (JB (by omega) (by omega)) λ u _ _=>?_
 rw[Xbw,Xa]
 refine Wo (λ _=>Wg ZE) λ _=>WH (XjN h.Conf j h.Space w (by omega) (by omega)) λ y _ hy=>Wg ⟨hb.1,?_⟩
 show y.1.length<=_
 by_cases he:y.2=0
 ·have:=(hy.1 he).2.2.2.1;omega
 ·rw[hy.2 he];simp
theorem XdA (hN:NB N) {h:Wn} (hb:HB h) (d:Wz):Ok (QbL N h d) λ r=>HB r.1:=by
 have hN':=hN
 unfold NB at hN'
 rw[QbL]
 refine WH (Yn (N:=N) (by omega) hb.1 hb.2) λ b _ hp=>Wo (λ _=>Wg ZE) λ hb1=>?_
 have hp:=hp (by simpa using hb1)
 refine WH (Xg5 hN _ _) λ b _ _=>Wo (λ _=>Wg ZE) λ _=>?_
 rw[Yg,Xa,Zl (by omega),Xa]
 refine WH (Xe1 hN hb hp _) λ y5 _ h5=>In (Wo (λ _=>WH (Xe2 hN hb hp _ _) λ y6 _ h6=>?_) λ _=>?_)
 ·exact Wo (λ _=>Wg ZE) λ _=>WH (XgQ hN (h:=y6.1) h6 _ d) λ y15 _ h15=>Wg h15
 ·exact Wo (λ _=>Wg ZE) λ _=>WH (XgQ hN (h:=y5.1) h5 _ d) λ y15 _ h15=>Wg h15
end
structure EB (x:W8):Prop where
 heap:HB x.Heap
 loc:LBp x.Locals
 glo:TB x.Globals
 wea:TB x.Weaks
 pins:x.Pins.length<=1000000
 roots:x.Roots.length<=100000
def zE:W8:=⟨zH,zL,zT,zT,[],[]⟩
theorem XbL:EB zE:=⟨ZE,Zj,XbG,XbG,by simp[zE],by simp[zE]⟩
section
variable {N:Nat} {x:W8}
theorem Zr {a:Ww} (h:LBp a):(bif YV a then Ym a.Slots else []).length<=4096:=by
 cases hv:YV a
 ·simp
 ·have hf:=ZW.1 hv
  have:=hf.slots
  have:=hf.iss
  have:=XcG a.Slots
  simp only[Wc];omega
theorem Yv (l:List Ua):(bif YL l then XZ l else []).length<=64:=by
 cases hv:YL l
 ·simp
 ·have:=VO hv
  have:=Xag l
  simp only[Wc];omega
structure EV (N:Nat) (x:W8):Prop where
 mat:Oy N x.Heap x.Pins
 loc:YV x.Locals=true
 glo:YL x.Globals.Entries=true
 wea:YL x.Weaks.Entries=true
theorem Kj (hN:NB N) (hx:EB x):Ok (Qch N x) λ b=>b=true->EV N x:=by
 have hN':=hN
 unfold NB at hN'
 have hr:=hx.roots
 rw[Qch]
 refine WH (JG hN hx.heap hx.pins) λ b _ hm=>Wo (λ _=>Wg λ e=>by cases e) λ hb1=>?_
 have hm:=hm (by simpa using hb1)
 rw[ZQ hx.loc (by omega),Xa]
 refine Wo (λ _=>Wg λ e=>by cases e) λ h1=>?_
 rw[Zy hx.glo (by omega),Xa]
 refine Wo (λ _=>Wg λ e=>by cases e) λ h2=>?_
 rw[Zy hx.wea (by omega),Xa]
 refine Wo (λ _=>Wg λ e=>by cases e) λ h3=>?_
 rw[Yy hx.glo (by omega),Xa]
 have l1:=Zr hx.loc
 have l2:=Yv x.Globals.Entries
 have l3:=Yv x.Weaks.Entries
 rw[Ze _ (by omega) (by omega),Xa]
 refine Wo (λ _=>Wg λ e=>by cases e) λ _=>WS (by omega) ?_
 rw[ZX hx.loc (by omega),Xa]
 refine WS (by omega) (WS (by omega) ?_)
 rw[Yy hx.wea (by omega),Xa]
 refine WS (by omega) (WH (KY hN hx.heap (by simp only[Wq];omega)) λ b _ _=>Wg λ _=>⟨hm,by simpa using h1,by simpa using h2,by simpa using h3⟩)
theorem XbM (hp:x.Pins.length<=1000000):∀ (n:Nat) (k:Int) (v:List Int),0<=k->k<=x.Pins.length->(x.Pins.length-k).toNat<n->v.length<=1000000+k->Ok (QaP N x n k v) λ r=>(r.length:Int)=v.length+(x.Pins.length-k)
 | 0,k,v,_,_,hn,_=>by omega
 | n+1,k,v,h0,hk,hn,hv=>by
  rw[QaP]
  refine Wo (λ hc=>?_) λ hc=>Wg (by have:=WI hc;omega)
  have hc:k<x.Pins.length:=Wr hc
  rw[Xc (n:=k+1) (by omega) (by omega)]
  refine Ok.get h0 hc λ p _=>WS (by omega) ?_
  refine (XbM hp n (k+1) _ (by omega) (by omega) (by omega) (by rw[Wq];simp;omega)).mono λ r hr=>?_
  rw[hr,Wq];simp;omega
theorem XbN (hN:NB N) (hx:EB x):Ok (Qci N x) λ r=>r.length=x.Roots.length+(bif YV x.Locals then Ym x.Locals.Slots else []).length+(bif YL x.Globals.Entries then XZ x.Globals.Entries else []).length+x.Pins.length:=by
 have hN':=hN
 unfold NB at hN'
 have hr:=hx.roots
 have hp:=hx.pins
 have l1:=Zr hx.loc
 have l2:=Yv x.Globals.Entries
 rw[Qci]
 refine WS (by omega) ?_
 rw[ZX hx.loc (by omega),Xa]
 refine WS (by omega) ?_
 rw[Yy hx.glo (by omega),Xa]
 refine WS (by omega) (WH (XbM hp N 0 _ (by omega) (by omega) (by omega) (by simp only[Wq];omega)) λ r _ hr=>Wg ?_)
 simp only[Wq] at hr
 omega
theorem Xg6 (y4:Wn×List Int×List Int×Us×Int) (y5 y6:List Int) (y7:Ww×Int) (y8 y9:WG×Int) (hp:x.Pins.length<=1000000) (hr:x.Roots.length<=100000) (h5:y5.length<=4096) (h6:y6.length<=64) (h4:y4.2.1.length=x.Roots.length+y5.length+y6.length+x.Pins.length):∀ (n:Nat) (k:Int) (v:List UG),0<=k->k<=x.Pins.length->(x.Pins.length-k).toNat<n->(v.length:Int)=k->Ok (QaI N x y4 y5 y6 y7 y8 y9 n k v) λ r=>r.length=x.Pins.length
 | 0,k,v,_,_,hn,_=>by omega
 | n+1,k,v,h0,hk,hn,hv=>by
  rw[QaI]
  refine Wo (λ hc=>?_) λ hc=>Wg (by have:=WI hc;omega)
  have hc:k<x.Pins.length:=Wr hc
  rw[Xc (n:=k+1) (by omega) (by omega),Xc (n:=((x.Roots.length:Nat):Int)+((y5.length:Nat):Int)) (by omega) (by omega),Xc (n:=((x.Roots.length:Nat):Int)+((y5.length:Nat):Int)+((y6.length:Nat):Int)) (by omega) (by omega),Xc (n:=((x.Roots.length:Nat):Int)+((y5.length:Nat):Int)+((y6.length:Nat):Int)+k) (by omega) (by omega)]
  refine Ok.get (by omega) (by omega) λ _ _=>Ok.get h0 hc λ p _=>WS (by omega) ?_
  exact Xg6 y4 y5 y6 y7 y8 y9 hp hr h5 h6 h4 n (k+1) _ (by omega) (by omega) (by omega) (by rw[Wq];simp;omega)
theorem JH (hN:NB N) (hx:EB x):Ok (Qa0 N x) λ r=>EB r.1:=by
 have hN':=hN
 unfold NB at hN'
 have hr:=hx.roots
 have hp:=hx.pins
 rw[Qa0]
 refine WH (Kj hN hx) λ b _ hv=>Wo (λ _=>Wg XbL) λ hb1=>?_
 have hv:=hv (by simpa using hb1)
 have h64:=hv.mat.len
 have l1:=Zr hx.loc
 have l2:=Yv x.Globals.Entries
 have l3:=Yv x.Weaks.Entries
 refine WH (XbN hN hx) λ y2 _ h2=>?_
 rw[hv.loc,hv.glo] at h2
 rw[hv.loc] at l1
 rw[hv.glo] at l2
 rw[Yy hx.wea (by omega),Xa]
 rw[hv.wea] at l3 ⊢
 simp only[Wc] at h2 l1 l2 l3 ⊢
 refine WH (Xf0 hN hx.heap (by omega) (by omega)) λ y4 _ h4=>Wo (λ _=>Wg XbL) λ he=>?_
 obtain ⟨g1,g2⟩:=h4.len (by simpa using he)
 rw[ZX hx.loc (by omega),Xa,Yy hx.glo (by omega),Xa,hv.loc,hv.glo]
 simp only[Wc]
 have e1:=Xc (n:=((x.Roots.length:Nat):Int)+(((Ym x.Locals.Slots).length:Nat):Int)) (by omega) (by omega)
 have e2:=Xc (n:=((x.Roots.length:Nat):Int)+(((Ym x.Locals.Slots).length:Nat):Int)+(((XZ x.Globals.Entries).length:Nat):Int)) (by omega) (by omega)
 refine WS (by omega) (WS (by omega) (WS (by omega) (WS (by rw[e1];omega) ?_)))
 refine WH (Xj3 hx.loc (by omega) (by rw[Wy,WN];omega)) λ y7 _ h7=>WS (by rw[e1,e2];omega) ?_
 refine WH (XeW hx.glo (by omega) (by rw[Wy,WN];omega)) λ y8 _ h8=>?_
 refine WH (XeW hx.wea (by omega) (by omega)) λ y9 _ h9=>?_
 refine WH (Xg6 y4 (Ym x.Locals.Slots) (XZ x.Globals.Entries) y7 y8 y9 hp hr l1 l2 (by omega) N 0 [] (by omega) (by omega) (by omega) rfl) λ y14 _ h14=>Wg ⟨h4.hb,h7,h8,h9,?_,?_⟩
 ·show y14.length<=_;omega
 ·show (y4.2.1.take _).length<=_
  rw[Wy];omega
theorem XcK (hN:NB N) (hx:EB x) (d:Wz):Ok (Qb1 N x d) λ r=>EB r.1:=by
 rw[Qb1]
 refine WH (Kj hN hx) λ b _ hv=>Wo (λ _=>Wg XbL) λ hb1=>?_
 refine WH (XdA hN hx.heap d) λ y2 _ h2=>In (Wo (λ _=>WH (JH hN hx) λ y3 _ h3=>Wo (λ _=>Wg XbL) λ _=>WH (XdA hN h3.heap d) λ y4 _ h4=>?_) λ _=>?_)
 ·exact Wo (λ _=>Wg XbL) λ _=>Wg ⟨h4,h3.loc,h3.glo,h3.wea,h3.pins,h3.roots⟩
 ·exact Wo (λ _=>Wg XbL) λ _=>Wg ⟨h2,hx.loc,hx.glo,hx.wea,hx.pins,hx.roots⟩
theorem Y2 (hN:NB N) (hx:EB x) (v:Int):Ok (Qa2 N x v) λ r=>True:=by
 have hN':=hN
 unfold NB at hN'
 rw[Qa2]
 refine WH (Kj hN hx) λ b _ hv=>Wo (λ _=>Wg trivial) λ hb1=>Wo (λ _=>Wg trivial) λ _=>?_
 refine WH (Xai v) λ y _ _=>Wo (λ _=>Wg trivial) λ _=>Wo (λ _=>?_) λ _=>Wo (λ _=>?_) λ _=>?_
 ·rw[Xdy hx.loc (by omega),Xa];exact Wg trivial
 ·rw[VP hx.glo (by omega),Xa];exact Wg trivial
 ·rw[VP hx.wea (by omega),Xa];exact Wg trivial
end
end Go.Sx
namespace Go.Sx
theorem I7 {β κ:Type} {P:β->Prop} {k:κ->Option β} {f:(κ->Option β)->Option β} (h:∀ x,Ok (k x) P) (g:∀ j:κ->Option β,(∀ x,Ok (j x) P)->Ok (f j) P):Ok (Sx.jn k f) P:=by rw[XV];exact g k h
theorem W9 {β:Type} {P:β->Prop} {b:Bool} {x y:Option β} (h1:Ok x P) (h2:Ok y P):Ok (bif b then x else y) P:=by cases b;exact h2;exact h1
theorem Uc {α β:Type} {P:β->Prop} {o:Option α} {Q:α->Prop} {f:α->Option β} (h:Ok o Q) (k:∀ y,Q y->Ok (f y) P):Ok (Sx.bnd o f) P:=WH h λ y _ hq=>k y hq
theorem Ok.t {α:Type} {o:Option α} {P:α->Prop} (h:Ok o P):Ok o λ _=>True:=h.mono λ _ _=>trivial
section
variable {N:Nat} {x:W8}
abbrev EP (r:W8×Int×Int):Prop:=EB r.1
theorem Xh2 (e:Int):Ok (Qac N e) EP:=by rw[Qac];exact Wg XbL
theorem Xt (e:Int):Ok (bnd (Qac N e) λ y=>some (y.1,y.2.1,y.2.2)) EP:=Uc (Xh2 e) λ y hy=>Wg hy
theorem Xj4 (a b c:Int):Ok (Qb0 N a b c) λ _=>True:=by
 rw[Qb0]
 exact W9 (W9 (Wg trivial) (Wg trivial)) (Wg trivial)
theorem JX (hN:NB N) (hx:EB x) (a:Int):Ok (Qb2 N x a) EP:=by
 have hN':=hN
 unfold NB at hN'
 rw[Qb2]
 refine W9 (Wg hx) ?_
 rw[VQ hx.loc (by omega),Xa]
 exact W9 (Xt _) (Uc (Y9 _) λ y _=>Wg ⟨hx.heap,XgZ hx.loc a,hx.glo,hx.wea,hx.pins,hx.roots⟩)
theorem Xf3 (hN:NB N) (hx:EB x) (a b c:Int):Ok (QcQ N x a b c) EP:=by
 have hN':=hN
 unfold NB at hN'
 rw[QcQ]
 refine W9 (Xt _) (Uc (Xj4 _ _ _) λ y _=>In (W9 (Xt _) (Uc (Xg5 hN _ _) λ z _=>W9 (Xt _) ?_)))
 rw[VQ hx.loc (by omega),Xa]
 exact W9 (Xt _) (Uc (XcK hN hx _) λ y7 h7=>W9 (Xt _) (Uc (JX hN h7 _) λ y9 h9=>Wg h9))
theorem JY (hN:NB N) (hx:EB x) (a:Int):Ok (QcJ N x a) λ _=>True:=by
 rw[QcJ]
 exact Uc (Y2 hN hx a) λ y _=>W9 (W9 (Wg trivial) (Wg trivial)) (Wg trivial)
theorem XcL (hN:NB N) (hx:EB x) (a b:Int) (c:Bool):Ok (QcK N x a b c) λ _=>True:=by
 rw[QcK]
 refine Uc (JY hN hx a) λ y _=>W9 (Wg trivial) (Uc (Vn hN hx.heap _) λ z _=>W9 (Wg trivial) ?_)
 rw[JV,Xa]
 exact W9 (Wg trivial) (Wg trivial)
theorem Xh3 (hN:NB N) (hx:EB x) (a b c d:Int):Ok (Qdq N x a b c d) EP:=by
 rw[Qdq]
 have sf:∀ i j v:Int,Ok (α:=W8×Int×Int) (bnd (Qbj N x.Heap i j v) λ y12=>some ((W8.mk y12.1 x.Locals x.Globals x.Weaks x.Pins x.Roots),0,0)) EP:=λ i j v =>
  Uc (XeL hN hx.heap i j v) λ y hy=>Wg ⟨hy,hx.loc,hx.glo,hx.wea,hx.pins,hx.roots⟩
 refine In (W9 (Uc (XcL hN hx _ _ _) λ y _=>?_) (Uc (XcL hN hx _ _ _) λ y _=>?_))<;>
 exact W9 (Xt _) (Uc (Xby hN hx.heap _ _) λ z _=>W9 (Wg hx) (W9 (Uc (JX hN hx _) λ y8 h8=>Wg h8) (In (W9 (Uc (Y2 hN hx _) λ y9 _=>W9 (Xt _) (sf _ _ _)) (sf _ _ _)))))
theorem Xh4 (hN:NB N) (hx:EB x) (a b c:Int):Ok (Qdr N x a b c) EP:=by
 rw[Qdr]
 refine I7 (λ b1=>W9 (Uc (JY hN hx _) λ y _=>W9 (Xt _) (Uc (Vn hN hx.heap _) λ z _=>W9 (Wg hx) (Wg hx))) (W9 (Uc (Y2 hN hx _) λ y _=>W9 (Xt _) (Uc (Y2 hN hx _) λ z _=>W9 (Xt _) (W9 (Wg hx) (Wg hx)))) (Uc (Y2 hN hx _) λ y _=>W9 (Xt _) (Uc (JX hN hx _) λ z hz=>Wg hz)))) λ j hj=>W9 (hj _) (hj _)
theorem Xe3 (hN:NB N) (hx:EB x) (a b:Int):Ok (Qcw N x a b) EP:=by
 have hN':=hN
 unfold NB at hN'
 rw[Qcw]
 refine Uc (JY hN hx _) λ y _=>W9 (Xt _) (In (W9 ?_ ?_))
 ·show Ok (bnd (Qce N ⟨x.Weaks.Entries⟩ y.1) _) EP;rw[KC (t:=⟨x.Weaks.Entries⟩) hx.wea (by omega),Xa]
  have h:=Xg3 (t:=⟨x.Weaks.Entries⟩) hx.wea y.1
  exact W9 (Xt _) (In (W9 (Uc (Y9 _) λ z _=>Wg ⟨hx.heap,hx.loc,hx.glo,h,hx.pins,hx.roots⟩) (Uc (Y9 _) λ z _=>Wg ⟨hx.heap,hx.loc,h,hx.wea,hx.pins,hx.roots⟩)))
 ·show Ok (bnd (Qce N ⟨x.Globals.Entries⟩ y.1) _) EP;rw[KC (t:=⟨x.Globals.Entries⟩) hx.glo (by omega),Xa]
  have h:=Xg3 (t:=⟨x.Globals.Entries⟩) hx.glo y.1
  exact W9 (Xt _) (In (W9 (Uc (Y9 _) λ z _=>Wg ⟨hx.heap,hx.loc,hx.glo,h,hx.pins,hx.roots⟩) (Uc (Y9 _) λ z _=>Wg ⟨hx.heap,hx.loc,h,hx.wea,hx.pins,hx.roots⟩)))
theorem Xf4 (hN:NB N) (hx:EB x) (a b:Int):Ok (QcR N x a b) EP:=by
 have hN':=hN
 unfold NB at hN'
 rw[QcR]
 refine W9 (Xt _) (Uc (Y2 hN hx _) λ y _=>W9 (Xt _) (Uc (Xai _) λ z _=>I7 (λ _=>W9 ?_ (W9 ?_ ?_)) λ j2 h2=>I7 (λ _=>Xt _) λ j1 h1=>?_))
 ·rw[Xdz hx.loc (by omega),Xa];exact Wg ⟨hx.heap,Xg0 hx.loc _ _,hx.glo,hx.wea,hx.pins,hx.roots⟩
 ·rw[JW hx.glo (by omega),Xa];exact Wg ⟨hx.heap,hx.loc,Xg4 hx.glo _ _,hx.wea,hx.pins,hx.roots⟩
 ·rw[JW hx.wea (by omega),Xa];exact Wg ⟨hx.heap,hx.loc,hx.glo,Xg4 hx.wea _ _,hx.pins,hx.roots⟩
 ·repeat' first
   | exact h1 _
   | exact h2 _
   | refine W9 ?_ ?_
theorem Xf5 (hN:NB N) (hx:EB x) (a b:Int):Ok (QcS N x a b) EP:=by
 have hN':=hN
 unfold NB at hN'
 rw[QcS]
 refine W9 (W9 (Xt _) ?_) (Uc (Y2 hN hx _) λ y _=>W9 (Xt _) ?_)
 ·rw[VR hx.loc (by omega),Xa]
  exact W9 (Xt _) (Wg ⟨hx.heap,XeV hx.loc _,hx.glo,hx.wea,hx.pins,hx.roots⟩)
 ·rw[XaY hx.loc (by omega),Xa]
  exact W9 (Xt _) (Uc (JX hN (x:=⟨x.Heap,(Zz x.Locals).1,x.Globals,x.Weaks,x.Pins,x.Roots⟩) ⟨hx.heap,XaZ hx.loc,hx.glo,hx.wea,hx.pins,hx.roots⟩ _) λ z hz=>Wg hz)
theorem Xj5 (hN:NB N) (hx:EB x) (a b:Int):Ok (QdM N x a b) EP:=by
 rw[QdM]
 refine Uc (JY hN hx _) λ y _=>W9 (Xt _) (W9 (Uc (Xf2 hN hx.heap hx.pins _) λ z hz=>W9 (Xt _) (Wg ⟨hz.1,hx.loc,hx.glo,hx.wea,hz.2,hx.roots⟩)) (Uc (Xh1 hN hx.heap hx.pins _) λ z hz=>W9 (Xt _) (Wg ⟨hz.1,hx.loc,hx.glo,hx.wea,hz.2,hx.roots⟩)))
theorem Xj6 (hN:NB N) (hx:EB x) (op a b c:Int):Ok (QdN N x op a b c) EP:=by
 rw[QdN]
 have thr:∀ {o:Option (W8×Int×Int)},Ok o EP->Ok (bnd o λ y=>some (y.1,y.2.1,y.2.2)) EP:=λ h=>Uc h λ y hy=>Wg hy
 refine Uc (Kj hN hx) λ b1 _=>W9 (Xt _) ?_
 refine I7 (λ x1=>W9 (thr (Xf3 hN hx _ _ _)) ?_) λ j2 h2=>?_
 ·refine I7 (λ x1=>W9 (thr (Xh3 hN hx _ _ _ _)) ?_) λ j h=>?_
  ·refine I7 (λ x1=>W9 (thr (Xh4 hN hx _ _ _)) ?_) λ j h=>?_
   ·refine I7 (λ x1=>W9 (thr (Xe3 hN hx _ _)) ?_) λ j h=>?_
    ·refine I7 (λ x1=>W9 (thr (Xf4 hN hx _ _)) ?_) λ j h=>?_
     ·refine I7 (λ x1=>W9 (thr (Xf5 hN hx _ _)) ?_) λ j h=>?_
      ·refine I7 (λ x1=>W9 (thr (Xj5 hN hx _ _)) (Xt _)) λ j h=>W9 (h _) (h _)
      ·exact W9 (h _) (h _)
     ·exact W9 (h _) (I7 (λ x1=>h _) λ j h=>W9 (h _) (h _))
    ·exact W9 (h _) (h _)
   ·exact W9 (h _) (I7 (λ x1=>h _) λ j h=>W9 (h _) (I7 (λ x1=>h _) λ j h=>W9 (h _) (h _)))
  ·exact W9 (h _) (I7 (λ x1=>h _) λ j h=>W9 (h _) (I7 (λ x1=>h _) λ j h=>W9 (h _) (h _)))
 ·exact W9 (h2 _) (I7 (λ x1=>h2 _) λ j h=>W9 (h _) (h _))
end
end Go.Sx
namespace Go.Sx
structure WB (k:Nat) (w:WM):Prop where
 kk:k<=900
 things:w.Things.length<=k
 fields:∀ x∈w.Things,x.Fields.length<=1000
 loc:LBp w.Locals
 gloK:w.Globals.Entries.length<=1000+k
 weaK:w.Weaks.Entries.length<=1000+k
 marksK:w.Marks.length<=100+k
 rootsK:w.Roots.length<=100+k
theorem WB.glo {k:Nat} {w:WM} (h:WB k w):TB w.Globals:=by have:=h.kk;have:=h.gloK;unfold TB;omega
theorem WB.wea {k:Nat} {w:WM} (h:WB k w):TB w.Weaks:=by have:=h.kk;have:=h.weaK;unfold TB;omega
theorem WB.marks {k:Nat} {w:WM} (h:WB k w):w.Marks.length<=1000:=by have:=h.kk;have:=h.marksK;omega
theorem WB.roots {k:Nat} {w:WM} (h:WB k w):w.Roots.length<=1000:=by have:=h.kk;have:=h.rootsK;omega
def Jl (d:Wz):Nat->List Int->List Int
 | _,[]=>[]
 | k,f::fs=>if Kw d k then f::Jl d (k+1) fs else Jl d (k+1) fs
def XbO (x:Ii):List Int:=Jl x.Header 0 x.Fields
theorem Xaj (d:Wz):∀ (k:Nat) (l:List Int),(Jl d k l).length<=l.length
 | k,[]=>by simp[Jl]
 | k,f::fs=>by
  have:=Xaj d (k+1) fs
  unfold Jl
  split<;>simp<;>omega
def Za (n:Nat) (l:List Int):Bool:=l.all λ p=>!decide (p>(n:Int))
def YF (l:List Ix) (id:Int):Int:=match l.findIdx? (λ m=>m.Id==id) with | some k=>(k:Int) | none=>-1
def XbP (n:Nat) (x:Ii):Bool:=Xx x.Header&&(!(x.Header.Kind==0)&&(!(((x.Fields.length:Nat):Int) != x.Header.Length)&&Za n (XbO x)))
def Xg7 (n:Nat) (l:List Ix) (_:Unit) (i:Nat) (m:Ix):Bool:=!decide (m.Id<1)&&(!decide (m.Id>(n:Int))&&(!(YF l m.Id != (i:Int))&&(!decide (m.Count<1)&&!decide (m.Count>1000))))
def XdB (n:Nat) (l:List Ix):Bool:=Y8 (Xg7 n l) (λ s _=>s) () 0 l
def Yt (w:WM):Bool:=XY w.Conf&&(YV w.Locals&&(YL w.Globals.Entries&&(YL w.Weaks.Entries&&(!decide (((w.Marks.length:Nat):Int)>64)&&(w.Things.all (XbP w.Things.length)&&(((XZ w.Globals.Entries).all λ p=>!(p==0))&&(XdB w.Things.length w.Marks&&(Za w.Things.length w.Roots&&(Za w.Things.length (Ym w.Locals.Slots)&&(Za w.Things.length (XZ w.Globals.Entries)&&Za w.Things.length (XZ w.Weaks.Entries)))))))))))
section
variable {N:Nat} {w:WM}
theorem K0 (ht:w.Things.length<=1000) {l:List Int} (hl:l.length<=1000000) (hN:1000000<N):QcP N w l=some (Za w.Things.length l):=by
 have h:=Kz (l:=l) (F:=QcO N w l) (q:=λ _ p=>!decide (p>(w.Things.length:Int))) (λ n k p e=>by
  have hk:=Xy e
  rw[QcO,XE hk,Wc,Xd,e,Xa,Xh (by omega),Xw (by omega) (by omega)]
  cases decide (p>(w.Things.length:Int))<;>rfl) (λ n=>by rw[QcO,Xu,Wa]) (n:=N) (by omega)
 rw[Zq] at h
 rw[QcP,h,Xa,Za]
 cases l.all λ p=>!decide (p>(w.Things.length:Int))
 ·rw[Wa,XC]
 ·rw[Wc,Xo]
theorem XbQ {x:Ii} (hl:x.Fields.length<=1000000):∀ (n k:Nat) (v:List Int),k<=x.Fields.length->x.Fields.length-k<n->v.length<=k->QdA N x n (k:Int) v=some (v++Jl x.Header k (x.Fields.drop k))
 | 0,k,v,_,hn,_=>by omega
 | n+1,k,v,hk,hn,hlv=>by
  rw[QdA]
  by_cases h:k<x.Fields.length
  ·rw[XE h,Wc,JV,Xa,Xh (by omega),Wu h,Jl]
   cases hp:Kw x.Header (k:Int)
   ·rw[Wa,Wk (by simp),XbQ hl n (k+1) v (by omega) (by omega) (by omega)]
   ·rw[Wc,Wm rfl,Xd,Wd h,Xa,Xe (by omega),XbQ hl n (k+1) _ (by omega) (by omega) (by rw[Wq];simp;omega)]
    simp
  ·obtain rfl:k=x.Fields.length:=by omega
   rw[Xu,Wa,WL (Uf _)]
   simp[Jl]
theorem Xe4 {x:Ii} (hl:x.Fields.length<=1000000) (hN:1000000<N):QfJ N x=some (XbO x):=by
 have h:=XbQ (N:=N) (x:=x) hl N 0 [] (by omega) (by omega) (by simp)
 rw[show ((0:Nat):Int)=0 from rfl,WT,Uw] at h
 rw[QfJ,h,Xa];rfl
theorem Xg8 (id:Int) (hl:w.Marks.length<=1000000):∀ (n k:Nat),k<=w.Marks.length->w.Marks.length-k<n->Qeb N w id n (k:Int)=some (match (w.Marks.drop k).findIdx? (λ m=>m.Id==id) with | some j=>.ret ((k+j:Nat):Int) | none=>.nxt ())
 | 0,k,_,hn=>by omega
 | n+1,k,hk,hn=>by
  rw[Qeb]
  by_cases h:k<w.Marks.length
  ·rw[XE h,Wc,Xd,Wd h,Xa,Xh (by omega),Wu h,List.findIdx?_cons]
   cases hm:(w.Marks[k].Id==id)
   ·rw[Wa,Xg8 id hl n (k+1) (by omega) (by omega),Wk (by simp)]
    cases (w.Marks.drop (k+1)).findIdx? (λ m=>m.Id==id) with
    | none=>rfl
    | some j=>simp only[Iw];rw[show k+1+j=k+(j+1) by omega]
   ·rw[Wc,Wm rfl];simp
  ·obtain rfl:k=w.Marks.length:=by omega
   rw[Xu,Wa,WL (Uf _)]
   rfl
theorem XdC (hl:w.Marks.length<=1000000) (hN:1000000<N) (id:Int):QeU N w id=some (YF w.Marks id):=by
 have h:=Xg8 (N:=N) id hl N 0 (by omega) (by omega)
 rw[show ((0:Nat):Int)=0 from rfl,WT] at h
 rw[QeU,h,Xa,YF]
 cases w.Marks.findIdx? (λ m=>m.Id==id) with
 | none=>simp only[Xo]
 | some j=>simp only[XC,Ux]
theorem Xe5 {a:Ww} (h:YV a=true):(Ym a.Slots).length<=4096:=by
 have hf:=ZW.1 h
 have:=hf.slots
 have:=hf.iss
 have:=XcG a.Slots
 omega
theorem VS {l:List Ua} (h:YL l=true):(XZ l).length<=64:=by
 have:=VO h
 have:=Xag l
 omega
theorem Xa1 {k:Nat} (hw:WB k w) (hN:1000000<N):QdR N w=some (Yt w):=by
 have hk:=hw.kk
 have ht:=hw.things
 have hm:=hw.marks
 have hr:=hw.roots
 rw[QdR,Yr,Xa,Yt]
 cases XY w.Conf
 ·rfl
 rw[Ws,Wa,ZQ hw.loc hN,Xa,WR]
 cases hv1:YV w.Locals
 ·rfl
 rw[Ws,Wa,Zy hw.glo hN,Xa,WR]
 cases hv2:YL w.Globals.Entries
 ·rfl
 rw[Ws,Wa,Zy hw.wea hN,Xa,WR]
 cases hv3:YL w.Weaks.Entries
 ·rfl
 rw[Ws,Wa,WR]
 cases decide (((w.Marks.length:Nat):Int)>64)
 rotate_left
 ·rfl
 rw[Wa,W0,WR]
 have h1:=Kz (l:=w.Things) (F:=Qde N w) (q:=λ _=>XbP w.Things.length) (λ n k p e=>by
  have hk:=Xy e
  have hpf:=hw.fields p (Uh e)
  have hrl:=Xaj p.Header 0 p.Fields
  rw[Qde,XE hk,Wc,Xd,e,Xa,YS,Xa,Xe4 (by omega) hN,Xa,K0 (by omega) (by unfold XbO;omega) hN,Xa,Xh (by omega)]
  unfold XbP
  cases Xx p.Header<;>cases (p.Header.Kind==0)<;>cases (((p.Fields.length:Nat):Int) != p.Header.Length)<;>cases Za w.Things.length (XbO p)<;>rfl) (λ n=>by rw[Qde,Xu,Wa]) (n:=N) (by omega)
 rw[Zq] at h1
 rw[h1,Xa]
 cases w.Things.all (XbP w.Things.length)
 ·rw[Wa,XC];rfl
 rw[Wc,Xo,Yy hw.glo hN,Xa,hv2,Wc,WR]
 have g64:=VS hv2
 have h2:=Kz (l:=XZ w.Globals.Entries) (F:=Qdf N w (XZ w.Globals.Entries)) (q:=λ _ p=>!(p==0)) (λ n k p e=>by
  have hk:=Xy e
  rw[Qdf,Xe (by omega),XE hk,Wc,Xd,e,Xa,Xh (by omega)]
  cases (p==0)<;>rfl) (λ n=>by rw[Qdf,Xe (by omega),Xu,Wa]) (n:=N) (by omega)
 rw[Zq] at h2
 rw[h2,Xa]
 cases (XZ w.Globals.Entries).all λ p=>!(p==0)
 ·rw[Wa,XC];rfl
 rw[Wc,Xo,WR]
 have h3:=Kz (l:=w.Marks) (F:=Qdg N w (XZ w.Globals.Entries)) (q:=Xg7 w.Things.length w.Marks ()) (λ n k p e=>by
  have hk:=Xy e
  rw[Qdg,XE hk,Wc,Xd,e,Xa,XdC (by omega) hN,Xa,Xh (by omega),Xw (by omega) (by omega)]
  unfold Xg7
  cases decide (p.Id<1)<;>cases decide (p.Id>(w.Things.length:Int))<;>cases (YF w.Marks p.Id != (k:Int))<;>cases decide (p.Count<1)<;>cases decide (p.Count>1000)<;>rfl) (λ n=>by rw[Qdg,Xu,Wa]) (n:=N) (by omega)
 rw[h3,Xa]
 show exK (bif XdB w.Things.length w.Marks then Ex.nxt () else Ex.ret false) _ _=_
 cases XdB w.Things.length w.Marks
 ·rw[Wa,XC];rfl
 rw[Wc,Xo,K0 (by omega) (by omega) hN,Xa,WR]
 cases Za w.Things.length w.Roots
 ·rfl
 have s1:=Xe5 hv1
 rw[Wc,ZX hw.loc hN,Xa,hv1,Wc,K0 (by omega) (by omega) hN,Xa,WR]
 cases Za w.Things.length (Ym w.Locals.Slots)
 ·rfl
 rw[Wc,K0 (by omega) (by omega) hN,Xa,WR]
 cases Za w.Things.length (XZ w.Globals.Entries)
 ·rfl
 have s3:=VS hv3
 rw[Wc,Yy hw.wea hN,Xa,hv3,Wc,K0 (by omega) (by omega) hN,Xa,WR]
end
end Go.Sx
namespace Go.Sx
def Kx (v:Int):Iy×Int :=
 if v=0 then (⟨0,0,0⟩,5) else if 1<=v % 4/\1<=v / 262144/\v / 262144<=4294967295 then (⟨v % 4,v / 4 % 65536,v / 262144⟩,0) else (⟨0,0,0⟩,6)
theorem Xj7 {N:Nat} {v:Int} (hv:tU v):QbM N v=some (Kx v):=by
 obtain ⟨h0,h1⟩:=hv
 rw[QbM,Kx]
 by_cases hz:v=0
 ·subst hz;rfl
 rw[show (v==0)=false by simpa using hz,Wa,Wk hz]
 have a1:YA .u64 v 3=v % 4:=Y5 v 2 (by omega) h0 h1
 have a2:X9 .u64 v 2=v / 4:=Zi v 2 (by omega) h0
 have a3:YA .u64 (v / 4) 65535=v / 4 % 65536:=Y5 (v / 4) 16 (by omega) (by omega) (by omega)
 have a4:X9 .u64 v 18=v / 262144:=Zi v 18 (by omega) h0
 rw[a2,a1,a3,a4,Xc (n:=v % 4) (by omega) (by omega),Xc (n:=v / 4 % 65536) (by omega) (by omega),Xc (n:=v / 262144) (by omega) (by omega),Qbr,Qf3]
 have s1:∀ x:Int,ZF .u64 x 2=wU (x*4):=λ _=>rfl
 have s2:∀ x:Int,ZF .u64 x 18=wU (x*262144):=λ _=>rfl
 rw[Wh (show v / 4 % 65536>=0 by omega),Wh (show v / 4 % 65536<=65535 by omega),Wh (show v % 4<=3 by omega)]
 simp only[Wc]
 by_cases g1:v % 4>=1
 ·rw[Wh g1,Wc]
  by_cases g2:v / 262144>=1
  ·rw[Wh g2,Wc,Xa]
   by_cases g3:v / 262144<=4294967295
   ·rw[Wh g3,Ws,Wa,Xa,Wm ⟨g1,g2,g3⟩]
    have e:wU (wU (wU (v % 4)+ZF .u64 (wU (v / 4 % 65536)) 2)+ZF .u64 (wU (v / 262144)) 18)=v:=by
     rw[s1,s2,Xw (n:=v % 4) (by omega) (by omega),Xw (n:=v / 4 % 65536) (by omega) (by omega),Xw (n:=v / 262144) (by omega) (by omega),Xw (n:=v / 4 % 65536*4) (by omega) (by omega),Xw (n:=v / 262144*262144) (by omega) (by omega),Xw (n:=v % 4+v / 4 % 65536*4) (by omega) (by omega),Xw (by omega) (by omega)]
     omega
    simp only[e]
    rw[show ((0:Int) != 0)=false from rfl,Wa,show (v != v)=false by simp,Wa]
   ·rw[Wj g3,W0,Wc,Xa,Wk (λ h=>g3 h.2.2)];rfl
  ·rw[Wj g2,Wa,Xa,W0,Wc,Xa,Wk (λ h=>g2 h.2.1)];rfl
 ·rw[Wj g1,Wa,Xa,W0,Wc,Xa,Wk (λ h=>g1 h.1)];rfl
def Y3 (w:WM) (v:Int):Int×Int :=
 if v=0 then (0,0) else if (Kx v).2≠0 then (0,(Kx v).2) else
 if (Kx v).1.Tag=1 then Zo w.Locals (Kx v).1.Index (Kx v).1.Stamp else
 if (Kx v).1.Tag=2 then Zf w.Globals.Entries (Kx v).1.Index (Kx v).1.Stamp else Zf w.Weaks.Entries (Kx v).1.Index (Kx v).1.Stamp
def XD (w:WM) (a:Int):Int×Int:=if (Y3 w a).2=0/\(Y3 w a).1=0 then (0,5) else Y3 w a
structure WF (w:WM):Prop where
 conf:XY w.Conf=true
 loc:YV w.Locals=true
 glo:YL w.Globals.Entries=true
 wea:YL w.Weaks.Entries=true
 m64:w.Marks.length<=64
 thing:∀ x∈w.Things,Xx x.Header=true/\x.Header.Kind≠0/\(x.Fields.length:Int)=x.Header.Length/\∀ r∈XbO x,r<=w.Things.length
 mark:XdB w.Things.length w.Marks=true
 roots:∀ r∈w.Roots,r<=w.Things.length
 rloc:∀ r∈Ym w.Locals.Slots,r<=w.Things.length
 rglo:∀ r∈XZ w.Globals.Entries,r<=w.Things.length
 rwea:∀ r∈XZ w.Weaks.Entries,r<=w.Things.length
theorem Kr {n:Nat} {l:List Int}:Za n l=true↔∀ r∈l,r<=n:=by
 unfold Za
 simp only[Ue,Uv,Ud]
 exact ⟨λ h r hr=>by have:=h r hr;omega,λ h r hr=>by have:=h r hr;omega⟩
theorem Kk {w:WM} (h:Yt w=true):WF w:=by
 unfold Yt at h
 simp only[WE,Uv,Ud] at h
 obtain ⟨h1,h2,h3,h4,h5,h6,h7,h8,h9,h10,h11,h12⟩:=h
 refine ⟨h1,h2,h3,h4,by omega,λ x hx=>?_,h8,Kr.1 h9,Kr.1 h10,Kr.1 h11,Kr.1 h12⟩
 have:=(Ue.1 h6) x hx
 unfold XbP at this
 simp only[WE,Uv,bne_eq_false_iff_eq,IF] at this
 exact ⟨this.1,this.2.1,this.2.2.1,Kr.1 this.2.2.2⟩
theorem WF.mk_ {w:WM} (h:WF w) {k:Nat} {m:Ix} (hm:w.Marks[k]? = some m):1<=m.Id/\m.Id<=w.Things.length/\1<=m.Count/\m.Count<=1000:=by
 have:=(KA w.Marks () 0).1 h.mark k m hm
 unfold Xg7 at this
 simp only[WE,Uv,Ud] at this
 obtain ⟨h1,h2,_,h3,h4⟩:=this
 omega
theorem Xh5 {l:List UX} {p:UX} (hp:p∈l) (hL:p.Live=true):p.Ref∈Ym l:=by
 unfold Ym;exact UY.2 ⟨p,UV.2 ⟨hp,hL⟩,rfl⟩
theorem Xh6 {l:List Ua} {p:Ua} (hp:p∈l) (hL:p.Live=true):p.Ref∈XZ l:=by
 unfold XZ;exact UY.2 ⟨p,UV.2 ⟨hp,hL⟩,rfl⟩
theorem Xf6 (a:Ww) (i g:Int):(Zo a i g).2=0\/(Zo a i g).1=0:=by
 unfold Zo
 split
 ·exact .inr rfl
 split
 ·exact .inr rfl
 split
 ·exact .inr rfl
 split
 ·exact .inr rfl
 split
 ·exact .inr rfl
 split
 ·exact .inr rfl
 split
 ·exact .inl rfl
 ·exact .inr rfl
theorem Xf7 (l:List Ua) (i g:Int):(Zf l i g).2=0\/(Zf l i g).1=0:=by
 unfold Zf
 split
 ·exact .inr rfl
 split
 ·exact .inr rfl
 split
 ·exact .inr rfl
 split
 ·exact .inr rfl
 split
 ·exact .inr rfl
 split
 ·exact .inl rfl
 ·exact .inr rfl
theorem Xmk {w:WM} (h:WF w) (v:Int):(Y3 w v).1<=w.Things.length:=by
 have g:∀ i g,(Zo w.Locals i g).1<=w.Things.length:=by
  intro i g
  by_cases he:(Zo w.Locals i g).2=0
  ·obtain ⟨_,_,p,hp,_,hL,e⟩:=XcH he
   rw[e];exact h.rloc _ (Xh5 (Uh hp) hL)
  ·have:=(Xf6 w.Locals i g).resolve_left he
   omega
 have t:∀ (t:WG),(∀ r∈XZ t.Entries,r<=w.Things.length)->∀ i g,(Zf t.Entries i g).1<=w.Things.length:=by
  intro t ht i g
  by_cases he:(Zf t.Entries i g).2=0
  ·obtain ⟨_,_,p,hp,_,hL,e⟩:=XcI he
   rw[e];exact ht _ (Xh6 (Uh hp) hL)
  ·have:=(Xf7 t.Entries i g).resolve_left he
   omega
 unfold Y3
 split
 ·simp
 split
 ·simp
 split
 ·exact g _ _
 split
 ·exact t _ h.rglo _ _
 ·exact t _ h.rwea _ _
section
variable {N:Nat} {w:WM} {k:Nat}
theorem KI (hw:WB k w) (hN:1000000<N) (hv:Yt w=true) {v:Int} (tv:tU v):QaB N w v=some (Y3 w v):=by
 rw[QaB,Xa1 hw hN,Xa,hv,Ws,Wa,Y3]
 by_cases hz:v=0
 ·rw[Wm hz,hz];rfl
 rw[Wk hz,show (v==0)=false by simpa using hz,Wa,Xj7 tv,Xa]
 by_cases he:(Kx v).2=0
 ·rw[he,show ((0:Int) != 0)=false from rfl,Wa,Wk (by simp)]
  by_cases h1:(Kx v).1.Tag=1
  ·rw[Wm h1,h1,show ((1:Int)==1)=true from rfl,Wc,Xdy hw.loc hN,Xa]
  rw[Wk h1,show ((Kx v).1.Tag==1)=false by simpa using h1,Wa]
  by_cases h2:(Kx v).1.Tag=2
  ·rw[Wm h2,h2,show ((2:Int)==2)=true from rfl,Wc,VP hw.glo hN,Xa]
  rw[Wk h2,show ((Kx v).1.Tag==2)=false by simpa using h2,Wa,VP hw.wea hN,Xa]
 ·rw[show ((Kx v).2 != 0)=true by simpa using he,Wc,Wm he]
theorem VT (hw:WB k w) (hN:1000000<N) (hv:Yt w=true) {v:Int} (tv:tU v):QdV N w v=some (XD w v):=by
 rw[QdV,KI hw hN hv tv,Xa,XD]
 by_cases he:(Y3 w v).2=0
 ·rw[he,show ((0:Int)==0)=true from rfl,Wc]
  by_cases h1:(Y3 w v).1=0
  ·rw[h1,Wm ⟨rfl,rfl⟩];rfl
  ·rw[show ((Y3 w v).1==0)=false by simpa using h1,Wa,Wk (λ h=>h1 h.2)]
   rw[← he]
 ·rw[show ((Y3 w v).2==0)=false by simpa using he,Wa,Wk (λ h=>he h.1)]
end
end Go.Sx
namespace Go.Sx
def zTh:Ii:=⟨⟨0,0,0⟩,[]⟩
def thg (w:WM) (id:Int):Ii:=w.Things.getD (id-1).toNat zTh
def KJ (a:Ww) (id:Int):Int:=if id=0 then 0 else (Vq a id).2.2.2
def okW (op a b:Int):Prop:=a<=2147483647/\(op=1->b<=4294967295)
instance (op a b:Int):Decidable (okW op a b):=by unfold okW;infer_instance
def hdW (op a b:Int):Wz:=⟨op,a,if op=1 then b else 0⟩
def XcM (c:WQ) (d:Wz):Bool:=Xx d&&(d.Kind != 0&&XA c (XG d) != -1)
def VU (w:WM) (op a b:Int) (failed:Bool):Int :=
 if w.Marks.length>0 then 15 else if ¬ okW op a b then 1 else if XcM w.Conf (hdW op a b)=false then 1 else
 if KJ w.Locals 1≠0 then KJ w.Locals 1 else if failed then 3 else 0
def XaG (op:Int):Bool:=op==8||op==9
def Xa2 (w:WM) (op a b c:Int):Int :=
 if (XD w a).2≠0 then (XD w a).2 else if b>=(thg w (XD w a).1).Header.Length then 2 else
 if Kw (thg w (XD w a).1).Header b≠XaG op then 4 else
 if op=8 then KJ w.Locals ((thg w (XD w a).1).Fields.getD b.toNat 0) else if op=9 then (Y3 w c).2 else 0
def XbR (w:WM) (op a:Int):Int :=
 if a=0 then 5 else if (Y3 w a).2≠0 then (Y3 w a).2 else
 if (Kx a).1.Tag≠(if op=16 then 3 else if op=14 then 2 else 1) then 4 else 0
def Xf8 (w:WM) (op a:Int):Int :=
 if (XD w a).2≠0 then (XD w a).2 else (JE (if op=15 then w.Weaks else w.Globals) (XD w a).1).2.2.2
def XdD (w:WM) (op a:Int):Int :=
 if op=17 then (if a>64 then 1 else (Jf w.Locals a).2) else
 if (Y3 w a).2≠0 then (Y3 w a).2 else if (Zz w.Locals).2≠0 then (Zz w.Locals).2 else KJ (Zz w.Locals).1 (Y3 w a).1
def XcN (l:List Ix) (i:Int):Ix:=l.getD i.toNat ⟨0,0,0⟩
def Xg9 (w:WM) (op a:Int) (failed:Bool):Int :=
 if (XD w a).2≠0 then (XD w a).2 else
 if op=20 then (if YF w.Marks (XD w a).1<0 then 12 else 0) else
 if 0<=YF w.Marks (XD w a).1/\(XcN w.Marks (YF w.Marks (XD w a).1)).Count=1000 then 18 else
 if YF w.Marks (XD w a).1<0/\w.Marks.length=64 then 18 else if failed then 18 else 0
def XbS (w:WM) (op a b:Int):Int :=
 if op=4\/op=5 then (XD w a).2 else if (Y3 w a).2≠0 then (Y3 w a).2 else
 if op=10 then (Y3 w b).2 else KJ w.Locals (Y3 w a).1
def Xj8 (w:WM) (op a b c:Int) (failed:Bool):Int :=
 if Yt w=false then 19 else
 if op=1\/op=2\/op=3 then VU w op a b failed else
 if op=6\/op=7\/op=8\/op=9 then Xa2 w op a b c else
 if op=12\/op=14\/op=16 then XbR w op a else
 if op=13\/op=15 then Xf8 w op a else
 if op=17\/op=18 then XdD w op a else
 if op=19\/op=20 then Xg9 w op a failed else
 if op=4\/op=5\/op=10\/op=11 then XbS w op a b else 1
theorem XS {a b:Int} (h:¬ a=b):(a==b)=false:=by simpa using h
theorem Yi {a b:Int} (h:a=b):(a==b)=true:=by simpa using h
theorem Zb {a b:Int} (h:a=b):(a != b)=false:=by simpa using h
theorem Zk {a b:Int} (h:¬ a=b):(a != b)=true:=by simpa using h
section
variable {N:Nat} {w:WM} {k:Nat}
theorem Xml (hw:WB k w) (hv:Yt w=true) (tw:XQ w) {v:Int} (tv:tU v):tU (Y3 w v).1:=by
 have:=QeZ (N:=1000001) tw tv
 exact this _ (KI (N:=1000001) hw (by omega) hv tv)
theorem XcO (hw:WB k w) (hv:Yt w=true) (tw:XQ w) {v:Int} (tv:tU v) (h:(XD w v).2=0):1<=(XD w v).1/\(XD w v).1<=w.Things.length/\XD w v=Y3 w v:=by
 have h1:=Xml hw hv tw tv
 have h2:=Xmk (Kk hv) v
 unfold XD at h ⊢
 by_cases hc:(Y3 w v).2=0/\(Y3 w v).1=0
 ·rw[Wm hc] at h;cases h
 ·rw[Wk hc] at h ⊢
  have h3:(Y3 w v).1≠0:=λ e=>hc ⟨h,e⟩
  unfold tU at h1
  exact ⟨by omega,h2,rfl⟩
theorem KD (hw:WB k w) {id:Int} (h1:1<=id) (h2:id<=w.Things.length):Xb w.Things (wU (id-1))=some (thg w id)/\thg w id∈w.Things:=by
 have hk:=hw.kk
 have ht:=hw.things
 have e:=Wd (show (id-1).toNat<w.Things.length by omega)
 have e2:thg w id=w.Things[(id-1).toNat]'(by omega):=by unfold thg;rw[Wp,e];rfl
 rw[Xw (by omega) (by omega),Yj (by omega) (by omega),e2]
 exact ⟨rfl,WU _⟩
theorem Jh (hl:LBp w.Locals) (hN:1000000<N) (id:Int):QcL N w.Locals id=some (KJ w.Locals id):=by
 rw[QcL,KJ]
 by_cases h:id=0
 ·rw[Wm h,h];rfl
 ·rw[Wk h,XS h,Wa,VQ hl hN,Xa]
theorem Xe6 {a:Ww} (hl:LBp a) (hN:1000000<N) (id:Int):QcL N a id=some (KJ a id):=Jh (w:=⟨⟨0,0⟩,[],a,zT,zT,[],[]⟩) hl hN id
theorem Xe7 (op:Int) {a b:Int} (ta:tU a) (tb:tU b):∃ d,Qb0 N op a b=some (d,decide (okW op a b))/\(okW op a b->d=hdW op a b):=by
 unfold tU at ta tb
 have hmask:a<=2147483647->wI (YA .u64 a 2147483647)=a:=λ h=>by
  have:YA .u64 a 2147483647=a % 2147483648:=Y5 a 31 (by omega) ta.1 ta.2
  rw[this,Xc (by omega) (by omega)];omega
 rw[Qb0]
 by_cases h1:op=1
 ·rw[Yi h1,Wc]
  by_cases h2:a<=2147483647
  ·rw[Wh h2,Wc]
   refine ⟨⟨op,wI (YA .u64 a 2147483647),wW b⟩,?_,λ h=>?_⟩
   ·exact congrArg (λ x=>some (_,x)) (decide_eq_decide.2 ⟨λ h=>⟨h2,λ _=>h⟩,λ h=>h.2 h1⟩)
   ·rw[hmask h2,Xng (by omega) (by have:=h.2 h1;omega),hdW,Wm h1]
  ·rw[Wj h2,Wa]
   refine ⟨⟨op,wI (YA .u64 a 2147483647),wW b⟩,?_,λ h=>absurd h.1 h2⟩
   rw[Wj (show ¬ okW op a b from λ h=>h2 h.1)]
 ·rw[XS h1,Wa]
  refine ⟨⟨op,wI (YA .u64 a 2147483647),0⟩,?_,λ h=>?_⟩
  ·exact congrArg (λ x=>some (_,x)) (decide_eq_decide.2 ⟨λ h=>⟨h,λ e=>absurd e h1⟩,λ h=>h.1⟩)
  ·rw[hmask h.1,hdW,Wk h1]
theorem Xmm (hN:10<=N) (c:WQ) (d:Wz):Qb7 N c d=some (XcM c d):=by
 rw[Qb7,YS,Xa,XcM,Yg,Xa,Zl hN,Xa]
 cases Xx d<;>cases (d.Kind != 0)<;>rfl
theorem Xf9 (hw:WB k w) (hN:1000000<N) (op:Int) {a b:Int} (ta:tU a) (tb:tU b) (f:Bool):Qe7 N w op a b f=some (VU w op a b f):=by
 have hm:=hw.marks
 obtain ⟨d,hd,hd2⟩:=Xe7 (N:=N) op ta tb
 rw[Qe7,VU]
 by_cases h0:w.Marks.length>0
 ·rw[Wh (show ((w.Marks.length:Nat):Int)>0 by omega),Wc,Wm h0]
 rw[Wj (show ¬ ((w.Marks.length:Nat):Int)>0 by omega),Wa,Wk h0,hd,Xa]
 by_cases h1:okW op a b
 ·rw[Wh h1,Ws,Wa,Wk (by simpa using h1),Xmm (by omega),Xa,hd2 h1]
  cases hA:XcM w.Conf (hdW op a b)
  ·rfl
  ·rw[Ws,Wa,Wk (by simp),Jh hw.loc hN,Xa]
   by_cases hL:KJ w.Locals 1=0
   ·rw[Zb hL,Wa,Wk (by simpa using hL)]
    cases f<;>rfl
   ·rw[Zk hL,Wc,Wm hL]
 ·rw[Wj h1,W0,Wc,Wm h1]
theorem Xh7 (hw:WB k w) (hN:1000000<N) (hv:Yt w=true) (tw:XQ w) (op:Int) {a b c:Int} (ta:tU a) (tb:tU b) (tc:tU c):Qfw N w op a b c=some (Xa2 w op a b c):=by
 rw[Qfw,VT hw hN hv ta,Xa,Xa2]
 by_cases he:(XD w a).2=0
 rotate_left
 ·rw[Zk he,Wc,Wm he]
 obtain ⟨i1,i2,_⟩:=XcO hw hv tw ta he
 obtain ⟨g1,g2⟩:=KD hw i1 i2
 obtain ⟨v1,v2,v3,v4⟩:=(Kk hv).thing _ g2
 have vb:=XH v1
 unfold tU at tb
 rw[Zb he,Wa,Wk (by simpa using he),g1,Xa,Xw (n:=(thg w (XD w a).1).Header.Length) (by omega) (by omega)]
 by_cases h1:b>=(thg w (XD w a).1).Header.Length
 ·rw[Wh h1,Wc,Wm h1]
 rw[Wj h1,Wa,Wk h1,Xc (n:=b) (by omega) (by omega)]
 have key:∀ x:Bool,x=XaG op->(bnd (QbT N (thg w (XD w a).1).Header b) λ y4 =>
  bif (!(y4==x)) then some 4
  else bif (op==8) then (bnd (Xb (thg w (XD w a).1).Fields b) λ p5 =>
   bnd (QcL N w.Locals p5) λ y6 =>
   some y6)
  else bif (op==9) then (bnd (QaB N w c) λ y7 =>
   some y7.2)
  else some (XD w a).2)=some (if Kw (thg w (XD w a).1).Header b≠XaG op then 4 else
 if op=8 then KJ w.Locals ((thg w (XD w a).1).Fields.getD b.toNat 0) else if op=9 then (Y3 w c).2 else 0):=by
  intro x hx
  subst hx
  rw[JV,Xa]
  by_cases h2:Kw (thg w (XD w a).1).Header b=XaG op
  ·rw[show (Kw (thg w (XD w a).1).Header b==XaG op)=true by simpa using h2,Ws,Wa,Wk (by simpa using h2)]
   by_cases h3:op=8
   ·rw[Yi h3,Wc,Wm h3,Yj (by omega) (by omega),Xa,Jh hw.loc hN,Xa,Wp,Wd (by omega)];rfl
   rw[XS h3,Wa,Wk h3]
   by_cases h4:op=9
   ·rw[Yi h4,Wc,Wm h4,KI hw hN hv tc,Xa]
   ·rw[XS h4,Wa,Wk h4,he]
  ·rw[show (Kw (thg w (XD w a).1).Header b==XaG op)=false by simpa using h2,W0,Wc,Wm h2]
 rw[XV]
 cases h8:(op==8)
 ·have:=key (op==9) (by unfold XaG;rw[h8,If])
  rw[h8] at this
  exact this
 ·have:=key true (by unfold XaG;rw[h8,Bool.true_or])
  rw[h8] at this
  exact this
theorem Xga (hw:WB k w) (hN:1000000<N) (hv:Yt w=true) (op:Int) {a:Int} (ta:tU a):Qe8 N w op a=some (XbR w op a):=by
 rw[Qe8,XbR]
 by_cases h0:a=0
 ·rw[Yi h0,Wc,Wm h0]
 rw[XS h0,Wa,Wk h0,KI hw hN hv ta,Xa]
 by_cases h1:(Y3 w a).2=0
 rotate_left
 ·rw[Zk h1,Wc,Wm h1]
 rw[Zb h1,Wa,Wk (by simpa using h1),Xj7 ta,Xa,XV]
 have fin:∀ t:Int,(bif ((Kx a).1.Tag != t) then some (4:Int) else some 0)=some (if (Kx a).1.Tag≠t then 4 else 0):=by
  intro t
  by_cases h:(Kx a).1.Tag=t
  ·rw[Zb h,Wa,Wk (by simpa using h)]
  ·rw[Zk h,Wc,Wm h]
 by_cases h2:op=16
 ·rw[Wm h2,Yi h2,← fin]
  cases (op==14)<;>rfl
 ·rw[Wk h2,XS h2]
  by_cases h3:op=14
  ·rw[Wm h3,Yi h3,Wc];exact fin 2
  ·rw[Wk h3,XS h3,Wa];exact fin 1
theorem Xj9 (hw:WB k w) (hN:1000000<N) (hv:Yt w=true) (op:Int) {a:Int} (ta:tU a):Qf4 N w op a=some (Xf8 w op a):=by
 rw[Qf4,VT hw hN hv ta,Xa,Xf8]
 by_cases h1:(XD w a).2=0
 rotate_left
 ·rw[Zk h1,Wc,Wm h1]
 rw[Zb h1,Wa,Wk (by simpa using h1),XV]
 by_cases h2:op=15
 ·rw[Wm h2,Yi h2,Wc]
  show bnd (Qce N w.Weaks (XD w a).1) _=_
  rw[KC hw.wea hN,Xa]
 ·rw[Wk h2,XS h2,Wa]
  show bnd (Qce N w.Globals (XD w a).1) _=_
  rw[KC hw.glo hN,Xa]
theorem Xh8 (hw:WB k w) (hN:1000000<N) (hv:Yt w=true) (op:Int) {a:Int} (ta:tU a):Qfx N w op a=some (XdD w op a):=by
 rw[Qfx,XdD]
 by_cases h0:op=17
 ·rw[Yi h0,Wc,Wm h0]
  by_cases h1:a>64
  ·rw[Wh h1,Wc,Wm h1]
  ·unfold tU at ta
   rw[Wj h1,Wa,Wk h1,Xc (n:=a) (by omega) (by omega),VR hw.loc hN,Xa]
 rw[XS h0,Wa,Wk h0,KI hw hN hv ta,Xa]
 by_cases h1:(Y3 w a).2=0
 rotate_left
 ·rw[Zk h1,Wc,Wm h1]
 rw[Zb h1,Wa,Wk (by simpa using h1),XaY hw.loc hN,Xa]
 by_cases h2:(Zz w.Locals).2=0
 rotate_left
 ·rw[Zk h2,Wc,Wm h2]
 rw[Zb h2,Wa,Wk (by simpa using h2),Xe6 (XaZ hw.loc) hN,Xa]
theorem Xak {l:List Ix} {id:Int} (h:0<=YF l id):YF l id<l.length/\Xb l (YF l id)=some (XcN l (YF l id))/\(XcN l (YF l id)).Id=id:=by
 unfold YF at h ⊢
 cases e:l.findIdx? (λ m=>m.Id==id) with
 | none=>rw[e] at h;simp at h
 | some j =>
  have h2:=List.findIdx?_eq_some_iff_getElem.1 e
  obtain ⟨hj,hp,_⟩:=h2
  simp only
  refine ⟨by omega,?_,?_⟩
  ·rw[Xd,XcN,Wp,IB,Wd hj];rfl
  ·rw[XcN,Wp,IB,Wd hj]
   simpa using hp
theorem Xh9 (hw:WB k w) (hN:1000000<N) (hv:Yt w=true) (op:Int) {a:Int} (ta:tU a) (f:Bool):Qgm N w op a f=some (Xg9 w op a f):=by
 have hm:=hw.marks
 rw[Qgm,VT hw hN hv ta,Xa,Xg9]
 by_cases h1:(XD w a).2=0
 rotate_left
 ·rw[Zk h1,Wc,Wm h1]
 rw[Zb h1,Wa,Wk (by simpa using h1),XdC (by omega) hN,Xa]
 by_cases h2:op=20
 ·rw[Yi h2,Wc,Wm h2]
  by_cases h3:YF w.Marks (XD w a).1<0
  ·rw[Wh h3,Wc,Wm h3]
  ·rw[Wj h3,Wa,Wk h3]
 rw[XS h2,Wa,Wk h2]
 by_cases h3:0<=YF w.Marks (XD w a).1
 ·obtain ⟨m1,m2,m3⟩:=Xak h3
  rw[Wh (show YF w.Marks (XD w a).1>=0 from h3),Wc,m2,Xa,Wj (show ¬ YF w.Marks (XD w a).1<0 by omega),Wa]
  rw[Wk (show ¬ (YF w.Marks (XD w a).1<0/\w.Marks.length=64) by omega)]
  by_cases h4:(XcN w.Marks (YF w.Marks (XD w a).1)).Count=1000
  ·rw[Yi h4,Wc,Wm ⟨h3,h4⟩]
  ·rw[XS h4,Wa,Wk (λ h=>h4 h.2)]
   cases f<;>rfl
 ·rw[Wj (show ¬ YF w.Marks (XD w a).1>=0 from h3),Wa,Wh (show YF w.Marks (XD w a).1<0 by omega),Wc,Wk (λ h=>h3 h.1)]
  by_cases h4:w.Marks.length=64
  ·rw[h4,Wm ⟨by omega,rfl⟩];rfl
  ·rw[XS (show ¬ ((w.Marks.length:Nat):Int)=64 by omega),Wa,Wk (λ h=>h4 h.2)]
   cases f<;>rfl
theorem Xka (hw:WB k w) (hN:1000000<N) (hv:Yt w=true) (op:Int) {a b:Int} (ta:tU a) (tb:tU b):Qf5 N w op a b=some (XbS w op a b):=by
 rw[Qf5,XbS,XV,VT hw hN hv ta,Xa]
 by_cases h4:op=4
 ·rw[Yi h4,Wc,Wm (.inl h4)]
 rw[XS h4,Wa]
 by_cases h5:op=5
 ·rw[Yi h5,Wc,Wm (.inr h5)]
 rw[XS h5,Wa,Wk (by omega),KI hw hN hv ta,Xa]
 by_cases h1:(Y3 w a).2=0
 rotate_left
 ·rw[Zk h1,Wc,Wm h1]
 rw[Zb h1,Wa,Wk (by simpa using h1)]
 by_cases h10:op=10
 ·rw[Yi h10,Wc,Wm h10,KI hw hN hv tb,Xa]
 ·rw[XS h10,Wa,Wk h10,Jh hw.loc hN,Xa]
end
end Go.Sx
namespace Go.Sx
theorem Xnl {β:Type} (K:Bool->β) (c1 c2:Bool):(jn K λ j=>bif c1 then j true else j c2)=K (c1||c2):=by
 rw[XV];cases c1<;>rfl
theorem b2 (op a b:Int):(op==a||op==b)=decide (op=a\/op=b):=by rw[Bool.decide_or];rfl
theorem bd (op a:Int) (p:Prop) [Decidable p]:(op==a||decide p)=decide (op=a\/p):=by rw[Bool.decide_or];rfl
theorem Xo5 {β:Type} {p:Prop} [Decidable p] (x y:β):(bif decide p then x else y)=if p then x else y:=by
 by_cases h:p
 ·rw[Wh h,Wm h];rfl
 ·rw[Wj h,Wk h];rfl
theorem Xmn {β:Type} (o:Option β):(bnd o λ y=>some y)=o:=by
 cases o
 ·exact Vi _
 ·exact Xa _ _
theorem Xmo {β:Type} {p:Prop} [Decidable p] (x y:β):(if p then some x else some y)=some (if p then x else y):=by split<;>rfl
section
variable {N:Nat} {w:WM} {k:Nat}
theorem Xn3 (hw:WB k w) (hN:1000000<N) (tw:XQ w) (op:Int) {a b c:Int} (ta:tU a) (tb:tU b) (tc:tU c) (f:Bool):Qe9 N w op a b c f=some (Xj8 w op a b c f):=by
 rw[Qe9,Xa1 hw hN,Xa,Xj8]
 cases hv:Yt w
 ·rfl
 rw[Ws,Wa,Wk (by simp)]
 simp only[Xnl,Xmn,Xf9 hw hN op ta tb f,Xh7 hw hN hv tw op ta tb tc,Xga hw hN hv op ta,Xj9 hw hN hv op ta,Xh8 hw hN hv op ta,Xh9 hw hN hv op ta f,Xka hw hN hv op ta tb,b2,bd,Xo5,Xmo]
end
end Go.Sx
namespace Go.Sx
theorem Xal (d:Wz):∀ (k:Nat) (l:List Int),∀ r∈Jl d k l,r∈l
 | k,[],r,h=>by simp[Jl] at h
 | k,f::fs,r,h=>by
  unfold Jl at h
  split at h
  ·rcases UH.1 h with h | h
   ·exact h▸IM
   ·exact Ug _ (Xal d (k+1) fs r h)
  ·exact Ug _ (Xal d (k+1) fs r h)
def zWo:WM:=⟨⟨0,0⟩,[],zL,zT,zT,[],[]⟩
theorem Xkb {k:Nat} (hk:k<=900):WB k zWo:=⟨hk,by simp[zWo],λ x hx=>by simp[zWo] at hx,Zj,by simp[zWo,zT],by simp[zWo,zT],by simp[zWo],by simp[zWo]⟩
section
variable {N:Nat} {w:WM} {k:Nat}
theorem XbT (hm:w.Marks.length<=1000):∀ (n:Nat) (i:Int) (v:List Int),0<=i->i<=w.Marks.length->(w.Marks.length-i).toNat<n->v.length<=100000+i->(∀ x∈v,0<=x/\x<=w.Things.length)->(∀ m∈w.Marks,0<=m.Id/\m.Id<=w.Things.length)->Ok (Qdw N w n i v) λ r=>r.length<=v.length+(w.Marks.length-i)/\∀ x∈r,0<=x/\x<=w.Things.length
 | 0,i,v,_,_,hn,_,_,_=>by omega
 | n+1,i,v,h0,hi,hn,hv,hx,hmm=>by
  rw[Qdw]
  refine Wo (λ hc=>?_) λ hc=>Wg ⟨by omega,hx⟩
  have hc:i<w.Marks.length:=Wr hc
  rw[Xc (n:=i+1) (by omega) (by omega)]
  refine Ok.get h0 hc λ p hp=>WS (by omega) ?_
  have hpm:=Yq hp
  refine (XbT hm n (i+1) _ (by omega) (by omega) (by omega) (by rw[Wq];simp;omega) (λ x hx'=>?_) hmm).mono λ r hr=>⟨?_,hr.2⟩
  ·rcases WJ.1 hx' with h | h
   ·exact hx x h
   ·rw[UN.1 h];exact hmm p hpm
  ·have:=hr.1
   rw[Wq] at this
   simp at this
   omega
theorem Xgb (hN:NB N) (hw:WB k w) (hv:Yt w=true) (tw:XQ w):Ok (Qfv N w) λ r=>r.length<=10000/\∀ x∈r,0<=x/\x<=w.Things.length:=by
 have hN':=hN
 unfold NB at hN'
 have hr:=hw.roots
 have hm:=hw.marks
 have wf:=Kk hv
 obtain ⟨t1,t2,t3,t4,t5,t6⟩:=tw
 have l1:=Xe5 wf.loc
 have l2:=VS wf.glo
 rw[Qfv]
 refine WS (by omega) ?_
 rw[ZX hw.loc (by omega),Xa,wf.loc,Wc]
 refine WS (by omega) ?_
 rw[Yy hw.glo (by omega),Xa,wf.glo,Wc]
 refine WS (by omega) (WH (XbT hm N 0 _ (by omega) (by omega) (by omega) (by simp only[Wq];omega) (λ x hx=>?_) λ m hmm=>?_) λ r _ h=>Wg ⟨?_,h.2⟩)
 ·simp only[WJ] at hx
  rcases hx with (h | h) | h
  ·exact ⟨(t6 x h).1,wf.roots x h⟩
  ·refine ⟨?_,wf.rloc x h⟩
   unfold Ym at h
   obtain ⟨p,hp,rfl⟩:=UY.1 h
   exact (t2 p (UV.1 hp).1).1
  ·refine ⟨?_,wf.rglo x h⟩
   unfold XZ at h
   obtain ⟨p,hp,rfl⟩:=UY.1 h
   exact (t3 p (UV.1 hp).1).1
 ·obtain ⟨i,hi,e⟩:=WZ hmm
  have:=wf.mk_ (k:=i) (m:=m) (by rw[Wd hi,e])
  omega
 ·have:=h.1
  simp only[Wq] at this
  omega
theorem VV (hN:NB N) (hw:WB k w) (hv:Yt w=true) (tw:XQ w) (M:Nat) (hM:M<=2000000):∀ (n:Nat) (i:Int) (v:List Bool) (q:List Int),0<=i->i<=q.length->(M-i).toNat<n->v.length=w.Things.length->(∀ x∈q,0<=x/\x<=w.Things.length)->q.length+1000*v.countP (λ b=>!b)<=M->Ok (QbK N w n i v q) λ r=>r.length=w.Things.length
 | 0,i,v,q,_,_,hn,_,_,_=>by omega
 | n+1,i,v,q,h0,hi,hn,hl,hq,hm=>by
  have hN':=hN
  unfold NB at hN'
  have hk:=hw.kk
  have ht:=hw.things
  rw[QbK]
  refine WS (by omega) (Wo (λ hc=>?_) λ _=>Wg hl)
  have hc:i<q.length:=Wr hc
  rw[Xc (n:=i+1) (by omega) (by omega)]
  refine Ok.get h0 hc λ p hp=>?_
  have same:∀ p',Xb q i=some p'->p'=p:=λ p' h=>WV (h.symm.trans hp)
  have hpq:=hq p (Yq hp)
  refine Wo (λ _=>VV hN hw hv tw M hM n (i+1) v q (by omega) (by omega) (by omega) hl hq hm) λ hz=>?_
  have hz:¬ p=0:=by simpa using hz
  refine Ok.get h0 hc λ p2 hp2=>?_
  obtain rfl:=same p2 hp2
  rw[Xw (n:=p2-1) (by omega) (by omega)]
  refine Ok.get (by omega) (by omega) λ b hb=>Wo (λ _=>VV hN hw hv tw M hM n (i+1) v q (by omega) (by omega) (by omega) hl hq hm) λ hbf=>?_
  refine Ok.get h0 hc λ p3 hp3=>?_
  obtain rfl:=same p3 hp3
  rw[Xw (n:=p3-1) (by omega) (by omega)]
  refine Ok.get (by omega) (by omega) λ _ _=>Ok.get h0 hc λ p4 hp4=>?_
  obtain rfl:=same p4 hp4
  obtain ⟨g1,g2⟩:=KD hw (id:=p4) (by omega) (by omega)
  have hf:=hw.fields _ g2
  obtain ⟨v1,v2,v3,v4⟩:=(Kk hv).thing _ g2
  have hrl:=Xaj (thg w p4).Header 0 (thg w p4).Fields
  have hrl:(XbO (thg w p4)).length<=1000:=by unfold XbO;omega
  rw[g1,Xa,Xe4 (by omega) (by omega),Xa]
  have hlt:(p4-1).toNat<v.length:=by omega
  have hbv:v[(p4-1).toNat]=false:=by
   rw[Yj (by omega) (by omega)] at hb
   rw[WV hb];exact hbf
  have hcount:(v.set (p4-1).toNat true).countP (λ b=>!b)+1<=v.countP (λ b=>!b):=by
   have hpos:0<v.countP (λ b=>!b):=List.countP_pos_iff.2 ⟨v[(p4-1).toNat],WU _,by rw[hbv];rfl⟩
   rw[List.countP_set hlt,hbv]
   simp
   omega
  refine WS (by omega) (VV hN hw hv tw M hM n (i+1) _ _ (by omega) (by rw[Wq];omega) (by omega) (by rw[Wx];exact hl) (λ x hx=>?_) (by rw[Wq];omega))
  rcases WJ.1 hx with h | h
  ·exact hq x h
  ·refine ⟨?_,v4 x h⟩
   exact ((tw.1 _ g2).2 x (Xal _ _ _ x h)).1
theorem Xgc (hN:NB N) (hw:WB k w) (hv:Yt w=true) (tw:XQ w):Ok (Qe6 N w) λ r=>r.length=w.Things.length:=by
 have hN':=hN
 unfold NB at hN'
 have hk:=hw.kk
 have ht:=hw.things
 rw[Qe6,Xa1 hw (by omega),Xa,hv,Ws,Wa]
 refine WS (by omega) (WH (Xgb hN hw hv tw) λ y _ hy=>WH (VV hN hw hv tw 1100000 (by omega) N 0 _ y (by omega) (by omega) (by omega) (by rw[WC];omega) hy.2 ?_) λ r _ hr=>Wg hr)
 have:(List.replicate (((w.Things.length:Nat):Int)).toNat false).countP (λ b=>!b)<=1000:=by
  refine Ur List.countP_le_length ?_
  rw[WC];omega
 have:=hy.1
 omega
theorem XdE (y:List Bool) (hy:y.length=w.Things.length) (hw:WB k w):∀ (n:Nat) (i:Int) (v:List Int),0<=i->i<=v.length->(v.length-i).toNat<n->v.length<=1000->(∀ x∈v,0<=x/\x<=w.Things.length)->Ok (QaJ N w y n i v) λ r=>r.length=v.length
 | 0,i,v,_,_,hn,_,_=>by omega
 | n+1,i,v,h0,hi,hn,hl,hx=>by
  have hk:=hw.kk
  have ht:=hw.things
  rw[QaJ]
  refine WS (by omega) (Wo (λ hc=>?_) λ _=>Wg rfl)
  have hc:i<v.length:=Wr hc
  rw[Xc (n:=i+1) (by omega) (by omega)]
  have next:=XdE y hy hw n (i+1) v (by omega) (by omega) (by omega) hl hx
  refine Ok.get h0 hc λ p hp=>Wo (λ hz=>Ok.get h0 hc λ p2 hp2=>?_) λ _=>next
  obtain rfl:p=p2:=WV (hp.symm.trans hp2)
  have hpq:=hx p (Yq hp)
  have hz:¬ p=0:=by simpa using hz
  rw[Xw (n:=p-1) (by omega) (by omega)]
  refine Ok.get (by omega) (by omega) λ _ _=>Wo (λ _=>Ok.get h0 hc λ _ _=>?_) λ _=>next
  refine (XdE y hy hw n (i+1) _ (by omega) (by rw[Wx];omega) (by rw[Wx];omega) (by rw[Wx];exact hl) λ x hx'=>?_).mono λ r hr=>by rw[hr,Wx]
  rcases UL hx' with h | h
  ·exact hx x h
  ·rw[h];omega
theorem XaH (hN:NB N) (hw:WB k w) (tw:XQ w):Ok (Qc3 N w) λ r=>WB k r.1:=by
 have hN':=hN
 unfold NB at hN'
 rw[Qc3,Xa1 hw (by omega),Xa]
 refine Wo (λ _=>Wg (Xkb hw.kk)) λ hv=>?_
 have hv:Yt w=true:=by simpa using hv
 have wf:=Kk hv
 have l3:=VS wf.wea
 refine WH (Xgc hN hw hv tw) λ y _ hy=>?_
 rw[Yy hw.wea (by omega),Xa,wf.wea,Wc]
 refine WH (XdE y hy hw N 0 _ (by omega) (by omega) (by omega) (by omega) λ x hx=>⟨?_,wf.rwea x hx⟩) λ z _ hz=>WH (XcJ hw.wea (by omega) (by omega)) λ t _ ht=>Wg ⟨hw.kk,hw.things,hw.fields,hw.loc,hw.gloK,Ur ht hw.weaK,hw.marksK,hw.rootsK⟩
 unfold XZ at hx
 obtain ⟨p,hp,rfl⟩:=UY.1 hx
 exact (tw.2.2.2.1 p (UV.1 hp).1).1
end
end Go.Sx
namespace Go.Sx
theorem OI {β κ:Type} {P:β->Prop} {k:κ->Option β} {f:(κ->Option β)->Option β} (Q:κ->Prop) (h:∀ x,Q x->Ok (k x) P) (g:∀ j:κ->Option β,(∀ x,Q x->Ok (j x) P)->Ok (f j) P):Ok (Sx.jn k f) P:=by rw[XV];exact g k h
section
variable {N:Nat} {w:WM} {k:Nat}
theorem JZ (hw:WB k w) (hN:1000000<N) (id:Int):Ok (Qcm N w id) λ r=>WB k r.1:=by
 rw[Qcm]
 refine W9 (Wg hw) ?_
 rw[VQ hw.loc hN,Xa]
 exact Uc (Y9 _) λ y _=>Wg ⟨hw.kk,hw.things,hw.fields,XgZ hw.loc id,hw.gloK,hw.weaK,hw.marksK,hw.rootsK⟩
theorem Xha (hw:WB k w) {id i v:Int} (h1:1<=id) (h2:id<=w.Things.length) (i0:0<=i) (i1:i<(thg w id).Fields.length):Ok (QeL N w id i v) λ r=>WB k r:=by
 have hk:=hw.kk
 have ht:=hw.things
 obtain ⟨g1,g2⟩:=KD hw h1 h2
 have hf:=hw.fields _ g2
 rw[QeL,Xe (by omega),g1,Xa,Xe (by omega)]
 refine Ok.get i0 (by omega) λ _ _=>?_
 rw[Xa]
 refine Wg ⟨hw.kk,?_,λ x hx=>?_,hw.loc,hw.gloK,hw.weaK,hw.marksK,hw.rootsK⟩
 ·show (w.Things.set _ _).length<=_;rw[Wx];exact ht
 ·have hx:x∈w.Things.set _ _:=hx
  rcases UL hx with h | h
  ·exact hw.fields x h
  ·rw[h];show ((thg w id).Fields.set _ _).length<=_;rw[Wx];exact hf
theorem Xe8 (hw:WB k w) (hN:1000000<N) (op id:Int):Ok (QdC N w op id) λ r=>WB k r.1:=by
 rw[QdC]
 refine In (W9 ?_ ?_)
 ·rw[KC hw.wea hN,Xa]
  exact Uc (Y9 _) λ y _=>Wg ⟨hw.kk,hw.things,hw.fields,hw.loc,hw.gloK,XbI hw.weaK id,hw.marksK,hw.rootsK⟩
 ·rw[KC hw.glo hN,Xa]
  exact Uc (Y9 _) λ y _=>Wg ⟨hw.kk,hw.things,hw.fields,hw.loc,XbI hw.gloK id,hw.weaK,hw.marksK,hw.rootsK⟩
theorem Xgd (hw:WB k w) (hN:1000000<N) (v:Int):Ok (Qd4 N w v) λ r=>WB k r:=by
 rw[Qd4]
 refine Uc (Xai _) λ y _=>W9 ?_ (W9 ?_ ?_)
 ·rw[Xdz hw.loc hN,Xa];exact Wg ⟨hw.kk,hw.things,hw.fields,Xg0 hw.loc _ _,hw.gloK,hw.weaK,hw.marksK,hw.rootsK⟩
 ·rw[JW hw.glo hN,Xa];exact Wg ⟨hw.kk,hw.things,hw.fields,hw.loc,XeX hw.gloK _ _,hw.weaK,hw.marksK,hw.rootsK⟩
 ·rw[JW hw.wea hN,Xa];exact Wg ⟨hw.kk,hw.things,hw.fields,hw.loc,hw.gloK,XeX hw.weaK _ _,hw.marksK,hw.rootsK⟩
theorem Xkc (hw:WB k w) (hN:1000000<N) (h64:w.Marks.length<=64) (op id b:Int) (h20:op=20->0<=YF w.Marks id):Ok (QeV N w op id b) λ r=>WB k r.1:=by
 have setM:∀ l:List Ix,l.length<=100+k->WB k ⟨w.Conf,w.Things,w.Locals,w.Globals,w.Weaks,l,w.Roots⟩:=λ l hl=>⟨hw.kk,hw.things,hw.fields,hw.loc,hw.gloK,hw.weaK,hl,hw.rootsK⟩
 rw[QeV,Qgn,XdC (by omega) hN,Xa,Xa]
 refine WS (by omega) (Wo (λ h=>?_) λ _=>Wo (λ h=>?_) λ h=>WS (by omega) (Wg (setM _ (by rw[Wq];simp;omega))))
 ·have h:=h20 (by simpa using h)
  obtain ⟨m1,_,_⟩:=Xak h
  refine Ok.get h m1 λ _ _=>Ok.get h m1 λ _ _=>Ok.get h (by rw[Wx];exact m1) λ _ _=>Wo (λ _=>?_) λ _=>Wg (setM _ (by rw[Wx];omega))
  have e:=Xc (n:=YF w.Marks id+1) (by omega) (by omega)
  refine WS (by omega) (WS (by rw[e];omega) (WS (by rw[e];omega) (Wg (setM _ ?_))))
  simp only[Wy,Wq,Wx,WN];omega
 ·have h:0<=YF w.Marks id:=Wr h
  obtain ⟨m1,_,_⟩:=Xak h
  exact Ok.get h m1 λ _ _=>Ok.get h m1 λ _ _=>Ok.get h (by rw[Wx];exact m1) λ _ _=>Wg (setM _ (by rw[Wx];omega))
theorem WB.up (hw:WB k w) (hk:k+1<=900):WB (k+1) w:=⟨hk,by have:=hw.things;omega,hw.fields,hw.loc,by have:=hw.gloK;omega,by have:=hw.weaK;omega,by have:=hw.marksK;omega,by have:=hw.rootsK;omega⟩
theorem Xkd (hN:NB N) (hw:WB k w) (hk:k+1<=900) (tw:XQ w) (op:Int) {a b c:Int} (ta:tU a) (tb:tU b) (tc:tU c) (ft:Oj):Ok (QeW N w op a b c ft) λ r=>WB (k+1) r.1:=by
 have hN':=hN
 unfold NB at hN'
 have hN1:1000000<N:=by omega
 have zero:WB (k+1) zWo:=Xkb hk
 rw[QeW,Xn3 hw hN1 tw op ta tb tc,Xa]
 refine Wo (λ _=>Wg zero) λ hz=>?_
 have hz:Xj8 w op a b c ft.Failed=0:=by simpa using hz
 have hv:Yt w=true:=by
  cases h:Yt w
  ·unfold Xj8 at hz;rw[h] at hz;cases hz
  ·rfl
 have wf:=Kk hv
 unfold Xj8 at hz
 rw[hv,Wk (by simp)] at hz
 have thing:(XD w a).2=0->1<=(Y3 w a).1/\(Y3 w a).1<=w.Things.length/\XD w a=Y3 w a:=λ h=>by
  obtain ⟨t1,t2,t3⟩:=XcO hw hv tw ta h
  rw[t3] at t1 t2
  exact ⟨t1,t2,t3⟩
 refine OI (λ x=>¬ (op<=3\/op=17)->x=(Y3 w a).1) (λ x3 hx3=>?_) λ j1 h1=>?_
 rotate_left
 ·refine Wo (λ hg=>Wo (λ h17=>?_) λ h17=>h1 _ λ h=>absurd (Or.inr (by simpa using h17)) h) λ hg=>h1 _ λ h=>absurd (Or.inl (by have:=WI hg;omega)) h
  rw[KI hw hN1 hv ta,Xa]
  exact h1 _ λ _=>rfl
 simp only[Xnl]
 refine Wo (λ hc=>?_) λ hc=>?_
 ·
  have hc:op=1\/op=2\/op=3:=by simpa using hc
  rw[Wm hc] at hz
  obtain ⟨d,hd,hd2⟩:=Xe7 (N:=N) op ta tb
  have hfac:okW op a b/\XcM w.Conf (hdW op a b)=true:=by
   unfold VU at hz
   split at hz
   ·cases hz
   split at hz
   ·cases hz
   rename_i _ h2
   split at hz
   ·cases hz
   rename_i h3
   exact ⟨Classical.not_not.1 h2,by simpa using h3⟩
  have hdd:=hd2 hfac.1
  have hvd:Xx d=true:=by
   have:=hfac.2
   unfold XcM at this
   rw[WE] at this
   rw[hdd];exact this.1
  have hb:=XH hvd
  have main:∀ w':WM,WB k w'->Ok (α:=WM×Int×Int) (bnd (Qb0 N op a b) λ y17 =>
   grd (w'.Things.length*48<=140737488355328) <|
   grd (0<=y17.1.Length/\y17.1.Length.toNat*8<=140737488355328) <|
   grd ((w'.Things.length+1)*48<=140737488355328) <|
   grd ((w'.Things.length+1)<=140737488355328) <|
   bnd (Qcm N (WM.mk (WQ.mk w'.Conf.PageWords w'.Conf.Pages) (w'.Things++[(Ii.mk y17.1 (List.replicate y17.1.Length.toNat 0))]) (Ww.mk w'.Locals.Slots w'.Locals.Scopes w'.Locals.Issued) (WG.mk w'.Globals.Entries) (WG.mk w'.Weaks.Entries) w'.Marks w'.Roots) (wU (((w'.Things.length+1):Nat):Int))) λ y18 =>
   some (y18.1,y18.2,0)) λ r=>WB (k+1) r.1:=by
   intro w' hw'
   have ht:=hw'.things
   rw[hd,Xa]
   refine WS (by omega) (WS (by constructor<;>simp only<;>omega) (WS (by omega) (WS (by omega) (Uc (JZ (k:=k+1) (w:=⟨w'.Conf,w'.Things++[⟨d,List.replicate d.Length.toNat 0⟩],w'.Locals,w'.Globals,w'.Weaks,w'.Marks,w'.Roots⟩) ⟨hk,?_,λ x hx=>?_,hw'.loc,IC hw'.gloK,IC hw'.weaK,IC hw'.marksK,IC hw'.rootsK⟩ hN1 _) λ y hy=>Wg hy))))
   ·show (w'.Things++[_]).length<=_;rw[Wq];simp;omega
   ·rcases WJ.1 hx with h | h
    ·exact hw'.fields x h
    ·rw[UN.1 h];show (List.replicate _ _).length<=_;rw[WC];omega
  refine In (Wo (λ _=>WH (XaH hN hw tw) λ y _ hy=>?_) λ _=>?_)
  ·exact main y.1 hy
  ·exact main w hw
 have hn1:¬ (op=1\/op=2\/op=3):=by simpa using hc
 rw[Wk hn1] at hz
 have sw:∀ v e:Int,Ok (α:=WM×Int×Int) (some (w,v,e)) λ r=>WB (k+1) r.1:=λ v e=>Wg (hw.up hk)
 have up:∀ {w':WM},WB k w'->WB (k+1) w':=λ h=>WB.up h hk
 have pl:(op=4\/op=5\/op=10\/op=11)->XbS w op a b=0:=λ h=>by
  rw[Wk (by omega),Wk (by omega),Wk (by omega),Wk (by omega),Wk (by omega),Wm h] at hz
  exact hz
 have len:(op=4\/op=5)->1<=x3/\x3<=w.Things.length:=λ h=>by
  have h1:=pl (by omega)
  unfold XbS at h1
  rw[Wm h] at h1
  have:=thing h1
  rw[hx3 (by omega)]
  exact ⟨this.1,this.2.1⟩
 have fld:(op=6\/op=7\/op=8\/op=9)->(1<=x3/\x3<=w.Things.length)/\b<(thg w x3).Fields.length/\wI b=b:=λ h=>by
  rw[Wm h] at hz
  unfold Xa2 at hz
  by_cases h1:(XD w a).2=0
  rotate_left
  ·rw[Wm h1] at hz;exact absurd hz h1
  rw[Wk (by simpa using h1)] at hz
  obtain ⟨t1,t2,t3⟩:=thing h1
  have e:x3=(Y3 w a).1:=hx3 (by omega)
  rw[t3,← e] at hz
  rw[← e] at t1 t2
  obtain ⟨g1,g2⟩:=KD hw t1 t2
  obtain ⟨v1,v2,v3,v4⟩:=wf.thing _ g2
  have vb:=XH v1
  by_cases h2:b>=(thg w x3).Header.Length
  ·rw[Wm h2] at hz;cases hz
  have:=tb.1
  exact ⟨⟨t1,t2⟩,by omega,Xc (by omega) (by omega)⟩
 refine Wo (λ h4=>?_) λ n4=>Wo (λ h5=>?_) λ n5=>Wo (λ h6=>?_) λ n6=>Wo (λ h7=>?_) λ n7=>Wo (λ h8=>?_) λ n8=>Wo (λ h9=>?_) λ n9=>Wo (λ h10=>?_) λ n10=>Wo (λ h11=>?_) λ n11=>?_
 ·have h4:op=4:=by simpa using h4
  have:=len (.inl h4)
  rw[(KD hw this.1 this.2).1,Xa];exact sw _ _
 ·have h5:op=5:=by simpa using h5
  have:=len (.inr h5)
  rw[(KD hw this.1 this.2).1,Xa];exact sw _ _
 ·have h6:op=6:=by simpa using h6
  obtain ⟨f1,f2,f3⟩:=fld (by omega)
  rw[(KD hw f1.1 f1.2).1,Xa]
  exact Ok.get tb.1 f2 λ _ _=>sw _ _
 ·have h7:op=7:=by simpa using h7
  obtain ⟨f1,f2,f3⟩:=fld (by omega)
  rw[f3]
  exact Uc (Xha hw f1.1 f1.2 tb.1 f2) λ y hy=>Wg (up hy)
 ·have h8:op=8:=by simpa using h8
  obtain ⟨f1,f2,f3⟩:=fld (by omega)
  rw[(KD hw f1.1 f1.2).1,Xa]
  exact Ok.get tb.1 f2 λ _ _=>Uc (JZ hw hN1 _) λ y hy=>Wg (up hy)
 ·have h9:op=9:=by simpa using h9
  obtain ⟨f1,f2,f3⟩:=fld (by omega)
  rw[KI hw hN1 hv tc,Xa,f3]
  exact Uc (Xha hw f1.1 f1.2 tb.1 f2) λ y hy=>Wg (up hy)
 ·rw[KI hw hN1 hv tb,Xa]
  exact W9 (sw _ _) (sw _ _)
 ·exact Uc (JZ hw hN1 _) λ y hy=>Wg (up hy)
 have n4:¬ op=4:=by simpa using n4
 have n5:¬ op=5:=by simpa using n5
 have n6:¬ op=6:=by simpa using n6
 have n7:¬ op=7:=by simpa using n7
 have n8:¬ op=8:=by simpa using n8
 have n9:¬ op=9:=by simpa using n9
 have n10:¬ op=10:=by simpa using n10
 have n11:¬ op=11:=by simpa using n11
 refine Wo (λ _=>Uc (Xe8 hw hN1 _ _) λ y hy=>Wg (up hy)) λ nl=>?_
 have nl:¬ (op=13\/op=15):=by simpa using nl
 refine Wo (λ _=>Uc (Xgd hw hN1 _) λ y hy=>Wg (up hy)) λ nr=>?_
 have nr:¬ (op=12\/op=14\/op=16):=by simpa using nr
 refine Wo (λ _=>?_) λ n17=>Wo (λ _=>?_) λ n18=>?_
 ·rw[VR hw.loc hN1,Xa]
  exact Wg (up ⟨hw.kk,hw.things,hw.fields,XeV hw.loc _,hw.gloK,hw.weaK,hw.marksK,hw.rootsK⟩)
 ·rw[XaY hw.loc hN1,Xa]
  exact Uc (JZ (w:=⟨w.Conf,w.Things,(Zz w.Locals).1,w.Globals,w.Weaks,w.Marks,w.Roots⟩) ⟨hw.kk,hw.things,hw.fields,XaZ hw.loc,hw.gloK,hw.weaK,hw.marksK,hw.rootsK⟩ hN1 _) λ y hy=>Wg (up hy)
 have n17:¬ op=17:=by simpa using n17
 have n18:¬ op=18:=by simpa using n18
 rw[Wk (by omega),Wk (by omega),Wk (by omega),Wk (by omega)] at hz
 refine Uc (Xkc hw hN1 wf.m64 op x3 _ λ h20=>?_) λ y hy=>Wg (up hy)
 rw[Wm (.inr h20)] at hz
 unfold Xg9 at hz
 by_cases h1:(XD w a).2=0
 rotate_left
 ·rw[Wm h1] at hz;exact absurd hz h1
 rw[Wk (by simpa using h1),Wm h20,(thing h1).2.2,← hx3 (by omega)] at hz
 by_cases h2:YF w.Marks x3<0
 ·rw[Wm h2] at hz;cases hz
 ·omega
end
end Go.Sx
namespace Go.Sx
section
variable {N:Nat}
theorem Xmp {t:UU} {m:Int} (h0:0<=t.at_) (h1:t.at_<=m) (hm:m<=1000000) {a:Int} (ha:a<=1000000000):Ok (Qaa N t a) λ r=>0<=r.1/\(1<=a->r.1<a)/\0<=r.2.at_/\r.2.at_<=m+1:=by
 rw[Qaa]
 refine Wo (λ _=>Wg ⟨by simp,λ h=>by omega,h0,by simp only;omega⟩) λ hg=>?_
 have hg:=WI hg
 have rest:∀ x:Int,Ok (grd (a≠0) <| grd (a≠0) <| some (((wI ((x.tmod a)+a)).tmod a),(UU.mk t.L (wI (t.at_+1))))) λ r=>0<=r.1/\(1<=a->r.1<a)/\0<=r.2.at_/\r.2.at_<=m+1:=by
  intro x
  have b1:=Int.tmod_lt_of_pos x (show 0<a by omega)
  have b2 : -a<x.tmod a:=by
   have:=Int.tmod_lt_of_pos (-x) (show 0<a by omega)
   rw[Int.neg_tmod] at this
   omega
  have e:=Xc (n:=x.tmod a+a) (by omega) (by omega)
  have e2:=Xc (n:=t.at_+1) (by omega) (by omega)
  have c1:=Int.tmod_lt_of_pos (x.tmod a+a) (show 0<a by omega)
  have c2:=Int.tmod_nonneg a (show 0<=x.tmod a+a by omega)
  refine WS (by omega) (WS (by omega) (Wg ?_))
  simp only[e,e2]
  exact ⟨c2,λ _=>c1,by omega,by omega⟩
 refine In (Wo (λ h=>Ok.get h0 (Wr h) λ p _=>rest p) λ _=>rest _)
def TA (m:Int) (t:UU):Prop:=0<=t.at_/\t.at_<=m
theorem nxp {t:UU} {m a:Int} (h:TA m t) (hm:m<=1000000) (ha1:1<=a) (ha:a<=1000000000):Ok (Qaa N t a) λ r=>0<=r.1/\r.1<a/\TA (m+1) r.2:=(Xmp h.1 h.2 hm ha).mono λ r hr=>⟨hr.1,hr.2.1 ha1,hr.2.2⟩
theorem TA.le {t:UU} {m n:Int} (h:TA m t) (hn:m<=n):TA n t:=⟨h.1,by have:=h.2;omega⟩
theorem J0 {p:Iv} {t:UU} {m:Int} (hw:1<=p.Words.length) (hw2:p.Words.length<=1000) (h:TA m t) (hm:m+5<=1000000):Ok (Qbk N p t) λ r=>TA (m+3) r.2:=by
 rw[Qbk]
 have k2:∀ (t':UU) (x8:Bool),TA (m+1) t'->Ok (bif x8 then (bnd (Qaa N t' ((p.Words.length:Nat):Int)) λ y9=>bnd (Xb p.Words y9.1) λ p10=>some (p10,y9.2)) else bnd (Qaa N t' (if 6<((p.Words.length:Nat):Int) then 6 else ((p.Words.length:Nat):Int))) λ y11=>bnd (Xb p.Words (wI ((wI (((p.Words.length:Nat):Int)-1))-y11.1))) λ p12=>some (p12,y11.2)) λ r=>TA (m+3) r.2:= by
  intro t' x8 h'
  refine Wo (λ _=>Uc (nxp h' (by omega) (by omega) (by omega)) λ y hy=>Ok.get hy.1 hy.2.1 λ _ _=>Wg (hy.2.2.le (by omega))) λ _=>?_
  refine Uc (nxp h' (by omega) (by split<;>omega) (by split<;>omega)) λ y hy=>?_
  have h1:y.1<((p.Words.length:Nat):Int):=by
   have:=hy.2.1
   split at this<;>omega
  have h0:=hy.1
  rw[Xc (n:=((p.Words.length:Nat):Int)-1) (by omega) (by omega),Xc (n:=((p.Words.length:Nat):Int)-1-y.1) (by omega) (by omega)]
  exact Ok.get (by omega) (by omega) λ _ _=>Wg (hy.2.2.le (by omega))
 refine Uc (nxp h (by omega) (by omega) (by omega)) λ y hy=>Wo (λ _=>Uc (nxp hy.2.2 (by omega) (by omega) (by omega)) λ z hz=>Ok.get hz.1 hz.2.1 λ _ _=>Wg (hz.2.2.le (by omega))) λ _=>Wo (λ _=>?_) λ _=>?_
 ·exact Uc (nxp hy.2.2 (by omega) (by omega) (by omega)) λ z hz=>Ok.get hz.1 hz.2.1 λ _ _=>Uc (nxp hz.2.2 (by omega) (by omega) (by omega)) λ u hu=>Wg (hu.2.2.le (by omega))
 ·refine I7 (λ x8=>k2 _ x8 hy.2.2) λ j2 h2=>W9 (h2 _) (I7 (λ x7=>h2 _) λ j h=>W9 (h _) (h _))
theorem Xmq {p:Iv} {t:UU} {m:Int} (hw:1<=p.Words.length) (hw2:p.Words.length<=1000) (h:TA m t) (hm:m+30<=1000000):Ok (QcH N p t) λ r=>TA (m+20) r.2:=by
 rw[QcH]
 refine Uc (nxp h (by omega) (by omega) (by omega)) λ y1 h1=>Ok.get h1.1 h1.2.1 λ p2 _=>Wo (λ _=>?_) λ _=>?_
 ·refine Uc (nxp h1.2.2 (by omega) (by omega) (by omega)) λ y3 h3=>?_
  have e:=Xw h3.1 (by have:=h3.2.1;omega)
  refine WS (by rw[e];exact h3.1) ?_
  have hs:1<=ZF .i64 1 (wU y3.1)/\ZF .i64 1 (wU y3.1)<=1000:=by
   rw[e]
   have a:=h3.1
   have b:=h3.2.1
   have c:y3.1=0\/y3.1=1\/y3.1=2\/y3.1=3:=by omega
   rcases c with c | c | c | c<;>rw[c]<;>decide
  exact Uc (nxp h3.2.2 (by omega) (by omega) (by omega)) λ y4 h4=>Wg (h4.2.2.le (by omega))
 ·refine I7 (λ x5=>Wo (λ _=>?_) λ _=>Wo (λ _=>?_) λ _=>?_) λ j h=>W9 (h _) (h _)
  ·exact Uc (nxp h1.2.2 (by omega) (by omega) (by omega)) λ y6 h6=>Uc (nxp h6.2.2 (by omega) (by omega) (by omega)) λ y7 h7=>W9 (Uc (nxp h7.2.2 (by omega) (by omega) (by omega)) λ y8 h8=>Wg (h8.2.2.le (by omega))) (Wg (h7.2.2.le (by omega)))
  ·exact Uc (nxp h1.2.2 (by omega) (by omega) (by omega)) λ y9 h9=>Wg (h9.2.2.le (by omega))
  ·refine Uc (J0 hw hw2 h1.2.2 (by omega)) λ y10 h10=>Uc (nxp h10 (by omega) (by omega) (by omega)) λ y11 h11=>Uc (nxp h11.2.2 (by omega) (by omega) (by omega)) λ y12 h12=>?_
   have k:∀ (l:List Int) (at_ c:Int),TA (m+12) ⟨l,at_⟩->Ok (bif (p2==10) then (bnd (Qbk N p (UU.mk l at_)) λ y19 =>
    some ((Oi.mk p2 y10.1 y19.1 c),y19.2))
   else some ((Oi.mk p2 y10.1 (wU y11.1) c),(UU.mk l at_))) λ r=>TA (m+20) r.2:=λ l at_ c ht =>
    W9 (Uc (J0 hw hw2 ht (by omega)) λ y hy=>Wg (hy.le (by omega))) (Wg (ht.le (by omega)))
   refine In (W9 (Uc (J0 hw hw2 h12.2.2 (by omega)) λ y hy=>k _ _ _ (hy.le (by omega))) (Uc (nxp h12.2.2 (by omega) (by omega) (by omega)) λ y13 h13=>W9 (Uc (J0 hw hw2 h13.2.2 (by omega)) λ y hy=>k _ _ _ (hy.le (by omega))) (k _ _ _ (h13.2.2.le (by omega)))))
structure PB (k:Nat) (p:Iv):Prop where
 env:EB p.Env
 wor:WB k p.World
 ty:Vj p
 w1:1<=p.Words.length
 w2:p.Words.length<=k+1
theorem Xn4 (a b:W8) (op v e:Int):Ok (QdB N a b op v e) λ _=>True:=by
 rw[QdB]
 have k2:∀ x y:Bool,Ok (bif (op==19) then (bif (e==0) then some (Oj.mk x y v)
  else some (Oj.mk x y 0))
  else some (Oj.mk x y 0)) λ _=>True:=λ x y=>W9 (W9 (Wg trivial) (Wg trivial)) (Wg trivial)
 refine I7 (λ x=>I7 (λ y=>k2 x y) λ j h=>W9 (h _) (h _)) λ j h=>W9 (h _) (W9 (h _) (h _))
theorem Xo6 (hN:NB N) {k:Nat} {p:Iv} (hp:PB k p) (hk:k+1<=900) {d:Oi} (td:Xbu d):Ok (QbO N p d) λ r=>PB (k+1) r.1:=by
 have ty:=λ r (e:QbO N p d=some r)=>Qjh (N:=N) hp.ty td r e
 have main:Ok (QbO N p d) λ r=>EB r.1.Env/\WB (k+1) r.1.World/\1<=r.1.Words.length/\r.1.Words.length<=k+1+1:=by
  have w1:=hp.w1
  have w2:=hp.w2
  have up:=hp.wor.up hk
  rw[QbO]
  refine Wo (λ _=>?_) λ _=>?_
  ·refine Uc (JH hN hp.env) λ y1 h1=>In (W9 (Uc (XaH hN hp.wor hp.ty.2.1) λ y2 h2=>Wg ⟨h1,h2.up hk,w1,IC w2⟩) (Wg ⟨hp.env,up,w1,IC w2⟩))
  ·refine WH (Xj6 hN hp.env _ _ _ _) λ y26 e26 h26=>Uc (Xn4 _ _ _ _ _) λ y27 _=>Uc (Xkd hN hp.wor hk hp.ty.2.1 d.Op td.1 td.2.1 td.2.2 y27) λ y28 h28=>?_
   have k2:∀ w:WM,WB (k+1) w->Ok (α:=Iv×Int×Int) (bif (y26.2.2==0) then (bif (y26.2.1 != 0) then (grd (p.Words.length*8<=140737488355328) <| grd ((p.Words.length+1)*8<=140737488355328) <| some ((Iv.mk y26.1 w (p.Words++[y26.2.1])),y26.2.1,y26.2.2)) else some ((Iv.mk y26.1 w p.Words),y26.2.1,y26.2.2)) else some ((Iv.mk p.Env w p.Words),y26.2.1,y26.2.2)) λ r=>EB r.1.Env/\WB (k+1) r.1.World/\1<=r.1.Words.length/\r.1.Words.length<=k+1+1:= by
    intro w hw
    refine W9 (W9 (WS (by omega) (WS (by omega) (Wg ⟨h26,hw,?_,?_⟩))) (Wg ⟨h26,hw,w1,by simp only;omega⟩)) (Wg ⟨hp.env,hw,w1,by simp only;omega⟩)
    ·show 1<=(p.Words++[_]).length;rw[Wq];omega
    ·show (p.Words++[_]).length<=_;rw[Wq];simp;omega
   exact In (W9 (k2 y28.1 h28) (k2 p.World up))
 obtain ⟨r,e,h⟩:=main
 exact ⟨r,e,h.1,h.2.1,(ty r e).1,h.2.2.1,h.2.2.2⟩
end
end Go.Sx
namespace Go.Sx
section
variable {N:Nat}
theorem Xia {t:UU} {m:Int} (h:TA m t) (hm:m+5<=1000000):Ok (Qc9 N t) λ r=>TA (m+2) r.2:=by
 rw[Qc9]
 exact Uc (nxp h (by omega) (by omega) (by omega)) λ y hy=>Ok.get hy.1 hy.2.1 λ _ _=>Uc (nxp hy.2.2 (by omega) (by omega) (by omega)) λ z hz=>Ok.get hz.1 hz.2.1 λ _ _=>Wg (hz.2.2.le (by omega))
theorem Xe9 (c:WQ):Ok (Qcd N c) λ r=>EB r.1:=by
 rw[Qcd,Qeg,Yr,Xa]
 refine WH (Q:=λ r:Wn×Int=>HB r.1) ?_ λ y _ hy=>Wg ⟨hy,Zj,XbG,XbG,by simp,by simp⟩
 refine Wo (λ _=>Wg ZE) λ hv=>?_
 have hv:XY c=true:=by simpa using hv
 have hvc:=Xi.1 hv
 have hm:=X1 hv (i:=0) (by omega) (by omega)
 have e:=Xc (n:=c.Pages*c.PageWords) (by omega) (by omega)
 refine WS (by rw[e];omega) (WS (by omega) (Wg ⟨?_,?_⟩))
 ·show (List.replicate _ _).length<=_;rw[WC,e];omega
 ·show (List.replicate _ _).length<=_;rw[WC];omega
theorem Xke (c:WQ):Ok (Qft N c) λ r=>WB 0 r.1:=by
 rw[Qft,Yr,Xa]
 have z:∀ c:WQ,WB 0 ⟨c,[],zL,zT,zT,[],[]⟩:=λ c=>⟨by omega,by simp,λ x hx=>by simp at hx,Zj,by simp[zT],by simp[zT],by simp,by simp⟩
 exact W9 (Wg (z _)) (Wg (z _))
theorem Xkf {t:UU} {m:Int} (h:TA m t) (hm:m+5<=1000000):Ok (Qbl N t) λ r=>PB 0 r.1/\TA (m+3) r.2:=by
 have main:Ok (Qbl N t) λ r=>EB r.1.Env/\WB 0 r.1.World/\1<=r.1.Words.length/\r.1.Words.length<=1/\TA (m+3) r.2:=by
  rw[Qbl]
  refine Uc (Xia h hm) λ y1 h1=>Uc (Xe9 _) λ y2 h2=>Uc (Xke _) λ y3 h3=>Uc (nxp h1 (by omega) (by omega) (by omega)) λ y4 h4=>Wg ⟨⟨h2.heap,⟨h2.loc.1,by simp,h2.loc.2.2⟩,h2.glo,h2.wea,h2.pins,h2.roots⟩,⟨h3.kk,h3.things,h3.fields,⟨h3.loc.1,by simp,h3.loc.2.2⟩,h3.gloK,h3.weaK,h3.marksK,h3.rootsK⟩,by simp,by simp,h4.2.2.le (by omega)⟩
 obtain ⟨r,e,h1,h2,h3,h4,h5⟩:=main
 exact ⟨r,e,⟨h1,h2,QhT r e,h3,h4⟩,h5⟩
end
end Go.Sx
namespace Go.Sx
theorem Xhb {α:Type} {l:List α} {F:Nat->Int->Option (Ex Int Unit)} {p:α->Bool} (hl:l.length<=1000000)
 (hstep:∀ (n k:Nat) (x:α),l[k]? = some x->F (n+1) (k:Int)=bif p x then some (.ret (k:Int)) else F n ((k+1:Nat):Int))
 (hstop:∀ n:Nat,F (n+1) (l.length:Int)=some (.nxt ())):∀ (n k:Nat),k<=l.length->l.length-k<n->F n (k:Int)=some (match (l.drop k).findIdx? p with | some j=>.ret ((k+j:Nat):Int) | none=>.nxt ())
 | 0,k,_,hn=>by omega
 | n+1,k,hk,hn=>by
  by_cases h:k<l.length
  ·rw[hstep n k _ (Wd h),Wu h,List.findIdx?_cons]
   cases hp:p l[k]
   ·rw[Wa,Xhb hl hstep hstop n (k+1) (by omega) (by omega),Wk (by simp)]
    cases (l.drop (k+1)).findIdx? p with
    | none=>rfl
    | some j=>simp only[Iw];rw[show k+1+j=k+(j+1) by omega]
   ·rw[Wc,Wm rfl];simp
  ·obtain rfl:k=l.length:=by omega
   rw[hstop,WL (Uf _)]
   rfl
def JI {α:Type} (p:α->Bool) (l:List α):Int:=match l.findIdx? p with | some j=>(j:Int) | none=>-1
theorem JJ {α:Type} {l:List α} {F:Nat->Int->Option (Ex Int Unit)} {p:α->Bool} {N:Nat} (hl:l.length<=1000000) (hN:1000000<N)
 (hstep:∀ (n k:Nat) (x:α),l[k]? = some x->F (n+1) (k:Int)=bif p x then some (.ret (k:Int)) else F n ((k+1:Nat):Int))
 (hstop:∀ n:Nat,F (n+1) (l.length:Int)=some (.nxt ())):(bnd (F N 0) λ e=>exK e (λ r=>some r) λ _=>some (-1))=some (JI p l):=by
 have h:=Xhb hl hstep hstop N 0 (by omega) (by omega)
 rw[show ((0:Nat):Int)=0 from rfl,WT] at h
 rw[h,Xa,JI]
 cases l.findIdx? p with
 | none=>simp only[Xo]
 | some j=>simp only[XC,Ux]
theorem K1 {α:Type} (p:α->Bool) (l:List α):decide (JI p l>=0)=l.any p:=by
 unfold JI
 cases h:l.findIdx? p with
 | none =>
  rw[List.findIdx?_eq_none_iff] at h
  rw[show l.any p=false by rw[List.any_eq_false];intro x hx;rw[h x hx];simp]
  rfl
 | some j =>
  obtain ⟨hj,hp,_⟩:=List.findIdx?_eq_some_iff_getElem.1 h
  rw[show l.any p=true by rw[II];exact ⟨_,WU hj,hp⟩]
  exact Wh (by show ((j:Nat):Int)>=0;omega)
section
variable {N:Nat}
theorem Xmr (e:Ua):Qfb N e=some (!VN e):=by
 rw[Qfb]
 unfold VN
 cases decide (e.Gen<1)<;>cases decide (e.Gen>4294967295)<;>cases e.Live<;>cases (e.Ref != 0)<;>rfl
theorem XdF {α:Type} (p:α->Bool) (l:List α):(!l.any λ x=>!p x)=l.all p:=by
 rw[List.not_any_eq_all_not]
 congr 1
 funext x
 simp
theorem XbU {t:WG} (hl:TB t) (hN:1000000<N):Qev N t=some (YL t.Entries):=by
 unfold TB at hl
 rw[Qev,Qaz,QaF]
 rw[JJ (p:=λ e=>!VN e) hl hN (λ n k x e=>by
  have hk:=Xy e
  rw[Qai,XE hk,Wc,Xd,e,Xa,Xmr,Xa,Xh (by omega)]) (λ n=>by rw[Qai,Xu,Wa])]
 rw[Xa,Xa,K1,XdF,YL,show decide (((t.Entries.length:Nat):Int)<=64)=decide (t.Entries.length<=64) from decide_eq_decide.2 (by omega)]
 cases t.Entries.all VN<;>cases decide (t.Entries.length<=64)<;>rfl
theorem Xam {t:WG} (hl:t.Entries.length<=1000000):∀ (n k:Nat) (v:List Int),k<=t.Entries.length->t.Entries.length-k<n->v.length<=k ->
 QdD N t n (k:Int) v=some (v++XZ (t.Entries.drop k))
 | 0,k,v,_,hn,_=>by omega
 | n+1,k,v,hk,hn,hlv=>by
  rw[QdD]
  by_cases h:k<t.Entries.length
  ·rw[XE h,Wc,Xd,Wd h,Xa,Xh (by omega),Wu h,XZ]
   cases hL:t.Entries[k].Live
   ·rw[Wa,Xam hl n (k+1) v (by omega) (by omega) (by omega),UF (by rw[hL];simp)]
    rfl
   ·rw[Wc,Xe (by omega),Xam hl n (k+1) _ (by omega) (by omega) (by rw[Wq];simp;omega),UR (by rw[hL])]
    simp[XZ]
  ·obtain rfl:k=t.Entries.length:=by omega
   rw[Xu,Wa,WL (Uf _)]
   simp[XZ]
theorem Xan {t:WG} (hl:TB t) (hN:1000000<N):QeX N t=some (bif YL t.Entries then XZ t.Entries else []):=by
 rw[QeX,XbU hl hN,Xa]
 cases hv:YL t.Entries
 ·rfl
 ·have h:=Xam (N:=N) (t:=t) hl N 0 [] (by omega) (by unfold TB at hl;omega) (by simp)
  rw[show ((0:Nat):Int)=0 from rfl,WT,Uw] at h
  rw[Ws,Wa,h,Xa];rfl
theorem Xib (x:Int):Qfc N x=some (!(!decide (x<0)&&!decide (x>4095))):=by
 rw[Qfc,show decide (x>=4096)=decide (x>4095) from decide_eq_decide.2 (by omega)]
 cases decide (x<0)<;>cases decide (x>4095)<;>rfl
theorem XcP {a:Ww}:∀ (n:Nat) (s i:Int),QaD N ⟨a⟩ n s i=Qah N a n s i
 | 0,s,i=>by rw[QaD,Qah]
 | n+1,s,i=>by
  rw[QaD,Qah]
  have e:∀ s i,QaD N ⟨a⟩ n s i=Qah N a n s i:=XcP n
  simp only[e]
theorem XbV {a:Ww}:∀ (n:Nat) (s i:Int),QaK N ⟨a⟩ n s i=Qaj N a n s i
 | 0,s,i=>by rw[QaK,Qaj]
 | n+1,s,i=>by
  rw[QaK,Qaj]
  have e:∀ s i,QaK N ⟨a⟩ n s i=Qaj N a n s i:=XbV n
  have c:∀ p:UX,(p.Live==(p.Ref==0))=(!(p.Live==(p.Ref != 0))):=λ p=>by
   show (p.Live==(p.Ref==0))=(!(p.Live==!(p.Ref==0)))
   cases p.Live<;>cases (p.Ref==0)<;>rfl
  simp only[e,c]
theorem Xic {a:Ww} (hl:LBp a) (hne:neB a.Slots.length a.Scopes=true) {k:Nat} {p:U0} (hp:a.Scopes[k]? = some p):Qdv N ⟨a⟩ (k:Int)=some ((a.Slots.drop p.From.toNat).take ((toL a k).toNat-p.From.toNat)):=by
 have hf:=JD hne hp
 have hk:=Xy hp
 have hl2:=hl.2.1
 have hle:(Iu.mk a).Locals.Slots.length=a.Slots.length:=rfl
 rw[Qdv,Xh (by omega),toL]
 by_cases h:k+1<a.Scopes.length
 ·have e2:=Wd h
  have hf2:=JD hne e2
  have:=hf.2.2.2.2.2 _ e2
  rw[XE h,Wc,Xd,hp,Xa,Xd,e2,Xa,Xe (by omega)]
 ·rw[show decide (((k+1:Nat):Int)<((a.Scopes.length:Nat):Int))=false from Wj (by omega),Wa,Xd,hp,Xa,Xe (by omega),WP (by omega)]
  congr 1
  rw[U3]
  rw[WN];simp
theorem XbW (l:List UX) (hl:l.length<=1000000):∀ (n k c:Nat),k<=l.length->l.length-k<n->c<=k->Qbp N l n (c:Int) (k:Int)=some (((c+(l.drop k).countP (·.Live):Nat):Int))
 | 0,k,c,_,hn,_=>by omega
 | n+1,k,c,hk,hn,hc=>by
  rw[Qbp]
  by_cases h:k<l.length
  ·rw[XE h,Wc,Xd,Wd h,Xa,Xh (by omega),Xh (by omega),Wu h,List.countP_cons]
   cases hL:l[k].Live
   ·rw[Wa,XbW l hl n (k+1) c (by omega) (by omega) (by omega)];simp
   ·rw[Wc,XbW l hl n (k+1) (c+1) (by omega) (by omega) (by omega)];simp;omega
  ·obtain rfl:k=l.length:=by omega
   rw[Xu,Wa,WL (Uf _)];simp
theorem Xkg {a:Ww} (hl:LBp a) (hN:1000000<N) (hne:neB a.Slots.length a.Scopes=true) {k:Nat} {p:U0} (hp:a.Scopes[k]? = some p):QdI N ⟨a⟩ (k:Int)=some ((KB a.Slots p.From.toNat (toL a k).toNat:Nat):Int):=by
 have hl1:=hl.1
 rw[QdI,Xic hl hne hp,Xa]
 have hlen:((a.Slots.drop p.From.toNat).take ((toL a k).toNat-p.From.toNat)).length<=1000000:=by rw[Wy,WN];omega
 have h:=XbW (N:=N) _ hlen N 0 0 (by omega) (by omega) (by omega)
 rw[show ((0:Nat):Int)=0 from rfl,WT,Ux] at h
 rw[h,Xa];rfl
theorem Xfa {a:Ww} (hl:LBp a) (hN:1000000<N):Qfi N a=some (YV a):=by
 have hl':=hl
 obtain ⟨hl1,hl2,hl3⟩:=hl
 rw[Qfi,Qa9,Qbt]
 rw[JJ (p:=λ x=>!(!decide (x<0)&&!decide (x>4095))) hl3 hN (λ n k x e=>by
  have hk:=Xy e
  rw[Qax,XE hk,Wc,Xd,e,Xa,Xib,Xa,Xh (by omega)]) (λ n=>by rw[Qax,Xu,Wa])]
 have h2:=KZ (l:=a.Slots) (F:=λ n s i=>Qaj N a n s i) (q:=stQ a.Issued) (nxp:=λ _ p=>p.Stamp) (I:=λ s=>0<=s) (λ n s k p hs e=>by
  have hk:=Xy e
  show Qaj N a (n+1) s (k:Int)=_
  rw[Qaj,XE hk,Wc,Xd,e,Xa,Xh (by omega)]
  unfold stQ
  cases g1:decide (p.Stamp<=s)
  ·cases g2:decide (p.Stamp>((a.Issued.length:Nat):Int))
   ·have g1:=WI g1
    have g2:=WI g2
    rw[Wa,Wa,Xc (by omega) (by omega),Yj (by omega) (by omega),Xa]
    have ge:a.Issued[(p.Stamp-1).toNat]'(by omega)=a.Issued.getD (p.Stamp-1).toNat 0:=by
     rw[Wp,Wd (by omega)];rfl
    rw[ge]
    cases (a.Issued.getD (p.Stamp-1).toNat 0 != (k:Int))<;>cases (p.Live==(p.Ref != 0))<;>rfl
   ·rfl
  ·rfl) (λ n s=>by show Qaj N a (n+1) s _=_;rw[Qaj,Xu,Wa]) (λ s k p hs e hq=>by
   unfold stQ at hq
   simp only[WE,Uv,Ud] at hq
   have:=hq.1
   omega) N 0 0 (by omega) (by omega) (by omega)
 have h3:=KZ (l:=a.Scopes) (F:=λ n s i=>Qah N a n s i) (q:=neQ a.Slots.length) (nxp:=λ _ p=>p.From) (I:=λ _=>True) (λ n s k p hs e=>by
  have hk:=Xy e
  show Qah N a (n+1) s (k:Int)=_
  rw[Qah,XE hk,Wc,Xd,e,Xa,Xh (by omega)]
  unfold neQ
  cases ((k:Int)==0)<;>cases (p.From != 0)<;>cases p.Base<;>cases decide (p.From<s)<;>cases decide (p.From>((a.Slots.length:Nat):Int))<;>cases decide (p.Cap<0)<;>cases decide (p.Cap>64)<;>rfl) (λ n s=>by show Qah N a (n+1) s _=_;rw[Qah,Xu,Wa]) (λ _ _ _ _ _ _=>trivial) N 0 0 trivial (by omega) (by omega)
 rw[WT] at h2 h3
 have e2:Qaj N a N 0 0=some (bif stB a.Issued a.Slots then .nxt () else .ret false):=h2
 have e3:Qah N a N 0 0=some (bif neB a.Slots.length a.Scopes then .nxt () else .ret false):=h3
 have en:Qc7 N ⟨a⟩=some (!decide (((a.Scopes.length:Nat):Int)>64)&&((!(((a.Scopes.length:Nat):Int)==0)||!decide (((a.Slots.length:Nat):Int)>0))&&neB a.Slots.length a.Scopes)):=by
  rw[Qc7,XV,XcP,e3,Xa]
  cases neB a.Slots.length a.Scopes<;>cases decide (((a.Scopes.length:Nat):Int)>64)<;>cases (((a.Scopes.length:Nat):Int)==0)<;>cases decide (((a.Slots.length:Nat):Int)>0)<;>simp only[Wc,Wa,XC,Xo]<;>rfl
 have es:QcT N ⟨a⟩=some (stB a.Issued a.Slots):=by
  rw[QcT,XbV,e2,Xa]
  cases stB a.Issued a.Slots<;>simp only[Wc,Wa,XC,Xo]
 rw[Xa,Xa,K1,en,Xa,es,Xa,YV,Xmj]
 have ea:(a.Issued.any λ x=>!(!decide (x<0)&&!decide (x>4095))) = !(a.Issued.all λ p=>!decide (p<0)&&!decide (p>4095)):=by
  rw[← XdF,Bool.not_not]
 rw[ea]
 cases decide (((a.Issued.length:Nat):Int)>4096)
 rotate_left
 ·rfl
 cases (a.Issued.all λ p=>!decide (p<0)&&!decide (p>4095))
 ·cases decide (((a.Scopes.length:Nat):Int)>64)<;>cases (!(((a.Scopes.length:Nat):Int)==0)||!decide (((a.Slots.length:Nat):Int)>0))<;>rfl
 cases decide (((a.Scopes.length:Nat):Int)>64)
 rotate_left
 ·rfl
 cases (!(((a.Scopes.length:Nat):Int)==0)||!decide (((a.Slots.length:Nat):Int)>0))
 ·rfl
 cases hne:neB a.Slots.length a.Scopes
 ·cases stB a.Issued a.Slots<;>rfl
 cases stB a.Issued a.Slots
 ·rfl
 simp only[Wa,Ws,W0,WR,Bool.and_true]
 have h4:=Kz (l:=a.Scopes) (F:=Qdh N a) (q:=Xj2 a ()) (λ n k p e=>by
  have hk:=Xy e
  rw[Qdh,XE hk,Wc,Xd,e,Xa,Xkg hl' hN hne e,Xa,Xh (by omega)]
  unfold Xj2
  cases decide (((KB a.Slots p.From.toNat (toL a k).toNat:Nat):Int)>p.Cap)<;>rfl) (λ n=>by rw[Qdh,Xu,Wa]) (n:=N) (by omega)
 rw[h4,Xa]
 show exK (bif Xf1 a then Ex.nxt () else Ex.ret false) _ _=_
 cases Xf1 a
 ·rw[Wa,XC]
 ·rw[Wc,Xo]
theorem Xao {a:Ww} (hl:a.Slots.length<=1000000):∀ (n k:Nat) (v:List Int),k<=a.Slots.length->a.Slots.length-k<n->v.length<=k ->
 QdE N a n (k:Int) v=some (v++Ym (a.Slots.drop k))
 | 0,k,v,_,hn,_=>by omega
 | n+1,k,v,hk,hn,hlv=>by
  rw[QdE]
  by_cases h:k<a.Slots.length
  ·rw[XE h,Wc,Xd,Wd h,Xa,Xh (by omega),Wu h,Ym]
   cases hL:a.Slots[k].Live
   ·rw[Wa,Xao hl n (k+1) v (by omega) (by omega) (by omega),UF (by rw[hL];simp)]
    rfl
   ·rw[Wc,Xe (by omega),Xao hl n (k+1) _ (by omega) (by omega) (by rw[Wq];simp;omega),UR (by rw[hL])]
    simp[Ym]
  ·obtain rfl:k=a.Slots.length:=by omega
   rw[Xu,Wa,WL (Uf _)]
   simp[Ym]
theorem Xid {a:Ww} (hl:LBp a) (hN:1000000<N):Qgo N a=some (bif YV a then Ym a.Slots else []):=by
 rw[Qgo,Xfa hl hN,Xa]
 cases hv:YV a
 ·rfl
 ·have h:=Xao (N:=N) (a:=a) hl.1 N 0 [] (by omega) (by have:=hl.1;omega) (by simp)
  rw[show ((0:Nat):Int)=0 from rfl,WT,Uw] at h
  rw[Ws,Wa,h,Xa];rfl
end
end Go.Sx
namespace Go.Sx
theorem Zc (N:Nat) (c:WQ):QaT N c=some (XY c):=by
 rw[show QaT N c=Qaw N c by rw[QaT,Qaw]]
 exact Yr N c
theorem Xkh (N:Nat) (c:WQ):QcU N c=some (smC c):=by
 rw[show QcU N c=QbI N c by rw[QcU,QbI,Zc,Yr]]
 exact XgM N c
theorem K2 (N:Nat) (c:WQ) (w:Int):Qep N c w=some (XA c w):=by
 simp only[Qep,Zc,Xkh,Xa,XA,smC]
 cases hc:XY c with
 | false=>simp
 | true =>
  have h:=Xi.1 hc
  simp only[Ws,Wa,if_true,Uy]
  rw[Xc (n:=4*c.PageWords) (by omega) (by omega)]
  by_cases h1:w<1
  ·rw[Wm h1,Wk (show ¬ (True/\1<=w) from λ h=>by omega)]
  rw[Wk h1,Wm (show True/\1<=w from ⟨trivial,by omega⟩)]
  by_cases h2:w>4*c.PageWords
  ·rw[Wm h2];simp only[Wk (show ¬ w<=c.PageWords / 4 by omega),Wk (show ¬ c.PageWords>=w by omega),Wk (show ¬ 2*c.PageWords>=w by omega),Wk (show ¬ 3*c.PageWords>=w by omega),Wk (show ¬ 4*c.PageWords>=w by omega)]
  rw[Wk h2]
  by_cases h3:w<=c.PageWords / 4
  ·rw[Wm h3,Wm h3]
  rw[Wk h3,Wk h3,Xe (by omega),Xc (n:=w+c.PageWords) (by omega) (by omega),Xc (n:=w+c.PageWords-1) (by omega) (by omega),Ib (by omega)]
  have key:∀ k:Int,k*c.PageWords<=w+c.PageWords-1->w+c.PageWords-1<(k+1)*c.PageWords->(w+c.PageWords-1) / c.PageWords=k:=by
   intro k a b
   have b1:=Int.ediv_lt_of_lt_mul (show 0<c.PageWords by omega) b
   have a1:=Int.le_ediv_of_mul_le (show 0<c.PageWords by omega) a
   omega
  split
  ·rw[key 1 (by omega) (by omega)];rfl
  split
  ·rw[key 2 (by omega) (by omega)];rfl
  split
  ·rw[key 3 (by omega) (by omega)];rfl
  split
  ·rw[key 4 (by omega) (by omega)];rfl
  ·omega
theorem Xki (N:Nat) (c:WQ) (a:Int) (ha:a<=18446744073709551615):QfO N c a=Qda N c a:=by
 rw[VI]
 simp only[QfO,Zc,Xa,Uy]
 cases hc:XY c with
 | false=>simp
 | true =>
  have h:=Xi.1 hc
  have hm:=X1 hc (i:=0) (by omega) (by omega)
  simp only[Ws,Wa]
  rw[Wk (show ¬ (true=false) by simp),I4 c.PageWords c.Pages]
  rw[Xc (n:=c.Pages*c.PageWords) (by omega) (by omega),Xw (n:=c.Pages*c.PageWords) (by omega) (by omega)]
  by_cases h1:a<4096
  ·rw[Wm h1,Wk (by omega)]
  rw[Wk h1,Xw (n:=a-4096) (by omega) (by omega)]
  by_cases h2:a>=4096+c.Pages*c.PageWords
  ·rw[Wm (by omega),Wk (by omega)]
  rw[Wk (by omega),Wm (by omega),Xe (by omega),Xe (by omega)]
  rw[Xc (n:=a-4096) (by omega) (by omega),Ib (by omega),Ir (by omega)]
  have hd:0<=(a-4096) / c.PageWords:=Int.ediv_nonneg (by omega) (by omega)
  have hd2:(a-4096) / c.PageWords<=a-4096:=Int.ediv_le_self _ (by omega)
  rw[Xc (by omega) (by omega)]
theorem JK (N:Nat) (c:WQ) (p o:Int):Qd5 N c p o=Qbq N c p o:=by
 rw[ZP]
 simp only[Qd5,Zc,Xa,Uy]
 cases hc:XY c with
 | false=>simp
 | true =>
  have h:=Xi.1 hc
  simp only[Ws,Wa]
  rw[Wk (show ¬ (true=false) by simp)]
  by_cases h1:p<0
  ·rw[Wm h1,Wk (by omega)]
  rw[Wk h1]
  by_cases h2:p>=c.Pages
  ·rw[Wm h2,Wk (by omega)]
  rw[Wk h2]
  by_cases h3:o<0
  ·rw[Wm h3,Wk (by omega)]
  rw[Wk h3]
  by_cases h4:o>=c.PageWords
  ·rw[Wm h4,Wk (by omega)]
  rw[Wk h4,Wm (by omega)]
  have hm:=X1 hc (i:=p) (by omega) (by omega)
  rw[Xc (n:=p*c.PageWords) (by omega) (by omega),Xc (n:=p*c.PageWords+o) (by omega) (by omega),Xw (n:=p*c.PageWords+o) (by omega) (by omega),Xw (by omega) (by omega)]
  unfold Xg;rw[Int.add_assoc]
def ZO (sp:Int) (p:Wv):Bool:=p.Kind==3&&p.Space==sp
def JL (ps:List Wv) (sp:Int) (i:Nat):Nat:=((ps.drop i).takeWhile (ZO sp)).length
theorem Xfb (N:Nat) (ps:List Wv) (sp:Int) (hl:ps.length<=1000000):∀ (n c i:Nat),i<=ps.length->c<=i->ps.length-i<n->QcD N ps sp n (c:Int) (i:Int)=some (((c+JL ps sp i:Nat):Int))
 | 0,c,i,_,_,h=>by omega
 | n+1,c,i,h,hc,hn=>by
  rw[QcD]
  by_cases hlt:i<ps.length
  ·rw[Wh (by omega),Wc,Xd,Wd hlt,Xa,Xa]
   have hd:ps.drop i=ps[i]::ps.drop (i+1):=Wu hlt
   unfold JL
   rw[hd,List.takeWhile_cons]
   cases h1:(ps[i].Kind==3) with
   | false=>simp[ZO,h1]
   | true =>
    rw[Wc]
    cases h2:(ps[i].Space==sp) with
    | false=>simp[ZO,h1,h2]
    | true =>
     rw[Wc,show ZO sp ps[i]=true by simp[ZO,h1,h2],Wm rfl]
     rw[Xh (by omega),Xh (by omega),Xfb N ps sp hl n (c+1) (i+1) (by omega) (by omega) (by omega)]
     unfold JL
     rw[Ub];congr 1;omega
  ·have:ps.drop i=[]:=WL (by omega)
   rw[Wj (by omega),Wa];simp[JL,this]
theorem Xkj {N:Nat} (ps:List Wv) (sp:Int) (hl:ps.length<=1000000) (hN:1000000<N) (i:Nat) (hi:i<ps.length):Qes N ps (i:Int) sp=some ((JL ps sp (i+1):Nat):Int):=by
 rw[Qes,Xh (by omega),show (0:Int)=((0:Nat):Int) from rfl,Xfb N ps sp hl N 0 (i+1) (by omega) (by omega) (by omega),Xa,Ux]
theorem VW {α:Type} (q:α->Bool):∀ (l:List α) (k:Nat),k<=(l.takeWhile q).length↔k<=l.length/\(l.take k).all q=true
 | [],k=>by simp
 | a::l,0=>by simp
 | a::l,k+1=>by
  rw[List.takeWhile_cons]
  cases h:q a with
  | false=>simp[h]
  | true=>simp[h];exact VW q l k |>.trans (by simp)
def X6 (sp:Int) (p:Wv):Bool:=ZO sp p&&(p.Used==0&&p.Pins==0)
theorem Xhc (N:Nat) (a1:List Wv) (a2:Int) (p1:Wv) (x5 y6:Int) (l:List Wv) (hl:l.length<=1000000)
 (hd:((a1.drop (wI (a2+1)).toNat).take ((wI (a2+y6)).toNat-(wI (a2+1)).toNat))=l) (hm:min ((wI (a2+y6)).toNat-(wI (a2+1)).toNat) (a1.length-(wI (a2+1)).toNat)=l.length) :
 ∀ (n k:Nat),k<=l.length->l.length-k<n->QeF N a1 a2 p1 x5 y6 n (k:Int)=some (if (l.drop k).all (X6 p1.Space)=true then .nxt () else .ret 0)
 | 0,k,_,h=>by omega
 | n+1,k,h,hn=>by
  rw[QeF,hd,hm]
  by_cases hlt:k<l.length
  ·rw[Wh (by omega),Wc,Xd,Wd hlt,Xa,Qez,Xa,Wu hlt,I9]
   have e:((l[k].Kind==3)&&((l[k].Space==p1.Space)&&((l[k].Used==0)&&(l[k].Pins==0))))=X6 p1.Space l[k]:=by
    unfold X6 ZO;rw[Bool.and_assoc]
   rw[e]
   cases hq:X6 p1.Space l[k] with
   | false=>simp
   | true =>
    rw[Ws,Wa,Xh (by omega),Xhc N a1 a2 p1 x5 y6 l hl hd hm n (k+1) (by omega) (by omega),WR]
  ·rw[Wj (by omega),Wa,WL (by omega)];rfl
def Ya (c:WQ) (ps:List Wv) (i:Nat) (p:Wv):Nat :=
 if p.Kind=0 then (if p.Space=0/\p.Used=0/\p.Pins=0 then 1 else 0)
 else if (p.Space=0\/p.Space=1)/\0<=p.Pins/\p.Pins<=2147483647 then
  (if p.Kind=1 then (if 0<=p.Used/\p.Used<=c.PageWords then 1 else 0)
   else if p.Kind=2 then (if 1<=XA c p.Used/\(XA c p.Used).toNat<=ps.length-i/\((ps.drop (i+1)).take ((XA c p.Used).toNat-1)).all (X6 p.Space)=true then (XA c p.Used).toNat else 0)
   else 0)
 else 0
theorem Zs (N:Nat) (p:Wv):QbD N p=some (decide (p.Space=0\/p.Space=1)):=by
 rw[QbD]
 by_cases h:p.Space=0
 ·simp[h]
 ·rw[show (p.Space==0)=false by simpa using h,Wa]
  by_cases h1:p.Space=1
  ·simp[h1]
  ·rw[show (p.Space==1)=false by simpa using h1,Wj (by omega)]
theorem J1 (N:Nat) (p:Wv):QcX N p=some (decide (0<=p.Pins/\p.Pins<=2147483647)):=by
 rw[QcX];exact XaV N p.Pins
theorem Ks {N:Nat} {c:WQ} {ps:List Wv} (hl:ps.length<=100000) (hN:1000000<N) {i:Nat} (hi:i<ps.length):QgI N c ps (i:Int)=some ((Ya c ps i ps[i]:Nat):Int):=by
 rw[QgI,Xd,Wd hi,Xa,XV]
 generalize hp:ps[i]=p
 unfold Ya
 by_cases k0:p.Kind<0
 ·rw[Wh k0,Wc,Wk (by omega),Wk (show ¬ p.Kind=1 by omega),Wk (show ¬ p.Kind=2 by omega)];simp
 rw[Wj k0,Wa]
 by_cases k3:p.Kind>=3
 ·rw[Wh k3,Wc,Wk (by omega),Wk (show ¬ p.Kind=1 by omega),Wk (show ¬ p.Kind=2 by omega)];simp
 rw[Wj k3,Wa]
 by_cases e0:p.Kind=0
 ·rw[show (p.Kind==0)=true by simpa using e0,Wc,Wm e0,Qfo,Xa]
  by_cases hz:p.Space=0/\p.Used=0/\p.Pins=0
  ·obtain ⟨z1,z2,z3⟩:=hz
   simp[z1,z2,z3]
  ·rw[Wk hz,show (((0:Int)==0)&&((p.Space==0)&&((p.Used==0)&&(p.Pins==0))))=false by
    rw[Bool.eq_false_iff];intro hh;simp only[WE,beq_iff_eq] at hh;exact hz ⟨hh.2.1,hh.2.2.1,hh.2.2.2⟩]
   rfl
 rw[show (p.Kind==0)=false by simpa using e0,Wa,Wk e0]
 by_cases hsp:(p.Space=0\/p.Space=1)
 case neg =>
  rw[Wk (λ hh=>hsp hh.1)]
  by_cases e1:p.Kind=1
  ·rw[show (p.Kind==1)=true by simpa using e1,Wc,Qdi,Zs,Xa,Wj hsp,Wa,Xa];rfl
  ·have e2:p.Kind=2:=by omega
   rw[show (p.Kind==1)=false by simpa using e1,Wa,show (p.Kind==2)=true by simpa using e2,Wc,Qdj,Zs,Xa,Wj hsp,Wa,Xa];rfl
 by_cases hpn:0<=p.Pins/\p.Pins<=2147483647
 case neg =>
  rw[Wk (λ hh=>hpn hh.2)]
  by_cases e1:p.Kind=1
  ·rw[show (p.Kind==1)=true by simpa using e1,Wc,Qdi,Zs,Xa,Wh hsp,Wc,J1,Xa,Wj hpn,Wa,Xa];rfl
  ·have e2:p.Kind=2:=by omega
   rw[show (p.Kind==1)=false by simpa using e1,Wa,show (p.Kind==2)=true by simpa using e2,Wc,Qdj,Zs,Xa,Wh hsp,Wc,J1,Xa,Wj hpn,Wa,Xa];rfl
 rw[Wm ⟨hsp,hpn⟩]
 by_cases e1:p.Kind=1
 ·rw[show (p.Kind==1)=true by simpa using e1,Wc,Qdi,Zs,Xa,Wh hsp,Wc,J1,Xa,Wh hpn,Wc,Wm e1]
  by_cases u0:0<=p.Used
  ·by_cases u1:p.Used<=c.PageWords
   ·simp[u0,u1,Xa]
   ·simp[u0,u1,Xa]
  ·simp[u0,Xa]
 have e2:p.Kind=2:=by omega
 rw[show (p.Kind==1)=false by simpa using e1,Wa,show (p.Kind==2)=true by simpa using e2,Wc,Qdj,Zs,Xa,Wh hsp,Wc,J1,Xa,Wh hpn,Wc,Wk e1,Wm e2]
 simp only[K2,Xa]
 by_cases hn1:XA c p.Used>=1
 case neg=>rw[Wj hn1,W0,Wc,Wk (λ hh=>hn1 hh.1)];rfl
 have hr:=Y7 c p.Used
 rw[Wh hn1,Ws,Wa,show ((2:Int) != 2)=false from rfl,Wa,Xc (n:=((ps.length:Nat):Int)-i) (by omega) (by omega)]
 by_cases hfit:XA c p.Used>((ps.length:Nat):Int)-i
 ·rw[Wh hfit,Wc,Wk (λ hh=>by have:=hh.2.1;omega)];rfl
 rw[Wj hfit,Wa]
 have w1:wI ((i:Int)+1)=((i+1:Nat):Int):=Xh (by omega)
 have w2:wI ((i:Int)+XA c p.Used)=(i:Int)+XA c p.Used:=Xc (by omega) (by omega)
 rw[Xe (by rw[w1,w2];omega)]
 have t1:(wI ((i:Int)+1)).toNat=i+1:=by rw[w1];omega
 have t2:(wI ((i:Int)+XA c p.Used)).toNat-(wI ((i:Int)+1)).toNat=(XA c p.Used).toNat-1:=by rw[t1,w2];omega
 rw[show (0:Int)=((0:Nat):Int) from rfl,Xhc N ps (i:Int) p 2 (XA c p.Used) ((ps.drop (i+1)).take ((XA c p.Used).toNat-1)) (by rw[Wy];omega) (by rw[t2,t1]) (by rw[t2,t1,Wy,WN]) N 0 (by omega) (by rw[Wy];omega),Xa,WT]
 by_cases hall:((ps.drop (i+1)).take ((XA c p.Used).toNat-1)).all (X6 p.Space)=true
 ·rw[Wm hall,Xo,Wm ⟨hn1,by omega,hall⟩];congr 1;omega
 ·rw[Wk hall,XC,Wk (λ hh=>hall hh.2.2)];rfl
end Go.Sx
namespace Go.Sx
theorem Xz {p:Prop} [Decidable p] (h:¬ p):decide p=false:=Wj h
theorem XcQ {N:Nat} {h:Wn} (hl:h.Pages.length<=100000) {sp:Int} (hsp:sp=0\/sp=1):∀ (k n i:Nat),i+k<=h.Pages.length->((h.Pages.drop i).take k).all (ZO sp)=true ->
 Qaq N h (n+k) (k:Int) (i:Int)=if ((h.Pages.drop i).take k).all (X6 sp)=true then Qaq N h n 0 ((i+k:Nat):Int) else some (.ret false)
 | 0,n,i,hik,ha=>by simp
 | k+1,n,i,hik,ha=>by
  have hlt:i<h.Pages.length:=by omega
  have hd:(h.Pages.drop i).take (k+1)=h.Pages[i]::(h.Pages.drop (i+1)).take k:=by rw[Wu hlt,Il]
  rw[hd,I9,WE] at ha
  rw[hd,I9,show n+(k+1)=(n+k)+1 from rfl,Qaq,Wh (by omega),Wc,Xd,Wd hlt,Xa]
  have ih:=XcQ (N:=N) hl hsp k n (i+1) (by omega) ha.2
  generalize h.Pages[i]=p at *
  have hk:p.Kind=3/\p.Space=sp:=by have:=ha.1;simp only[ZO,WE,beq_iff_eq] at this;exact this
  obtain ⟨hk3,hks⟩:=hk
  have q3:(p.Kind==3)=true:=by simpa using hk3
  rw[q3,Wh (show (((k+1:Nat):Int)>0) by omega),show (!(true==true))=false from rfl,Wa,Xz (show ¬ p.Space<0 by omega),Wa,Xz (show ¬ p.Space>1 by omega),Wa,XaV,Xa]
  by_cases hp:p.Pins=0
  case neg =>
   have hc:X6 sp p=false:=by simp[X6,hp]
   rw[hc,Um,Wk (by simp)]
   by_cases hp2:0<=p.Pins/\p.Pins<=2147483647
   ·rw[Wh hp2,Ws,Wa]
    simp only[XV,show (p.Kind==0)=false by rw[hk3];rfl,show (p.Kind==1)=false by rw[hk3];rfl,show (p.Kind==2)=false by rw[hk3];rfl,q3,Wa,Wc,show (p.Pins != 0)=true by simpa using hp,Bool.cond_self]
   ·rw[Wj hp2,W0,Wc]
  rw[Wh (show 0<=p.Pins/\p.Pins<=2147483647 by omega),Ws,Wa]
  simp only[XV,show (p.Kind==0)=false by rw[hk3];rfl,show (p.Kind==1)=false by rw[hk3];rfl,show (p.Kind==2)=false by rw[hk3];rfl,q3,Wa,Wc,show (p.Pins != 0)=false by simpa using hp]
  by_cases hu:p.Used=0
  ·have hc:X6 sp p=true:=by unfold X6;rw[ha.1];simp[hu,hp]
   rw[show (p.Used != 0)=false by simpa using hu,Wa,hc,WR,Xc (n:=((k+1:Nat):Int)-1) (by omega) (by omega),Xh (by omega)]
   have e:(if (0:Int)<((k+1:Nat):Int)-1 then ((k+1:Nat):Int)-1 else 0)=(k:Int):=by split<;>omega
   rw[e,ih,show i+1+k=i+(k+1) by omega]
  ·have hc:X6 sp p=false:=by simp[X6,hu]
   rw[show (p.Used != 0)=true by simpa using hu,Wc,hc,Um,Wk (by simp)]
theorem Xkk {α:Type} {p q:α->Bool} (h:∀ x,q x=true->p x=true):∀ {l:List α},l.all q=true->l.all p=true:=by
 intro l hl;rw[Ue] at *;exact λ x hx=>h x (hl x hx)
theorem Xie {N:Nat} {h:Wn} (hc:XY h.Conf=true) (hl:h.Pages.length<=100000) (hN:1000000<N) {i:Nat} (hi:i<h.Pages.length) (n:Nat) (hn:10<=n) :
 Qaq N h n 0 (i:Int)=if Ya h.Conf h.Pages i h.Pages[i]=0 then some (.ret false) else Qaq N h (n-Ya h.Conf h.Pages i h.Pages[i]) 0 ((i+Ya h.Conf h.Pages i h.Pages[i]:Nat):Int):=by
 obtain ⟨n,rfl⟩:∃ m,n=m+1:=⟨n-1,by omega⟩
 rw[Qaq,Wh (show (i:Int)<((h.Pages.length:Nat):Int) by omega),Wc,Xd,Wd hi,Xa]
 generalize h.Pages[i]=p
 have go:(if (0:Int)<wI (0-1) then wI (0-1) else 0)=0:=by rw[Xc (by omega) (by omega)];rfl
 have ge:wI ((i:Int)+1)=((i+1:Nat):Int):=Xh (by omega)
 generalize hs:Ya h.Conf h.Pages i p=s
 unfold Ya at hs
 have no:s=0->(if s=0 then some (.ret false) else Qaq N h (n+1-s) 0 ((i+s:Nat):Int))=some (.ret false):=λ e=>Wm e
 rw[Wj (show ¬ (0:Int)>0 by omega)]
 by_cases k3:p.Kind=3
 ·rw[show (p.Kind==3)=true by simpa using k3,show (!(true==false))=true from rfl,Wc]
  rw[Wk (show ¬ p.Kind=0 by omega),Wk (show ¬ p.Kind=1 by omega),Wk (show ¬ p.Kind=2 by omega),ite_self] at hs
  exact (no hs.symm).symm
 have q3:(p.Kind==3)=false:=by simpa using k3
 rw[q3,show (!(false==false))=false from rfl,Wa]
 by_cases hsp:p.Space=0\/p.Space=1
 case neg =>
  have z:s=0:=by
   rw[← hs,Wk (c:=(p.Space=0\/p.Space=1)/\_) (λ hh=>hsp hh.1)]
   split
   ·rw[Wk (λ hh=>hsp (.inl hh.1))]
   ·rfl
  rw[no z]
  by_cases h0:p.Space<0
  ·rw[Wh h0,Wc]
  ·rw[Xz h0,Wa,Wh (show p.Space>1 by omega),Wc]
 rw[Xz (show ¬ p.Space<0 by omega),Wa,Xz (show ¬ p.Space>1 by omega),Wa,XaV,Xa]
 by_cases hpn:0<=p.Pins/\p.Pins<=2147483647
 case neg =>
  have z:s=0:=by
   rw[← hs,Wk (c:=(p.Space=0\/p.Space=1)/\_) (λ hh=>hpn hh.2)]
   split
   ·rw[Wk (λ hh=>hpn (by omega))]
   ·rfl
  rw[no z,Xz hpn,W0,Wc]
 rw[Wm (c:=(p.Space=0\/p.Space=1)/\_) ⟨hsp,hpn⟩] at hs
 rw[Wh hpn,Ws,Wa]
 by_cases e0:p.Kind=0
 ·have q1:(p.Kind==1)=false:=by rw[e0];rfl
  have q2:(p.Kind==2)=false:=by rw[e0];rfl
  rw[Wm e0] at hs
  simp only[XV,show (p.Kind==0)=true by simpa using e0,q1,q2,q3,Wc,Wa,WR]
  by_cases hz:p.Space=0/\p.Used=0/\p.Pins=0
  ·rw[Wm hz] at hs
   subst hs
   obtain ⟨z1,z2,z3⟩:=hz
   rw[Wk (show ¬ (1:Nat)=0 by omega)]
   simp only[z1,z2,z3,show ((0:Int)==0)=true from rfl,ID,Ws,Wa,go,ge,Is]
  ·rw[Wk hz] at hs
   rw[no hs.symm,show ((p.Space==0)&&((p.Used==0)&&(p.Pins==0)))=false by
    rw[Bool.eq_false_iff];intro hh;simp only[WE,beq_iff_eq] at hh;exact hz ⟨hh.1,hh.2.1,hh.2.2⟩]
   rfl
 have q0:(p.Kind==0)=false:=by simpa using e0
 rw[Wk e0] at hs
 by_cases e1:p.Kind=1
 ·have q2:(p.Kind==2)=false:=by rw[e1];rfl
  rw[Wm e1] at hs
  simp only[XV,show (p.Kind==1)=true by simpa using e1,q0,q2,q3,Wc,Wa]
  by_cases u0:p.Used<0
  ·rw[Wk (by omega)] at hs
   rw[Wh u0,Wc,no hs.symm]
  rw[Xz u0,Wa]
  by_cases u1:p.Used>h.Conf.PageWords
  ·rw[Wk (by omega)] at hs
   rw[Wh u1,Wc,no hs.symm]
  rw[Wm (by omega)] at hs
  subst hs
  rw[Xz u1,Wa,Wk (show ¬ (1:Nat)=0 by omega),go,ge,Is]
 have q1:(p.Kind==1)=false:=by simpa using e1
 rw[Wk e1] at hs
 by_cases e2:p.Kind=2
 case neg =>
  have q2:(p.Kind==2)=false:=by simpa using e2
  rw[Wk e2] at hs
  simp only[XV,q0,q1,q2,q3,Wa]
  rw[no hs.symm]
 rw[Wm e2] at hs
 simp only[XV,show (p.Kind==2)=true by simpa using e2,q0,q1,q3,Wc,Wa,Zl (show 10<=N by omega),Xa]
 by_cases hn1:XA h.Conf p.Used<1
 ·rw[Wk (λ hh=>by omega)] at hs
  rw[Wh hn1,Wc,no hs.symm]
 have hr:=Y7 h.Conf p.Used
 rw[Xz hn1,Wa,Xkj h.Pages p.Space (by omega) hN i hi,Xa,Xc (n:=XA h.Conf p.Used-1) (by omega) (by omega)]
 obtain ⟨k,hk⟩:∃ k:Nat,XA h.Conf p.Used=((k+1:Nat):Int):=⟨(XA h.Conf p.Used).toNat-1,by omega⟩
 have hk1:(XA h.Conf p.Used).toNat=k+1:=by omega
 have tw:=VW (ZO p.Space) (h.Pages.drop (i+1)) k
 rw[hk1,Is,hk] at hs
 rw[hk]
 by_cases ht:((JL h.Pages p.Space (i+1):Nat):Int)<((k+1:Nat):Int)-1
 ·have hnot:¬ k<=((h.Pages.drop (i+1)).takeWhile (ZO p.Space)).length:=by unfold JL at ht;omega
  rw[Wk (λ hh=>hnot (tw.2 ⟨by rw[WN];omega,Xkk (λ x hx=>by unfold X6 at hx;rw[WE] at hx;exact hx.1) hh.2.2⟩))] at hs
  rw[Wh ht,Wc,no hs.symm]
 rw[Xz ht,Wa]
 have hyes:=tw.1 (by unfold JL at ht;omega)
 rw[WN] at hyes
 have e:(if (0:Int)<((k+1:Nat):Int)-1 then ((k+1:Nat):Int)-1 else 0)=(k:Int):=by split<;>omega
 rw[e,ge]
 obtain ⟨m,rfl⟩:∃ m,n=m+k:=⟨n-k,by have:=Y7 h.Conf p.Used;omega⟩
 rw[XcQ hl hsp k m (i+1) (by omega) hyes.2]
 by_cases hcl:((h.Pages.drop (i+1)).take k).all (X6 p.Space)=true
 ·rw[Wm (show 1<=((k+1:Nat):Int)/\k+1<=h.Pages.length-i/\_ from ⟨by omega,by omega,hcl⟩)] at hs
  subst hs
  rw[Wm hcl,Wk (show ¬ k+1=0 by omega),show m+k+1-(k+1)=m by omega,show i+1+k=i+(k+1) by omega]
 ·rw[Wk (λ hh=>hcl hh.2.2)] at hs
  rw[Wk hcl,no hs.symm]
theorem XbX {c:WQ} {ps:List Wv} {i:Nat} (hi:i<ps.length) {p:Wv}:Ya c ps i p<=ps.length-i/\Ya c ps i p<=4:=by
 have hr:=Y7 c p.Used
 unfold Ya
 split
 ·split<;>omega
 split
 ·split
  ·split<;>omega
  split
  ·split
   ·rename_i hh;have:=hh.2.1;omega
   ·omega
  ·omega
 ·omega
theorem XbY {N:Nat} {h:Wn} (hc:XY h.Conf=true) (hl:h.Pages.length<=100000) (hN:1000000<N):∀ (m i n n':Nat),i<=h.Pages.length->h.Pages.length-i<=m->h.Pages.length-i<n->h.Pages.length-i+10<=n'->Qae N h n (i:Int)=Qaq N h n' 0 (i:Int)
 | m,i,0,n',_,_,h1,_=>by omega
 | m,i,n+1,n',hi,hm,h1,h2=>by
  by_cases hlt:i<h.Pages.length
  ·rw[Qae,Wh (by omega),Wc,Ks hl hN hlt,Xa,Xie hc hl hN hlt n' (by omega)]
   have hs:=XbX (c:=h.Conf) hlt (p:=h.Pages[i])
   generalize Ya h.Conf h.Pages i h.Pages[i]=s at *
   by_cases h0:s=0
   ·subst h0;rw[Wm rfl];rfl
   ·rw[Wk h0,show (((s:Nat):Int)==0)=false by simpa using h0,Wa,Xc (by omega) (by omega),show (i:Int)+(s:Int)=((i+s:Nat):Int) by omega]
    obtain ⟨m',rfl⟩:∃ m',m=m'+1:=⟨m-1,by omega⟩
    exact XbY hc hl hN m' (i+s) n (n'-s) (by omega) (by omega) (by omega) (by omega)
  ·rw[Qae,Wj (by omega),Wa]
   obtain ⟨k,rfl⟩:∃ k,n'=k+1:=⟨n'-1,by omega⟩
   rw[Qaq,Wj (by omega),Wa]
theorem X8 {N:Nat} {h:Wn} (hl:h.Pages.length<=100000) (hN:1000000<N):Qb4 N h=Qab N h:=by
 rw[Qb4,Qab,Zc,Yr]
 simp only[Xa,XV]
 cases hc:XY h.Conf with
 | false=>rfl
 | true =>
 simp only[Ws,Wa,I4 h.Conf.PageWords h.Conf.Pages]
 have e:=XbY hc hl hN h.Pages.length 0 N N (by omega) (by omega) (by omega) (by omega)
 rw[show ((0:Nat):Int)=0 from rfl] at e
 rw[e]
 congr 2
 by_cases s0:h.Space=0
 ·simp[s0]
 ·rw[show (h.Space != 0)=true by simpa using s0,Wc]
  by_cases s1:h.Space=1
  ·simp[s1]
  ·rw[show (h.Space != 1)=true by simpa using s1,Wc]
   by_cases s2:h.Space<0
   ·simp[s2]
   ·rw[Xz s2,Wa,Wh (show h.Space>1 by omega),Wc]
end Go.Sx
namespace Go.Sx
section
variable {N:Nat}
theorem Xms {m:Int} (h0:0<=m) (h1:2*m+1<=18446744073709551615):bOr .u64 (m*2) 1=m*2+1:=by
 obtain ⟨n,rfl⟩:=UE h0
 have hb:IntKind.u64.bits=64:=rfl
 show IntKind.u64.wrap ((BitVec.ofInt IntKind.u64.bits ((n:Int)*2) ||| BitVec.ofInt IntKind.u64.bits 1).toNat:Int)=_
 rw[hb]
 have e1:BitVec.ofInt 64 ((n:Int)*2)=BitVec.ofNat 64 (n*2):=by
  rw[show (n:Int)*2=((n*2:Nat):Int) by omega];exact BitVec.ofInt_natCast 64 (n*2)
 have e2:BitVec.ofInt 64 (1:Int)=BitVec.ofNat 64 1:=by decide
 have hn:n*2 % 2 ^ 64=n*2:=I6 (by omega)
 have h3:=Nat.shiftLeft_add_eq_or_of_lt (i:=1) (b:=1) (by decide) n
 rw[Nat.shiftLeft_eq,Nat.pow_one] at h3
 rw[e1,e2,BitVec.toNat_or,Iq,Iq,hn,show 1 % 2 ^ 64=1 from rfl,← h3]
 show wU _=_
 rw[Xw (by omega) (by omega)]
 omega
theorem Xhd {a:Int} (h0:0<=a) (h1:a<=64):∀ (n k:Nat),(k:Int)<=a->(a-k).toNat<n->QeG N a n ((2:Int) ^ k-1) (k:Int)=some ((2:Int) ^ a.toNat-1)
 | 0,k,_,hn=>by omega
 | n+1,k,hk,hn=>by
  rw[QeG]
  have e:(if 64<(if a<0 then 0 else a) then 64 else (if a<0 then 0 else a))=a:=by
   rw[Wk (show ¬ a<0 by omega),Wk (by omega)]
  rw[e]
  by_cases h:(k:Int)<a
  ·have hp:(1:Int)<=2 ^ k:=Int.pow_pos (n:=(2:Int)) (m:=k) (by decide)
   have hq:(2:Int) ^ k<=2 ^ 63:=by
    have:2 ^ k<=2 ^ 63:=IX (by omega) (by omega)
    exact_mod_cast this
   have s1:ZF .u64 ((2:Int) ^ k-1) 1=wU (((2:Int) ^ k-1)*2):=rfl
   rw[Wh h,Wc,s1,Xw (by omega) (by omega),Xms (by omega) (by omega),Xh (by omega)]
   have e2:((2:Int) ^ k-1)*2+1=2 ^ (k+1)-1:=by rw[Int.pow_succ];omega
   rw[e2]
   exact Xhd h0 h1 n (k+1) (by omega) (by omega)
  ·rw[Wj h,Wa,show k=a.toNat by omega]
theorem VX {a:Int} (h0:0<=a) (h1:a<=64) (hN:1000<N):QdW N a=some ((2:Int) ^ a.toNat-1):=by
 have:=Xhd (N:=N) h0 h1 N 0 (by omega) (by omega)
 rw[QdW]
 rw[show ((2:Int) ^ 0-1)=0 from rfl,show ((0:Nat):Int)=0 from rfl] at this
 rw[this,Xa]
theorem Kt (hN:1000<N) (d:Wz):QcV N d=some (Xx d):=by
 rw[QcV,Xx]
 by_cases h1:d.Kind<0
 ·rw[Wh h1,Wc,Wj (by omega),Um]
 rw[Wj h1,Wa]
 by_cases h2:d.Kind>3
 ·rw[Wh h2,Wc,Wj (by omega),Um]
 rw[Wj h2,Wa]
 by_cases h3:d.Length<0
 ·rw[Wh h3,Wc,Wj (by omega),Um]
 rw[Wj h3,Wa]
 by_cases h4:d.Length>255
 ·rw[Wh h4,Wc,Wj (p:=0<=d.Kind/\d.Kind<=3/\0<=d.Length/\d.Length<=255) (by omega),Um]
 rw[Wj h4,Wa,Wh (p:=0<=d.Kind/\d.Kind<=3/\0<=d.Length/\d.Length<=255) (by omega),WR]
 by_cases h5:d.Kind=1
 ·rw[Wm h5,Yi h5,Wc,XV]
  by_cases h6:d.Length<=32
  ·rw[Wh h6,Wc,VX (by omega) (by omega) hN,Xa,WR,Xbr]
   exact congrArg some (decide_eq_decide.2 (by omega))
  ·rw[Wj h6,Wa,Um]
 ·rw[Wk h5,XS h5,Wa]
  simp only[BEq.rfl,WR]
  rfl
theorem YT (hN:1000<N) (d:Wz):Qb5 N d=some (XG d):=by
 rw[Qb5,Kt hN,Xa,XG]
 cases h:Xx d with
 | false=>rfl
 | true =>
  have:=XH h
  rw[Ws,Wa,Xc (n:=d.Length+1) (by omega) (by omega)]
  rfl
theorem Xkl (hN:1000<N) (d:Wz) (i:Int):QeH N d i=some (Kw d i):=by
 rw[QeH,Kt hN,Xa,Kw]
 cases h:Xx d with
 | false=>rfl
 | true =>
  have hb:=XH h
  rw[Ws,Wa,WR]
  by_cases h1:i<0
  ·rw[Wh h1,Wc,Wj (by omega),Um]
  rw[Wj h1,Wa]
  by_cases h2:i>=d.Length
  ·rw[Wh h2,Wc,Wj (by omega),Um]
  rw[Wj h2,Wa,Wh (p:=0<=i/\i<d.Length) (by omega),WR,Xw (n:=i) (by omega) (by omega)]
  by_cases h3:d.Kind=2
  ·rw[Yi h3,Wc,Wh h3,Bool.true_or]
  rw[XS h3,Wa,Wj h3,If]
  by_cases h4:d.Kind=1
  ·rw[Yi h4,Wc,Wh h4,WR,Xe (by omega)]
  ·rw[XS h4,Wa,Wj h4,Um]
theorem VY (hN:1000<N) (d:Wz) (hv:Xx d=true):∀ (n:Nat) (i:Int) (v:List Int),0<=i->i<=d.Length+1->(d.Length+1-i).toNat<n->v.length+(d.Length+1-i).toNat<=1000->QbP N d (d.Length+1) n i v=some (v++Yh d (d.Length-i).toNat i)
 | 0,i,v,_,_,hn,_=>by omega
 | n+1,i,v,h0,h1,hn,hl=>by
  have hb:=XH hv
  rw[QbP]
  by_cases h:i<d.Length+1
  ·rw[Wh h,Wc,Xkl hN,Xa,Xc (n:=i+1) (by omega) (by omega)]
   by_cases h2:i<d.Length
   ·obtain ⟨k,hk⟩:∃ k,(d.Length-i).toNat=k+1:=⟨(d.Length-i).toNat-1,by omega⟩
    have hk2:(d.Length-(i+1)).toNat=k:=by omega
    rw[hk,Yh]
    cases hp:Kw d i
    ·rw[Wa,VY hN d hv n (i+1) v (by omega) (by omega) (by omega) (by omega),hk2];simp
    ·rw[Wc,Xe (by omega),VY hN d hv n (i+1) _ (by omega) (by omega) (by omega) (by rw[Wq];simp only[Ub,UM];omega),hk2];simp
   ·have hp:Kw d i=false:=by
     unfold Kw
     rw[Wj (p:=0<=i/\i<d.Length) (by omega)];simp
    rw[hp,Wa,VY hN d hv n (i+1) v (by omega) (by omega) (by omega) (by omega),show (d.Length-i).toNat=0 by omega,show (d.Length-(i+1)).toNat=0 by omega]
    rfl
  ·rw[Wj h,Wa,show (d.Length-i).toNat=0 by omega]
   simp[Yh]
theorem Xif (hN:1000<N) (d:Wz) (hv:Xx d=true):Qeq N d=some (Zx d):=by
 have hb:=XH hv
 have hs:XG d=d.Length+1:=by unfold XG;rw[hv];rfl
 rw[Qeq,YT hN,Xa,hs,VY hN d hv N 0 [] (by omega) (by omega) (by omega) (by simp only[UM];omega),Xa,Zx,hv]
 simp
theorem XdG {l:List Int} (hl:l.length<=1000000) (hN:1000000<N):Qa6 N l 0=some (!l.all λ p=>!(p==0)):=by
 rw[Qa6,Qcx]
 rw[JJ (p:=λ x:Int=>(0==x)) hl hN (λ n j x e=>by
  have hk:=Xy e
  rw[QaM,XE hk,Wc,Xd,e,Xa,Xh (by omega)]) (λ n=>by rw[QaM,Xu,Wa])]
 rw[Xa,K1,← XdF,Bool.not_not]
 congr 2
 funext x
 rw[Bool.not_not]
 by_cases h:x=0
 ·subst h;rfl
 ·rw[XS h,XS (λ e=>h e.symm)]
def Xap:List (List Int)->Nat
 | []=>0
 | l::ls=>l.length+Xap ls
theorem XcR (ls:List (List Int)) (hl:ls.length<=1000):∀ (n k s:Nat),k<=ls.length->ls.length-k<n->s+Xap (ls.drop k)<=10000000->QaG N ls n (s:Int) (k:Int)=some (((s+Xap (ls.drop k):Nat):Int))
 | 0,k,s,_,hn,_=>by omega
 | n+1,k,s,hk,hn,hs=>by
  rw[QaG]
  by_cases h:k<ls.length
  ·rw[Wu h,Xap] at hs ⊢
   rw[XE h,Wc,Xd,Wd h,Xa,Xc (n:=(s:Int)+((ls[k].length:Nat):Int)) (by omega) (by omega),Wj (by omega),Wa,Xh (by omega)]
   have:=XcR ls hl n (k+1) (s+ls[k].length) (by omega) (by omega) (by omega)
   rw[show (s:Int)+((ls[k].length:Nat):Int)=((s+ls[k].length:Nat):Int) by omega,this,IS]
  ·obtain rfl:k=ls.length:=by omega
   rw[Xu,Wa,WL (Uf _)];simp[Xap]
theorem XcS (ls:List (List Int)) (hl:ls.length<=1000):∀ (n k:Nat) (v:List Int),k<=ls.length->ls.length-k<n->v.length+Xap (ls.drop k)<=10000000->QaH N ls n (k:Int) v=some (v++(ls.drop k).flatten)
 | 0,k,v,_,hn,_=>by omega
 | n+1,k,v,hk,hn,hs=>by
  rw[QaH]
  by_cases h:k<ls.length
  ·rw[Wu h,Xap] at hs
   rw[Wu h,XE h,Wc,Xd,Wd h,Xa,Xe (by omega),Xh (by omega),XcS ls hl n (k+1) _ (by omega) (by omega) (by rw[Wq];omega),List.flatten_cons,Ut]
  ·obtain rfl:k=ls.length:=by omega
   rw[Xu,Wa,WL (Uf _)];simp
theorem XcT (ls:List (List Int)) (hl:ls.length<=1000) (hs:Xap ls<=10000000) (hN:1000000<N):Qbo N ls=some ls.flatten:=by
 have h1:=XcR (N:=N) ls hl N 0 0 (by omega) (by omega) (by rw[WT];omega)
 have h2:=XcS (N:=N) ls hl N 0 [] (by omega) (by omega) (by rw[WT];simp;omega)
 rw[WT] at h1 h2
 rw[show ((0:Nat):Int)=0 from rfl,Ux] at h1
 rw[show ((0:Nat):Int)=0 from rfl,Uw] at h2
 have hg:Qa5 N ((Xap ls:Nat):Int)=some []:=by
  rw[Qa5,Wj (by omega),Wa,Xc (n:=(0:Int)) (by omega) (by omega),Int.sub_zero]
  have e:=Xc (n:=((Xap ls:Nat):Int)) (by omega) (by omega)
  by_cases h:(wI ((Xap ls:Nat):Int))>0
  ·rw[Wh h,Wc,Xe ⟨rfl,rfl⟩,Xe (by rw[e];omega),Xe (by rw[e];omega),Xe (by rw[e];omega),List.take_zero]
  ·rw[Wj h,Wa]
 rw[Qbo,h1,Xa,hg,Xa,h2,Xa]
end
end Go.Sx
namespace Go.Sx
section
variable {N:Nat}
theorem XdH {w:Int} (hw:tU w):Vl w=⟨w / 4 % 4,w / 16 % 4096,w / 65536 % 4294967296⟩:=by
 obtain ⟨h0,h1⟩:=hw
 unfold Vl
 rw[show X9 .u64 w 2=w / 4 from Zi w 2 (by omega) h0,show X9 .u64 w 4=w / 16 from Zi w 4 (by omega) h0,show X9 .u64 w 16=w / 65536 from Zi w 16 (by omega) h0]
 rw[show YA .u64 (w / 4) 3=w / 4 % 4 from Y5 (w / 4) 2 (by omega) (by omega) (by omega),show YA .u64 (w / 16) 4095=w / 16 % 4096 from Y5 (w / 16) 12 (by omega) (by omega) (by omega)]
 rw[Xc (by omega) (by omega),Xc (by omega) (by omega),XjH]
theorem Xn5 {w:Int} (hw:tU w):okH w=(Xx (Vl w)&&(decide (w / 281474976710656=0)&&decide (w % 4=1))):=by
 obtain ⟨h0,h1⟩:=hw
 unfold okH
 cases hv:Xx (Vl w) with
 | false=>rfl
 | true =>
  rw[WR,WR]
  have hb:=XH hv
  rw[XdH ⟨h0,h1⟩] at hb
  have hb:0<=w / 4 % 4/\w / 4 % 4<=3/\0<=w / 16 % 4096/\w / 16 % 4096<=255:=hb
  have e:Vk (Vl w)=1+4*(w / 4 % 4)+16*(w / 16 % 4096)+w / 65536 % 4294967296*65536:=by
   rw[XdH ⟨h0,h1⟩]
   unfold Vk
   have s:∀ x:Int,ZF .u64 x 16=wU (x*65536):=λ _=>rfl
   simp only[s]
   simp only[Xbr]
   omega
  rw[e]
  by_cases a:w / 281474976710656=0/\w % 4=1
  ·rw[Wh a.1,Wh a.2]
   simp only[ID,beq_iff_eq];omega
  ·have:(decide (w / 281474976710656=0)&&decide (w % 4=1))=false:=by
    rw[Bool.eq_false_iff];intro hh;simp only[WE,decide_eq_true_eq] at hh;exact a hh
   rw[this]
   simp only[IF,ne_eq];omega
theorem Xo7:Xb [(2:Int),2,12,32] 0=some 2:=by unfold Xb;rfl
theorem Xo8:Xb [(2:Int),2,12,32] 1=some 2:=by unfold Xb;rfl
theorem Xo9:Xb [(2:Int),2,12,32] 2=some 12:=by unfold Xb;rfl
theorem Xpa:Xb [(2:Int),2,12,32] 3=some 32:=by unfold Xb;rfl
theorem Xge (hN:1000000<N) {v:Int} (h0:0<=v) (h1:v<=18446744073709551615):Qf6 N v [2,2,12,32]=some (if v / 281474976710656=0 then ([v % 4,v / 4 % 4,v / 16 % 4096,v / 65536 % 4294967296],0) else ([],2)):=by
 obtain ⟨m,rfl⟩:∃ m,N=m+5:=⟨N-5,by omega⟩
 have l3:([(2:Int),2,12,32].length:Nat)=4:=rfl
 have i1:wI (0+1)=1:=Xc (by omega) (by omega)
 have i2:wI (1+1)=2:=Xc (by omega) (by omega)
 have i3:wI (2+1)=3:=Xc (by omega) (by omega)
 have i4:wI (3+1)=4:=Xc (by omega) (by omega)
 have j1:wI (64-2)=62:=Xc (by omega) (by omega)
 have j2:wI (62-2)=60:=Xc (by omega) (by omega)
 have j3:wI (60-12)=48:=Xc (by omega) (by omega)
 have j4:wI (48-32)=16:=Xc (by omega) (by omega)
 have e1:Qbz (m+5) v [2,2,12,32] (m+5) 64 0=some (.nxt ()):=by
  rw[Qbz,l3,Xo7]
  simp only[Xa,i1,j1]
  rw[Qbz,l3,Xo8]
  simp only[Xa,i2,j2]
  rw[Qbz,l3,Xo9]
  simp only[Xa,i3,j3]
  rw[Qbz,l3,Xpa]
  simp only[Xa,i4,j4]
  rw[Qbz,l3]
  rfl
 have o1:QdW (m+5) 2=some 3:=VX (by omega) (by omega) (by omega)
 have o2:QdW (m+5) 12=some 4095:=VX (by omega) (by omega) (by omega)
 have o3:QdW (m+5) 32=some 4294967295:=VX (by omega) (by omega) (by omega)
 have s1:X9 .u64 v 2=v / 4:=Zi v 2 (by omega) h0
 have s2:X9 .u64 (v / 4) 2=v / 4 / 4:=Zi (v / 4) 2 (by omega) (by omega)
 have s3:X9 .u64 (v / 4 / 4) 12=v / 4 / 4 / 4096:=Zi (v / 4 / 4) 12 (by omega) (by omega)
 have s4:X9 .u64 (v / 4 / 4 / 4096) 32=v / 4 / 4 / 4096 / 4294967296:=Zi (v / 4 / 4 / 4096) 32 (by omega) (by omega)
 have a1:YA .u64 v 3=v % 4:=Y5 v 2 (by omega) h0 h1
 have a2:YA .u64 (v / 4) 3=v / 4 % 4:=Y5 (v / 4) 2 (by omega) (by omega) (by omega)
 have a3:YA .u64 (v / 4 / 4) 4095=v / 4 / 4 % 4096:=Y5 (v / 4 / 4) 12 (by omega) (by omega) (by omega)
 have a4:YA .u64 (v / 4 / 4 / 4096) 4294967295=v / 4 / 4 / 4096 % 4294967296:=Y5 (v / 4 / 4 / 4096) 32 (by omega) (by omega) (by omega)
 have e2:QbA (m+5) [2,2,12,32] (m+5) v 0 []=some (v / 4 / 4 / 4096 / 4294967296,[v % 4,v / 4 % 4,v / 4 / 4 % 4096,v / 4 / 4 / 4096 % 4294967296]):=by
  rw[QbA,l3,Xo7]
  rw[Wh (by omega),Wc,Xa,o1,Xa,Xe (by simp),Xe (by omega),s1,a1,i1]
  rw[QbA,l3,Xo8]
  rw[Wh (by omega),Wc,Xa,o1,Xa,Xe (by simp),Xe (by omega),s2,a2,i2]
  rw[QbA,l3,Xo9]
  rw[Wh (by omega),Wc,Xa,o2,Xa,Xe (by simp),Xe (by omega),s3,a3,i3]
  rw[QbA,l3,Xpa]
  rw[Wh (by omega),Wc,Xa,o3,Xa,Xe (by simp),Xe (by omega),s4,a4,i4]
  rw[QbA,l3]
  rw[Wj (by omega),Wa]
  rfl
 rw[Qf6,e1,Xa,Xo,e2,Xa]
 have q0:v / 4 / 4=v / 16:=by omega
 have q1:v / 16 / 4096=v / 65536:=by omega
 have q2:v / 65536 / 4294967296=v / 281474976710656:=by omega
 rw[q0,q1,q2]
 by_cases h:v / 281474976710656=0
 ·rw[Wm h,h];rfl
 ·rw[Wk h,Zk h,Wc]
theorem Xkm (hN:1000000<N) {w:Int} (hw:tU w):Qfd N w=some (ZV w,okH w):=by
 obtain ⟨h0,h1⟩:=hw
 rw[Qfd,Xge hN h0 h1,Xa]
 unfold ZV
 rw[Xn5 ⟨h0,h1⟩]
 by_cases h:w / 281474976710656=0
 ·have g0:Xb [w % 4,w / 4 % 4,w / 16 % 4096,w / 65536 % 4294967296] 0=some (w % 4):=by unfold Xb;rfl
  have g1:Xb [w % 4,w / 4 % 4,w / 16 % 4096,w / 65536 % 4294967296] 1=some (w / 4 % 4):=by unfold Xb;rfl
  have g2:Xb [w % 4,w / 4 % 4,w / 16 % 4096,w / 65536 % 4294967296] 2=some (w / 16 % 4096):=by unfold Xb;rfl
  have g3:Xb [w % 4,w / 4 % 4,w / 16 % 4096,w / 65536 % 4294967296] 3=some (w / 65536 % 4294967296):=by unfold Xb;rfl
  rw[Wm h]
  simp only[g0,g1,g2,g3,Xa,show ((0:Int) != 0)=false from rfl,Wa,Xc (n:=w / 4 % 4) (by omega) (by omega),Xc (n:=w / 16 % 4096) (by omega) (by omega),Xng (n:=w / 65536 % 4294967296) (by omega) (by omega)]
  rw[Kt (by omega),Xa,← XdH ⟨h0,h1⟩,Wh h,WR]
  by_cases hm:w % 4=1
  ·rw[hm,show ((1:Int) != 1)=false from rfl,Wa,Wh rfl,Bool.and_true]
   cases Xx (Vl w)<;>rfl
  ·rw[show (w % 4 != 1)=true by simpa using hm,Wc,Wj hm,Of];rfl
 ·rw[Wk h,Wj h,Um,Of];rfl
theorem Xaq {ws:List Int} (hl:ws.length<=1000000) {a:Int} (ha:a<=18446744073709551615) (n:Int):Qew N ws a n=Qdl N ws a n:=by
 rw[Qew,Qdl]
 by_cases h1:a<4096
 ·rw[Wh h1,Wc,Wc]
 rw[Xz h1,Wa,Wa,Xw (n:=a-4096) (by omega) (by omega),Xw (n:=((ws.length:Nat):Int)) (by omega) (by omega),Xw (n:=4096+((ws.length:Nat):Int)) (by omega) (by omega)]
 rw[show decide (a-4096>((ws.length:Nat):Int))=decide (a>4096+((ws.length:Nat):Int)) from decide_eq_decide.2 (by omega)]
theorem Xfc {ws:List Int} (hl:ws.length<=1000000) {a:Int} (ha:a<=18446744073709551615):QfP N ws a=Qa3 N ws a:=by
 rw[QfP,Qa3,QgE,Qfh,Xaq hl ha]
theorem Xkn {ws:List Int} (hl:ws.length<=1000000) {a:Int} (ha:a<=18446744073709551615) (n:Int):Qgp N ws a n=QcN N ws a n:=by
 rw[Qgp,QcN,Xaq hl ha]
 by_cases h0:n<0
 ·rw[Wh h0,Wc,Wc]
 rw[Xz h0,Wa,Wa]
 congr 1
 funext y
 cases y.2 with
 | false=>rfl
 | true =>
  simp only[Ws,Wa,Qay,Xa]
  unfold grd
  by_cases g:0<=y.1/\y.1<=wI (y.1+n)/\wI (y.1+n)<=((ws.length:Nat):Int)
  ·rw[Wm g,Wm g,Wm (by omega)]
  ·rw[Wk g,Wk g]
structure HT (h:Wn):Prop where
 hb:HB h
 tw:XL h
theorem HT.word {h:Wn} (t:HT h) {i:Int} {w:Int} (e:Xb h.Words i=some w):tU w:=by
 have:=t.tw
 exact this w (Yq e)
theorem XdI (hN:NB N) {h:Wn} (ht:HT h) {a:Int} (ha:tU a):QeM N h a=Qat N h a:=by
 have hN':1000000<N:=by unfold NB at hN;omega
 have hb:=ht.hb
 unfold HB at hb
 rw[QeM,Qat,X8 (by omega) hN']
 obtain ⟨b,eb,hb2⟩:=Yn (N:=N) (by omega) (h:=h) (by omega) (by omega)
 rw[eb,Xa,Xa]
 cases b with
 | false=>rfl
 | true =>
 have hp:=hb2 rfl
 rw[Ws,Wa,Wa,Xki _ _ _ ha.2,VI,Wk (by rw[hp.conf];simp)]
 by_cases hr:4096<=a/\a<4096+h.Conf.Pages*h.Conf.PageWords
 case neg=>rw[Wk hr,Xa,Xa];rfl
 rw[Wm hr,Xa,Xa]
 simp only[show ((0:Int) != 0)=false from rfl,Wa]
 have po:=Xdr hp.conf hr.1 hr.2
 have hpl:=hp.pages
 generalize (a-4096) / h.Conf.PageWords=pn at *
 generalize (a-4096) % h.Conf.PageWords=po' at *
 have hpg:=hp.pgs pn (by omega) (by omega)
 have hsm:=hpg.small
 rw[YK (by omega) (by omega),Xa,Xa]
 generalize pg h.Pages pn=p at hsm ⊢
 rw[Qf9,Xfc (by omega) ha.2]
 have hcv:=Xi.1 hp.conf
 have hmm:=X1 hp.conf (i:=0) (by omega) (by omega)
 have ew:∃ w,Qa3 N h.Words a=some (w,0)/\tU w:=by
  rw[Qa3,Qfh,Qdl,Xz (show ¬ a<4096 by omega),Wa,Xw (n:=((h.Words.length:Nat):Int)) (by omega) (by omega),Xw (n:=4096+((h.Words.length:Nat):Int)) (by omega) (by omega),Xz (show ¬ a>4096+((h.Words.length:Nat):Int) by have:=hp.words;omega),Wa,Xw (n:=a-4096) (by omega) (by omega),Xc (n:=a-4096) (by omega) (by omega),Xc (by omega) (by omega),Xa]
  rw[Wh (show 1<=((h.Words.length:Nat):Int)-(a-4096) by have:=hp.words;omega),Ws,Wa,Xa]
  simp only[show ((0:Int) != 0)=false from rfl,Wa]
  have hg:=Yj (l:=h.Words) (i:=a-4096) (by omega) (by have:=hp.words;omega)
  exact ⟨_,by rw[hg,Xa],ht.word hg⟩
 obtain ⟨w,ew,tw⟩:=ew
 rw[ew,Xa,Xa,Xa,Xkm hN' tw,VH,Xa,Xa]
 simp only[YT (show 1000<N by omega),Yg,Xa,XV]
 have hs:=Xcz w
 generalize ZV w=d at *
 generalize XG d=s at *
 cases okH w with
 | false =>
  simp only[W0,Wc,Bool.cond_self]
 | true =>
  simp only[Ws,Wa]
  by_cases k1:p.Kind=1
  ·have k2:(p.Kind==2)=false:=by rw[k1];rfl
   simp only[show (p.Kind != 1)=false by simpa using k1,show (p.Kind==1)=true by simpa using k1,k2,Wc,Wa]
   by_cases u:po'>=p.Used
   ·rw[Wh u,Wc,Wc];rfl
   ·rw[Xz u,Wa,Wa]
    have hpo:po'<=64:=by omega
    by_cases z:wI (po'+s)>p.Used
    ·rw[Wh z,Wc]
     rw[Xc (n:=po'+s) (by omega) (by omega)] at z
     have:¬ s<=wI (p.Used-po'):=by
      rw[Xc (by omega) (by omega)];omega
     rw[Xz this];rfl
    ·rw[Xz z,Wa]
     rw[Xc (n:=po'+s) (by omega) (by omega)] at z
     have:=hsm k1
     rw[Xc (n:=p.Used-po') (by omega) (by omega),Wh (by omega)];rfl
  ·rw[show (p.Kind != 1)=true by simpa using k1,show (p.Kind==1)=false by simpa using k1]
   simp only[Wc,Wa]
   by_cases k2:p.Kind=2
   ·simp only[show (p.Kind != 2)=false by simpa using k2,show (p.Kind==2)=true by simpa using k2,Wc,Wa]
    by_cases u:po'>=p.Used
    ·rw[Wh u,Wc,Wc];rfl
    ·rw[Xz u,Wa,Wa]
     by_cases z:po'=0
     ·rw[show (po'==0)=true by simpa using z,show (po' != 0)=false by simpa using z,Wc,Wa]
      by_cases q:s=p.Used
      ·rw[show (s==p.Used)=true by simpa using q,show (s != p.Used)=false by simpa using q];rfl
      ·rw[show (s==p.Used)=false by simpa using q,show (s != p.Used)=true by simpa using q];rfl
     ·rw[show (po'==0)=false by simpa using z,show (po' != 0)=true by simpa using z];rfl
   ·simp only[show (p.Kind != 2)=true by simpa using k2,show (p.Kind==2)=false by simpa using k2,Wc,Wa,W0,Bool.cond_self]
end
end Go.Sx
namespace Go.Sx
section
variable {N:Nat}
def fnd (h:Wn) (a:Int):UJ:=⟨a,hdA h.Words a⟩
theorem Xfd (l:List UJ) (hl:l.length<=1000000):∀ (n k:Nat) (v:List Int),k<=l.length->l.length-k<n->v.length=k->QcY N l n (k:Int) v=some (v++(l.drop k).map (·.addr))
 | 0,k,v,_,h,_=>by omega
 | n+1,k,v,hk,hn,hv=>by
  rw[QcY]
  by_cases hlt:k<l.length
  ·rw[Wh (by omega),Wc,Xd,Wd hlt,Xa,Xe (by omega),Xh (by omega),Xfd l hl n (k+1) _ (by omega) (by omega) (by simp[hv]),Wu hlt,Ut,W7]
   rfl
  ·rw[Wj (by omega),Wa,WL (by omega)];simp
theorem XbZ (l:List UJ) (hl:l.length<=1000000) (hN:1000000<N):Qb8 N l=some (l.map (·.addr)):=by
 rw[Qb8,show (0:Int)=((0:Nat):Int) from rfl,Xfd l hl N 0 [] (by omega) (by omega) rfl,Xa];simp
theorem Xmt (h:Wn) (l:List Int):(l.map (fnd h)).map (·.addr)=l:=by
 rw[List.map_map];exact List.map_id'' (λ _=>rfl) l
def XqG (h:Wn):Ex (List Int×Int) (List Int)->List UJ×Int
 | .ret r=>([],19)
 | .nxt l=>(l.map (fnd h),0)
theorem XcU (hN:NB N) {h:Wn} (ht:HT h) (hp:UI h) {i:Int} (h0:0<=i) (h1:i<h.Pages.length) (hk:(pg h.Pages i).Kind=1\/(pg h.Pages i).Kind=2):∀ (n:Nat) (o:Int) (l:List Int),0<=o->(66-o).toNat<n->(l.length:Int)<=o->((pg h.Pages i).Kind=1->o<=64)->((pg h.Pages i).Kind=2->o=0) ->
 ∃ e,QaU N h i (pg h.Pages i) n o l=some e/\QbB N h i (pg h.Pages i) n o (l.map (fnd h))=some (XqG h e)/\(∀ r,e=.ret r->r=([],19))
 | 0,o,l,ho,hn,hl,k1,k2=>by
  rcases hk with hk | hk
  ·have:=k1 hk;omega
  ·have:=k2 hk;omega
 | n+1,o,l,ho,hn,hl,k1,k2=>by
  have hN':1000000<N:=by unfold NB at hN;omega
  have hv:=Xi.1 hp.conf
  have hpl:=hp.pages
  have hsm:=(hp.pgs i h0 h1).small
  have ho64:o<=64:=by rcases hk with hk | hk;exact k1 hk;have:=k2 hk;omega
  rw[QaU,QbB]
  by_cases hlt:o<(pg h.Pages i).Used
  case neg=>rw[Xz hlt,Wa,Wa];exact ⟨_,rfl,rfl,λ r e=>by cases e⟩
  have hopw:o<h.Conf.PageWords:=by
   rcases hk with hk | hk
   ·have:=hsm hk;omega
   ·have:=k2 hk;omega
  rw[Wh hlt,Wc,Wc,JK,ZP,hp.conf,Xa,Xa,Wk (by simp),Wm (by omega)]
  dsimp only
  have hpw:=X1 hp.conf (i:=i) h0 (by omega)
  have ha:tU (Xg h.Conf i o):=by unfold Xg;exact ⟨by omega,by omega⟩
  rw[show ((0:Int)==0)=true from rfl,Wc,XdI hN ht ha]
  obtain ⟨y,ey,hy⟩:=XeK hN ht.hb (Xg h.Conf i o)
  rw[ey,Xa,Xa]
  by_cases hy0:y.2=0
  case neg =>
   rw[show (y.2 != 0)=true by simpa using hy0,show (y.2==0)=false by simpa using hy0,Wc,Wa]
   exact ⟨_,rfl,rfl,λ r e=>by cases e;rfl⟩
  obtain ⟨_,_,hat,hhd⟩:=hy hy0
  have hsz:=ZN h.Words (Xg h.Conf i o)
  have hpi:=XeM hp.conf (p:=i) ho hopw
  rw[show (y.2 != 0)=false by simpa using hy0,show (y.2==0)=true by simpa using hy0,Wc,Wa,hhd,Xe (by omega)]
  rw[YT (by omega),Xa,hsz.1,Xe (by rw[W3];omega)]
  rw[show UJ.mk (Xg h.Conf i o) (hdA h.Words (Xg h.Conf i o))=fnd h (Xg h.Conf i o) from rfl]
  have em:l.map (fnd h)++[fnd h (Xg h.Conf i o)]=(l++[Xg h.Conf i o]).map (fnd h):=by simp
  rw[em]
  rcases hk with hk | hk
  ·have hu:=hsm hk
   rw[show ((pg h.Pages i).Kind==2)=false by rw[hk];rfl,Wa,Yg,Xa,hsz.1]
   have hat1:=hat.small
   rw[hpi.1,hpi.2] at hat1
   have:=hat1 hk
   rw[Xc (n:=o+szA h.Words (Xg h.Conf i o)) (by omega) (by omega)]
   exact XcU hN ht hp h0 h1 (.inl hk) n _ _ (by omega) (by omega) (by simp;omega) (λ _=>by omega) (λ k=>by omega)
  ·rw[show ((pg h.Pages i).Kind==2)=true by rw[hk];rfl,Wc]
   have hat2:=hat.large
   rw[hpi.1,hpi.2] at hat2
   have:=hat2 hk
   refine ⟨_,rfl,?_,λ r e=>by cases e⟩
   rw[Xc (n:=o+szA h.Words (Xg h.Conf i o)) (by omega) (by omega)]
   obtain ⟨m,rfl⟩:∃ m,n=m+1:=⟨n-1,by omega⟩
   rw[QbB,Xz (by omega),Wa];rfl
theorem YW {h:Wn} (hN:NB N) (hb:HB h) (ep:Qab N h=some true):UI h:=by
 obtain ⟨b,eb,hb2⟩:=Yn (N:=N) (by unfold NB at hN;omega) hb.1 hb.2
 rw[ep] at eb;cases eb;exact hb2 rfl
theorem Zd (hN:NB N) {h:Wn} (hb:HB h):∃ b,Qab N h=some b:=by
 obtain ⟨b,eb,_⟩:=Yn (N:=N) (by unfold NB at hN;omega) hb.1 hb.2
 exact ⟨b,eb⟩
theorem Xb0 (hN:NB N) {h:Wn} (ht:HT h) (ep:Qab N h=some true) {i:Int} (h0:0<=i) (h1:i<h.Pages.length):∃ r,Qau N h i=some r/\Qfj N h i=some (r.1.map (fnd h),r.2)/\(r.2≠0->r=([],19)):=by
 have hb:=ht.hb
 have hp:=YW hN hb ep
 rw[Qau,Qfj,ep,Xa,YK h0 h1,Xa,Xa,Ws,Wa,Xz (show ¬ i<0 by omega),Wa,Xz (show ¬ i>=_ by omega),Wa]
 have hkk:=(hp.pgs i h0 h1).kind
 have main:((pg h.Pages i).Kind=1\/(pg h.Pages i).Kind=2)->∃ r,(bnd (QaU N h i (pg h.Pages i) N 0 []) λ e=>exK e (λ r=>some r) λ y8=>some (y8,0))=some r/\QbB N h i (pg h.Pages i) N 0 []=some (r.1.map (fnd h),r.2)/\(r.2≠0->r=([],19)):=by
  intro hk
  obtain ⟨e,e1,e2,e3⟩:=XcU hN ht hp h0 h1 hk N 0 [] (by omega) (by unfold NB at hN;omega) (by simp) (λ _=>by omega) (λ _=>rfl)
  rw[e1,Xa]
  rw[UA] at e2
  rw[e2]
  cases e with
  | ret r=>rw[e3 r rfl];rw[XC];exact ⟨_,rfl,rfl,λ _=>rfl⟩
  | nxt l=>rw[Xo];exact ⟨_,rfl,rfl,λ h=>absurd rfl h⟩
 by_cases k1:(pg h.Pages i).Kind=1
 ·have:=main (.inl k1)
  rw[show ((pg h.Pages i).Kind==0)=false by rw[k1];rfl,show ((pg h.Pages i).Kind==3)=false by rw[k1];rfl,show ((pg h.Pages i).Kind != 1)=false by rw[k1];rfl]
  exact this
 by_cases k2:(pg h.Pages i).Kind=2
 ·have:=main (.inr k2)
  rw[show ((pg h.Pages i).Kind==0)=false by rw[k2];rfl,show ((pg h.Pages i).Kind==3)=false by rw[k2];rfl,show ((pg h.Pages i).Kind != 1)=true by rw[k2];rfl,show ((pg h.Pages i).Kind != 2)=false by rw[k2];rfl]
  exact this
 ·rw[show ((pg h.Pages i).Kind != 1)=true by simpa using k1,show ((pg h.Pages i).Kind != 2)=true by simpa using k2]
  simp only[Wc]
  refine ⟨([],0),?_,rfl,λ h=>absurd rfl h⟩
  by_cases k0:(pg h.Pages i).Kind=0
  ·rw[show ((pg h.Pages i).Kind==0)=true by simpa using k0,Wc]
  ·rw[show ((pg h.Pages i).Kind==0)=false by simpa using k0,show ((pg h.Pages i).Kind==3)=true by simp;omega];rfl
theorem QkA (hN:NB N) {h:Wn} (hb:HB h) (i:Int) {r:List Int×Int} (e:Qau N h i=some r):r.1.length<=64:=by
 have:=(QkE hN hb i).get_eq e
 exact this.2.1
theorem Xfe (hN:NB N) {h:Wn} (ht:HT h) (i:Int):Qfz N h i=Qau N h i:=by
 have hb:=ht.hb
 rw[Qfz,X8 (by have:=hb.2;omega) (by unfold NB at hN;omega)]
 obtain ⟨b,eb⟩:=Zd (N:=N) hN hb
 rw[eb,Xa]
 cases b with
 | false=>rw[Qau,eb,Xa];rfl
 | true =>
 by_cases h0:i<0
 ·rw[Qau,eb,Xa,Wh h0];rfl
 by_cases h1:i>=h.Pages.length
 ·rw[Qau,eb,Xa,Xz h0,Wh h1];rfl
 obtain ⟨r,e1,e2,e3⟩:=Xb0 hN ht eb (i:=i) (by omega) (by omega)
 rw[Ws,Wa,Xz h0,Wa,Xz h1,Wa,e2,Xa,e1]
 have hl:=QkA hN hb i e1
 by_cases z:r.2=0
 ·dsimp only
  rw[show (r.2 != 0)=false by simpa using z,Wa,XbZ _ (by rw[W3];omega) (by unfold NB at hN;omega),Xa,Xmt]
  congr 1;exact Prod.ext rfl z.symm
 ·dsimp only
  rw[show (r.2 != 0)=true by simpa using z,Wc,e3 z]
theorem Xhe (hN:NB N) {h:Wn} (ht:HT h) (ep:Qab N h=some true):∀ (n k:Nat) (l:List Int),k<=h.Pages.length->h.Pages.length-k<n->l.length<=64*k ->
 ∃ e,QaO N h n (k:Int) l=some e/\Qfl N h n (k:Int) (l.map (fnd h))=some (match e with | .ret r=>.ret (r.1.map (fnd h),r.2) | .nxt l=>.nxt (l.map (fnd h)))/\(∀ r,e=.ret r->r=([],19))/\(∀ l',e=.nxt l'->l'.length<=64*h.Pages.length)
 | 0,k,l,_,h,_=>by omega
 | n+1,k,l,hk,hn,hl=>by
  have hb:=ht.hb
  have hb2:=hb.2
  rw[QaO,Qfl]
  by_cases hlt:k<h.Pages.length
  case neg=>rw[Wj (show ¬ (k:Int)<_ by omega),Wa,Wa];refine ⟨_,rfl,rfl,?_,?_⟩<;>intro r e<;>cases e;omega
  rw[Wh (show (k:Int)<_ by omega),Wc,Wc]
  obtain ⟨r,e1,e2,e3⟩:=Xb0 hN ht ep (i:=(k:Int)) (by omega) (by omega)
  rw[e1,e2,Xa,Xa]
  have hr:=QkA hN hb (k:Int) e1
  dsimp only
  by_cases z:r.2=0
  ·rw[show (r.2 != 0)=false by simpa using z,Wa,Wa,Xe (by omega),Xe (by simp only[W3];omega),Xh (by omega),← List.map_append]
   exact Xhe hN ht ep n (k+1) _ (by omega) (by omega) (by rw[Wq];omega)
  ·rw[show (r.2 != 0)=true by simpa using z,Wc,Wc,e3 z]
   refine ⟨_,rfl,rfl,?_,?_⟩<;>intro r e<;>cases e;rfl
theorem Xmu (hN:NB N) {h:Wn} (ht:HT h):∃ r,QcM N h=some r/\QgZ N h=some (r.1.map (fnd h),r.2)/\(r.2≠0->r.1=[])/\r.1.length<=6400000:=by
 have hb:=ht.hb
 have hb2:=hb.2
 rw[QcM,QgZ,X8 (by omega) (by unfold NB at hN;omega)]
 obtain ⟨b,eb⟩:=Zd (N:=N) hN hb
 rw[eb,Xa,Xa]
 cases b with
 | false=>exact ⟨_,rfl,rfl,λ _=>rfl,by simp⟩
 | true =>
 rw[Ws,Wa,Wa]
 obtain ⟨e,e1,e2,e3,e4⟩:=Xhe hN ht eb N 0 [] (by omega) (by unfold NB at hN;omega) (by simp)
 rw[UA] at e2
 rw[show (0:Int)=((0:Nat):Int) from rfl,e1,e2,Xa,Xa]
 cases e with
 | ret r =>
  rw[XC]
  dsimp only
  rw[XC,e3 r rfl]
  exact ⟨_,rfl,rfl,λ _=>rfl,by simp⟩
 | nxt l =>
  have:=e4 l rfl
  rw[Xo]
  dsimp only
  rw[Xo]
  exact ⟨_,rfl,rfl,λ h=>absurd rfl h,by dsimp only;omega⟩
end
end Go.Sx
namespace Go.Sx
section
variable {N:Nat}
def Ku (f:UJ):Bool:=!(f.hd.Kind==0)
def Xff (h:Wn) (l:List Int):List Int:=l.filter λ a=>Ku (fnd h a)
theorem Xgf (l0:List UJ) (hl:l0.length<=1000000):∀ (n i j:Nat) (v:List UJ),i<=j->j<=l0.length->l0.length-j<n->v.length=l0.length->v.drop j=l0.drop j ->
 ∃ (i':Nat) (v':List UJ),Qcf N n (i:Int) (j:Int) v=some ((i':Int),v')/\v'.length=l0.length/\i'<=l0.length/\v'.take i'=v.take i++(l0.drop j).filter Ku
 | 0,i,j,v,_,_,h,_,_=>by omega
 | n+1,i,j,v,hij,hj,hn,hv,hd=>by
  rw[Qcf,Xe (by omega)]
  by_cases hlt:j<l0.length
  case neg =>
   rw[Wj (by omega),Wa]
   refine ⟨i,v,rfl,hv,by omega,?_⟩
   rw[WL (by omega)];simp
  have hjv:v[j]'(by omega)=l0[j]:=by
   have a:=Wu (l:=v) (i:=j) (by omega)
   have b:=Wu (l:=l0) (i:=j) (by omega)
   rw[hd,b] at a
   exact (Oa a).1.symm
  have hd1:v.drop (j+1)=l0.drop (j+1):=by
   have a:=Wu (l:=v) (i:=j) (by omega)
   have b:=Wu (l:=l0) (i:=j) (by omega)
   rw[hd,b] at a
   exact (Oa a).2.symm
  rw[Wh (by omega),Wc,Xd,Wd (by omega),Xa,Qd1,Xa,hjv,Wu hlt]
  cases hk:(l0[j].hd.Kind==0) with
  | true =>
   rw[Ws,Wa,Xh (by omega),UF (by unfold Ku;rw[hk];simp)]
   exact Xgf l0 hl n i (j+1) v (by omega) (by omega) (by omega) hv hd1
  | false =>
   rw[W0,Wc,Xd,Wd (by omega),Xa,Xh (by omega),Xh (by omega),UR (by unfold Ku;rw[hk];rfl)]
   rw[show ((i:Int)).toNat=i from rfl]
   obtain ⟨i',v',e1,e2,e3,e4⟩:=Xgf l0 hl n (i+1) (j+1) (v.set i l0[j]) (by omega) (by omega) (by omega) (by rw[Wx];exact hv) (by rw[List.drop_set_of_lt (by omega)];exact hd1)
   refine ⟨i',v',e1,e2,e3,?_⟩
   rw[e4,List.take_succ,IP (by omega),List.take_set_of_le (Uf _)]
   simp
theorem Xmv (l:List UJ) (hl:l.length<=1000000) (hN:1000000<N):Qag N l=some (JI (λ f=>f.hd.Kind==0) l):=by
 rw[Qag]
 exact JJ (p:=λ f:UJ=>f.hd.Kind==0) hl hN (λ n k x e=>by
  have hk:=Xy e
  rw[Qaf,XE hk,Wc,Xd,e,Xa,Qd1,Xa,Xh (by omega)]) (λ n=>by rw[Qaf,Xu,Wa])
theorem Xig (l:List UJ) (hl:l.length<=1000000) (hN:1000000<N):(bnd (Qag N l) λ y2 =>
 bif (y2==(-1)) then (bnd (Qb8 N l) λ y11 =>
  some (y11,(0:Int)))
 else bnd (Qcf N N y2 (wI (y2+1)) l) λ y9 =>
 grd (0<=y9.1/\y9.1<=((y9.2.length:Nat):Int)/\((y9.2.length:Nat):Int)<=((y9.2.length:Nat):Int)) <|
 grd (0<=y9.1/\y9.1<=(((((min y9.1.toNat y9.2.length)+(y9.2.length-y9.1.toNat))+(y9.2.length-(y9.1.toNat+(y9.2.length-y9.1.toNat)))):Nat):Int)) <|
 bnd (Qb8 N ((((y9.2.take y9.1.toNat)++(List.replicate (y9.2.length-y9.1.toNat) (UJ.mk 0 (Wz.mk 0 0 0))))++(y9.2.drop (y9.1.toNat+(y9.2.length-y9.1.toNat)))).take y9.1.toNat)) λ y12 =>
 some (y12,0))=some ((l.filter Ku).map (·.addr),0):=by
 rw[Xmv l hl hN,Xa]
 unfold JI
 cases hf:l.findIdx? (λ f=>f.hd.Kind==0) with
 | none =>
  have hall:l.filter Ku=l:=by
   rw[List.findIdx?_eq_none_iff] at hf
   rw[IE]
   intro x hx
   unfold Ku;rw[hf x hx];rfl
  dsimp only
  rw[show ((-1:Int)==-1)=true from rfl,Wc,XbZ l hl hN,Xa,hall]
 | some j =>
  obtain ⟨hj,hp,hb⟩:=List.findIdx?_eq_some_iff_getElem.1 hf
  dsimp only
  rw[show (((j:Nat):Int)==-1)=false by simp,Wa,Xh (by omega)]
  obtain ⟨i',v',e1,e2,e3,e4⟩:=Xgf (N:=N) l hl N j (j+1) l (by omega) (by omega) (by omega) rfl rfl
  rw[e1,Xa]
  dsimp only
  rw[Xe (by omega),Xe (by omega),show ((i':Int)).toNat=i' from rfl]
  have et:(((v'.take i')++(List.replicate (v'.length-i') (UJ.mk 0 (Wz.mk 0 0 0))))++(v'.drop (i'+(v'.length-i')))).take i'=v'.take i':=by
   rw[Ut,List.take_append_of_le_length (by rw[Wy];omega),List.take_take,Uz]
  have ef:l.filter Ku=l.take j++(l.drop (j+1)).filter Ku:=by
   conv=>lhs;rw[← IU j l,List.filter_append,Wu hj,UF (by unfold Ku;rw[hp];simp)]
   congr 1
   rw[IE]
   intro x hx
   obtain ⟨k,hk,rfl⟩:=WZ hx
   rw[Wy] at hk
   rw[List.getElem_take]
   have:=hb k (by omega)
   unfold Ku
   simpa using this
  rw[et,e4,← ef]
  have hle:(l.filter Ku).length<=l.length:=List.length_filter_le _ _
  rw[XbZ _ (by omega) hN,Xa]
theorem Xa3 {h:Wn} (y:List Int×Int) (hy:y.1.length<=1000000) (hev:∀ a∈y.1,Qat N h a=some (hdA h.Words a,0)):∀ (n k:Nat) (v:List Int),k<=y.1.length->y.1.length-k<n->v.length<=k ->
 QaA N h y n (k:Int) v=some (v++Xff h (y.1.drop k))
 | 0,k,v,_,hn,_=>by omega
 | n+1,k,v,hk,hn,hv=>by
  rw[QaA]
  by_cases hlt:k<y.1.length
  ·rw[Wh (by omega),Wc,Xd,Wd hlt,Xa,hev _ (WU hlt),Xa,Xh (by omega),Wu hlt,Xff]
   dsimp only
   by_cases hk:(hdA h.Words y.1[k]).Kind=0
   ·rw[show ((hdA h.Words y.1[k]).Kind != 0)=false by simpa using hk,Wa,Xa3 y hy hev n (k+1) v (by omega) (by omega) (by omega),UF (by simp[Ku,fnd,hk])]
    rfl
   ·rw[show ((hdA h.Words y.1[k]).Kind != 0)=true by simpa using hk,Wc,Xa,Xe (by omega),Xa3 y hy hev n (k+1) _ (by omega) (by omega) (by rw[Wq];simp;omega),UR (by simp[Ku,fnd,hk])]
    simp[Xff]
  ·rw[Wj (by omega),Wa,WL (by omega)];simp[Xff]
theorem JM (hN:NB N) {h:Wn} (ht:HT h):Qd6 N h=Qav N h:=by
 have hN':1000000<N:=by unfold NB at hN;omega
 obtain ⟨r,e1,e2,e3,_⟩:=Xmu hN ht
 obtain ⟨hs,hp,_⟩:=(Xaf hN ht.hb).get_eq e1
 have hlen:=hs.len
 rw[Qd6,Qav,e1,e2,Xa,Xa]
 dsimp only
 rw[show (0:Int)=((0:Nat):Int) from rfl,Xa3 r (by omega) hs.obj.ev N 0 [] (by omega) (by omega) (by simp),Xa,WT,Uw]
 by_cases z:r.2=0
 ·rw[show (r.2 != ((0:Nat):Int))=false by simpa using z,Wa]
  have:=Xig (N:=N) (r.1.map (fnd h)) (by rw[W3];omega) hN'
  rw[show ((0:Nat):Int)=0 from rfl,this,z]
  congr 2
  rw[List.filter_map,List.map_map]
  unfold Xff
  exact List.map_id'' (λ _=>rfl) _
 ·rw[show (r.2 != ((0:Nat):Int))=true by simpa using z,Wc,e3 z];rfl
end
end Go.Sx
namespace Go.Sx
section
variable {N:Nat}
def exM {α β γ:Type} (f:α->γ):Ex α β->Ex γ β
 | .ret a=>.ret (f a)
 | .nxt b=>.nxt b
theorem I8.tu {h:Wn} (hp:UI h) {a:Int} (ha:I8 h a):tU a:=by
 have:=ha.rng;have:=X1 hp.conf (i:=0) (by omega) (by have:=Xi.1 hp.conf;omega)
 exact ⟨by omega,by omega⟩
theorem XcV (hN:NB N) {h:Wn} (ht:HT h) (hp:UI h) {i:Int} (h0:0<=i) (h1:i<h.Pages.length) (l:List Int) (hl:l.length<=4096) (hat:∀ a∈l,I8 h a) (hev:∀ a∈l,Qat N h a=some (hdA h.Words a,0)):∀ (n k:Nat),k<=l.length->l.length-k<n ->
 ∃ e,QaV N h i l n (k:Int)=some e/\Qb9 N h i l n (k:Int)=some (exM (λ a=>(a,true)) e)/\∀ a,e=.ret a->a∈l
 | 0,k,_,hn=>by omega
 | n+1,k,hk,hn=>by
  rw[QaV,Qb9]
  by_cases hlt:k<l.length
  case neg=>rw[Wj (by omega),Wa,Wa];exact ⟨_,rfl,rfl,λ a e=>by cases e⟩
  have hm:=WU hlt
  have hne:1000<N:=by unfold NB at hN;omega
  have nx:=XcV hN ht hp h0 h1 l hl hat hev n (k+1) (by omega) (by omega)
  simp only[Wh (show (k:Int)<((l.length:Nat):Int) by omega),Wc,Xd,Wd hlt,Xa,XdI hN ht ((hat _ hm).tu hp),hev _ hm,YT hne,Yg,Xkh,XgM,YK h0 h1,Xh (show k<=140737488355328 by omega)]
  cases ((pg h.Pages i).Kind==1)<;>cases ((pg h.Pages i).Kind==2)<;>cases (decide (XG (hdA h.Words l[k])<=smC h.Conf))<;>cases ((hdA h.Words l[k]).Kind==0)
  all_goals simp only[Wc,Wa,Ws,W0]
  all_goals first
   | exact nx
   | exact ⟨_,rfl,rfl,λ a e=>by cases e;exact hm⟩
theorem Xih (hN:NB N) {h:Wn} (ht:HT h) (hp:UI h) {i:Int} (h0:0<=i) (h1:i<h.Pages.length) (l:List Int) (hl:l.length<=4096) (hat:∀ a∈l,I8 h a) (hev:∀ a∈l,Qat N h a=some (hdA h.Words a,0)) :
 ∃ a,QdO N h i l=some a/\∃ b,Qfk N h i l=some (b,a != 0):=by
 obtain ⟨e,e1,e2,e3⟩:=XcV hN ht hp h0 h1 l hl hat hev N 0 (by omega) (by unfold NB at hN;omega)
 rw[QdO,Qfk,show (0:Int)=((0:Nat):Int) from rfl,e1,e2,Xa,Xa]
 cases e with
 | ret a =>
  have:=(hat a (e3 a rfl)).rng
  simp only[exM,XC]
  exact ⟨a,rfl,a,by rw[show (a != ((0:Nat):Int))=true by simp;omega]⟩
 | nxt u=>simp only[exM,Xo];exact ⟨_,rfl,_,rfl⟩
theorem Xfg {h:Wn} (hf:(pg h.Pages 0).Kind≠3) (hl:h.Pages.length<=100000):∀ (n i:Nat),i<h.Pages.length->i<n->Qed N h n (i:Int)=QcZ N h n (i:Int)
 | 0,i,_,hn=>by omega
 | n+1,i,hi,hn=>by
  rw[Qed,QcZ,YK (by omega) (by omega),Xa,Xa]
  cases i with
  | zero=>rw[show decide (((0:Nat):Int)>0)=false from rfl,Wa,show ((pg h.Pages ((0:Nat):Int)).Kind==3)=false by simpa using hf,Wa]
  | succ j =>
   rw[Wh (by omega),Wc,Xc (by omega) (by omega),show ((j+1:Nat):Int)-1=(j:Int) by omega,Xfg hf hl n j (by omega) (by omega)]
theorem Xko (hN:NB N) {h:Wn} (hb:HB h) (hp:UI h) {i:Int} (h0:0<=i) (h1:i<h.Pages.length):Qgq N h i=Qej N h i:=by
 obtain ⟨k,rfl⟩:∃ k:Nat,i=(k:Int):=⟨i.toNat,by omega⟩
 have:=hb.2
 rw[Qgq,Qej,Xfg hp.first this N k (by omega) (by unfold NB at hN;omega)]
def JN (h:Wn) (a:Int):Int:=if (hdA h.Words a).Kind=0 then 1 else szA h.Words a
def Xn6 (h:Wn) (i:Int) (l:List Int) (k:Int):Bool:=l.any λ a=>decide (a-Xg h.Conf i 0<=k/\k<a-Xg h.Conf i 0+JN h a)
theorem Xhf (h:Wn) (hp:UI h) (i:Int) (h0:0<=i) (h1:i<h.Pages.length) (l:List Int) (k:Nat) (a:Int) (hk:l[k]? = some a) (x:Int) (hx:x<=256) (ha:4096<=a/\a<=8192):∀ (n:Nat) (w:Int) (u:List Bool),0<=w->(x-w).toNat<n->u.length<=1000 ->
 ∃ u',Qbb N h i l (k:Int) x n w u=some u'/\u'.length=u.length/\∀ j,j<u.length->u'.getD j false=(u.getD j false||decide (a-Xg h.Conf i 0+w<=j/\(j:Int)<a-Xg h.Conf i 0+x))
 | 0,w,u,_,hn,_=>by omega
 | n+1,w,u,hw,hn,hu=>by
  have hpl:=hp.pages
  have hv:=Xi.1 hp.conf
  have hm:=X1 hp.conf (i:=i) h0 (by omega)
  rw[Qbb]
  by_cases hlt:w<x
  case neg =>
   rw[Xz hlt,Wa]
   exact ⟨u,rfl,rfl,λ j hj=>by rw[Xz (show ¬ _ by omega),Bool.or_false]⟩
  have ad:Xg h.Conf i 0=4096+i*h.Conf.PageWords:=by unfold Xg;omega
  rw[Wh hlt,Wc,Xd,hk,Xa]
  rw[Xc (n:=a) (by omega) (by omega),Xc (n:=a-4096) (by omega) (by omega),Xc (n:=a-4096+w) (by omega) (by omega),Xc (n:=i*h.Conf.PageWords) (by omega) (by omega),Xc (n:=a-4096+w-i*h.Conf.PageWords) (by omega) (by omega),Xc (n:=w+1) (by omega) (by omega)]
  generalize hq:a-4096+w-i*h.Conf.PageWords=q
  have step:∀ v:List Bool,v.length=u.length->(∀ j,j<u.length->v.getD j false=(u.getD j false||decide ((j:Int)=q)))->∃ u',Qbb N h i l (k:Int) x n (w+1) v=some u'/\u'.length=u.length/\∀ j,j<u.length->u'.getD j false=(u.getD j false||decide (a-Xg h.Conf i 0+w<=j/\(j:Int)<a-Xg h.Conf i 0+x)):=by
   intro v hv1 hv2
   obtain ⟨u',e1,e2,e3⟩:=Xhf h hp i h0 h1 l k a hk x hx ha n (w+1) v (by omega) (by omega) (by omega)
   refine ⟨u',e1,e2.trans hv1,λ j hj=>?_⟩
   rw[e3 j (by omega),hv2 j hj,Bool.or_assoc]
   congr 1
   rw[← Bool.decide_or]
   exact decide_eq_decide.2 (by omega)
  by_cases q0:q>=0
  case neg =>
   rw[Xz q0,Wa]
   exact step u rfl λ j hj=>by rw[Xz (show ¬ (j:Int)=q by omega),Bool.or_false]
  rw[Wh q0,Wc,Xe (by omega)]
  by_cases q1:q<u.length
  case neg =>
   rw[Xz q1,Wa]
   exact step u rfl λ j hj=>by rw[Xz (show ¬ (j:Int)=q by omega),Bool.or_false]
  rw[Wh q1,Wc,Yj q0 q1,Xa]
  refine step _ (by rw[Wx]) λ j hj=>?_
  rw[Wp,Ih]
  by_cases hjq:q.toNat=j
  ·rw[Wm hjq,Wm (by omega),Wh (show (j:Int)=q by omega),Bool.or_true];rfl
  ·rw[Wk hjq,Xz (show ¬ (j:Int)=q by omega),Bool.or_false,Wp]
end
end Go.Sx
namespace Go.Sx
section
variable {N:Nat}
def Xii (h:Wn) (i:Int) (k:Int) (a:Int):Bool:=decide (a-Xg h.Conf i 0<=k/\k<a-Xg h.Conf i 0+JN h a)
theorem XdJ (h:Wn) (i:Int) (l:List Int) (k:Int):Xn6 h i l k=l.any (Xii h i k):=rfl
theorem Xkp (h:Wn) (a:Int):1<=JN h a/\JN h a<=256:=by
 have:=ZN h.Words a
 unfold JN;split<;>omega
theorem Xhg (hN:NB N) {h:Wn} (hp:UI h) (i:Int) (h0:0<=i) (h1:i<h.Pages.length) (l:List Int) (hl:l.length<=4096) (hat:∀ a∈l,I8 h a) (hev:∀ a∈l,Qat N h a=some (hdA h.Words a,0)):∀ (n k:Nat) (u:List Bool),k<=l.length->l.length-k<n->u.length<=1000 ->
 ∃ u',Qcr N h i l n (k:Int) u=some u'/\u'.length=u.length/\∀ j:Nat,j<u.length->u'.getD j false=(u.getD j false||(l.drop k).any (Xii h i (j:Int)))
 | 0,k,u,_,hn,_=>by omega
 | n+1,k,u,hk,hn,hu=>by
  have hv:=Xi.1 hp.conf
  have hm:=X1 hp.conf (i:=0) (by omega) (by omega)
  have hN':1000000<N:=by unfold NB at hN;omega
  rw[Qcr]
  by_cases hlt:k<l.length
  case neg =>
   rw[Wj (by omega),Wa,WL (by omega)]
   exact ⟨u,rfl,rfl,λ j hj=>by simp⟩
  have hmem:=WU hlt
  have hr:=(hat _ hmem).rng
  have hx:=Xkp h l[k]
  have hsz:=ZN h.Words l[k]
  have e:∀ kk:Int->Option (List Bool),(jn kk λ j1=>bif ((hdA h.Words l[k]).Kind==0) then j1 1 else j1 (XG (hdA h.Words l[k])))=kk (JN h l[k]):=by
   intro kk
   rw[XV]
   unfold JN
   rw[hsz.1]
   by_cases q:(hdA h.Words l[k]).Kind=0
   ·rw[Wm q,show ((hdA h.Words l[k]).Kind==0)=true by simpa using q,Wc]
   ·rw[Wk q,show ((hdA h.Words l[k]).Kind==0)=false by simpa using q,Wa]
  rw[Wh (by omega),Wc,Xd,Wd hlt,Xa,hev _ hmem,Xa,Yg,Xa]
  dsimp only
  rw[e]
  obtain ⟨u1,f1,f2,f3⟩:=Xhf (N:=N) h hp i h0 h1 l k l[k] (Wd hlt) (JN h l[k]) hx.2 (by omega) N 0 u (by omega) (by omega) hu
  rw[f1,Xa,Xh (by omega)]
  obtain ⟨u',g1,g2,g3⟩:=Xhg hN hp i h0 h1 l hl hat hev n (k+1) u1 (by omega) (by omega) (by omega)
  refine ⟨u',g1,g2.trans f2,λ j hj=>?_⟩
  rw[g3 j (by omega),f3 j hj,Bool.or_assoc,Wu hlt,List.any_cons]
  congr 2
  unfold Xii
  exact decide_eq_decide.2 (by omega)
theorem Xmw (hN:NB N) {h:Wn} (hp:UI h) (i:Int) (h0:0<=i) (h1:i<h.Pages.length) (l:List Int) (hl:l.length<=4096) (hat:∀ a∈l,I8 h a) (hev:∀ a∈l,Qat N h a=some (hdA h.Words a,0)) :
 ∃ u,QfG N h i l=some u/\u.length=h.Conf.PageWords.toNat/\∀ j:Nat,j<u.length->u.getD j false=Xn6 h i l (j:Int):=by
 have hv:=Xi.1 hp.conf
 rw[QfG,Xe (by omega),show (0:Int)=((0:Nat):Int) from rfl]
 obtain ⟨u,e1,e2,e3⟩:=Xhg hN hp i h0 h1 l hl hat hev N 0 (List.replicate h.Conf.PageWords.toNat false) (by omega) (by unfold NB at hN;omega) (by rw[WC];omega)
 rw[e1,Xa]
 rw[WC] at e2 e3
 refine ⟨u,rfl,e2,λ j hj=>?_⟩
 rw[e3 j (by omega),WT,XdJ,show (List.replicate h.Conf.PageWords.toNat false).getD j false=false by rw[Wp,IH];split<;>rfl,If]
def wdP (h:Wn) (i:Int) (k:Nat):Int:=wd h.Words (Xg h.Conf i 0+k)
theorem Xmx (hN:NB N) {h:Wn} (hb:HB h) (hp:UI h) {i:Int} (h0:0<=i) (h1:i<h.Pages.length) {k:Nat} (hk:(k:Int)<h.Conf.PageWords):QeO N h i (k:Int)=some (wdP h i k):=by
 have hv:=Xi.1 hp.conf
 have hpl:=hp.pages
 have hm:=X1 hp.conf (i:=i) h0 (by omega)
 rw[QeO,Qgl,ZP,hp.conf,Wk (by simp),Wm (by omega),Xa,Zw (by unfold BIG;have:=hb.1;omega),Xa,Xa]
 have ea:Xg h.Conf i (k:Int)=Xg h.Conf i 0+k:=by unfold Xg;omega
 have hw:=hp.words
 rw[ea,Wm (by unfold inW Xg;simp;omega)]
 rfl
theorem Xhh (hN:NB N) {h:Wn} (hb:HB h) (hp:UI h) {i:Int} (h0:0<=i) (h1:i<h.Pages.length) (u:List Bool) (hu:u.length=h.Conf.PageWords.toNat):∀ (n k:Nat),k<=u.length->u.length-k<n ->
 ∃ e,QbS N h i u n (k:Int)=some e/\((∃ j,k<=j/\j<u.length/\u.getD j false=false/\wdP h i j≠0)->∃ a,e=.ret a/\a≠0)/\((¬ ∃ j,k<=j/\j<u.length/\u.getD j false=false/\wdP h i j≠0)->e=.nxt ())
 | 0,k,_,hn=>by omega
 | n+1,k,hk,hn=>by
  have hv:=Xi.1 hp.conf
  have hpl:=hp.pages
  have hm:=X1 hp.conf (i:=i) h0 (by omega)
  rw[QbS]
  by_cases hlt:k<u.length
  case neg =>
   rw[Wj (by omega),Wa]
   exact ⟨_,rfl,λ ⟨j,a,b,_⟩=>by omega,λ _=>rfl⟩
  rw[Wh (by omega),Wc,Xd,Wd hlt,Xa,Xmx hN hb hp h0 h1 (by omega),Xa,Xh (by omega)]
  have hg:u.getD k false=u[k]:=by rw[Wp,Wd hlt];rfl
  have skip:(u[k]=true\/wdP h i k=0)->∃ e,QbS N h i u n ((k+1:Nat):Int)=some e/\((∃ j,k<=j/\j<u.length/\u.getD j false=false/\wdP h i j≠0)->∃ a,e=.ret a/\a≠0)/\((¬ ∃ j,k<=j/\j<u.length/\u.getD j false=false/\wdP h i j≠0)->e=.nxt ()):=by
   intro hs
   obtain ⟨e,e1,e2,e3⟩:=Xhh hN hb hp h0 h1 u hu n (k+1) (by omega) (by omega)
   refine ⟨e,e1,λ ⟨j,a,b,c,d⟩=>e2 ⟨j,?_,b,c,d⟩,λ hh=>e3 λ ⟨j,a,b⟩=>hh ⟨j,by omega,b⟩⟩
   by_cases hjk:j=k
   ·subst hjk
    rw[hg] at c
    rcases hs with hs | hs
    ·rw[hs] at c;cases c
    ·exact absurd hs d
   ·omega
  cases hc:u[k] with
  | true=>rw[Ws,Wa];exact skip (.inl hc)
  | false =>
   rw[W0,Wc]
   by_cases hz:wdP h i k=0
   ·rw[show (wdP h i k != 0)=false by simpa using hz,Wa];exact skip (.inr hz)
   ·rw[show (wdP h i k != 0)=true by simpa using hz,Wc,Qe5,Xa]
    refine ⟨_,rfl,λ _=>⟨_,rfl,?_⟩,λ hh=>absurd ⟨k,by omega,hlt,by rw[hg,hc],hz⟩ hh⟩
    rw[Xc (n:=i*h.Conf.PageWords) (by omega) (by omega),Xc (n:=4096+i*h.Conf.PageWords) (by omega) (by omega),Xc (by omega) (by omega),Xw (by omega) (by omega)]
    omega
end
end Go.Sx
namespace Go.Sx
section
variable {N:Nat}
def ZA (L x:Int):Int:=if L<(if x<0 then 0 else x) then L else (if x<0 then 0 else x)
theorem XdK {v:List Int} {lo hi:Nat} (h1:lo<=hi) (h2:hi<=v.length):(((v.take lo)++(List.replicate (hi-lo) 0))++(v.drop (lo+(hi-lo)))).length=v.length:=by
 simp only[Wq,Wy,WC,WN];omega
theorem Xmy {v:List Int} {lo hi:Nat} (h1:lo<=hi) (h2:hi<=v.length) (j:Nat):(((v.take lo)++(List.replicate (hi-lo) 0))++(v.drop (lo+(hi-lo)))).getD j 0=if lo<=j/\j<hi then 0 else v.getD j 0:=by
 simp only[Wp,UT,Wq,Wy,WC,WW,IH,Un]
 by_cases a:j<lo
 ·rw[Wm (by omega),Wm (by omega),Wm a,Wk (by omega)]
 by_cases b:j<hi
 ·rw[Wm (by omega),Wk (by omega),Wm (by omega),Wm (by omega)];rfl
 ·rw[Wk (by omega),Wk (by omega)]
  congr 2;omega
theorem Xfh (hN:NB N) {h:Wn} (ht:HT h) (hp:UI h) (i:Int) (h0:0<=i) (h1:i<h.Pages.length) (y4:List Int×Int) (hl:y4.1.length<=4096) (hat:∀ a∈y4.1,I8 h a) (hev:∀ a∈y4.1,Qat N h a=some (hdA h.Words a,0)):∀ (n k:Nat) (v:List Int),k<=y4.1.length->y4.1.length-k<n->v.length<=1000 ->
 ∃ v',QdF N h (Xg h.Conf i 0,0) y4 n (k:Int) v=some v'/\v'.length=v.length/\∀ j:Nat,j<v.length->v'.getD j 0=if (y4.1.drop k).any (Xii h i (j:Int))=true then 0 else v.getD j 0
 | 0,k,v,_,hn,_=>by omega
 | n+1,k,v,hk,hn,hv=>by
  have hcv:=Xi.1 hp.conf
  have hpl:=hp.pages
  have hm:=X1 hp.conf (i:=i) h0 (by omega)
  have hN':1000000<N:=by unfold NB at hN;omega
  rw[QdF]
  by_cases hlt:k<y4.1.length
  case neg =>
   rw[Wj (by omega),Wa,WL (by omega)]
   exact ⟨v,rfl,rfl,λ j hj=>by simp⟩
  have hmem:=WU hlt
  have hr:=(hat _ hmem).rng
  have hx:=Xkp h y4.1[k]
  have hsz:=ZN h.Words y4.1[k]
  have e:∀ kk:Int->Option (List Int),(jn kk λ j1=>bif ((hdA h.Words y4.1[k]).Kind != 0) then (bnd (some (XG (hdA h.Words y4.1[k]))) λ y9=>j1 y9) else j1 1)=kk (JN h y4.1[k]):=by
   intro kk
   rw[XV]
   unfold JN
   rw[hsz.1]
   by_cases q:(hdA h.Words y4.1[k]).Kind=0
   ·rw[Wm q,show ((hdA h.Words y4.1[k]).Kind != 0)=false by simpa using q,Wa]
   ·rw[Wk q,show ((hdA h.Words y4.1[k]).Kind != 0)=true by simpa using q,Wc,Xa]
  rw[Wh (show (k:Int)<((y4.1.length:Nat):Int) by omega),Wc,Xd,Wd hlt,Xa,XdI hN ht ((hat _ hmem).tu hp),hev _ hmem,Xa,YT (by omega)]
  dsimp only
  rw[e]
  have ad:Xg h.Conf i 0=4096+i*h.Conf.PageWords:=by unfold Xg;omega
  have w0:wI y4.1[k]=y4.1[k]:=Xc (by omega) (by omega)
  have w1:wI (Xg h.Conf i 0)=Xg h.Conf i 0:=Xc (by omega) (by omega)
  have w2:wI (y4.1[k]-Xg h.Conf i 0)=y4.1[k]-Xg h.Conf i 0:=Xc (by omega) (by omega)
  have w3:wI (y4.1[k]-Xg h.Conf i 0+JN h y4.1[k])=y4.1[k]-Xg h.Conf i 0+JN h y4.1[k]:=Xc (by omega) (by omega)
  simp only[w0,w1,w2,w3,Xh (show k<=140737488355328 by omega)]
  rw[Xe (by omega),Xe (by omega)]
  have cl:∀ x:Int,(if ((v.length:Nat):Int)<(if x<0 then 0 else x) then ((v.length:Nat):Int) else (if x<0 then 0 else x))=ZA v.length x:=λ _=>rfl
  simp only[cl]
  have c1:∀ x:Int,0<=ZA v.length x/\ZA v.length x<=v.length:=by intro x;unfold ZA;split<;>split<;>omega
  generalize hA:y4.1[k]-Xg h.Conf i 0=A at *
  have a1:=c1 A
  have a2:=c1 (A+JN h y4.1[k])
  have a3:ZA v.length A<=ZA v.length (A+JN h y4.1[k]):=by
   unfold ZA;repeat' split
   all_goals omega
  rw[Xe (by omega)]
  obtain ⟨v',g1,g2,g3⟩:=Xfh hN ht hp i h0 h1 y4 hl hat hev n (k+1) _ (by omega) (by omega) (by rw[XdK (v:=v) (lo:=(ZA v.length A).toNat) (hi:=(ZA v.length (A+JN h y4.1[k])).toNat) (by omega) (by omega)];exact hv)
  refine ⟨v',g1,by rw[g2,XdK (by omega) (by omega)],λ j hj=>?_⟩
  rw[g3 j (by rw[XdK (by omega) (by omega)];exact hj),Xmy (by omega) (by omega),Wu hlt,List.any_cons]
  have ec:Xii h i (j:Int) y4.1[k]=decide ((ZA v.length A).toNat<=j/\j<(ZA v.length (A+JN h y4.1[k])).toNat):=by
   unfold Xii
   rw[hA]
   refine decide_eq_decide.2 ?_
   unfold ZA
   repeat' split
   all_goals omega
  rw[ec]
  by_cases q:(ZA v.length A).toNat<=j/\j<(ZA v.length (A+JN h y4.1[k])).toNat
  ·rw[Wm q,Wh q,Bool.true_or,Wm rfl];exact ite_self _
  ·rw[Wk q,Wj q,If]
theorem Xmz (l:List Int) (hl:l.length<=1000000) (hN:1000000<N):QaE N l=some (JI (λ x=>x != 0) l):=by
 rw[QaE]
 exact JJ (p:=λ x:Int=>x != 0) hl hN (λ n k x e=>by
  have hk:=Xy e
  rw[Qap,XE hk,Wc,Xd,e,Xa,Qgr,Xa,Xh (by omega)]) (λ n=>by rw[Qap,Xu,Wa])
theorem Xkq (hN:NB N) {h:Wn} (ht:HT h) (ep:Qab N h=some true) {i:Int} (h0:0<=i) (h1:i<h.Pages.length) :
 ∃ a,Qek N h i=some a/\∃ b,QfQ N h i=some (b,a != 0):=by
 have hN':1000000<N:=by unfold NB at hN;omega
 have hb:=ht.hb
 have hp:=YW hN hb ep
 have hcv:=Xi.1 hp.conf
 have hpl:=hp.pages
 have hm:=X1 hp.conf (i:=i) h0 (by omega)
 have ad:Xg h.Conf i 0=4096+i*h.Conf.PageWords:=by unfold Xg;omega
 have hw:=hp.words
 obtain ⟨pw,hpw⟩:∃ pw:Nat,h.Conf.PageWords=(pw:Int):=⟨h.Conf.PageWords.toNat,by omega⟩
 have hin:Yc h.Words (Xg h.Conf i 0) pw:=by unfold Yc;omega
 have erd:QcN N h.Words (Xg h.Conf i 0) h.Conf.PageWords=some ((h.Words.drop (ix (Xg h.Conf i 0))).take pw,0):=by
  rw[hpw,XaT (by unfold BIG;have:=hb.1;omega) N _ pw (by omega),Wm hin]
 have eadr:Qbq N h.Conf i 0=some (Xg h.Conf i 0,0):=by rw[ZP,hp.conf,Wk (by simp),Wm (by omega)]
 have hau:Xg h.Conf i 0<=18446744073709551615:=by omega
 obtain ⟨hd,eh,hh0,hh1⟩:=Xdu N (h:=h) hp.first N i h0 h1 hb.2 (by have:=hb.2;unfold NB at hN;omega)
 have eh':Qej N h i=some hd:=by rw[Qej,eh,Xa]
 obtain ⟨r,er,hr,hlen⟩:=Qhg hN hb hp hd hh0 hh1
 obtain ⟨⟨hat,hev,_⟩,_,_⟩:=hr
 obtain ⟨u,eu,hu1,hu2⟩:=Xmw hN hp i h0 h1 r.1 (by omega) hat hev
 obtain ⟨e,e1,e2,e3⟩:=Xhh hN hb hp h0 h1 u hu1 N 0 (by omega) (by omega)
 rw[Qek,eh',Xa,er,Xa,eu,Xa,show (0:Int)=((0:Nat):Int) from rfl,e1,Xa]
 rw[QfQ,JK,eadr,Xa,Xkn (by have:=hb.1;omega) hau]
 dsimp only
 rw[erd,Xa,Xko hN hb hp h0 h1,eh',Xa,Xfe hN ht,er,Xa]
 dsimp only
 have hvl:((h.Words.drop (ix (Xg h.Conf i 0))).take pw).length=pw:=by
  rw[Wy,WN];unfold ix;unfold Yc at hin;omega
 obtain ⟨v,g1,g2,g3⟩:=Xfh hN ht hp i h0 h1 r (by omega) hat hev N 0 ((h.Words.drop (ix (Xg h.Conf i 0))).take pw) (by omega) (by omega) (by omega)
 have g1':QdF N h (Xg h.Conf i 0,0) r N 0 ((h.Words.drop (ix (Xg h.Conf i 0))).take pw)=some v:=g1
 have hul:u.length=pw:=by clear e2 e3;omega
 have hvL:v.length=pw:=by rw[g2,hvl]
 rw[g1',Xa,Xmz v (by clear e2 e3;omega) hN',Xa]
 have hany:decide (JI (λ x=>x != 0) v>=0)=v.any (λ x=>x != 0):=K1 _ v
 rw[hany]
 have hword:∀ j,j<pw->((h.Words.drop (ix (Xg h.Conf i 0))).take pw).getD j 0=wdP h i j:=by
  intro j hj
  unfold wdP wd ix
  rw[Wp,WW,Wm hj,Un,Wp]
  congr 2;omega
 clear hu1
 have iff1:v.any (λ x=>x != 0)=true↔∃ j,0<=j/\j<u.length/\u.getD j false=false/\wdP h i j≠0:=by
  rw[II]
  constructor
  ·rintro ⟨x,hx,hx0⟩
   obtain ⟨j,hj,rfl⟩:=WZ hx
   have hj':j<pw:=by omega
   have:=g3 j (by omega)
   rw[Wp,Wd hj,UB,hword j hj',WT,← XdJ] at this
   have hne:v[j]≠0:=by simpa using hx0
   refine ⟨j,US _,by omega,?_,?_⟩
   ·rw[hu2 j (by omega)]
    cases hc:Xn6 h i r.1 (j:Int) with
    | false=>rfl
    | true=>rw[hc,Wm rfl] at this;exact absurd this hne
   ·intro hz
    rw[hz,ite_self] at this;exact hne this
  ·rintro ⟨j,_,hj,hc,hz⟩
   have hj':j<v.length:=by omega
   refine ⟨v[j],WU hj',?_⟩
   have:=g3 j (by omega)
   rw[Wp,Wd hj',UB,hword j (by omega),WT,← XdJ,← hu2 j hj,hc,Wk (by simp)] at this
   rw[this];simpa using hz
 by_cases hex:∃ j,0<=j/\j<u.length/\u.getD j false=false/\wdP h i j≠0
 ·obtain ⟨a,rfl,ha⟩:=e2 hex
  rw[XC,iff1.2 hex]
  exact ⟨a,rfl,_,by rw[show (a != ((0:Nat):Int))=true by simpa using ha]⟩
 ·have hne:=e3 hex
  subst hne
  rw[Xo,show v.any (λ x=>x != 0)=false by rw[← IY];exact λ hh=>hex (iff1.1 hh)]
  exact ⟨_,rfl,_,rfl⟩
end
end Go.Sx
namespace Go.Sx
theorem KF {α β:Type} {L:Nat} {F:Nat->Int->Option (Ex α β)} {p:Nat->Prop} {Q:α->Prop} {u:β}
 (hbad:∀ n k,k<L->p k->∃ a,F (n+1) (k:Int)=some (.ret a)/\Q a)
 (hok:∀ n k,k<L->¬ p k->F (n+1) (k:Int)=F n ((k+1:Nat):Int))
 (hstop:∀ n,F (n+1) (L:Int)=some (.nxt u)):∀ (n k:Nat),k<=L->L-k<n ->
 ∃ e,F n (k:Int)=some e/\((∃ j,k<=j/\j<L/\p j)->∃ a,e=.ret a/\Q a)/\((¬ ∃ j,k<=j/\j<L/\p j)->e=.nxt u)
 | 0,k,_,hn=>by omega
 | n+1,k,hk,hn=>by
  by_cases hlt:k<L
  case neg =>
   obtain rfl:k=L:=by omega
   exact ⟨_,hstop n,λ ⟨j,a,b,_⟩=>by omega,λ _=>rfl⟩
  by_cases hp:p k
  ·obtain ⟨a,e,hq⟩:=hbad n k hlt hp
   exact ⟨_,e,λ _=>⟨a,rfl,hq⟩,λ hh=>absurd ⟨k,Uf _,hlt,hp⟩ hh⟩
  ·obtain ⟨e,e1,e2,e3⟩:=KF hbad hok hstop n (k+1) (by omega) (by omega)
   refine ⟨e,(hok n k hlt hp).trans e1,λ ⟨j,a,b,c⟩=>e2 ⟨j,?_,b,c⟩,λ hh=>e3 λ ⟨j,a,b⟩=>hh ⟨j,by omega,b⟩⟩
   by_cases hjk:j=k
   ·subst hjk;exact absurd c hp
   ·omega
section
variable {N:Nat}
theorem Xkr (l:List Int) (x:Int) (hl:l.length<=1000000) (hs:l.Pairwise (·<·)):∀ (n lo hi:Nat),lo<=hi->hi<=l.length->hi-lo<n->(∀ i (h:i<l.length),i<lo->l[i]<x)->(∀ i (h:i<l.length),hi<=i->x<=l[i]) ->
 ∃ k:Nat,Qan N l x n (lo:Int) (hi:Int)=some (k:Int)/\k<=l.length/\(∀ i (h:i<l.length),i<k->l[i]<x)/\(∀ i (h:i<l.length),k<=i->x<=l[i])
 | 0,lo,hi,_,_,hn,_,_=>by omega
 | n+1,lo,hi,h1,h2,hn,ha,hb=>by
  rw[Qan]
  by_cases hlt:lo<hi
  case neg =>
   rw[Wj (by omega),Wa]
   exact ⟨lo,rfl,by omega,ha,λ i h hi'=>hb i h (by omega)⟩
  have hmid:wI (X9 .u64 (wU (wI ((lo:Int)+hi))) 1)=(((lo+hi) / 2:Nat):Int):=by
   rw[Xc (n:=(lo:Int)+hi) (by omega) (by omega),Xw (by omega) (by omega),show X9 .u64 ((lo:Int)+hi) 1=((lo:Int)+hi) / 2 from Zi _ 1 (by omega) (by omega),Xc (by omega) (by omega)]
   omega
  have hm:(lo+hi) / 2<l.length:=by omega
  have hlm:lo<=(lo+hi) / 2/\(lo+hi) / 2<hi:=by omega
  generalize (lo+hi) / 2=m at *
  rw[Wh (by omega),Wc,hmid,Xd,Wd hm,Xa,Qfp,Qd7,Xa,show (l[m] != l[m])=false by simp,Wa,Xa]
  have hpw:=U4.1 hs
  by_cases hc:l[m]<x
  ·rw[Wh hc,Wc,Xh (by omega)]
   refine Xkr l x hl hs n (m+1) hi (by omega) h2 (by omega) (λ i h hi'=>?_) hb
   by_cases him:i=m
   ·subst him;exact hc
   ·exact Int.lt_trans (hpw i m h hm (by omega)) hc
  ·rw[Wj hc,Wa]
   refine Xkr l x hl hs n lo m (by omega) (by omega) (by omega) ha (λ i h hi'=>?_)
   by_cases him:i=m
   ·subst him;omega
   ·have:=hpw m i hm h (by omega);omega
theorem Xks (l:List Int) (x:Int) (hl:l.length<=1000000) (hN:1000000<N) (hs:l.Pairwise (·<·)):∃ k:Int,Qas N l x=some (k,l.contains x):=by
 obtain ⟨k,e,hk,h1,h2⟩:=Xkr (N:=N) l x hl hs N 0 l.length (by omega) (by omega) (by omega) (λ i h hi=>by omega) (λ i h hi=>by omega)
 rw[Qas,show (0:Int)=((0:Nat):Int) from rfl,e,Xa]
 by_cases hlt:k<l.length
 ·rw[Wh (by omega),Wc,Xd,Wd hlt,Xa]
  by_cases hx:l[k]=x
  ·refine ⟨k,?_⟩
   rw[show (l[k]==x)=true by simpa using hx,Wc,show l.contains x=true by rw[U7,← hx];exact WU hlt]
  ·refine ⟨k,?_⟩
   rw[show (l[k]==x)=false by simpa using hx,Wa,Xa,Qc8,Xa,show (l[k] != l[k])=false by simp,Wa]
   have:l.contains x=false:=by
    rw[← IY,U7]
    intro hm
    obtain ⟨i,hi,rfl⟩:=WZ hm
    have hpw:=U4.1 hs
    by_cases hik:i<k
    ·have:=h1 i hi hik;omega
    ·have a:=h2 k hlt (Uf _)
     by_cases heq:i=k
     ·subst heq;exact hx rfl
     ·have:=hpw k i hlt hi (by omega);omega
   rw[this]
 ·refine ⟨k,?_⟩
  rw[Wj (by omega),Wa]
  have:l.contains x=false:=by
   rw[← IY,U7]
   intro hm
   obtain ⟨i,hi,rfl⟩:=WZ hm
   have:=h1 i hi (by omega);omega
  rw[this]
theorem Ot.asc {h:Wn} {l:List Int} (o:Ot N h l):l.Pairwise (·<·) :=
 o.pw.imp λ {a b} hab=>by have:=(ZN h.Words a).2;omega
theorem Vb {d:Wz}:∀ {k:Nat} {i x:Int},i<=x->x<i+k->Kw d x=true->x∈Yh d k i
 | 0,i,x,h1,h2,_=>by omega
 | k+1,i,x,h1,h2,h3=>by
  simp only[Yh,WJ]
  by_cases hx:x=i
  ·subst hx;left;rw[Wm h3];simp
  ·right;exact Vb (by omega) (by omega) h3
theorem Xar {d:Wz} (hv:Xx d=true) {x:Int}:x∈Zx d↔0<=x/\x<d.Length/\Kw d x=true:=by
 have hb:=XH hv
 unfold Zx
 rw[Wm hv]
 constructor
 ·intro h;have:=Jd h;exact ⟨by omega,by omega,this.2.2⟩
 ·intro h;exact Vb (by omega) (by omega) h.2.2
end
end Go.Sx
namespace Go.Sx
section
variable {N:Nat}
def Xn7 (h:Wn) (l:List Int) (a i:Int):Prop:=wd h.Words (a+1+i)≠0/\l.contains (wd h.Words (a+1+i))=false
def Vr (h:Wn) (l:List Int) (a:Int):Prop:=∃ i,i∈Zx (hdA h.Words a)/\Xn7 h l a i
theorem J4 (h:Wn) (a:Int):Xx (hdA h.Words a)=true:=ZM _
theorem XmA {h:Wn} (hp:UI h) {a:Int} (ha:I8 h a) {i:Int} (h0:0<=i) (h1:i<(hdA h.Words a).Length):4096<=a+1+i/\a+1+i<4096+h.Words.length/\a+1+i<=8192/\(hdA h.Words a).Length<=255:=by
 have:=VJ hp ha
 have:=ha.rng
 have:=ZN h.Words a
 have hv:=Xi.1 hp.conf
 have:=X1 hp.conf (i:=0) (by omega) (by omega)
 have:=hp.words
 unfold szA at *
 omega
theorem Xpb (hN:NB N) {h:Wn} (ht:HT h) (hp:UI h) (y1:List Int×Int) (hl:y1.1.length<=1000000) (hs:y1.1.Pairwise (·<·)) (v2:Int) {a:Int} (ha:I8 h a) :
 ∃ e,QaC N h y1 v2 a (Zx (hdA h.Words a)) N 0=some e/\(Vr h y1.1 a->∃ b,e=.ret b/\b≠0)/\(¬ Vr h y1.1 a->e=.nxt ()):=by
 have hN':1000000<N:=by unfold NB at hN;omega
 have hb:=ht.hb
 have hv:=J4 h a
 have hb255:=XH hv
 have hpl:(Zx (hdA h.Words a)).length<=255:=by
  unfold Zx;rw[Wm hv];have:=Je (d:=hdA h.Words a) (k:=(hdA h.Words a).Length.toNat) (i:=0);omega
 have hmem:∀ k (hk:k<(Zx (hdA h.Words a)).length),0<=(Zx (hdA h.Words a))[k]/\(Zx (hdA h.Words a))[k]<(hdA h.Words a).Length:=λ k hk=>by
  have:=(Xar hv).1 (WU hk);exact ⟨this.1,this.2.1⟩
 generalize hps:Zx (hdA h.Words a)=ps at *
 have hr:=ha.rng
 have step:∀ n k (hk:k<ps.length),QaC N h y1 v2 a ps (n+1) (k:Int)=bif (wd h.Words (a+1+ps[k]) != 0) then (bif (!y1.1.contains (wd h.Words (a+1+ps[k]))) then some (.ret (a+1+ps[k])) else QaC N h y1 v2 a ps n ((k+1:Nat):Int)) else QaC N h y1 v2 a ps n ((k+1:Nat):Int):=by
  intro n k hk
  have hm:=hmem k hk
  have hf:=XmA hp ha hm.1 hm.2
  have hw8:(h.Words.length:Int)<=100000:=by have:=hb.1;omega
  have w1:wU (wU (a+1)+wU ps[k])=a+1+ps[k]:=by
   rw[Xw (n:=a+1) (by omega) (by omega),Xw (n:=ps[k]) (by omega) (by omega),Xw (by omega) (by omega)]
  rw[QaC,Wh (by omega),Wc,Xd,Wd hk,Xa,w1,Xfc (by have:=hb.1;omega) (by omega),Zw (by unfold BIG;have:=hb.1;omega),Wm (by unfold inW;omega),Xa]
  dsimp only
  obtain ⟨q,eq⟩:=Xks (N:=N) y1.1 (h.Words.getD (ix (a+1+ps[k])) 0) hl hN' hs
  rw[eq,Xa,Xh (by omega)]
  rfl
 have key:=KF (L:=ps.length) (F:=QaC N h y1 v2 a ps) (p:=λ k=>∃ hk:k<ps.length,Xn7 h y1.1 a ps[k]) (Q:=λ b=>b≠0) (u:=())
  (λ n k hk hbad=>by
   obtain ⟨hk',h1,h2⟩:=hbad
   refine ⟨a+1+ps[k],?_,?_⟩
   ·rw[step n k hk,show (wd h.Words (a+1+ps[k]) != 0)=true by simpa using h1,Wc,h2];rfl
   ·have:=hmem k hk;omega)
  (λ n k hk hnb=>by
   rw[step n k hk]
   by_cases h1:wd h.Words (a+1+ps[k])=0
   ·rw[show (wd h.Words (a+1+ps[k]) != 0)=false by simpa using h1,Wa]
   ·rw[show (wd h.Words (a+1+ps[k]) != 0)=true by simpa using h1,Wc]
    cases h2:y1.1.contains (wd h.Words (a+1+ps[k])) with
    | true=>rfl
    | false=>exact absurd ⟨hk,h1,h2⟩ hnb)
  (λ n=>by rw[QaC,Wj (by omega),Wa]) N 0 (by omega) (by omega)
 obtain ⟨e,e1,e2,e3⟩:=key
 refine ⟨e,e1,λ hbo=>?_,λ hbo=>?_⟩
 ·obtain ⟨i,hi,hbp⟩:=hbo
  rw[hps] at hi
  obtain ⟨j,hj,rfl⟩:=WZ hi
  exact e2 ⟨j,US _,hj,hj,hbp⟩
 ·refine e3 λ ⟨j,_,hj,hj',hbp⟩=>hbo ⟨ps[j],?_,hbp⟩
  rw[hps];exact WU hj
theorem Xnm (hN:NB N) {h:Wn} (ht:HT h) (hp:UI h) (y1:List Int×Int) (hl:y1.1.length<=1000000) (hs:y1.1.Pairwise (·<·)) (hat:∀ a∈y1.1,I8 h a) (hev:∀ a∈y1.1,Qat N h a=some (hdA h.Words a,0)):∀ (n k:Nat),k<=y1.1.length->y1.1.length-k<n ->
 ∃ r,Qcc N h y1 n (k:Int)=some r/\((∃ a∈y1.1.drop k,Vr h y1.1 a)->r≠0)/\((¬ ∃ a∈y1.1.drop k,Vr h y1.1 a)->r=0)
 | 0,k,_,hn=>by omega
 | n+1,k,hk,hn=>by
  have hN':1000000<N:=by unfold NB at hN;omega
  rw[Qcc]
  by_cases hlt:k<y1.1.length
  case neg =>
   rw[Wj (by omega),Wa,WL (by omega)]
   exact ⟨0,rfl,λ ⟨a,ha,_⟩=>by simp at ha,λ _=>rfl⟩
  have hm:=WU hlt
  rw[Wh (by omega),Wc,Xd,Wd hlt,Xa,XdI hN ht ((hat _ hm).tu hp),hev _ hm,Xa,Xif (by omega) _ (J4 h _),Xa]
  obtain ⟨e,e1,e2,e3⟩:=Xpb hN ht hp y1 hl hs (k:Int) (hat _ hm)
  rw[e1,Xa,Wu hlt]
  by_cases hbo:Vr h y1.1 y1.1[k]
  ·obtain ⟨b,rfl,hb0⟩:=e2 hbo
   rw[XC]
   exact ⟨b,rfl,λ _=>hb0,λ hh=>absurd ⟨_,IM,hbo⟩ hh⟩
  ·have:=e3 hbo
   subst this
   rw[Xo,Xh (by omega)]
   obtain ⟨r,r1,r2,r3⟩:=Xnm hN ht hp y1 hl hs hat hev n (k+1) (by omega) (by omega)
   refine ⟨r,r1,λ ⟨a,ha,hb⟩=>r2 ⟨a,?_,hb⟩,λ hh=>r3 λ ⟨a,ha,hb⟩=>hh ⟨a,Ug _ ha,hb⟩⟩
   rcases UH.1 ha with rfl | ha
   ·exact absurd hb hbo
   ·exact ha
theorem Xkt (hN:NB N) {h:Wn} (hb:HB h) (ep:Qab N h=some true) {a:Int} (ha:I8 h a) (hev:Qat N h a=some (hdA h.Words a,0)) (hk:(hdA h.Words a).Kind≠0):Qbn N h a=some (hdA h.Words a,0):=by
 have:=ha.rng
 rw[Qbn,ep,Xa,Ws,Wa,show (a==0)=false by simp;omega,Wa,hev,Xa]
 dsimp only
 rw[show ((0:Int)==0)=true from rfl,Wc,show ((hdA h.Words a).Kind==0)=false by simpa using hk,Wa]
theorem Xij (hN:NB N) {h:Wn} (hb:HB h) (ep:Qab N h=some true) {a:Int} (ha:I8 h a) (hev:Qat N h a=some (hdA h.Words a,0)) (hk:(hdA h.Words a).Kind≠0):∃ l,Qd3 N h a=some (l,0)/\(l.length:Int)=(hdA h.Words a).Length/\∀ (j:Nat) (hj:j<l.length),l[j]=wd h.Words (a+1+j):=by
 have hp:=YW hN hb ep
 have hv:=XH (J4 h a)
 have hr:=ha.rng
 have hfit:=VJ hp ha
 have hm:=X1 hp.conf (i:=0) (by omega) (by have:=Xi.1 hp.conf;omega)
 have hw:=hp.words
 unfold szA at hfit
 obtain ⟨m,hm'⟩:∃ m:Nat,(hdA h.Words a).Length=(m:Int):=⟨(hdA h.Words a).Length.toNat,by omega⟩
 rw[Qd3,Xkt hN hb ep ha hev hk,Xa]
 dsimp only
 rw[show ((0:Int) != 0)=false from rfl,Wa,Xw (n:=a+1) (by omega) (by omega),hm',XaT (by unfold BIG;have:=hb.1;omega) N _ m (by omega),Wm (by unfold Yc;omega),Xa]
 refine ⟨_,rfl,?_,λ j hj=>?_⟩
 ·rw[Wy,WN];unfold ix;omega
 ·have hj':j<m:=by rw[Wy] at hj;omega
  rw[List.getElem_take,List.getElem_drop]
  unfold wd
  rw[Wp,show ix (a+1+(j:Int))=ix (a+1)+j by unfold ix;omega,Wd (by rw[Wy,WN] at hj;omega)];rfl
end
end Go.Sx
namespace Go.Sx
section
variable {N:Nat}
theorem Xpc (hN:NB N) {h:Wn} (hb:HB h) (hp:UI h) (y1 y6:List Int×Int) (hl:y1.1.length<=1000000) (v2:Int) {a:Int} (hv2:Xb y1.1 v2=some a) (ha:I8 h a) (hy:(y6.1.length:Int)=(hdA h.Words a).Length) (hf:∀ (j:Nat) (hj:j<y6.1.length),y6.1[j]=wd h.Words (a+1+j)) :
 ∃ e,Qam N h y1 y6 v2 (hdA h.Words a,0) N 0=some e/\(Vr h y1.1 a->∃ f,e=.ret f/\f.Fault≠0)/\(¬ Vr h y1.1 a->e=.nxt ()):=by
 have hN':1000000<N:=by unfold NB at hN;omega
 have hv:=J4 h a
 have hb255:=XH hv
 have step:∀ n k (hk:k<y6.1.length),Qam N h y1 y6 v2 (hdA h.Words a,0) (n+1) (k:Int)=bif Kw (hdA h.Words a) (k:Int) then (bif (wd h.Words (a+1+k) != 0) then (bif (!y1.1.contains (wd h.Words (a+1+k))) then (bnd (Qda N h.Conf (wU ((wU (a+1))+(wU (k:Int))))) λ y13=>some (.ret (Ul.mk 6 y13.1 (wU ((wU (a+1))+(wU (k:Int))))))) else Qam N h y1 y6 v2 (hdA h.Words a,0) n ((k+1:Nat):Int)) else Qam N h y1 y6 v2 (hdA h.Words a,0) n ((k+1:Nat):Int)) else Qam N h y1 y6 v2 (hdA h.Words a,0) n ((k+1:Nat):Int):=by
  intro n k hk
  rw[Qam,Wh (by omega),Wc,JV,Xa,Xd,Wd hk,hf k hk,Xh (by omega)]
  simp only[Xa,Ze (wd h.Words (a+1+(k:Int))) (show y1.1.length<=1000000000 by omega) (show y1.1.length<N by omega),hv2]
 have key:=KF (L:=y6.1.length) (F:=Qam N h y1 y6 v2 (hdA h.Words a,0)) (p:=λ k=>Kw (hdA h.Words a) (k:Int)=true/\Xn7 h y1.1 a (k:Int)) (Q:=λ f=>f.Fault≠0) (u:=())
  (λ n k hk hbad=>by
   obtain ⟨h0,h1,h2⟩:=hbad
   rw[step n k hk,h0,Wc,show (wd h.Words (a+1+(k:Int)) != 0)=true by simpa using h1,Wc,h2,W0,Wc,VI,Xa]
   exact ⟨_,rfl,by show (6:Int)≠0;omega⟩)
  (λ n k hk hnb=>by
   rw[step n k hk]
   cases h0:Kw (hdA h.Words a) (k:Int) with
   | false=>rfl
   | true =>
   rw[Wc]
   by_cases h1:wd h.Words (a+1+(k:Int))=0
   ·rw[show (wd h.Words (a+1+(k:Int)) != 0)=false by simpa using h1,Wa]
   ·rw[show (wd h.Words (a+1+(k:Int)) != 0)=true by simpa using h1,Wc]
    cases h2:y1.1.contains (wd h.Words (a+1+(k:Int))) with
    | true=>rfl
    | false=>exact absurd ⟨h0,h1,h2⟩ hnb)
  (λ n=>by rw[Qam,Wj (by omega),Wa]) N 0 (by omega) (by omega)
 obtain ⟨e,e1,e2,e3⟩:=key
 refine ⟨e,e1,λ hbo=>?_,λ hbo=>?_⟩
 ·obtain ⟨i,hi,hbp⟩:=hbo
  have hm:=(Xar hv).1 hi
  obtain ⟨j,rfl⟩:∃ j:Nat,i=(j:Int):=⟨i.toNat,by omega⟩
  exact e2 ⟨j,US _,by omega,hm.2.2,hbp⟩
 ·exact e3 λ ⟨j,_,hj,hpj,hbp⟩=>hbo ⟨(j:Int),(Xar hv).2 ⟨by omega,by omega,hpj⟩,hbp⟩
theorem Xnn (hN:NB N) {h:Wn} (hb:HB h) (ep:Qab N h=some true) (y1:List Int×Int) (hl:y1.1.length<=1000000) (hat:∀ a∈y1.1,I8 h a) (hev:∀ a∈y1.1,Qat N h a=some (hdA h.Words a,0)) (hkd:∀ a∈y1.1,(hdA h.Words a).Kind≠0):∀ (n k:Nat),k<=y1.1.length->y1.1.length-k<n ->
 ∃ e,Qa7 N h y1 n (k:Int)=some e/\((∃ a∈y1.1.drop k,Vr h y1.1 a)->∃ f,e=.ret f/\f.Fault≠0)/\((¬ ∃ a∈y1.1.drop k,Vr h y1.1 a)->e=.nxt ())
 | 0,k,_,hn=>by omega
 | n+1,k,hk,hn=>by
  have hN':1000000<N:=by unfold NB at hN;omega
  have hp:=YW hN hb ep
  rw[Qa7]
  by_cases hlt:k<y1.1.length
  case neg =>
   rw[Wj (by omega),Wa,WL (by omega)]
   exact ⟨_,rfl,λ ⟨a,ha,_⟩=>by simp at ha,λ _=>rfl⟩
  have hm:=WU hlt
  have hg:Xb y1.1 (k:Int)=some y1.1[k]:=by rw[Xd,Wd hlt]
  obtain ⟨l,f1,f2,f3⟩:=Xij hN hb ep (hat _ hm) (hev _ hm) (hkd _ hm)
  rw[Wh (by omega),Wc,hg,Xa,Xkt hN hb ep (hat _ hm) (hev _ hm) (hkd _ hm),Xa,Xa,f1,Xa]
  obtain ⟨e,e1,e2,e3⟩:=Xpc hN hb hp y1 (l,0) hl (k:Int) hg (hat _ hm) f2 f3
  rw[e1,Xa,Wu hlt]
  by_cases hbo:Vr h y1.1 y1.1[k]
  ·obtain ⟨f,rfl,hb0⟩:=e2 hbo
   rw[XC]
   exact ⟨_,rfl,λ _=>⟨f,rfl,hb0⟩,λ hh=>absurd ⟨_,IM,hbo⟩ hh⟩
  ·have:=e3 hbo
   subst this
   rw[Xo,Xh (by omega)]
   obtain ⟨r,r1,r2,r3⟩:=Xnn hN hb ep y1 hl hat hev hkd n (k+1) (by omega) (by omega)
   refine ⟨r,r1,λ ⟨a,ha,hb⟩=>r2 ⟨a,?_,hb⟩,λ hh=>r3 λ ⟨a,ha,hb⟩=>hh ⟨a,Ug _ ha,hb⟩⟩
   rcases UH.1 ha with rfl | ha
   ·exact absurd hb hbo
   ·exact ha
theorem Ji (hN:NB N) {h:Wn} (hb:HB h):∃ y,Qav N h=some y/\y.1.length<=4096/\y.1.Pairwise (·<·)/\(∀ a∈y.1,I8 h a)/\(∀ a∈y.1,Qat N h a=some (hdA h.Words a,0))/\(∀ a∈y.1,(hdA h.Words a).Kind≠0):=by
 obtain ⟨y,e,hs,_,_⟩:=Zn hN hb
 refine ⟨y,e,hs.len,hs.obj.asc,hs.obj.at_,hs.obj.ev,?_⟩
 obtain ⟨r,er,hr,_,_⟩:=Xaf hN hb
 have hlen:=hr.len
 rw[Qav,er,Xa,show (0:Int)=((0:Nat):Int) from rfl,Xa3 r (by omega) hr.obj.ev N 0 [] (by omega) (by unfold NB at hN;omega) (by simp),Xa,WT,Uw] at e
 cases e
 intro a ha
 have:=(UV.1 ha).2
 simpa [Ku,fnd] using this
def zF:Ul:=⟨0,0,0⟩
def XmB (P:Prop) (o:Option Ul):Prop:=∃ f,o=some f/\(P->f.Fault≠0)/\(¬ P->f=zF)
theorem Xfi (hN:NB N) {h:Wn} (ht:HT h) (ep:Qab N h=some true) {y:List Int×Int} (ey:Qav N h=some y):XmB (∃ a∈y.1,Vr h y.1 a) (QeI N h)/\XmB (∃ a∈y.1,Vr h y.1 a) (Qdb N h):=by
 have hb:=ht.hb
 have hp:=YW hN hb ep
 obtain ⟨y',ey',hl,hs,hat,hev,hkd⟩:=Ji hN hb
 rw[ey] at ey';cases ey'
 have hbig:y.1.length<N:=by unfold NB at hN;omega
 constructor
 ·obtain ⟨r,e1,e2,e3⟩:=Xnm hN ht hp y (by omega) hs hat hev N 0 (by omega) (by omega)
  rw[QeI,JM hN ht,ey,Xa]
  have e1':Qcc N h y N 0=some r:=e1
  rw[e1',Xa]
  rw[WT] at e2 e3
  by_cases hbo:∃ a∈y.1,Vr h y.1 a
  ·rw[show (r==0)=false by simpa using e2 hbo,Wa]
   have:∃ q,QfO N h.Conf r=some q:=by
    rw[QfO,Zc,Xa]
    cases hc:XY h.Conf with
    | false=>exact ⟨_,rfl⟩
    | true =>
     have:=Xi.1 hc
     rw[Ws,Wa]
     cases decide (r<4096)
     ·rw[Wa]
      cases decide (wU (r-4096)>=wU (wI (h.Conf.PageWords*h.Conf.Pages)))
      ·rw[Wa,Xe (by omega),Xe (by omega)];exact ⟨_,rfl⟩
      ·exact ⟨_,rfl⟩
     ·exact ⟨_,rfl⟩
   obtain ⟨q,eq⟩:=this
   rw[eq,Xa]
   exact ⟨_,rfl,λ _=>by show (6:Int)≠0;omega,λ hh=>absurd hbo hh⟩
  ·rw[e3 hbo]
   exact ⟨_,rfl,λ hh=>absurd hh hbo,λ _=>rfl⟩
 ·obtain ⟨e,e1,e2,e3⟩:=Xnn hN hb ep y (by omega) hat hev hkd N 0 (by omega) (by omega)
  rw[Qdb,ey,Xa]
  have e1':Qa7 N h y N 0=some e:=e1
  rw[e1',Xa]
  rw[WT] at e2 e3
  by_cases hbo:∃ a∈y.1,Vr h y.1 a
  ·obtain ⟨f,rfl,hf⟩:=e2 hbo
   rw[XC]
   exact ⟨_,rfl,λ _=>hf,λ hh=>absurd hbo hh⟩
  ·rw[e3 hbo,Xo]
   exact ⟨_,rfl,λ hh=>absurd hh hbo,λ _=>rfl⟩
end
end Go.Sx
namespace Go.Sx
section
variable {N:Nat}
theorem XdL (hN:NB N) {h:Wn} (ht:HT h) (ep:Qab N h=some true) {i:Nat} (h1:i<h.Pages.length) :
 ∃ f,Qel N h (i:Int)=some f/\((f.Fault≠0/\∀ n,∃ f',QaN N h (n+1) (i:Int)=some (.ret f')/\f'.Fault≠0)\/(f.Fault=0/\∀ n,QaN N h (n+1) (i:Int)=QaN N h n ((i+1:Nat):Int))):=by
 have hb:=ht.hb
 have hp:=YW hN hb ep
 have hpl:h.Pages.length<=100000:=hb.2
 have hg:Xb h.Pages (i:Int)=some (pg h.Pages (i:Int)):=YK (by omega) (by omega)
 have hst:∀ n,QaN N h (n+1) (i:Int)=jn (λ (_:Unit) =>
  bnd (Qfz N h (i:Int)) λ y3 =>
  bif (y3.2 != 0) then some (.ret (Ul.mk 3 (i:Int) 0))
  else bnd (Qfk N h (i:Int) y3.1) λ y4 =>
  bif y4.2 then some (.ret (Ul.mk 5 (i:Int) y4.1))
  else bnd (QfQ N h (i:Int)) λ y5 =>
  bif y5.2 then some (.ret (Ul.mk 4 (i:Int) y5.1))
  else QaN N h n ((i+1:Nat):Int)) λ j1 =>
  bif ((pg h.Pages (i:Int)).Kind != 0) then (bif ((pg h.Pages (i:Int)).Space != h.Space) then some (.ret (Ul.mk 2 (i:Int) 0))
   else j1 ())
  else j1 ():=by
  intro n
  rw[QaN,Wh (by omega),Wc,hg,Xa,Xh (by omega)]
 simp only[hst,XV]
 rw[Qel,XV,hg]
 simp only[Xa]
 by_cases hsp:(pg h.Pages (i:Int)).Kind≠0/\(pg h.Pages (i:Int)).Space≠h.Space
 ·rw[show ((pg h.Pages (i:Int)).Kind != 0)=true by simpa using hsp.1,show ((pg h.Pages (i:Int)).Space != h.Space)=true by simpa using hsp.2]
  exact ⟨_,rfl,.inl ⟨by show (2:Int)≠0;omega,λ n=>⟨_,rfl,by show (2:Int)≠0;omega⟩⟩⟩
 have e1:∀ {α:Type} (x y:α),(bif ((pg h.Pages (i:Int)).Kind != 0) then (bif ((pg h.Pages (i:Int)).Space != h.Space) then x else y) else y)=y:=by
  intro α x y
  by_cases k0:(pg h.Pages (i:Int)).Kind=0
  ·rw[show ((pg h.Pages (i:Int)).Kind != 0)=false by simpa using k0,Wa]
  ·have:(pg h.Pages (i:Int)).Space=h.Space:=Classical.byContradiction λ hh=>hsp ⟨k0,hh⟩
   rw[show ((pg h.Pages (i:Int)).Space != h.Space)=false by simpa using this,Wa,Bool.cond_self]
 simp only[e1]
 obtain ⟨r,er,hr,hlen⟩:=Qhg hN hb hp (i:Int) (by omega) (by omega)
 simp only[Xfe hN ht,er,Xa]
 by_cases hz:r.2=0
 case neg =>
  rw[show (r.2 != 0)=true by simpa using hz]
  exact ⟨_,rfl,.inl ⟨by show (3:Int)≠0;omega,λ n=>⟨_,rfl,by show (3:Int)≠0;omega⟩⟩⟩
 rw[show (r.2 != 0)=false by simpa using hz]
 simp only[Wa]
 obtain ⟨⟨hat,hev,_⟩,_,_⟩:=hr
 obtain ⟨a,ea,b,eb⟩:=Xih hN ht hp (i:=(i:Int)) (by omega) (by omega) r.1 (by omega) hat hev
 simp only[ea,eb,Xa]
 by_cases ha:a=0
 case neg =>
  rw[show (a != 0)=true by simpa using ha]
  exact ⟨_,rfl,.inl ⟨by show (5:Int)≠0;omega,λ n=>⟨_,rfl,by show (5:Int)≠0;omega⟩⟩⟩
 rw[show (a != 0)=false by simpa using ha]
 simp only[Wa]
 obtain ⟨d,ed,d',ed'⟩:=Xkq hN ht ep (i:=(i:Int)) (by omega) (by omega)
 simp only[ed,ed',Xa]
 by_cases hd:d=0
 case neg =>
  rw[show (d != 0)=true by simpa using hd]
  exact ⟨_,rfl,.inl ⟨by show (4:Int)≠0;omega,λ n=>⟨_,rfl,by show (4:Int)≠0;omega⟩⟩⟩
 rw[show (d != 0)=false by simpa using hd]
 simp only[Wa]
 first
  | exact ⟨_,rfl,.inr ⟨rfl,λ n=>rfl⟩⟩
  | exact ⟨_,rfl,.inr ⟨rfl,trivial⟩⟩
  | exact ⟨_,rfl,.inr rfl⟩
  | simp
theorem Xku (hN:NB N) {h:Wn} (ht:HT h) (ep:Qab N h=some true):∃ P:Prop,XmB P (Qf7 N h)/\∃ e,Qbg N h N 0=some e/\(P->∃ f,e=.ret f/\f.Fault≠0)/\(¬ P->e=.nxt ()):=by
 have hb:=ht.hb
 have hpl:h.Pages.length<=100000:=hb.2
 have hbig:h.Pages.length<N:=by unfold NB at hN;omega
 let p:Nat->Prop:=λ k=>∃ f,Qel N h (k:Int)=some f/\f.Fault≠0
 refine ⟨∃ j,0<=j/\j<h.Pages.length/\p j,?_,?_⟩
 ·have key:=KF (L:=h.Pages.length) (F:=QaN N h) (p:=p) (Q:=λ f=>f.Fault≠0) (u:=())
   (λ n k hk hbad=>by
    obtain ⟨f,ef,hf⟩:=hbad
    obtain ⟨f2,ef2,hor⟩:=XdL hN ht ep hk
    rw[ef] at ef2;cases ef2
    rcases hor with hor | hor
    ·obtain ⟨f',e',hf'⟩:=hor.2 n;exact ⟨f',e',hf'⟩
    ·exact absurd hor.1 hf)
   (λ n k hk hnb=>by
    obtain ⟨f2,ef2,hor⟩:=XdL hN ht ep hk
    rcases hor with hor | hor
    ·exact absurd ⟨f2,ef2,hor.1⟩ hnb
    ·exact hor.2 n)
   (λ n=>by rw[QaN,Wj (by omega),Wa]) N 0 (by omega) (by omega)
  obtain ⟨e,e1,e2,e3⟩:=key
  have e1':QaN N h N 0=some e:=e1
  unfold XmB
  rw[Qf7,e1',Xa]
  by_cases hP:∃ j,0<=j/\j<h.Pages.length/\p j
  ·obtain ⟨f,rfl,hf⟩:=e2 hP
   rw[XC]
   exact ⟨_,rfl,λ _=>hf,λ hh=>absurd hP hh⟩
  ·rw[e3 hP,Xo];exact ⟨_,rfl,λ hh=>absurd hh hP,λ _=>rfl⟩
 ·have key:=KF (L:=h.Pages.length) (F:=Qbg N h) (p:=p) (Q:=λ f=>f.Fault≠0) (u:=())
   (λ n k hk hbad=>by
    obtain ⟨f,ef,hf⟩:=hbad
    rw[Qbg,Wh (by omega),Wc,ef,Xa,show (f.Fault != 0)=true by simpa using hf]
    exact ⟨f,rfl,hf⟩)
   (λ n k hk hnb=>by
    obtain ⟨f2,ef2,hor⟩:=XdL hN ht ep hk
    have hz:f2.Fault=0:=Classical.byContradiction λ hh=>hnb ⟨f2,ef2,hh⟩
    rw[Qbg,Wh (by omega),Wc,ef2,Xa,show (f2.Fault != 0)=false by simpa using hz,Wa,Xh (by omega)])
   (λ n=>by rw[Qbg,Wj (by omega),Wa]) N 0 (by omega) (by omega)
  exact key
theorem XdM {f:Ul} (hf:f.Fault≠0):((f.Fault==0)&&((f.Page==0)&&(f.Addr==0)))=false:=by
 rw[show (f.Fault==0)=false by simpa using hf,Um]
theorem Xfj (hN:NB N) {h:Wn} (ht:HT h):QfR N h=QbF N h:=by
 have hb:=ht.hb
 have hpl:h.Pages.length<=100000:=hb.2
 rw[QfR,QbF,QgF,Qf2,X8 hpl (by unfold NB at hN;omega)]
 obtain ⟨b,eb⟩:=Zd (N:=N) hN hb
 simp only[eb,Xa]
 cases b with
 | false=>rfl
 | true =>
 rw[Ws,Wa,Wa]
 obtain ⟨P,⟨f,ef,hf1,hf2⟩,e,e1,e2,e3⟩:=Xku hN ht eb
 obtain ⟨y,ey,_⟩:=Ji hN hb
 obtain ⟨⟨g,eg,hg1,hg2⟩,⟨g',eg',hg1',hg2'⟩⟩:=Xfi hN ht eb ey
 simp only[ef,e1,Xa]
 by_cases hP:P
 ·obtain ⟨f',rfl,hf'⟩:=e2 hP
  simp only[XC,XdM (hf1 hP),W0,Wc,Xa,XdM hf']
 rw[e3 hP,hf2 hP]
 simp only[Xo,eg,eg',Xa,zF,show ((0:Int)==0)=true from rfl,ID,Ws,Wa]
 by_cases hQ:∃ a∈y.1,Vr h y.1 a
 ·simp only[XdM (hg1 hQ),W0,Wc,Xa,show (g'.Fault != 0)=true by simpa using hg1' hQ,XdM (hg1' hQ)]
 rw[hg2 hQ,hg2' hQ]
 simp only[zF,show ((0:Int)==0)=true from rfl,show ((0:Int) != 0)=false from rfl,ID,Ws,Wa]
 have hl2:∀ (n:Nat) (c i:Int),Qca N h n c i=Qbh N h n c i:=by
  intro n
  induction n with
  | zero=>intro c i;rw[Qca,Qbh]
  | succ n ih =>
   intro c i
   rw[Qca,Qbh]
   simp only[ih]
   cases hg:Xb h.Pages i with
   | none=>simp only[Vi]
   | some p=>simp only[Xa]
 rw[hl2]
theorem Xik (hN:NB N) {h:Wn} (ht:HT h) {l:List Int} (hl:l.length<=1000000):QfA N h l=Qbi N h l:=by
 have hN':1000000<N:=by unfold NB at hN;omega
 have hb:=ht.hb
 rw[QfA,Qbi,Xfj hN ht]
 obtain ⟨b,eb,_⟩:=Z7 hN hb
 rw[eb,Xa,Xa]
 cases b with
 | false=>rfl
 | true =>
 obtain ⟨y,ey,hy,hs,_⟩:=Ji hN hb
 rw[Ws,Wa,Wa,JM hN ht,ey,Xa,Xa]
 have hr1:∀ x:Int,Qd9 N x y.1=some (x != 0&&!y.1.contains x):=by
  intro x
  obtain ⟨k,ek⟩:=Xks (N:=N) y.1 x (by omega) hN' hs
  rw[Qd9,ek,Xa]
  cases (x != 0)<;>rfl
 rw[QaL,QaS]
 rw[JJ (p:=λ x:Int=>x != 0&&!y.1.contains x) hl hN' (λ n k x e=>by
  have hk:=Xy e
  rw[Qao,XE hk,Wc,Xd,e,Xa,hr1,Xa,Xh (by omega)]) (λ n=>by rw[Qao,Xu,Wa])]
 rw[Xa,Xa,K1]
 have key:=KF (L:=l.length) (F:=Qar N l y) (p:=λ k=>∃ hk:k<l.length,(l[k] != 0&&!y.1.contains l[k])=true) (Q:=λ b=>b=false) (u:=())
  (λ n k hk hbad=>by
   obtain ⟨hk',hq⟩:=hbad
   simp only[WE] at hq
   refine ⟨false,?_,rfl⟩
   rw[Qar,Wh (by omega),Wc,Xd,Wd hk,Xa,hq.1,Wc,Xa,Ze _ (by omega) (by omega),Xa,hq.2,Wc])
  (λ n k hk hnb=>by
   rw[Qar,Wh (by omega),Wc,Xd,Wd hk,Xa,Xa,Ze _ (by omega) (by omega),Xa,Xh (by omega)]
   have:(l[k] != 0&&!y.1.contains l[k])=false:=by rw[← IY];exact λ hh=>hnb ⟨hk,hh⟩
   cases h1:(l[k] != 0) with
   | false=>rfl
   | true=>rw[h1,WR] at this;rw[this];rfl)
  (λ n=>by rw[Qar,Wj (by omega),Wa]) N 0 (by omega) (by omega)
 obtain ⟨e,e1,e2,e3⟩:=key
 have e1':Qar N l y N 0=some e:=e1
 rw[e1',Xa]
 cases hA:l.any (λ x=>x != 0&&!y.1.contains x) with
 | true =>
  obtain ⟨x,hx,hq⟩:=II.1 hA
  obtain ⟨j,hj,rfl⟩:=WZ hx
  obtain ⟨b,rfl,hbf⟩:=e2 ⟨j,US _,hj,hj,hq⟩
  rw[XC,hbf];rfl
 | false =>
  have:=e3 λ ⟨j,_,hj,hj',hq⟩=>by
   rw[List.any_eq_false] at hA
   exact hA _ (WU hj) hq
  subst this
  rw[Xo];rfl
theorem XaI (hN:NB N) {h:Wn} (ht:HT h) {l:List Int} (hl:l.length<=10000000 / 4) (eg:QbF N h=some true) {y:List Int×Int} (ey:Qav N h=some y):Qbi N h l=some (l.all λ x=>x==0||y.1.contains x):=by
 have hb:=ht.hb
 obtain ⟨y',ey',hy,hs,_⟩:=Ji hN hb
 rw[ey] at ey';cases ey'
 have hbig:l.length<N:=by unfold NB at hN;omega
 have hN':1000000<N:=by unfold NB at hN;omega
 rw[Qbi,eg,Xa,Ws,Wa,ey,Xa]
 have key:=KF (L:=l.length) (F:=Qar N l y) (p:=λ k=>∃ hk:k<l.length,(l[k]==0||y.1.contains l[k])=false) (Q:=λ b=>b=false) (u:=())
  (λ n k hk hbad=>by
   obtain ⟨hk',hq⟩:=hbad
   simp only[Bool.or_eq_false_iff] at hq
   refine ⟨false,?_,rfl⟩
   rw[Qar,Wh (by omega),Wc,Xd,Wd hk,Xa,show (l[k] != 0)=true by simpa using hq.1,Wc,Xa,Ze _ (by omega) (by omega),Xa,hq.2];rfl)
  (λ n k hk hnb=>by
   rw[Qar,Wh (by omega),Wc,Xd,Wd hk,Xa,Xa,Ze _ (by omega) (by omega),Xa,Xh (by omega)]
   have:(l[k]==0||y.1.contains l[k])=true:=by rw[← Bool.not_eq_false];exact λ hh=>hnb ⟨hk,hh⟩
   by_cases h1:l[k]=0
   ·rw[show (l[k] != 0)=false by simpa using h1,Wa]
   ·rw[show (l[k]==0)=false by simpa using h1,If] at this
    rw[show (l[k] != 0)=true by simpa using h1,this];rfl)
  (λ n=>by rw[Qar,Wj (by omega),Wa]) N 0 (by omega) (by omega)
 obtain ⟨e,e1,e2,e3⟩:=key
 have e1':Qar N l y N 0=some e:=e1
 rw[e1',Xa]
 cases hA:l.all (λ x=>x==0||y.1.contains x) with
 | false =>
  obtain ⟨x,hx,hq⟩:=List.all_eq_false.1 hA
  obtain ⟨j,hj,rfl⟩:=WZ hx
  obtain ⟨b,rfl,hbf⟩:=e2 ⟨j,US _,hj,hj,by simpa using hq⟩
  rw[XC,hbf]
 | true =>
  have:=e3 λ ⟨j,_,hj,hj',hq⟩=>by
   rw[Ue] at hA
   rw[hA _ (WU hj)] at hq;cases hq
  subst this
  rw[Xo]
end
end Go.Sx
namespace Go.Sx
section
variable {N:Nat}
theorem Xn8 (l:List UG) (r:Int) (hl:l.length<=1000000) (hN:1000000<N):QeP N l r=some (JI (λ p=>p.Ref==r) l):=by
 rw[QeP]
 exact JJ (p:=λ p:UG=>p.Ref==r) hl hN (λ n k x e=>by
  have hk:=Xy e
  rw[QdP,XE hk,Wc,Xd,e,Xa,Xh (by omega)]) (λ n=>by rw[QdP,Xu,Wa])
theorem Xkv (l:List UG) (r:Int) (hl:l.length<=1000000) (hN:1000000<N):Qfe N l r=some (JI (λ p=>p.Ref==r) l):=by
 rw[Qfe,QaR]
 rw[JJ (p:=λ p:UG=>p.Ref==r) hl hN (λ n k x e=>by
  have hk:=Xy e
  rw[Qal,XE hk,Wc,Xd,e,Xa,QeA,Xa,Xh (by omega)]) (λ n=>by rw[Qal,Xu,Wa]),Xa]
theorem Vs (hN:NB N) {h:Wn} (ht:HT h) (hp:UI h) (pins:List UG) (hpn:pins.length<=1000000) (y:List Int×Int) (hy:y.1.length<=4096) (hs:y.1.Pairwise (·<·)) (hat:∀ a∈y.1,I8 h a):∀ (n k:Nat) (v:List Int),k<=pins.length->pins.length-k<n->v.length=h.Pages.length ->
 ∃ e,Qbu N h pins y n (k:Int) v=some e/\QbQ N pins h y n (k:Int) v=some (match e with | .ret _=>.ret ([],false) | .nxt v=>.nxt v)/\(∀ b,e=.ret b->b=false)/\(∀ v',e=.nxt v'->v'.length=h.Pages.length/\∀ p∈pins.drop k,y.1.contains p.Ref=true)
 | 0,k,v,_,hn,_=>by omega
 | n+1,k,v,hk,hn,hv=>by
  have hN':1000000<N:=by unfold NB at hN;omega
  rw[Qbu,QbQ]
  by_cases hlt:k<pins.length
  case neg =>
   rw[Wj (by omega),Wa,Wa]
   refine ⟨_,rfl,rfl,?_,?_⟩<;>intro v' e<;>cases e
   exact ⟨hv,λ p hp=>by rw[WL (by omega)] at hp;cases hp⟩
  obtain ⟨q,eq⟩:=Xks (N:=N) y.1 pins[k].Ref (by omega) hN' hs
  have fin:∀ (o:Option (Ex (List Int×Bool) (List Int))),o=some (.ret ([],false))->∃ e:Ex Bool (List Int),some (.ret false)=some e/\o=some (match e with | .ret _=>.ret ([],false) | .nxt v=>.nxt v)/\(∀ b,e=.ret b->b=false)/\(∀ v',e=.nxt v'->v'.length=h.Pages.length/\∀ p∈pins.drop k,y.1.contains p.Ref=true):=by
   intro o ho
   refine ⟨_,rfl,ho,?_,?_⟩<;>intro b e<;>cases e
   rfl
  have hg:Xb pins (k:Int)=some pins[k]:=by rw[Xd,Wd hlt]
  simp only[Wh (show (k:Int)<((pins.length:Nat):Int) by omega),Wc,hg,Xa,Ze pins[k].Ref (show y.1.length<=1000000000 by omega) (show y.1.length<N by omega),eq,Xn8 pins pins[k].Ref hpn hN',Xkv pins pins[k].Ref hpn hN']
  cases hc:y.1.contains pins[k].Ref with
  | false=>exact fin _ rfl
  | true =>
  have ha:=hat _ (by rw[U7] at hc;exact hc)
  have hta:=ha.tu hp
  obtain ⟨eh,eh1,eh2⟩:=Xa0 (N:=N) hp ha
  have eo:Qda N h.Conf pins[k].Ref=some (pgi h.Conf pins[k].Ref,pgo h.Conf pins[k].Ref,0):=by
   rw[VI,Wk (by rw[hp.conf];simp),Wm ha.rng];rfl
  obtain ⟨c,hvc⟩:∃ c,Xb v (pgi h.Conf pins[k].Ref)=some c:=⟨_,Yj eh1 (by omega)⟩
  simp only[Ws,Wa,eh,Xki N h.Conf pins[k].Ref hta.2,eo,Xa,hvc,Xh (show k<=140737488355328 by omega)]
  obtain ⟨e,n1,n2,n3,n4⟩:=Vs hN ht hp pins hpn y hy hs hat n (k+1) (v.set (pgi h.Conf pins[k].Ref).toNat (wI (c+pins[k].Count))) (by omega) (by omega) (by rw[Wx];exact hv)
  have n5:∀ v',e=.nxt v'->v'.length=h.Pages.length/\∀ p∈pins.drop k,y.1.contains p.Ref=true:=λ v' hv'=>⟨(n4 v' hv').1,λ p hp=>by
   rw[Wu hlt] at hp
   rcases UH.1 hp with rfl | hp
   ·exact hc
   ·exact (n4 v' hv').2 p hp⟩
  cases (JI (λ p:UG=>p.Ref==pins[k].Ref) pins != (k:Int))<;>cases (decide (pins[k].Count<1))<;>cases (decide (pins[k].Count>1000))
  all_goals simp only[Wc,Wa]
  all_goals first
   | exact ⟨e,n1,n2,n3,n5⟩
   | exact fin _ rfl
theorem Xil (hN:NB N) {h:Wn} (ht:HT h) {pins:List UG} (hpn:pins.length<=1000000):QgJ N h pins=QbU N h pins:=by
 have hN':1000000<N:=by unfold NB at hN;omega
 have hb:=ht.hb
 have hpl:h.Pages.length<=100000:=hb.2
 rw[QgJ,QbU,Xfj hN ht]
 obtain ⟨b,eb,hgd⟩:=Z7 hN hb
 rw[eb,Xa,Xa]
 cases b with
 | false=>rfl
 | true =>
 rw[Ws,Wa,Wa]
 cases decide (((pins.length:Nat):Int)>64) with
 | true=>rfl
 | false =>
 have hp:UI h:=(hgd rfl).prop
 obtain ⟨y,ey,hy,hs,hat,_⟩:=Ji hN hb
 rw[Wa,Wa,Qfq,JM hN ht,ey,Xa,Xa]
 rw[Xe (by omega)]
 obtain ⟨e,e1,e2,e3,e4⟩:=Vs hN ht hp pins hpn y hy hs hat N 0 (List.replicate ((h.Pages.length:Nat):Int).toNat 0) (by omega) (by omega) (by rw[WC];rfl)
 have e1':Qbu N h pins y N 0 (List.replicate ((h.Pages.length:Nat):Int).toNat 0)=some e:=e1
 have e2':QbQ N pins h y N 0 (List.replicate ((h.Pages.length:Nat):Int).toNat 0)=_:=e2
 rw[Xe (by omega),e1',e2',Xa,Xa]
 cases e with
 | ret b =>
  dsimp only
  rw[e3 b rfl,XC,XC,Xa];rfl
 | nxt v =>
  dsimp only
  rw[Xo,Xo,Xa]
  have hl:∀ (n:Nat) (i:Int),Qd8 N h (v,true) n i=Qb6 N h v n i:=by
   intro n
   induction n with
   | zero=>intro i;rw[Qd8,Qb6]
   | succ n ih=>intro i;rw[Qd8,Qb6];simp only[ih]
  simp only[hl,Ws,Wa]
theorem Xgg (hN:NB N) {h:Wn} (ht:HT h) {pins:List UG} (hpn:pins.length<=1000000) (em:QbU N h pins=some true):QbF N h=some true/\pins.length<=64/\∀ y,Qav N h=some y->∀ p∈pins,y.1.contains p.Ref=true:=by
 have hb:=ht.hb
 have hpl:h.Pages.length<=100000:=hb.2
 rw[QbU] at em
 obtain ⟨b,eb,hgd⟩:=Z7 hN hb
 rw[eb,Xa] at em
 cases b with
 | false=>cases em
 | true =>
 rw[Ws,Wa] at em
 refine ⟨eb,?_,λ y ey p hpm=>?_⟩
 ·cases hd:decide (((pins.length:Nat):Int)>64) with
  | true=>rw[hd] at em;cases em
  | false=>have:=WI hd;omega
 have hp:UI h:=(hgd rfl).prop
 obtain ⟨y',ey',hy,hs,hat,_⟩:=Ji hN hb
 rw[ey] at ey';cases ey'
 cases hd:decide (((pins.length:Nat):Int)>64) with
 | true=>rw[hd] at em;cases em
 | false =>
 rw[hd,Wa,ey,Xa,Xe (by omega)] at em
 obtain ⟨e,e1,e2,e3,e4⟩:=Vs hN ht hp pins hpn y hy hs hat N 0 (List.replicate ((h.Pages.length:Nat):Int).toNat 0) (by omega) (by unfold NB at hN;omega) (by rw[WC];rfl)
 have e1':Qbu N h pins y N 0 (List.replicate ((h.Pages.length:Nat):Int).toNat 0)=some e:=e1
 rw[e1',Xa] at em
 cases e with
 | ret b=>rw[e3 b rfl,XC] at em;cases em
 | nxt v=>exact (e4 v rfl).2 p (by rw[WT];exact hpm)
theorem Vt {x:W8} (hp:x.Pins.length<=1000000):∀ (n k:Nat) (v:List Int),k<=x.Pins.length->x.Pins.length-k<n->v.length<=10000000+k ->
 Qec N x n (k:Int) v=some (v++(x.Pins.drop k).map (·.Ref))/\QaP N x n (k:Int) v=some (v++(x.Pins.drop k).map (·.Ref))
 | 0,k,v,_,hn,_=>by omega
 | n+1,k,v,hk,hn,hv=>by
  rw[Qec,QaP]
  by_cases hlt:k<x.Pins.length
  ·rw[Wh (by omega),Wc,Wc,Xd,Wd hlt,Xa,Xa,Xe (by omega),Xe (by omega),Xh (by omega)]
   obtain ⟨a,b⟩:=Vt hp n (k+1) (v++[x.Pins[k].Ref]) (by omega) (by omega) (by rw[Wq];simp;omega)
   rw[a,b,Wu hlt,Ut,W7]
   exact ⟨rfl,rfl⟩
  ·rw[Wj (by omega),Wa,Wa,WL (by omega)];simp
def XdN (x:W8):List Int:=((x.Roots++(bif YV x.Locals then Ym x.Locals.Slots else []))++(bif YL x.Globals.Entries then XZ x.Globals.Entries else []))++x.Pins.map (·.Ref)
theorem Xfk {x:W8} (hx:EB x):(XdN x).length<=104160+x.Pins.length:=by
 have h1:=Zr hx.loc
 have h2:=Yv x.Globals.Entries
 have h3:=hx.pins
 have h4:=hx.roots
 unfold XdN
 simp only[Wq,W3]
 omega
theorem Xgh (hN:NB N) {x:W8} (hx:EB x):Qci N x=some (XdN x):=by
 have h1:=Zr hx.loc
 have h2:=Yv x.Globals.Entries
 have h3:=hx.pins
 have h4:=hx.roots
 have hN':1000000<N:=by unfold NB at hN;omega
 rw[Qci,Xe (by omega),ZX hx.loc hN',Xa,Xe (by omega),Yy hx.glo hN',Xa,Xe (by omega)]
 have:=(Vt (N:=N) h3 N 0 ((x.Roots++(bif YV x.Locals then Ym x.Locals.Slots else []))++(bif YL x.Globals.Entries then XZ x.Globals.Entries else [])) (by omega) (by omega) (by simp only[Wq];omega)).2
 rw[show (0:Int)=((0:Nat):Int) from rfl,this,Xa,WT];rfl
theorem Xb1 (hN:NB N) {x:W8} (hx:EB x):QfN N x=some (XdN x):=by
 have h1:=Zr hx.loc
 have h2:=Yv x.Globals.Entries
 have h3:=hx.pins
 have h4:=hx.roots
 have hN':1000000<N:=by unfold NB at hN;omega
 rw[QfN,Xid hx.loc hN',Xa,Xan hx.glo hN',Xa,QgU]
 have:=(Vt (N:=N) h3 N 0 [] (by omega) (by omega) (by simp)).1
 rw[show (0:Int)=((0:Nat):Int) from rfl,this,Xa,Xa,WT,Uw,QfM,XcT _ (by simp) (by simp only[Xap,W3];omega) hN',Xa,Xa]
 unfold XdN
 simp[Ut]
structure ET (x:W8):Prop where
 eb:EB x
 tw:XL x.Heap
theorem ET.ht {x:W8} (t:ET x):HT x.Heap:=⟨t.eb.heap,t.tw⟩
end
end Go.Sx
namespace Go.Sx
section
variable {N:Nat}
theorem Xkw (l:List Int):(!l.all λ p=>!(p==0))=l.contains 0:=by
 cases h:l.contains 0 with
 | true =>
  rw[U7] at h
  rw[show (l.all λ p=>!(p==0))=false from List.all_eq_false.2 ⟨0,h,by simp⟩];rfl
 | false =>
  have h':¬ (0:Int)∈l:=by rw[← U7,h];simp
  rw[show (l.all λ p=>!(p==0))=true from Ue.2 λ x hx=>by
   by_cases hz:x=0
   ·subst hz;exact absurd hx h'
   ·simpa using hz];rfl
theorem XmC (hN:NB N) {x:W8} (ht:ET x):QeN N x=Qch N x:=by
 have hN':1000000<N:=by unfold NB at hN;omega
 have hx:=ht.eb
 have h1:=Zr hx.loc
 have h2:=Yv x.Globals.Entries
 have h5:=Yv x.Weaks.Entries
 have h3:=hx.pins
 have h4:=hx.roots
 rw[QeN,Qch,Xil hN ht.ht h3]
 obtain ⟨b,eb,_⟩:=JG hN hx.heap h3
 rw[eb,Xa,Xa]
 cases b with
 | false=>rfl
 | true =>
 obtain ⟨eg,hp64,hpn⟩:=Xgg hN ht.ht h3 eb
 simp only[Ws,Wa,Xfa hx.loc hN',ZQ hx.loc hN',XbU hx.glo hN',Zy hx.glo hN',XbU hx.wea hN',Zy hx.wea hN',Xan hx.glo hN',Yy hx.glo hN',Xan hx.wea hN',Yy hx.wea hN',ZX hx.loc hN',Xa,Xb1 hN hx]
 cases el:YV x.Locals with
 | false=>rfl
 | true =>
 cases et:YL x.Globals.Entries with
 | false=>rfl
 | true =>
 cases ew:YL x.Weaks.Entries with
 | false=>rfl
 | true =>
 have hl:XdN x=((x.Roots++Ym x.Locals.Slots)++XZ x.Globals.Entries)++x.Pins.map (·.Ref):=by unfold XdN;rw[el,et];rfl
 have hlen:=Xfk hx
 rw[el,Wc] at h1
 rw[et,Wc] at h2
 rw[ew,Wc] at h5
 simp only[Ws,Wa,Wc]
 rw[XdG (by omega) hN',Xa,Xkw,Ze 0 (by omega) (by omega),Xa]
 cases (XZ x.Globals.Entries).contains 0 with
 | true=>rfl
 | false =>
 rw[Wa,Wa,Xe (by omega),Xe (by omega),Xe (by omega),Xe (by omega)]
 rw[QfM,XcT _ (by simp) (by simp only[Xap];omega) hN',Xa,Xa]
 obtain ⟨y,ey,hy,_⟩:=Ji hN hx.heap
 have e1:[XdN x,XZ x.Weaks.Entries].flatten=XdN x++XZ x.Weaks.Entries:=by simp
 rw[e1,Xik hN ht.ht (by rw[Wq];omega),XaI hN ht.ht (by rw[Wq];omega) eg ey,XaI hN ht.ht (by simp only[Wq];omega) eg ey,Xa,Xa,hl]
 simp only[List.all_append]
 have hp:(x.Pins.map (·.Ref)).all (λ x=>x==0||y.1.contains x)=true:=by
  rw[Ue]
  intro r hr
  obtain ⟨p,hp,rfl⟩:=UY.1 hr
  rw[hpn y ey p hp,Bool.or_true]
 rw[hp,Bool.and_true]
end
end Go.Sx
namespace Go.Sx
section
variable {N:Nat}
theorem XdO {α β:Type} {L:Nat} {F:Nat->Int->Option (Ex α β)} {u:β} (hok:∀ n k,k<L->F (n+1) (k:Int)=F n ((k+1:Nat):Int)) (hstop:∀ n,F (n+1) (L:Int)=some (.nxt u)) {n:Nat} (hn:L<n):F n 0=some (.nxt u):=by
 obtain ⟨e,e1,_,e3⟩:=KF (p:=λ _=>False) (Q:=λ _=>True) (u:=u) (λ n k _ h=>h.elim) (λ n k hk _=>hok n k hk) hstop n 0 (by omega) (by omega)
 rw[e3 (λ ⟨_,_,_,h⟩=>h)] at e1
 exact e1
theorem Xhi (n:Nat):(((n:Nat):Int) != ((n:Nat):Int))=false:=by simp
theorem Xkx {l:List Int} (hl:l.length<=1300000) (hN:NB N):QfD N l l=some true:=by
 unfold NB at hN
 rw[QfD,Xhi,Wa,XdO (F:=Qdx N l l) (L:=l.length) (u:=()) (λ n k hk=>by rw[Qdx,Wh (by omega),Wc,Xd,Wd hk,Xa,Xa,show (l[k] != l[k])=false by simp,Wa,Xh (by omega)]) (λ n=>by rw[Qdx,Wj (by omega),Wa]) (by omega),Xa,Xo]
theorem Xn9 {h:Wn} (hb:HB h) (hN:NB N):Qgg N h h=some true:=by
 unfold NB at hN
 have hb1:=hb.1
 have hb2:=hb.2
 have e1:Qeh N h.Pages h.Pages=some true:=by
  rw[Qeh,Xhi,Wa,XdO (F:=QbH N h.Pages h.Pages) (L:=h.Pages.length) (u:=()) (λ n k hk=>by rw[QbH,Wh (by omega),Wc,Xd,Wd hk,Xa,Xa];simp only[beq_self_eq_true,ID,Ws,Wa];rw[Xh (by omega)]) (λ n=>by rw[QbH,Wj (by omega),Wa]) (by omega),Xa,Xo]
 rw[Qgg]
 simp only[beq_self_eq_true,ID,Ws,Wa,bne_self_eq_false,e1,Xa]
 rw[XdO (F:=Qdy N h h) (L:=h.Words.length) (u:=()) (λ n k hk=>by rw[Qdy,Wh (by omega),Wc,Xd,Wd hk,Xa,Xa,show (h.Words[k] != h.Words[k])=false by simp,Wa,Xh (by omega)]) (λ n=>by rw[Qdy,Wj (by omega),Wa]) (by omega),Xa,Xo]
theorem Xim (N:Nat) (c:WQ):QgW N c=Qcd N c:=by
 rw[QgW,Qhx,Qcd,Qeg,Zc,Yr,Xa,Xa]
 cases hc:XY c with
 | false=>rw[W0,Wc,Wc,Xa,Xa];rfl
 | true =>
  have hv:=Xi.1 hc
  have hm:=X1 hc (i:=0) (by omega) (by omega)
  rw[Ws,Wa,Wa,Qhj,I4 c.PageWords c.Pages,Xc (n:=c.Pages*c.PageWords) (by omega) (by omega),Xz (show ¬ c.Pages*c.PageWords<0 by omega),Wa,Xz (show ¬ c.Pages*c.PageWords>4096 by omega),Wa]
  have g:0<=c.Pages*c.PageWords/\(c.Pages*c.PageWords).toNat*8<=140737488355328:=by omega
  have g2:0<=c.Pages/\c.Pages.toNat*32<=140737488355328:=by omega
  simp only[Xe g,Xe g2,Xa,show ((0:Int) != 0)=false from rfl,Wa]
theorem Xgi (hN:NB N) (c:WQ):∃ x e,Qcd N c=some (x,e)/\Qgj N x x=some true:=by
 have hN':=hN
 unfold NB at hN'
 obtain ⟨r,er,hr⟩:=Xe9 (N:=N) c
 refine ⟨r.1,r.2,er,?_⟩
 have hx:r.1.Locals=⟨[],[],[]⟩/\r.1.Globals=⟨[]⟩/\r.1.Weaks=⟨[]⟩/\r.1.Pins=[]/\r.1.Roots=[]:=by
  rw[Qcd] at er
  cases e:Qeg N c with
  | none=>rw[e,Vi] at er;cases er
  | some y=>rw[e,Xa] at er;cases er;exact ⟨rfl,rfl,rfl,rfl,rfl⟩
 obtain ⟨a,b,c',d,e⟩:=hx
 have l14:Qgh N ⟨[],[],[]⟩ ⟨[],[],[]⟩=some true:=by
  obtain ⟨n,rfl⟩:∃ n,N=n+1:=⟨N-1,by omega⟩
  rw[Qgh,Qe0,Qe1,Qe2];simp[Xa,Xo]
 have l15:QfE N ⟨[]⟩ ⟨[]⟩=some true:=by
  obtain ⟨n,rfl⟩:∃ n,N=n+1:=⟨N-1,by omega⟩
  rw[QfE,Qe3];simp[Xa,Xo]
 have l17:Qgi N [] []=some true:=by
  obtain ⟨n,rfl⟩:∃ n,N=n+1:=⟨N-1,by omega⟩
  rw[Qgi,Qe4];simp[Xa,Xo]
 rw[Qgj,Xn9 hr.heap hN,a,b,c',d,e,Xa,Wc,l14,Xa,Wc,l15,Xa,Wc,Xa,Wc,l17,Xa,Wc,Xkx (by simp) hN,Xa]
theorem Xin (x:W8):Ok (Qfa N x) λ b=>b=true->EB x:=by
 rw[Qfa,QgT]
 refine WH (Q:=λ b=>b=true->HB x.Heap) ?_ λ y _ hy=>?_
 ·refine Wo (λ h=>Wg λ h2=>?_) λ _=>Wg λ h=>by cases h
  have a:=Wr h
  have b:=Wr h2
  exact ⟨by omega,by omega⟩
 ·refine Wo (λ h0=>Wo (λ h1=>Wo (λ h2=>Wo (λ h3=>Wo (λ h4=>Wo (λ h5=>Wo (λ h6=>Wg λ h7=>?_) λ _=>Wg λ h=>by cases h) λ _=>Wg λ h=>by cases h) λ _=>Wg λ h=>by cases h) λ _=>Wg λ h=>by cases h) λ _=>Wg λ h=>by cases h) λ _=>Wg λ h=>by cases h) λ _=>Wg λ h=>by cases h
  have a1:=Wr h1
  have a2:=Wr h2
  have a3:=Wr h3
  have a4:=Wr h4
  have a5:=Wr h5
  have a6:=Wr h6
  have a7:=Wr h7
  exact ⟨hy h0,⟨by omega,by omega,by omega⟩,by unfold TB;omega,by unfold TB;omega,by omega,by omega⟩
end
end Go.Sx
namespace Go.Sx
section
variable {N:Nat}
theorem XdP (m:Nat):QgG (m+400)=some true:=by kernel_rfl
theorem Xio (hN:NB N) (l:List W8) (hl:l.length<=3) (hx:∀ x∈l,ET x):Qba N l N 0=some (.nxt ()):=by
 have hN':=hN
 unfold NB at hN'
 refine XdO (F:=Qba N l) (L:=l.length) (u:=()) (λ n k hk=>?_) (λ n=>by rw[Qba,Wj (by omega),Wa]) (by omega)
 have ht:=hx _ (WU hk)
 obtain ⟨b,eb,_⟩:=Kj hN ht.eb
 rw[Qba,Wh (by omega),Wc,Xd,Wd hk,Xa,XmC hN ht,eb,Xa,Xa,show (!(b==b))=false by simp,Wa,Xa,Xh (by omega)]
 cases b with
 | false=>rfl
 | true =>
  have hp:=ht.eb.pins
  have hs:=Xfk ht.eb
  rw[Wc,Xb1 hN ht.eb,Xgh hN ht.eb,Xa,Xa,Xkx (by omega) hN,Xa];rfl
theorem Xfl (hN:NB N) (raw:W8) (tape odd:List Int) (c:WQ) (he:Ok (QfL N raw tape odd) λ l=>l.length<=3/\∀ x∈l,ET x):Qd2 N raw tape odd c=some true:=by
 obtain ⟨x,e,en,es⟩:=Xgi hN c
 obtain ⟨l,el,hl,hx⟩:=he
 obtain ⟨m,rfl⟩:∃ m,N=m+400:=⟨N-400,by unfold NB at hN;omega⟩
 rw[Qd2,Xim,en,Xa,Xa]
 dsimp only
 rw[show (e != e)=false by simp,Wa,es,Xa,Ws,Wa,el,Xa,Xio hN l hl hx,Xa,Xo,XdP,Xa]
end
end Go.Sx
namespace Go.Sx
section
variable {N:Nat}
theorem XdQ (N:Nat) (c:WQ):QfV N c=some (Y0 c):=by
 rw[show QfV N c=QdT N c by rw[QfV,QdT,Zc,Yr]]
 exact Xbw N c
theorem J5 (N:Nat) (ps:List Wv):QfT N ps=Qck N ps:=by
 have h:∀ (n:Nat) (c i:Int),Qc6 N ps n c i=Qa1 N ps n c i:=by
  intro n
  induction n with
  | zero=>intro c i;rw[Qc6,Qa1]
  | succ n ih=>intro c i;rw[Qc6,Qa1];simp only[ih]
 rw[QfT,Qck,h]
theorem Xfm (N:Nat) (ps:List Wv) (hl:ps.length<=100000):∀ (n k:Nat) (v:List Og),k<=ps.length->v.length<=k->QbR N ps n (k:Int) v=QaQ N ps n (k:Int) v
 | 0,k,v,_,_=>by rw[QbR,QaQ]
 | n+1,k,v,hk,hv=>by
  rw[QbR,QaQ]
  by_cases hlt:k<ps.length
  case neg=>rw[Wj (show ¬ (k:Int)<((ps.length:Nat):Int) by omega),Wa,Wa]
  rw[Wh (show (k:Int)<((ps.length:Nat):Int) by omega),Wc,Wc,Xd,Wd hlt,Xa,Xa,Xe (by omega),Xh (by omega)]
  have e1:∀ v':List Og,v'.length<=k+1->QbR N ps n ((k+1:Nat):Int) v'=QaQ N ps n ((k+1:Nat):Int) v':=λ v' h=>Xfm N ps hl n (k+1) v' (by omega) h
  rw[e1 v (by omega),e1 (v++[Og.mk (k:Int) 1]) (by simp;omega)]
  have e2:∀ (i:Nat) (x:Og),QbR N ps n ((k+1:Nat):Int) (v.set i x)=QaQ N ps n ((k+1:Nat):Int) (v.set i x):=λ i x=>e1 _ (by rw[Wx];omega)
  simp only[e2]
  cases (ps[k].Kind != 0) with
  | true=>rfl
  | false =>
   rw[Wa,Wa,Xe (show v.length<=140737488355328 by omega)]
   rw[show decide (wI (((v.length:Nat):Int)-1)>=0)=decide (((v.length:Nat):Int)>0) by
    rw[Xc (by omega) (by omega)];exact decide_eq_decide.2 (by omega)]
theorem Xas (hN:1000000<N) {ps:List Wv} (hl:ps.length<=100000) (k:Int):QfW N ps k=Qbw N ps k:=by
 have er:QgK N ps=QfI N ps:=by
  rw[QgK,QfI,show (0:Int)=((0:Nat):Int) from rfl,Xfm N ps hl N 0 [] (by omega) (by simp)]
 rw[QfW,Qbw,er]
 obtain ⟨rs,ers,hrs,_⟩:=XgN (N:=N) (ps:=ps) (by omega) (by omega)
 rw[ers,Xa,Xa]
 by_cases hk:k<1
 ·rw[Wh hk,Wc]
  have:∀ (n j:Nat),j<=rs.length->rs.length-j<n->QaW N k rs n (j:Int)=some (.nxt ()):=by
   intro n
   induction n with
   | zero=>intro j _ h;omega
   | succ n ih =>
    intro j hj hn
    rw[QaW]
    by_cases hlt:j<rs.length
    ·rw[Wh (by omega),Wc,Xz (show ¬ k>=1 by omega),Wa,Xh (by omega)]
     exact ih (j+1) (by omega) (by omega)
    ·rw[Wj (by omega),Wa]
  have h0:=this N 0 (by omega) (by omega)
  rw[show ((0:Nat):Int)=0 from rfl] at h0
  rw[h0,Xa,Xo]
 ·rw[Xz hk,Wa]
  have:∀ (n:Nat) (j:Int),QdG N k rs n j=QaW N k rs n j:=by
   intro n
   induction n with
   | zero=>intro j;rw[QdG,QaW]
   | succ n ih =>
    intro j
    rw[QdG,QaW,Wh (show k>=1 by omega),Wc]
    simp only[ih]
    cases Xb rs j with
    | none=>simp only[Vi]
    | some p=>simp only[Xa]
  rw[this]
theorem VZ (hN:1000000<N) (c:WQ) (d:Wz):QfS N c d=Qb7 N c d:=by
 rw[QfS,Qb7,Kt (by omega),YS,YT (by omega),Yg]
 simp only[Xa,K2,Zl (show 10<=N by omega)]
 have hr:=Y7 c (XG d)
 rw[show decide (XA c (XG d)>=0)=(XA c (XG d) != -1) by
  by_cases h:XA c (XG d) = -1
  ·rw[h];rfl
  ·rw[show (XA c (XG d) != -1)=true by simpa using h];exact Wh (by omega)]
end
end Go.Sx
namespace Go.Sx
section
variable {N:Nat}
def JO (p:Wv):Bool:=p.Kind != 0
theorem Xb2 (N:Nat) (ps:List Wv) (hl:ps.length<=1000000):∀ (n c k:Nat),k<=ps.length->c<=k->ps.length-k<n->Qa1 N ps n (c:Int) (k:Int)=some (((c+(ps.drop k).countP JO:Nat):Int))
 | 0,c,k,_,_,h=>by omega
 | n+1,c,k,hk,hc,hn=>by
  rw[Qa1]
  by_cases hlt:k<ps.length
  ·rw[Wh (by omega),Wc,Xd,Wd hlt,Xa,Xh (by omega),Xh (by omega),Wu hlt,List.countP_cons]
   cases hb:(ps[k].Kind != 0) with
   | true=>rw[Wc,Xb2 N ps hl n (c+1) (k+1) (by omega) (by omega) (by omega),Wm (show JO ps[k]=true from hb)];congr 1;omega
   | false=>rw[Wa,Xb2 N ps hl n c (k+1) (by omega) (by omega) (by omega),Wk (show ¬ JO ps[k]=true by unfold JO;rw[hb];simp)];rfl
  ·rw[Wj (by omega),Wa,WL (by omega)];simp
theorem Xky (hN:1000000<N) {ps:List Wv} (hl:ps.length<=100000):Qck N ps=some ((ps.countP JO:Nat):Int):=by
 rw[Qck,show (0:Int)=((0:Nat):Int) from rfl,Xb2 N ps (by omega) N 0 0 (by omega) (by omega) (by omega),Xa,WT,Ux]
def Zp (ps l:List Wv) (i:Nat):List Wv:=(ps.take i++l)++ps.drop (i+l.length)
theorem K3 {ps l:List Wv} {i:Nat} (h:i+l.length<=ps.length):(Zp ps l i).length=ps.length:=by
 unfold Zp;simp only[Wq,Wy,WN];omega
theorem XdR (hl:Nat) (i k:Nat) (f r:Wv) (ps:List Wv) (hps:ps.length<=100000) (hik:i+k<=ps.length):∀ (n m:Nat),m<=k->k-m<n ->
 Qc1 N (i:Int) (k:Int) f r n (m:Int) (Zp ps (List.replicate m r) i)=some (if ((ps.drop (i+m)).take (k-m)).any JO=true then .ret ([],20) else .nxt (Zp ps (List.replicate k r) i))
 | 0,m,_,h=>by omega
 | n+1,m,hm,hn=>by
  rw[Qc1]
  by_cases hlt:m<k
  case neg =>
   obtain rfl:m=k:=by omega
   rw[Wj (by omega),Wa,Nat.sub_self,List.take_zero,List.any_nil,Wk (by simp)]
  have hlen:(Zp ps (List.replicate m r) i).length=ps.length:=K3 (by rw[WC];omega)
  have hg:(Zp ps (List.replicate m r) i)[i+m]? = some (ps[i+m]'(by omega)):=by
   unfold Zp
   rw[UP (by simp;omega),Un]
   simp only[Wq,Wy,WC]
   rw[show i+m+(i+m-(min i ps.length+m))=i+m by omega]
   exact Wd (by omega)
  have hs:(Zp ps (List.replicate m r) i).set (i+m) r=Zp ps (List.replicate (m+1) r) i:=by
   unfold Zp
   rw[List.set_append_right _ _ (by simp;omega)]
   simp only[Wq,Wy,WC]
   rw[show i+m-(min i ps.length+m)=0 by omega,Wu (show i+m<ps.length by omega),IN,List.replicate_succ',← Ut (ps.take i),Ut (ps.take i++List.replicate m r)]
   rfl
  have hw:wI ((i:Int)+(m:Int))=((i+m:Nat):Int):=by rw[Xc (by omega) (by omega)];omega
  rw[Wh (by omega),Wc,hw,Xd,hg,Xa,Xa,Xh (by omega),show (((i+m:Nat):Int)).toNat=i+m from rfl,hs]
  have hd:(ps.drop (i+m)).take (k-m)=ps[i+m]'(by omega)::(ps.drop (i+(m+1))).take (k-(m+1)):=by
   rw[Wu (show i+m<ps.length by omega),show k-m=(k-(m+1))+1 by omega,Il];rfl
  rw[hd,List.any_cons]
  cases hb:((ps[i+m]'(by omega)).Kind != 0) with
  | true=>rw[Wc,show JO (ps[i+m]'(by omega))=true from hb,Bool.true_or,Wm rfl]
  | false =>
   rw[Wa,show JO (ps[i+m]'(by omega))=false from hb,If]
   exact XdR hl i k f r ps hps hik n (m+1) (by omega) (by omega)
theorem Xip {α:Type} (p:α->Bool) (l:List α):decide (((l.countP p:Nat):Int)>0)=l.any p:=by
 cases h:l.any p with
 | true =>
  obtain ⟨x,hx,hp⟩:=II.1 h
  have:=List.countP_pos_iff.2 ⟨x,hx,hp⟩
  exact Wh (by omega)
 | false =>
  have:l.countP p=0:=List.countP_eq_zero.2 λ x hx hp=>by
   rw[List.any_eq_false] at h;exact h x hx hp
  exact Wj (by omega)
theorem Xfn (hN:1000000<N) {ps:List Wv} (hps:ps.length<=100000) (i:Int) (f r:Wv) (k:Nat) (hk:1<=k) (hk2:k<=1000):Qge N ps i (f::List.replicate (k-1) r)=Qct N ps i (k:Int) f r:=by
 have hlen:(f::List.replicate (k-1) r).length=k:=by simp;omega
 rw[Qge,Qct,hlen]
 by_cases h0:i<0
 ·rw[Wh h0,Wc,Wc]
 rw[Xz h0,Wa,Wa]
 obtain ⟨j,rfl⟩:∃ j:Nat,i=(j:Int):=⟨i.toNat,by omega⟩
 by_cases hfit:j+k<=ps.length
 case neg =>
  by_cases h1:(j:Int)>=((ps.length:Nat):Int)
  ·rw[Wh h1,Wc,Xc (n:=((ps.length:Nat):Int)-(k:Int)) (by omega) (by omega),Wh (show (j:Int)>((ps.length:Nat):Int)-(k:Int) by omega),Wc]
  ·rw[Xz h1,Wa,Xc (n:=((ps.length:Nat):Int)-(k:Int)) (by omega) (by omega),Xc (n:=((ps.length:Nat):Int)-(j:Int)) (by omega) (by omega),Wh (show (j:Int)>((ps.length:Nat):Int)-(k:Int) by omega),Wc,Wh (show (k:Int)>((ps.length:Nat):Int)-(j:Int) by omega),Wc]
 rw[Xc (n:=((ps.length:Nat):Int)-(k:Int)) (by omega) (by omega),Xc (n:=((ps.length:Nat):Int)-(j:Int)) (by omega) (by omega),Xz (show ¬ (j:Int)>((ps.length:Nat):Int)-(k:Int) by omega),Wa,Xz (show ¬ (j:Int)>=((ps.length:Nat):Int) by omega),Wa,Xz (show ¬ (k:Int)>((ps.length:Nat):Int)-(j:Int) by omega),Wa]
 have hw:wI ((j:Int)+(k:Int))=((j+k:Nat):Int):=by rw[Xc (by omega) (by omega)];omega
 rw[hw,Xe (by omega),Xe (by omega),show (((j+k:Nat):Int)).toNat=j+k from rfl,show ((j:Nat):Int).toNat=j from rfl,show j+k-j=k by omega,J5,Xky hN (by rw[Wy];omega),Xa,Xip]
 have ht:=XdR (N:=N) 0 j k f r ps hps hfit N 0 (by omega) (by omega)
 have hp0:Zp ps (List.replicate 0 r) j=ps:=by unfold Zp;simp
 rw[hp0,U9,Nat.sub_zero,show ((0:Nat):Int)=0 from rfl] at ht
 rw[ht,Xa]
 cases ((ps.drop j).take k).any JO with
 | true=>rw[Wc,Wm rfl,XC]
 | false =>
  rw[Wa,Wk (by simp),Xo,Qak,Xa,Xe (by omega),Xe (by omega)]
  have hl2:(Zp ps (List.replicate k r) j).length=ps.length:=K3 (by rw[WC];omega)
  rw[Xd,Wd (by omega),Xa]
  congr 2
  unfold Zp
  obtain ⟨m,rfl⟩:∃ m,k=m+1:=⟨k-1,by omega⟩
  rw[WC,Is,List.replicate_succ,List.set_append_left _ _ (by simp;omega),List.set_append_right _ _ (by simp;omega)]
  simp only[Wy]
  rw[show j-min j ps.length=0 by omega,IN]
end
end Go.Sx
namespace Go.Sx
section
variable {N:Nat}
theorem XcW {α:Type} (sp:Int) (x y:α):(bif (!decide (sp=0\/sp=1)) then x else y)=(bif (decide (sp<0)) then x else bif (decide (sp>1)) then x else y):=by
 by_cases h:sp=0\/sp=1
 ·rw[Wh h,Xz (show ¬ sp<0 by omega),Xz (show ¬ sp>1 by omega)];rfl
 ·rw[Wj h]
  by_cases h0:sp<0
  ·rw[Wh h0];rfl
  ·rw[Xz h0,Wh (show sp>1 by omega)];rfl
theorem Xiq (hN:1000000<N) {ps:List Wv} (hps:ps.length<=100000) (i sp:Int):QfU N ps i sp=Qbx N ps i sp:=by
 rw[QfU,Qbx,Zs,Xa,XcW]
 have:=Xfn hN hps i (Wv.mk 1 sp 0 0) (Wv.mk 0 0 0 0) 1 (by omega) (by omega)
 rw[show [(Wv.mk 1 sp 0 0)]=Wv.mk 1 sp 0 0::List.replicate (1-1) (Wv.mk 0 0 0 0) from rfl,this];rfl
theorem XcX (N:Nat) (ps:List Wv) (i sp y:Int) (k:Nat) (hy:y=(k:Int)) (hk:k<=1000) (f:Wv):∀ (n m:Nat),m<=k-1->1<=k->k-m<n->Qee N ps i sp y n (f::List.replicate m (Wv.mk 3 sp 0 0))=some (f::List.replicate (k-1) (Wv.mk 3 sp 0 0))
 | 0,m,_,_,h=>by omega
 | n+1,m,hm,h1,hn=>by
  have hl:(f::List.replicate m (Wv.mk 3 sp 0 0)).length=m+1:=by simp
  rw[Qee,hl,Xe (by omega)]
  by_cases hlt:m+1<k
  ·rw[Wh (by omega),Wc,Xe (by omega),Ip,← List.replicate_succ']
   exact XcX N ps i sp y k hy hk f n (m+1) (by omega) h1 (by omega)
  ·rw[Wj (by omega),Wa,show k-1=m by omega]
theorem XcY (hN:1000000<N) {ps:List Wv} (hps:ps.length<=100000) (c:WQ) (i sp w:Int):Qgt N c ps i sp w=Qdp N c ps i sp w:=by
 rw[Qgt,Qdp,K2,Zl (by omega),Xa,Xa]
 by_cases h:XA c w<1
 ·rw[Wh h];rfl
 have hr:=Y7 c w
 obtain ⟨k,hk⟩:∃ k:Nat,XA c w=(k:Int):=⟨(XA c w).toNat,by omega⟩
 rw[Xz h,Wa,Wa,Zs,Xa,XcW]
 have hl:=XcX N ps i sp (XA c w) k hk (by omega) (Wv.mk 2 sp w 0) N 0 (by omega) (by omega) (by omega)
 rw[show [(Wv.mk 2 sp w 0)]=Wv.mk 2 sp w 0::List.replicate 0 (Wv.mk 3 sp 0 0) from rfl,hl,Xa,Xfn hN hps i _ _ k (by omega) (by omega),hk]
theorem Xgj {v:Int} {k:Nat} (hk:k<=63) (h0:0<=v) (h1:v<2 ^ k):XaN .u64 v (2 ^ k-1)=0:=by
 obtain ⟨n,rfl⟩:=UE h0
 have hn:n<2 ^ k:=by
  have h2:(2:Int) ^ k=((2 ^ k:Nat):Int):=by simp
  rw[h2] at h1;omega
 have hb:IntKind.u64.bits=64:=rfl
 show IntKind.u64.wrap ((BitVec.ofInt IntKind.u64.bits n &&& ~~~ BitVec.ofInt IntKind.u64.bits (2 ^ k-1)).toNat:Int)=_
 rw[hb]
 have hk2:(2:Int) ^ k-1=((2 ^ k-1:Nat):Int):=by
  have h1:=Nat.one_le_two_pow (n:=k)
  have h2:(2:Int) ^ k=((2 ^ k:Nat):Int):=by simp
  rw[h2];omega
 have e1:BitVec.ofInt 64 (n:Int)=BitVec.ofNat 64 n:=by simp
 have e2:BitVec.ofInt 64 ((2 ^ k-1:Nat):Int)=BitVec.ofNat 64 (2 ^ k-1):=by simp
 rw[hk2,e1,e2]
 have hz:BitVec.ofNat 64 n &&& ~~~ BitVec.ofNat 64 (2 ^ k-1)=0#64:=by
  apply BitVec.eq_of_getLsbD_eq
  intro i hi
  simp only[BitVec.getLsbD_and,BitVec.getLsbD_not,BitVec.getLsbD_ofNat,hi,decide_true,WR,BitVec.getLsbD_zero]
  by_cases hik:i<k
  ·rw[Nat.testBit_two_pow_sub_one,Wh hik];simp
  ·rw[Nat.testBit_lt_two_pow (IO hn (IX (by omega) (by omega)))];simp
 rw[hz];rfl
theorem XdS {a b:Int} {s:Nat} (hs:s<=63) (ha0:0<=a) (ha:a<2 ^ s) (hb0:0<=b) (hb:b*2 ^ s+a<=18446744073709551615):bOr .u64 a (b*2 ^ s)=a+b*2 ^ s:=by
 obtain ⟨n,rfl⟩:=UE ha0
 obtain ⟨m,rfl⟩:=UE hb0
 have h2:(2:Int) ^ s=((2 ^ s:Nat):Int):=by simp
 rw[h2] at ha hb ⊢
 have hm:(m:Int)*((2 ^ s:Nat):Int)=((m*2 ^ s:Nat):Int):=by simp
 rw[hm] at hb ⊢
 have hb64:IntKind.u64.bits=64:=rfl
 show IntKind.u64.wrap ((BitVec.ofInt IntKind.u64.bits n ||| BitVec.ofInt IntKind.u64.bits ((m*2 ^ s:Nat):Int)).toNat:Int)=_
 rw[hb64]
 have e1:BitVec.ofInt 64 (n:Int)=BitVec.ofNat 64 n:=by simp
 have e2:BitVec.ofInt 64 ((m*2 ^ s:Nat):Int)=BitVec.ofNat 64 (m*2 ^ s):=by rw[BitVec.ofInt_natCast]
 rw[e1,e2,BitVec.toNat_or,Iq,Iq,I6 (show n<2 ^ 64 by omega),I6 (show m*2 ^ s<2 ^ 64 by omega)]
 have:=Nat.shiftLeft_add_eq_or_of_lt (show n<2 ^ s by omega) m
 rw[Nat.shiftLeft_eq] at this
 rw[Nat.or_comm,← this]
 show wU _=_
 rw[Xw (by omega) (by omega)];omega
end
end Go.Sx
