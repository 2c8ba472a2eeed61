import Derived.KernelRfl
import Derived.Test.YtgcneehkconghaaGreatDoorBD
set_option linter.all false
namespace Go.Sx
section
variable {N:Nat}
theorem Y4 (h:UR):Ok (Qbk N h) λ _=>True:=by
 rw[Qbk]
 refine WJ (Q:=λ _=>True) ?_ λ b _ _=>Wn (λ _=>We trivial) λ _=>We trivial
 rw[QfN]
 exact Wn (λ _=>Wn (λ _=>Wn (λ _=>Wn (λ _=>Wn (λ _=>We trivial) λ _=>We trivial) λ _=>We trivial) λ _=>We trivial) λ _=>We trivial) λ _=>We trivial
theorem VQ (a:Int):Ok (Qbx N a) λ _=>True:=by
 rw[Qbx]
 exact Wn (λ _=>We trivial) λ _=>WJ (Y4 _) λ _ _ _=>Wn (λ _=>We trivial) λ _=>Wn (λ _=>We trivial) λ _=>We trivial
theorem XlE {l:List UE} (r:Int) (hl:l.length<=1000000):∀ (n:Nat) (k:Int),0<=k->k<=l.length->(l.length-k).toNat<n->Ok (Qdq N l r n k) λ e=>∀ i,e=.ret i->0<=i/\i<l.length/\∃ p∈l,p.Ref=r
 | 0,k,_,_,hn=>by omega
 | n+1,k,h0,hk,hn=>by
  rw[Qdq]
  refine Wn (λ hc=>?_) λ _=>We λ i e=>by cases e
  have hc:k<l.length:=Wu hc
  rw[Xc (n:=k+1) (by omega) (by omega)]
  refine Ok.get h0 hc λ p hp=>Wn (λ h=>We λ i e=>?_) λ _=>XlE r hl n (k+1) (by omega) (by omega) (by omega)
  cases e
  exact ⟨h0,hc,p,Yh hp,by simpa using h⟩
theorem Xa8 {l:List UE} (r:Int) (hl:l.length<=1000000) (hN:1000000<N):Ok (QeD N l r) λ i=>i = -1\/(0<=i/\i<l.length/\∃ p∈l,p.Ref=r):=by
 rw[QeD]
 exact IG (XlE r hl N 0 (by omega) (by omega) (by omega)) (λ i q=>We (.inr (q i rfl))) λ _ _=>We (.inl rfl)
theorem Xap {h:Wo} (hp:UK h) {a:Int} (ha:IQ h a):QeE N h a=some (pgi h.Conf a)/\0<=pgi h.Conf a/\pgi h.Conf a<h.Pages.length:=by
 have hv:=Xk.1 hp.conf
 obtain ⟨_,q0,q1,_⟩:=Jg hp.conf ha.rng
 have:=hp.pages
 refine ⟨?_,q0,by omega⟩
 rw[QeE,Vm,Xa,hp.conf,Wk (by simp),Wm ha.rng]
 rfl
theorem XdW {h:Wo} {pins:List UE} (hN:NB N) (hp:UK h) (y:List Int×Int) (hy:IT N h y.1) (hl:pins.length<=64) (hb:HB h):∀ (n:Nat) (k:Int) (v:List Int),0<=k->k<=pins.length->(pins.length-k).toNat<n->v.length=h.Pages.length->Ok (Qbn N h pins y n k v) λ e=>match e with | .ret b=>b=false | .nxt v=>v.length=h.Pages.length/\∀ i,k<=i->∀ p,Xb pins i=some p->IQ h p.Ref
 | 0,k,v,_,_,hn,_=>by omega
 | n+1,k,v,h0,hk,hn,hv=>by
  have hN':=hN
  unfold NB at hN'
  have hyl:=hy.len
  rw[Qbn]
  refine Wn (λ hc=>?_) λ hc=>We ⟨hv,λ i hi p hp=>?_⟩
  rotate_left
  ·have:=WD hc
   rw[XgB (by omega)] at hp;cases hp
  have hc:k<pins.length:=Wu hc
  rw[Xc (n:=k+1) (by omega) (by omega)]
  have a1:0<=k+1:=by omega
  have a2:k+1<=pins.length:=by omega
  have a3:(pins.length-(k+1)).toNat<n:=by omega
  refine Ok.get h0 hc λ p hp1=>?_
  have same:∀ q,Xb pins k=some q->q=p:=λ q hq=>WO (hq.symm.trans hp1)
  rw[Y8 p.Ref (by omega) (by omega),Xa]
  refine Wn (λ _=>We rfl) λ hh=>?_
  have hm:p.Ref∈y.1:=JM (by simpa using hh)
  have hat:=hy.obj.at_ _ hm
  refine Ok.get h0 hc λ q hq=>?_
  obtain rfl:=same q hq
  refine WJ (Xa8 _ (by omega) (by omega)) λ _ _ _=>Wn (λ _=>We rfl) λ _=>Ok.get h0 hc λ _ _=>Wn (λ _=>We rfl) λ _=>Ok.get h0 hc λ _ _=>Wn (λ _=>We rfl) λ _=>Ok.get h0 hc λ q hq=>?_
  obtain rfl:=same q hq
  obtain ⟨e,q0,q1⟩:=Xap (N:=N) hp hat
  rw[e,Xa]
  refine Ok.get q0 (by omega) λ _ _=>Ok.get h0 hc λ _ _=>Ok.get q0 (by omega) λ _ _=>?_
  refine (XdW hN hp y hy hl hb n (k+1) _ a1 a2 a3 (by rw[WE];exact hv)).mono λ e he=>?_
  cases e with
  | ret b=>exact he
  | nxt v =>
   refine ⟨he.1,λ i hi p' hp'=>?_⟩
   by_cases hik:i=k
   ·subst hik
    obtain rfl:=same p' hp'
    exact hat
   ·exact he.2 i (by omega) p' hp'
theorem XdX {h:Wo} (hb:HB h) (v:List Int) (hv:v.length=h.Pages.length):∀ (n:Nat) (k:Int),0<=k->k<=h.Pages.length->(h.Pages.length-k).toNat<n->Ok (QbM N h v n k) λ e=>∀ b,e=.ret b->b=false
 | 0,k,_,_,hn=>by omega
 | n+1,k,h0,hk,hn=>by
  have:=hb.2
  rw[QbM]
  refine Wn (λ hc=>?_) λ _=>We λ b e=>by cases e
  have hc:k<h.Pages.length:=Wu hc
  rw[Xc (n:=k+1) (by omega) (by omega)]
  exact Ok.get h0 hc λ _ _=>Ok.get h0 (by omega) λ _ _=>Wn (λ _=>We λ b e=>by cases e;rfl) λ _=>XdX hb v hv n (k+1) (by omega) (by omega) (by omega)
structure Ol (N:Nat) (h:Wo) (pins:List UE):Prop where
 good:Oc N h
 len:pins.length<=64
 at_:∀ p∈pins,IQ h p.Ref
theorem Vt (hN:NB N) {h:Wo} (hb:HB h) {pins:List UE} (hl:pins.length<=1000000):Ok (QbW N h pins) λ b=>b=true->Ol N h pins:=by
 have hN':=hN
 unfold NB at hN'
 have hb2:=hb.2
 rw[QbW]
 refine WJ (KU hN hb) λ b _ hg=>Wn (λ _=>We λ e=>by cases e) λ hb1=>?_
 have hg:=hg (by simpa using hb1)
 refine Wn (λ _=>We λ e=>by cases e) λ h64=>?_
 have h64:=WD h64
 refine WJ (ZB hN hb) λ y _ hy=>W4 (by omega) ?_
 refine IG (XdW hN hg.prop y hy.1 (by omega) hb N 0 _ (by omega) (by omega) (by omega) (by rw[WL];omega)) (λ b q=>We λ e=>?_) λ v q=>?_
 ·have q:b=false:=q
  rw[q] at e;cases e
 refine IG (XdX hb v q.1 N 0 (by omega) (by omega) (by omega)) (λ b q=>We λ e=>?_) λ _ _=>We λ _=>⟨hg,by omega,λ p hp=>?_⟩
 ·rw[q b rfl] at e;cases e
 ·obtain ⟨i,hi,e⟩:=W0 hp
  exact q.2 (i:Int) (by omega) p (by rw[Xd,Wd hi,e])
theorem XdY {h:Wo} (hb:HB h) (hp:UK h) {a:Int} (ha:IQ h a) (d:Int):Ok (Qcl N h a d) HB:=by
 have hb2:=hb.2
 obtain ⟨e,q0,q1⟩:=Xap (N:=N) hp ha
 rw[Qcl,Xi (by omega),e,Xa]
 exact Ok.get q0 q1 λ _ _=>Ok.get q0 q1 λ _ _=>We ⟨hb.1,by show (h.Pages.set _ _).length<=_;rw[WE];exact hb2⟩
theorem XeU (hN:NB N) {h:Wo} (hb:HB h) {pins:List UE} (hl:pins.length<=1000000) (a:Int):Ok (Qdb N h pins a) λ r=>HB r.1/\r.2.1.length<=1000000:=by
 have hN':=hN
 unfold NB at hN'
 have zero:HB zH/\([]:List UE).length<=1000000:=⟨Zv,by simp⟩
 rw[Qdb]
 refine WJ (Vt hN hb hl) λ b _ hm=>Wn (λ _=>We zero) λ hb1=>?_
 have hm:=hm (by simpa using hb1)
 refine Wn (λ _=>We zero) λ _=>WJ (Xa8 _ hl (by omega)) λ i _ hi=>Wn (λ _=>We zero) λ h0=>?_
 have h0:=WD h0
 obtain ⟨i0,i1,p,hpm,hpr⟩:0<=i/\i<pins.length/\∃ p∈pins,p.Ref=a:=by
  rcases hi with h | h
  ·omega
  ·exact h
 have hat:=hm.at_ p hpm
 rw[hpr] at hat
 have hc:=XdY (N:=N) hb hm.good.prop hat (-1)
 refine W4 (by omega) (Ok.get i0 i1 λ _ _=>Ok.get i0 i1 λ _ _=>Ok.get i0 (by rw[WE];exact i1) λ _ _=>?_)
 rw[Xc (n:=i+1) (by omega) (by omega)]
 refine Wn (λ _=>W4 (by omega) (W4 (by omega) (W4 (by omega) (WJ hc λ y _ hy=>We ⟨hy,?_⟩)))) λ _=>WJ hc λ y _ hy=>We ⟨hy,?_⟩
 ·simp only[Wz,Wr,WE,WM];omega
 ·show (pins.set _ _).length<=_;rw[WE];exact hl
theorem Xa9 {h:Wo} (hb:HB h) (a:Int):∀ (n:Nat) (c k:Int),0<=k->k<=h.Pages.length->(h.Pages.length-k).toNat<n->Ok (Qby N h a n c k) λ _=>True
 | 0,c,k,_,_,hn=>by omega
 | n+1,c,k,h0,hk,hn=>by
  have:=hb.2
  rw[Qby]
  refine Wn (λ hc=>?_) λ _=>We trivial
  have hc:k<h.Pages.length:=Wu hc
  rw[Xc (n:=k+1) (by omega) (by omega)]
  have next:=λ c'=>Xa9 hb a n c' (k+1) (by omega) (by omega) (by omega)
  exact Ok.get h0 hc λ _ _=>Wn (λ _=>Ok.get h0 hc λ _ _=>Wn (λ _=>next _) λ _=>next _) λ _=>next _
theorem KW (hN:NB N) {h:Wo} (hb:HB h) (a:Int):Ok (QcG N h a) λ _=>True:=by
 have hN':=hN
 unfold NB at hN'
 have hb2:=hb.2
 rw[QcG]
 refine WJ (KU hN hb) λ b _ hg=>Wn (λ _=>We trivial) λ hb1=>?_
 refine WJ (V7 hN hb a) λ b _ ho=>Wn (λ _=>We trivial) λ hb1=>?_
 obtain ⟨hp,hat⟩:=ho (by simpa using hb1)
 obtain ⟨e,q0,q1⟩:=Xap (N:=N) hp hat
 refine WJ (Xa9 hb a N 0 0 (by omega) (by omega) (by omega)) λ c _ _=>?_
 rw[e,Xa]
 exact Ok.get q0 q1 λ _ _=>Wn (λ _=>Wn (λ _=>We trivial) λ _=>We trivial) λ _=>We trivial
theorem XgI (hN:NB N) {h:Wo} (hb:HB h) {pins:List UE} (hl:pins.length<=1000000) (a:Int):Ok (Qfj N h pins a) λ r=>HB r.1/\r.2.1.length<=1000000:=by
 have hN':=hN
 unfold NB at hN'
 have zero:HB zH/\([]:List UE).length<=1000000:=⟨Zv,by simp⟩
 rw[Qfj]
 refine WJ (Vt hN hb hl) λ b _ hm=>Wn (λ _=>We zero) λ hb1=>?_
 have hm:=hm (by simpa using hb1)
 refine Wn (λ _=>We zero) λ _=>WJ (V7 hN hb a) λ b _ ho=>Wn (λ _=>We zero) λ hb1=>?_
 obtain ⟨hp,hat⟩:=ho (by simpa using hb1)
 have hc:=XdY (N:=N) hb hm.good.prop hat 1
 have h64:=hm.len
 refine WJ (Xa8 _ hl (by omega)) λ i _ hi=>?_
 have rest:Ok (α:=Wo×List UE×Int×Int) (grd (pins.length*16<=140737488355328) <|
  jn (λ (x11:List UE) =>
   bnd (Qcl N h a 1) λ y12 =>
   some (y12,x11,(wU (a+1)),0)) λ j2 =>
  bif (decide (i>=0)) then (bnd (Xb pins i) λ p9 =>
   bnd (Xb pins i) λ p10 =>
   j2 (pins.set i.toNat (UE.mk p10.Ref (wI (p9.Count+1)))))
  else grd ((pins.length+1)*16<=140737488355328) <|
  j2 (pins++[(UE.mk a 1)])) λ r=>HB r.1/\r.2.1.length<=1000000:=by
  refine W4 (by omega) (Ip (Wn (λ h0=>?_) λ _=>W4 (by omega) (WJ hc λ y _ hy=>We ⟨hy,?_⟩)))
  ·have h0:0<=i:=Wu h0
   have i1:i<pins.length:=by rcases hi with h | h;omega;exact h.2.1
   exact Ok.get h0 i1 λ _ _=>Ok.get h0 i1 λ _ _=>WJ hc λ y _ hy=>We ⟨hy,by show (pins.set _ _).length<=_;rw[WE];exact hl⟩
  ·show (pins++[_]).length<=_;rw[Wr];simp;omega
 refine Ip (Wn (λ h0=>?_) λ _=>Wn (λ _=>Wn (λ _=>We zero) λ _=>WJ (KW hN hb a) λ _ _ _=>Wn (λ _=>We zero) λ _=>rest) λ _=>WJ (KW hN hb a) λ _ _ _=>Wn (λ _=>We zero) λ _=>rest)
 have h0:0<=i:=Wu h0
 have i1:i<pins.length:=by rcases hi with h | h;omega;exact h.2.1
 exact Ok.get h0 i1 λ _ _=>Wn (λ _=>We zero) λ _=>Wn (λ _=>Wn (λ _=>We zero) λ _=>WJ (KW hN hb a) λ _ _ _=>Wn (λ _=>We zero) λ _=>rest) λ _=>WJ (KW hN hb a) λ _ _ _=>Wn (λ _=>We zero) λ _=>rest
end
end Go.Sx
namespace Go.Sx
section
variable {N:Nat}
theorem XfM (hN:NB N) (c:WX) (d:Ww):Ok (Qdn N c d) λ b=>b=true->XL d=true/\d.Kind≠0/\XX c (YY d)≠-1:=by
 have hN':=hN
 unfold NB at hN'
 rw[Qdn,Zh,Xa]
 refine Wn (λ hv=>Wn (λ hk=>?_) λ _=>We λ e=>by cases e) λ _=>We λ e=>by cases e
 rw[YK,Xa,Jw (by omega),Xa]
 exact We λ e=>⟨hv,by simpa using hk,by simpa using e⟩
theorem XdZ (hN:NB N) {h:Wo} (hb:HB h) (hp:UK h) (n:Int):Ok (Qef N h n) λ r=>HB r.1:=by
 have hN':=hN
 unfold NB at hN'
 have hb2:=hb.2
 have setP:∀ (ps:List Wx) (i:Nat) (p:Wx) (s b:Int),ps.length<=100000->HB ⟨h.Conf,h.Words,ps.set i p,s,b⟩:=λ ps i p s b hl=>⟨hb.1,by show (ps.set i p).length<=_;rw[WE];exact hl⟩
 rw[Qef]
 refine W4 (by omega) ?_
 rw[Xin,Xa]
 refine WJ (XdG (by omega) (by omega)) λ u _ _=>?_
 have fresh:Ok (α:=Wo×Int×Bool) (bnd (Qdr N h.Pages 1) λ y5 =>
  bif (decide (y5<0)) then some ((Wo.mk (WX.mk 0 0) [] [] 0 0),0,false)
  else bif (decide (u>=Xmi h.Conf)) then some ((Wo.mk (WX.mk 0 0) [] [] 0 0),0,false)
  else bnd (Qds N h.Pages y5 h.Space) λ y6 =>
  bnd (Xb y6.1 y5) λ p11 =>
  bnd (Xb y6.1 y5) λ p12 =>
  bnd (Xb y6.1 y5) λ p13 =>
  some ((Wo.mk h.Conf h.Words (y6.1.set y5.toNat (Wx.mk p13.Kind p13.Space (wI (p12.Used+n)) p13.Pins)) h.Space y5),(wU (wI ((wI (4096+(wI (y5*h.Conf.PageWords))))+p11.Used))),true)) λ r=>HB r.1:=by
  refine WJ (XaU 1 (by omega) (by omega)) λ j _ hj=>Wn (λ _=>We Zv) λ hj0=>Wn (λ _=>We Zv) λ _=>?_
  have hr:RunOK h.Pages j 1:=by
   rcases hj with rfl | hj
   ·cases hj0
   ·exact hj
  have hsp:=hp.space
  refine WJ (XdI j h.Space (by omega) (by omega)) λ y _ hy=>?_
  obtain ⟨q0,q1,q2,q3⟩:=hy.1 (hy.2.2 hr (by omega) (by omega))
  have hjl:j<y.1.length:=by omega
  exact Ok.get q0 hjl λ _ _=>Ok.get q0 hjl λ _ _=>Ok.get q0 hjl λ _ _=>We (setP _ _ _ _ _ (by omega))
 refine Ip (Wn (λ _=>fresh) λ h0=>?_)
 have h0:=WD h0
 have hbu:=hp.bump
 have h1:h.Bump<h.Pages.length:=by rcases hbu with h | h;omega;exact h.2.1
 have h0:0<=h.Bump:=by omega
 exact Ok.get h0 h1 λ _ _=>Wn (λ _=>fresh) λ _=>Ok.get h0 h1 λ _ _=>Wn (λ _=>fresh) λ _=>Wn (λ _=>fresh) λ _=>Ok.get h0 h1 λ _ _=>Ok.get h0 h1 λ _ _=>Ok.get h0 h1 λ _ _=>We (setP _ _ _ _ _ hb2)
theorem Xd0 (hN:NB N) {h:Wo} (hb:HB h) (hp:UK h) (w k:Int):Ok (Qeg N h w k) λ r=>HB r.1:=by
 have hN':=hN
 unfold NB at hN'
 have hb2:=hb.2
 rw[Qeg]
 refine WJ (XaU k (by omega) (by omega)) λ j _ hj=>Wn (λ _=>We Zv) λ hj0=>WJ (XdG (by omega) (by omega)) λ u _ _=>?_
 rw[Xin,Xa]
 refine Wn (λ _=>We Zv) λ _=>WJ (Xiq h.Conf j h.Space w (by omega) (by omega)) λ y _ hy=>We ⟨hb.1,?_⟩
 show y.1.length<=_
 by_cases he:y.2=0
 ·have:=(hy.1 he).2.2.2.1;omega
 ·rw[hy.2 he];simp
theorem XfN (hN:NB N) {h:Wo} (hb:HB h) (d:Ww):Ok (QeA N h d) λ r=>HB r.1:=by
 have hN':=hN
 unfold NB at hN'
 rw[QeA]
 refine WJ (Yo (N:=N) (by omega) hb.1 hb.2) λ b _ hp=>Wn (λ _=>We Zv) λ hb1=>?_
 have hp:=hp (by simpa using hb1)
 refine WJ (XfM hN _ _) λ b _ _=>Wn (λ _=>We Zv) λ _=>?_
 rw[YK,Xa,Jw (by omega),Xa]
 refine WJ (XdZ hN hb hp _) λ y5 _ h5=>Ip (Wn (λ _=>WJ (Xd0 hN hb hp _ _) λ y6 _ h6=>?_) λ _=>?_)
 ·exact Wn (λ _=>We Zv) λ _=>WJ (Xfx hN (h:=y6.1) h6 _ d) λ y15 _ h15=>We h15
 ·exact Wn (λ _=>We Zv) λ _=>WJ (Xfx hN (h:=y5.1) h5 _ d) λ y15 _ h15=>We h15
end
structure EB (x:Uh):Prop where
 heap:HB x.Heap
 loc:LBp x.Locals
 glo:TB x.Globals
 wea:TB x.Weaks
 pins:x.Pins.length<=1000000
 roots:x.Roots.length<=100000
def zE:Uh:=⟨zH,zL,zT,zT,[],[]⟩
theorem Xba:EB zE:=⟨Zv,Zc,Xa6,Xa6,by simp[zE],by simp[zE]⟩
section
variable {N:Nat} {x:Uh}
theorem ZX {a:Wq} (h:LBp a):(bif YZ a then Yi a.Slots else []).length<=4096:=by
 cases hv:YZ a
 ·simp
 ·have hf:=Z9.1 hv
  have:=hf.slots
  have:=hf.iss
  have:=XbX a.Slots
  simp only[Wc];omega
theorem Y5 (l:List W6):(bif YH l then XU l else []).length<=64:=by
 cases hv:YH l
 ·simp
 ·have:=Vq hv
  have:=VO l
  simp only[Wc];omega
structure EV (N:Nat) (x:Uh):Prop where
 mat:Ol N x.Heap x.Pins
 loc:YZ x.Locals=true
 glo:YH x.Globals.Entries=true
 wea:YH x.Weaks.Entries=true
theorem ZY (hN:NB N) (hx:EB x):Ok (Qch N x) λ b=>b=true->EV N x:=by
 have hN':=hN
 unfold NB at hN'
 have hr:=hx.roots
 rw[Qch]
 refine WJ (Vt hN hx.heap hx.pins) λ b _ hm=>Wn (λ _=>We λ e=>by cases e) λ hb1=>?_
 have hm:=hm (by simpa using hb1)
 rw[Zq hx.loc (by omega),Xa]
 refine Wn (λ _=>We λ e=>by cases e) λ h1=>?_
 rw[Zp hx.glo (by omega),Xa]
 refine Wn (λ _=>We λ e=>by cases e) λ h2=>?_
 rw[Zp hx.wea (by omega),Xa]
 refine Wn (λ _=>We λ e=>by cases e) λ h3=>?_
 rw[YM hx.glo (by omega),Xa]
 have l1:=ZX hx.loc
 have l2:=Y5 x.Globals.Entries
 have l3:=Y5 x.Weaks.Entries
 rw[Y8 _ (by omega) (by omega),Xa]
 refine Wn (λ _=>We λ e=>by cases e) λ _=>W4 (by omega) ?_
 rw[Ka hx.loc (by omega),Xa]
 refine W4 (by omega) (W4 (by omega) ?_)
 rw[YM hx.wea (by omega),Xa]
 refine W4 (by omega) (WJ (VN hN hx.heap (by simp only[Wr];omega)) λ b _ _=>We λ _=>⟨hm,by simpa using h1,by simpa using h2,by simpa using h3⟩)
theorem Xbb (hp:x.Pins.length<=1000000):∀ (n:Nat) (k:Int) (v:List Int),0<=k->k<=x.Pins.length->(x.Pins.length-k).toNat<n->v.length<=1000000+k->Ok (QaQ N x n k v) λ r=>(r.length:Int)=v.length+(x.Pins.length-k)
 | 0,k,v,_,_,hn,_=>by omega
 | n+1,k,v,h0,hk,hn,hv=>by
  rw[QaQ]
  refine Wn (λ hc=>?_) λ hc=>We (by have:=WD hc;omega)
  have hc:k<x.Pins.length:=Wu hc
  rw[Xc (n:=k+1) (by omega) (by omega)]
  refine Ok.get h0 hc λ p _=>W4 (by omega) ?_
  refine (Xbb hp n (k+1) _ (by omega) (by omega) (by omega) (by rw[Wr];simp;omega)).mono λ r hr=>?_
  rw[hr,Wr];simp;omega
theorem XeV (hN:NB N) (hx:EB x):Ok (QdJ N x) λ r=>r.length=x.Roots.length+(bif YZ x.Locals then Yi x.Locals.Slots else []).length+(bif YH x.Globals.Entries then XU x.Globals.Entries else []).length+x.Pins.length:=by
 have hN':=hN
 unfold NB at hN'
 have hr:=hx.roots
 have hp:=hx.pins
 have l1:=ZX hx.loc
 have l2:=Y5 x.Globals.Entries
 rw[QdJ]
 refine W4 (by omega) ?_
 rw[Ka hx.loc (by omega),Xa]
 refine W4 (by omega) ?_
 rw[YM hx.glo (by omega),Xa]
 refine W4 (by omega) (WJ (Xbb hp N 0 _ (by omega) (by omega) (by omega) (by simp only[Wr];omega)) λ r _ hr=>We ?_)
 simp only[Wr] at hr
 omega
theorem XfO (y4:Wo×List Int×List Int×Us×Int) (y5 y6:List Int) (y7:Wq×Int) (y8 y9:Wy×Int) (hp:x.Pins.length<=1000000) (hr:x.Roots.length<=100000) (h5:y5.length<=4096) (h6:y6.length<=64) (h4:y4.2.1.length=x.Roots.length+y5.length+y6.length+x.Pins.length):∀ (n:Nat) (k:Int) (v:List UE),0<=k->k<=x.Pins.length->(x.Pins.length-k).toNat<n->(v.length:Int)=k->Ok (Qa0 N x y4 y5 y6 y7 y8 y9 n k v) λ r=>r.length=x.Pins.length
 | 0,k,v,_,_,hn,_=>by omega
 | n+1,k,v,h0,hk,hn,hv=>by
  rw[Qa0]
  refine Wn (λ hc=>?_) λ hc=>We (by have:=WD hc;omega)
  have hc:k<x.Pins.length:=Wu hc
  rw[Xc (n:=k+1) (by omega) (by omega),Xc (n:=((x.Roots.length:Nat):Int)+((y5.length:Nat):Int)) (by omega) (by omega),Xc (n:=((x.Roots.length:Nat):Int)+((y5.length:Nat):Int)+((y6.length:Nat):Int)) (by omega) (by omega),Xc (n:=((x.Roots.length:Nat):Int)+((y5.length:Nat):Int)+((y6.length:Nat):Int)+k) (by omega) (by omega)]
  refine Ok.get (by omega) (by omega) λ _ _=>Ok.get h0 hc λ p _=>W4 (by omega) ?_
  exact XfO y4 y5 y6 y7 y8 y9 hp hr h5 h6 h4 n (k+1) _ (by omega) (by omega) (by omega) (by rw[Wr];simp;omega)
theorem Xab (hN:NB N) (hx:EB x):Ok (QcE N x) λ r=>EB r.1:=by
 have hN':=hN
 unfold NB at hN'
 have hr:=hx.roots
 have hp:=hx.pins
 rw[QcE]
 refine WJ (ZY hN hx) λ b _ hv=>Wn (λ _=>We Xba) λ hb1=>?_
 have hv:=hv (by simpa using hb1)
 have h64:=hv.mat.len
 have l1:=ZX hx.loc
 have l2:=Y5 x.Globals.Entries
 have l3:=Y5 x.Weaks.Entries
 refine WJ (XeV hN hx) λ y2 _ h2=>?_
 rw[hv.loc,hv.glo] at h2
 rw[hv.loc] at l1
 rw[hv.glo] at l2
 rw[YM hx.wea (by omega),Xa]
 rw[hv.wea] at l3 ⊢
 simp only[Wc] at h2 l1 l2 l3 ⊢
 refine WJ (XeS hN hx.heap (by omega) (by omega)) λ y4 _ h4=>Wn (λ _=>We Xba) λ he=>?_
 obtain ⟨g1,g2⟩:=h4.len (by simpa using he)
 rw[Ka hx.loc (by omega),Xa,YM hx.glo (by omega),Xa,hv.loc,hv.glo]
 simp only[Wc]
 have e1:=Xc (n:=((x.Roots.length:Nat):Int)+(((Yi x.Locals.Slots).length:Nat):Int)) (by omega) (by omega)
 have e2:=Xc (n:=((x.Roots.length:Nat):Int)+(((Yi x.Locals.Slots).length:Nat):Int)+(((XU x.Globals.Entries).length:Nat):Int)) (by omega) (by omega)
 refine W4 (by omega) (W4 (by omega) (W4 (by omega) (W4 (by rw[e1];omega) ?_)))
 refine WJ (XiH hx.loc (by omega) (by rw[Wz,WM];omega)) λ y7 _ h7=>W4 (by rw[e1,e2];omega) ?_
 refine WJ (XdT hx.glo (by omega) (by rw[Wz,WM];omega)) λ y8 _ h8=>?_
 refine WJ (XdT hx.wea (by omega) (by omega)) λ y9 _ h9=>?_
 refine WJ (XfO y4 (Yi x.Locals.Slots) (XU x.Globals.Entries) y7 y8 y9 hp hr l1 l2 (by omega) N 0 [] (by omega) (by omega) (by omega) rfl) λ y14 _ h14=>We ⟨h4.hb,h7,h8,h9,?_,?_⟩
 ·show y14.length<=_;omega
 ·show (y4.2.1.take _).length<=_
  rw[Wz];omega
theorem XgJ (hN:NB N) (hx:EB x) (d:Ww):Ok (Qeh N x d) λ r=>EB r.1:=by
 rw[Qeh]
 refine WJ (ZY hN hx) λ b _ hv=>Wn (λ _=>We Xba) λ hb1=>?_
 refine WJ (XfN hN hx.heap d) λ y2 _ h2=>Ip (Wn (λ _=>WJ (Xab hN hx) λ y3 _ h3=>Wn (λ _=>We Xba) λ _=>WJ (XfN hN h3.heap d) λ y4 _ h4=>?_) λ _=>?_)
 ·exact Wn (λ _=>We Xba) λ _=>We ⟨h4,h3.loc,h3.glo,h3.wea,h3.pins,h3.roots⟩
 ·exact Wn (λ _=>We Xba) λ _=>We ⟨h2,hx.loc,hx.glo,hx.wea,hx.pins,hx.roots⟩
theorem YB (hN:NB N) (hx:EB x) (v:Int):Ok (QaK N x v) λ r=>True:=by
 have hN':=hN
 unfold NB at hN'
 rw[QaK]
 refine WJ (ZY hN hx) λ b _ hv=>Wn (λ _=>We trivial) λ hb1=>Wn (λ _=>We trivial) λ _=>?_
 refine WJ (VQ v) λ y _ _=>Wn (λ _=>We trivial) λ _=>Wn (λ _=>?_) λ _=>Wn (λ _=>?_) λ _=>?_
 ·rw[Vr hx.loc (by omega),Xa];exact We trivial
 ·rw[KV hx.glo (by omega),Xa];exact We trivial
 ·rw[KV hx.wea (by omega),Xa];exact We trivial
end
end Go.Sx
namespace Go.Sx
theorem IR {β κ:Type} {P:β->Prop} {k:κ->Option β} {f:(κ->Option β)->Option β} (h:∀ x,Ok (k x) P) (g:∀ j:κ->Option β,(∀ x,Ok (j x) P)->Ok (f j) P):Ok (Sx.jn k f) P:=by rw[Yy];exact g k h
theorem W8 {β:Type} {P:β->Prop} {b:Bool} {x y:Option β} (h1:Ok x P) (h2:Ok y P):Ok (bif b then x else y) P:=by cases b;exact h2;exact h1
theorem Uj {α β:Type} {P:β->Prop} {o:Option α} {Q:α->Prop} {f:α->Option β} (h:Ok o Q) (k:∀ y,Q y->Ok (f y) P):Ok (Sx.bnd o f) P:=WJ h λ y _ hq=>k y hq
theorem Ok.t {α:Type} {o:Option α} {P:α->Prop} (h:Ok o P):Ok o λ _=>True:=h.mono λ _ _=>trivial
section
variable {N:Nat} {x:Uh}
abbrev EP (r:Uh×Int×Int):Prop:=EB r.1
theorem XgK (e:Int):Ok (Qaa N e) EP:=by rw[Qaa];exact We Xba
theorem Xr (e:Int):Ok (bnd (Qaa N e) λ y=>some (y.1,y.2.1,y.2.2)) EP:=Uj (XgK e) λ y hy=>We hy
theorem XiI (a b c:Int):Ok (QbK N a b c) λ _=>True:=by
 rw[QbK]
 exact W8 (W8 (We trivial) (We trivial)) (We trivial)
theorem JA (hN:NB N) (hx:EB x) (a:Int):Ok (Qcj N x a) EP:=by
 have hN':=hN
 unfold NB at hN'
 rw[Qcj]
 refine W8 (We hx) ?_
 rw[Xan hx.loc (by omega),Xa]
 exact W8 (Xr _) (Uj (Y4 _) λ y _=>We ⟨hx.heap,XfF hx.loc a,hx.glo,hx.wea,hx.pins,hx.roots⟩)
theorem XeW (hN:NB N) (hx:EB x) (a b c:Int):Ok (QdK N x a b c) EP:=by
 have hN':=hN
 unfold NB at hN'
 rw[QdK]
 refine W8 (Xr _) (Uj (XiI _ _ _) λ y _=>Ip (W8 (Xr _) (Uj (XfM hN _ _) λ z _=>W8 (Xr _) ?_)))
 rw[Xan hx.loc (by omega),Xa]
 exact W8 (Xr _) (Uj (XgJ hN hx _) λ y7 h7=>W8 (Xr _) (Uj (JA hN h7 _) λ y9 h9=>We h9))
theorem JB (hN:NB N) (hx:EB x) (a:Int):Ok (Qck N x a) λ _=>True:=by
 rw[Qck]
 exact Uj (YB hN hx a) λ y _=>W8 (W8 (We trivial) (We trivial)) (We trivial)
theorem Xb1 (hN:NB N) (hx:EB x) (a b:Int) (c:Bool):Ok (Qdx N x a b c) λ _=>True:=by
 rw[Qdx]
 refine Uj (JB hN hx a) λ y _=>W8 (We trivial) (Uj (XaV hN hx.heap _) λ z _=>W8 (We trivial) ?_)
 rw[Jv,Xa]
 exact W8 (We trivial) (We trivial)
theorem XgL (hN:NB N) (hx:EB x) (a b c d:Int):Ok (Qei N x a b c d) EP:=by
 rw[Qei]
 have sf:∀ i j v:Int,Ok (α:=Uh×Int×Int) (bnd (Qce N x.Heap i j v) λ y12=>some ((Uh.mk y12.1 x.Locals x.Globals x.Weaks x.Pins x.Roots),0,0)) EP:=λ i j v =>
  Uj (XdK hN hx.heap i j v) λ y hy=>We ⟨hy,hx.loc,hx.glo,hx.wea,hx.pins,hx.roots⟩
 refine Ip (W8 (Uj (Xb1 hN hx _ _ _) λ y _=>?_) (Uj (Xb1 hN hx _ _ _) λ y _=>?_))<;>
 exact W8 (Xr _) (Uj (XdJ hN hx.heap _ _) λ z _=>W8 (We hx) (W8 (Uj (JA hN hx _) λ y8 h8=>We h8) (Ip (W8 (Uj (YB hN hx _) λ y9 _=>W8 (Xr _) (sf _ _ _)) (sf _ _ _)))))
theorem XgM (hN:NB N) (hx:EB x) (a b c:Int):Ok (Qej N x a b c) EP:=by
 rw[Qej]
 refine IR (λ b1=>W8 (Uj (JB hN hx _) λ y _=>W8 (Xr _) (Uj (XaV hN hx.heap _) λ z _=>W8 (We hx) (We hx))) (W8 (Uj (YB hN hx _) λ y _=>W8 (Xr _) (Uj (YB hN hx _) λ z _=>W8 (Xr _) (W8 (We hx) (We hx)))) (Uj (YB hN hx _) λ y _=>W8 (Xr _) (Uj (JA hN hx _) λ z hz=>We hz)))) λ j hj=>W8 (hj _) (hj _)
theorem Xd1 (hN:NB N) (hx:EB x) (a b:Int):Ok (Qda N x a b) EP:=by
 have hN':=hN
 unfold NB at hN'
 rw[Qda]
 refine Uj (JB hN hx _) λ y _=>W8 (Xr _) (Ip (W8 ?_ ?_))
 ·show Ok (bnd (QbT N ⟨x.Weaks.Entries⟩ y.1) _) EP;rw[Jz (t:=⟨x.Weaks.Entries⟩) hx.wea (by omega),Xa]
  have h:=XfK (t:=⟨x.Weaks.Entries⟩) hx.wea y.1
  exact W8 (Xr _) (Ip (W8 (Uj (Y4 _) λ z _=>We ⟨hx.heap,hx.loc,hx.glo,h,hx.pins,hx.roots⟩) (Uj (Y4 _) λ z _=>We ⟨hx.heap,hx.loc,h,hx.wea,hx.pins,hx.roots⟩)))
 ·show Ok (bnd (QbT N ⟨x.Globals.Entries⟩ y.1) _) EP;rw[Jz (t:=⟨x.Globals.Entries⟩) hx.glo (by omega),Xa]
  have h:=XfK (t:=⟨x.Globals.Entries⟩) hx.glo y.1
  exact W8 (Xr _) (Ip (W8 (Uj (Y4 _) λ z _=>We ⟨hx.heap,hx.loc,hx.glo,h,hx.pins,hx.roots⟩) (Uj (Y4 _) λ z _=>We ⟨hx.heap,hx.loc,h,hx.wea,hx.pins,hx.roots⟩)))
theorem XeX (hN:NB N) (hx:EB x) (a b:Int):Ok (QdL N x a b) EP:=by
 have hN':=hN
 unfold NB at hN'
 rw[QdL]
 refine W8 (Xr _) (Uj (YB hN hx _) λ y _=>W8 (Xr _) (Uj (VQ _) λ z _=>IR (λ _=>W8 ?_ (W8 ?_ ?_)) λ j2 h2=>IR (λ _=>Xr _) λ j1 h1=>?_))
 ·rw[XfG hx.loc (by omega),Xa];exact We ⟨hx.heap,XfH hx.loc _ _,hx.glo,hx.wea,hx.pins,hx.roots⟩
 ·rw[Xao hx.glo (by omega),Xa];exact We ⟨hx.heap,hx.loc,XfL hx.glo _ _,hx.wea,hx.pins,hx.roots⟩
 ·rw[Xao hx.wea (by omega),Xa];exact We ⟨hx.heap,hx.loc,hx.glo,XfL hx.wea _ _,hx.pins,hx.roots⟩
 ·repeat' first
   | exact h1 _
   | exact h2 _
   | refine W8 ?_ ?_
theorem XeY (hN:NB N) (hx:EB x) (a b:Int):Ok (QdM N x a b) EP:=by
 have hN':=hN
 unfold NB at hN'
 rw[QdM]
 refine W8 (W8 (Xr _) ?_) (Uj (YB hN hx _) λ y _=>W8 (Xr _) ?_)
 ·rw[Xa4 hx.loc (by omega),Xa]
  exact W8 (Xr _) (We ⟨hx.heap,XdS hx.loc _,hx.glo,hx.wea,hx.pins,hx.roots⟩)
 ·rw[XcQ hx.loc (by omega),Xa]
  exact W8 (Xr _) (Uj (JA hN (x:=⟨x.Heap,(Ks x.Locals).1,x.Globals,x.Weaks,x.Pins,x.Roots⟩) ⟨hx.heap,XcR hx.loc,hx.glo,hx.wea,hx.pins,hx.roots⟩ _) λ z hz=>We hz)
theorem XiJ (hN:NB N) (hx:EB x) (a b:Int):Ok (QeM N x a b) EP:=by
 rw[QeM]
 refine Uj (JB hN hx _) λ y _=>W8 (Xr _) (W8 (Uj (XeU hN hx.heap hx.pins _) λ z hz=>W8 (Xr _) (We ⟨hz.1,hx.loc,hx.glo,hx.wea,hz.2,hx.roots⟩)) (Uj (XgI hN hx.heap hx.pins _) λ z hz=>W8 (Xr _) (We ⟨hz.1,hx.loc,hx.glo,hx.wea,hz.2,hx.roots⟩)))
theorem XiK (hN:NB N) (hx:EB x) (op a b c:Int):Ok (QeN N x op a b c) EP:=by
 rw[QeN]
 have thr:∀ {o:Option (Uh×Int×Int)},Ok o EP->Ok (bnd o λ y=>some (y.1,y.2.1,y.2.2)) EP:=λ h=>Uj h λ y hy=>We hy
 refine Uj (ZY hN hx) λ b1 _=>W8 (Xr _) ?_
 refine IR (λ x1=>W8 (thr (XeW hN hx _ _ _)) ?_) λ j2 h2=>?_
 ·refine IR (λ x1=>W8 (thr (XgL hN hx _ _ _ _)) ?_) λ j h=>?_
  ·refine IR (λ x1=>W8 (thr (XgM hN hx _ _ _)) ?_) λ j h=>?_
   ·refine IR (λ x1=>W8 (thr (Xd1 hN hx _ _)) ?_) λ j h=>?_
    ·refine IR (λ x1=>W8 (thr (XeX hN hx _ _)) ?_) λ j h=>?_
     ·refine IR (λ x1=>W8 (thr (XeY hN hx _ _)) ?_) λ j h=>?_
      ·refine IR (λ x1=>W8 (thr (XiJ hN hx _ _)) (Xr _)) λ j h=>W8 (h _) (h _)
      ·exact W8 (h _) (h _)
     ·exact W8 (h _) (IR (λ x1=>h _) λ j h=>W8 (h _) (h _))
    ·exact W8 (h _) (h _)
   ·exact W8 (h _) (IR (λ x1=>h _) λ j h=>W8 (h _) (IR (λ x1=>h _) λ j h=>W8 (h _) (h _)))
  ·exact W8 (h _) (IR (λ x1=>h _) λ j h=>W8 (h _) (IR (λ x1=>h _) λ j h=>W8 (h _) (h _)))
 ·exact W8 (h2 _) (IR (λ x1=>h2 _) λ j h=>W8 (h _) (h _))
end
end Go.Sx
namespace Go.Sx
structure WB (k:Nat) (w:WI):Prop where
 kk:k<=900
 things:w.Things.length<=k
 fields:∀ x∈w.Things,x.Fields.length<=1000
 loc:LBp w.Locals
 gloK:w.Globals.Entries.length<=1000+k
 weaK:w.Weaks.Entries.length<=1000+k
 marksK:w.Marks.length<=100+k
 rootsK:w.Roots.length<=100+k
theorem WB.glo {k:Nat} {w:WI} (h:WB k w):TB w.Globals:=by have:=h.kk;have:=h.gloK;unfold TB;omega
theorem WB.wea {k:Nat} {w:WI} (h:WB k w):TB w.Weaks:=by have:=h.kk;have:=h.weaK;unfold TB;omega
theorem WB.marks {k:Nat} {w:WI} (h:WB k w):w.Marks.length<=1000:=by have:=h.kk;have:=h.marksK;omega
theorem WB.roots {k:Nat} {w:WI} (h:WB k w):w.Roots.length<=1000:=by have:=h.kk;have:=h.rootsK;omega
def K1 (d:Ww):Nat->List Int->List Int
 | _,[]=>[]
 | k,f::fs=>if Kh d k then f::K1 d (k+1) fs else K1 d (k+1) fs
def Xbc (x:Ie):List Int:=K1 x.Header 0 x.Fields
theorem VR (d:Ww):∀ (k:Nat) (l:List Int),(K1 d k l).length<=l.length
 | k,[]=>by simp[K1]
 | k,f::fs=>by
  have:=VR d (k+1) fs
  unfold K1
  split<;>simp<;>omega
def Y6 (n:Nat) (l:List Int):Bool:=l.all λ p=>!decide (p>(n:Int))
def YC (l:List Iq) (id:Int):Int:=match l.findIdx? (λ m=>m.Id==id) with | some k=>(k:Int) | none=>-1
def Xbd (n:Nat) (x:Ie):Bool:=XL x.Header&&(!(x.Header.Kind==0)&&(!(((x.Fields.length:Nat):Int) != x.Header.Length)&&Y6 n (Xbc x)))
def XfP (n:Nat) (l:List Iq) (_:Unit) (i:Nat) (m:Iq):Bool:=!decide (m.Id<1)&&(!decide (m.Id>(n:Int))&&(!(YC l m.Id != (i:Int))&&(!decide (m.Count<1)&&!decide (m.Count>1000))))
def XcS (n:Nat) (l:List Iq):Bool:=Y3 (XfP n l) (λ s _=>s) () 0 l
def Yl (w:WI):Bool:=X1 w.Conf&&(YZ w.Locals&&(YH w.Globals.Entries&&(YH w.Weaks.Entries&&(!decide (((w.Marks.length:Nat):Int)>64)&&(w.Things.all (Xbd w.Things.length)&&(((XU w.Globals.Entries).all λ p=>!(p==0))&&(XcS w.Things.length w.Marks&&(Y6 w.Things.length w.Roots&&(Y6 w.Things.length (Yi w.Locals.Slots)&&(Y6 w.Things.length (XU w.Globals.Entries)&&Y6 w.Things.length (XU w.Weaks.Entries)))))))))))
section
variable {N:Nat} {w:WI}
theorem KH (ht:w.Things.length<=1000) {l:List Int} (hl:l.length<=1000000) (hN:1000000<N):Qcs N w l=some (Y6 w.Things.length l):=by
 have h:=Kj (l:=l) (F:=Qcr N w l) (q:=λ _ p=>!decide (p>(w.Things.length:Int))) (λ n k p e=>by
  have hk:=Xv e
  rw[Qcr,Xy hk,Wc,Xd,e,Xa,Xh (by omega),XJ (by omega) (by omega)]
  cases decide (p>(w.Things.length:Int))<;>rfl) (λ n=>by rw[Qcr,Xs,Wa]) (n:=N) (by omega)
 rw[Zi] at h
 rw[Qcs,h,Xa,Y6]
 cases l.all λ p=>!decide (p>(w.Things.length:Int))
 ·rw[Wa,Xz]
 ·rw[Wc,Xq]
theorem Xbe {x:Ie} (hl:x.Fields.length<=1000000):∀ (n k:Nat) (v:List Int),k<=x.Fields.length->x.Fields.length-k<n->v.length<=k->Qc9 N x n (k:Int) v=some (v++K1 x.Header k (x.Fields.drop k))
 | 0,k,v,_,hn,_=>by omega
 | n+1,k,v,hk,hn,hlv=>by
  rw[Qc9]
  by_cases h:k<x.Fields.length
  ·rw[Xy h,Wc,Jv,Xa,Xh (by omega),Ws h,K1]
   cases hp:Kh x.Header (k:Int)
   ·rw[Wa,Wk (by simp),Xbe hl n (k+1) v (by omega) (by omega) (by omega)]
   ·rw[Wc,Wm rfl,Xd,Wd h,Xa,Xi (by omega),Xbe hl n (k+1) _ (by omega) (by omega) (by rw[Wr];simp;omega)]
    simp
  ·obtain rfl:k=x.Fields.length:=by omega
   rw[Xs,Wa,WK (Ue _)]
   simp[K1]
theorem Xd2 {x:Ie} (hl:x.Fields.length<=1000000) (hN:1000000<N):Qfy N x=some (Xbc x):=by
 have h:=Xbe (N:=N) (x:=x) hl N 0 [] (by omega) (by omega) (by simp)
 rw[show ((0:Nat):Int)=0 from rfl,WU,Ur] at h
 rw[Qfy,h,Xa];rfl
theorem XfQ (id:Int) (hl:w.Marks.length<=1000000):∀ (n k:Nat),k<=w.Marks.length->w.Marks.length-k<n->QdV N w id n (k:Int)=some (match (w.Marks.drop k).findIdx? (λ m=>m.Id==id) with | some j=>.ret ((k+j:Nat):Int) | none=>.nxt ())
 | 0,k,_,hn=>by omega
 | n+1,k,hk,hn=>by
  rw[QdV]
  by_cases h:k<w.Marks.length
  ·rw[Xy h,Wc,Xd,Wd h,Xa,Xh (by omega),Ws h,List.findIdx?_cons]
   cases hm:(w.Marks[k].Id==id)
   ·rw[Wa,XfQ id hl n (k+1) (by omega) (by omega),Wk (by simp)]
    cases (w.Marks.drop (k+1)).findIdx? (λ m=>m.Id==id) with
    | none=>rfl
    | some j=>simp only[If];rw[show k+1+j=k+(j+1) by omega]
   ·rw[Wc,Wm rfl];simp
  ·obtain rfl:k=w.Marks.length:=by omega
   rw[Xs,Wa,WK (Ue _)]
   rfl
theorem XcT (hl:w.Marks.length<=1000000) (hN:1000000<N) (id:Int):QeK N w id=some (YC w.Marks id):=by
 have h:=XfQ (N:=N) id hl N 0 (by omega) (by omega)
 rw[show ((0:Nat):Int)=0 from rfl,WU] at h
 rw[QeK,h,Xa,YC]
 cases w.Marks.findIdx? (λ m=>m.Id==id) with
 | none=>simp only[Xq]
 | some j=>simp only[Xz,Uu]
theorem Xd3 {a:Wq} (h:YZ a=true):(Yi a.Slots).length<=4096:=by
 have hf:=Z9.1 h
 have:=hf.slots
 have:=hf.iss
 have:=XbX a.Slots
 omega
theorem Vu {l:List W6} (h:YH l=true):(XU l).length<=64:=by
 have:=Vq h
 have:=VO l
 omega
theorem Xaq {k:Nat} (hw:WB k w) (hN:1000000<N):Qdu N w=some (Yl w):=by
 have hk:=hw.kk
 have ht:=hw.things
 have hm:=hw.marks
 have hr:=hw.roots
 rw[Qdu,YL,Xa,Yl]
 cases X1 w.Conf
 ·rfl
 rw[Wt,Wa,Zq hw.loc hN,Xa,WP]
 cases hv1:YZ w.Locals
 ·rfl
 rw[Wt,Wa,Zp hw.glo hN,Xa,WP]
 cases hv2:YH w.Globals.Entries
 ·rfl
 rw[Wt,Wa,Zp hw.wea hN,Xa,WP]
 cases hv3:YH w.Weaks.Entries
 ·rfl
 rw[Wt,Wa,WP]
 cases decide (((w.Marks.length:Nat):Int)>64)
 rotate_left
 ·rfl
 rw[Wa,WR,WP]
 have h1:=Kj (l:=w.Things) (F:=QcR N w) (q:=λ _=>Xbd w.Things.length) (λ n k p e=>by
  have hk:=Xv e
  have hpf:=hw.fields p (Um e)
  have hrl:=VR p.Header 0 p.Fields
  rw[QcR,Xy hk,Wc,Xd,e,Xa,Zh,Xa,Xd2 (by omega) hN,Xa,KH (by omega) (by unfold Xbc;omega) hN,Xa,Xh (by omega)]
  unfold Xbd
  cases XL p.Header<;>cases (p.Header.Kind==0)<;>cases (((p.Fields.length:Nat):Int) != p.Header.Length)<;>cases Y6 w.Things.length (Xbc p)<;>rfl) (λ n=>by rw[QcR,Xs,Wa]) (n:=N) (by omega)
 rw[Zi] at h1
 rw[h1,Xa]
 cases w.Things.all (Xbd w.Things.length)
 ·rw[Wa,Xz];rfl
 rw[Wc,Xq,YM hw.glo hN,Xa,hv2,Wc,WP]
 have g64:=Vu hv2
 have h2:=Kj (l:=XU w.Globals.Entries) (F:=QcS N w (XU w.Globals.Entries)) (q:=λ _ p=>!(p==0)) (λ n k p e=>by
  have hk:=Xv e
  rw[QcS,Xi (by omega),Xy hk,Wc,Xd,e,Xa,Xh (by omega)]
  cases (p==0)<;>rfl) (λ n=>by rw[QcS,Xi (by omega),Xs,Wa]) (n:=N) (by omega)
 rw[Zi] at h2
 rw[h2,Xa]
 cases (XU w.Globals.Entries).all λ p=>!(p==0)
 ·rw[Wa,Xz];rfl
 rw[Wc,Xq,WP]
 have h3:=Kj (l:=w.Marks) (F:=QcT N w (XU w.Globals.Entries)) (q:=XfP w.Things.length w.Marks ()) (λ n k p e=>by
  have hk:=Xv e
  rw[QcT,Xy hk,Wc,Xd,e,Xa,XcT (by omega) hN,Xa,Xh (by omega),XJ (by omega) (by omega)]
  unfold XfP
  cases decide (p.Id<1)<;>cases decide (p.Id>(w.Things.length:Int))<;>cases (YC w.Marks p.Id != (k:Int))<;>cases decide (p.Count<1)<;>cases decide (p.Count>1000)<;>rfl) (λ n=>by rw[QcT,Xs,Wa]) (n:=N) (by omega)
 rw[h3,Xa]
 show exK (bif XcS w.Things.length w.Marks then Ex.nxt () else Ex.ret false) _ _=_
 cases XcS w.Things.length w.Marks
 ·rw[Wa,Xz];rfl
 rw[Wc,Xq,KH (by omega) (by omega) hN,Xa,WP]
 cases Y6 w.Things.length w.Roots
 ·rfl
 have s1:=Xd3 hv1
 rw[Wc,Ka hw.loc hN,Xa,hv1,Wc,KH (by omega) (by omega) hN,Xa,WP]
 cases Y6 w.Things.length (Yi w.Locals.Slots)
 ·rfl
 rw[Wc,KH (by omega) (by omega) hN,Xa,WP]
 cases Y6 w.Things.length (XU w.Globals.Entries)
 ·rfl
 have s3:=Vu hv3
 rw[Wc,YM hw.wea hN,Xa,hv3,Wc,KH (by omega) (by omega) hN,Xa,WP]
end
end Go.Sx
namespace Go.Sx
def Zr (v:Int):UR×Int :=
 if v=0 then (⟨0,0,0⟩,5) else if 1<=v % 4/\1<=v / 262144/\v / 262144<=4294967295 then (⟨v % 4,v / 4 % 65536,v / 262144⟩,0) else (⟨0,0,0⟩,6)
theorem XeZ {N:Nat} {v:Int} (hv:tU v):Qbx N v=some (Zr v):=by
 obtain ⟨h0,h1⟩:=hv
 rw[Qbx,Zr]
 by_cases hz:v=0
 ·subst hz;rfl
 rw[show (v==0)=false by simpa using hz,Wa,Wk hz]
 have a1:Yp .u64 v 3=v % 4:=Yn v 2 (by omega) h0 h1
 have a2:X2 .u64 v 2=v / 4:=Yz v 2 (by omega) h0
 have a3:Yp .u64 (v / 4) 65535=v / 4 % 65536:=Yn (v / 4) 16 (by omega) (by omega) (by omega)
 have a4:X2 .u64 v 18=v / 262144:=Yz v 18 (by omega) h0
 rw[a2,a1,a3,a4,Xc (n:=v % 4) (by omega) (by omega),Xc (n:=v / 4 % 65536) (by omega) (by omega),Xc (n:=v / 262144) (by omega) (by omega),Qbk,QfN]
 have s1:∀ x:Int,Kq .u64 x 2=wU (x*4):=λ _=>rfl
 have s2:∀ x:Int,Kq .u64 x 18=wU (x*262144):=λ _=>rfl
 rw[Wi (show v / 4 % 65536>=0 by omega),Wi (show v / 4 % 65536<=65535 by omega),Wi (show v % 4<=3 by omega)]
 simp only[Wc]
 by_cases g1:v % 4>=1
 ·rw[Wi g1,Wc]
  by_cases g2:v / 262144>=1
  ·rw[Wi g2,Wc,Xa]
   by_cases g3:v / 262144<=4294967295
   ·rw[Wi g3,Wt,Wa,Xa,Wm ⟨g1,g2,g3⟩]
    have e:wU (wU (wU (v % 4)+Kq .u64 (wU (v / 4 % 65536)) 2)+Kq .u64 (wU (v / 262144)) 18)=v:=by
     rw[s1,s2,XJ (n:=v % 4) (by omega) (by omega),XJ (n:=v / 4 % 65536) (by omega) (by omega),XJ (n:=v / 262144) (by omega) (by omega),XJ (n:=v / 4 % 65536*4) (by omega) (by omega),XJ (n:=v / 262144*262144) (by omega) (by omega),XJ (n:=v % 4+v / 4 % 65536*4) (by omega) (by omega),XJ (by omega) (by omega)]
     omega
    simp only[e]
    rw[show ((0:Int) != 0)=false from rfl,Wa,show (v != v)=false by simp,Wa]
   ·rw[Wj g3,WR,Wc,Xa,Wk (λ h=>g3 h.2.2)];rfl
  ·rw[Wj g2,Wa,Xa,WR,Wc,Xa,Wk (λ h=>g2 h.2.1)];rfl
 ·rw[Wj g1,Wa,Xa,WR,Wc,Xa,Wk (λ h=>g1 h.1)];rfl
def Y0 (w:WI) (v:Int):Int×Int :=
 if v=0 then (0,0) else if (Zr v).2≠0 then (0,(Zr v).2) else
 if (Zr v).1.Tag=1 then Y9 w.Locals (Zr v).1.Index (Zr v).1.Stamp else
 if (Zr v).1.Tag=2 then YS w.Globals.Entries (Zr v).1.Index (Zr v).1.Stamp else YS w.Weaks.Entries (Zr v).1.Index (Zr v).1.Stamp
def Xx (w:WI) (a:Int):Int×Int:=if (Y0 w a).2=0/\(Y0 w a).1=0 then (0,5) else Y0 w a
structure WF (w:WI):Prop where
 conf:X1 w.Conf=true
 loc:YZ w.Locals=true
 glo:YH w.Globals.Entries=true
 wea:YH w.Weaks.Entries=true
 m64:w.Marks.length<=64
 thing:∀ x∈w.Things,XL x.Header=true/\x.Header.Kind≠0/\(x.Fields.length:Int)=x.Header.Length/\∀ r∈Xbc x,r<=w.Things.length
 mark:XcS w.Things.length w.Marks=true
 roots:∀ r∈w.Roots,r<=w.Things.length
 rloc:∀ r∈Yi w.Locals.Slots,r<=w.Things.length
 rglo:∀ r∈XU w.Globals.Entries,r<=w.Things.length
 rwea:∀ r∈XU w.Weaks.Entries,r<=w.Things.length
theorem Kb {n:Nat} {l:List Int}:Y6 n l=true↔∀ r∈l,r<=n:=by
 unfold Y6
 simp only[Uf,Uq,W5]
 exact ⟨λ h r hr=>by have:=h r hr;omega,λ h r hr=>by have:=h r hr;omega⟩
theorem ZZ {w:WI} (h:Yl w=true):WF w:=by
 unfold Yl at h
 simp only[WC,Uq,W5] at h
 obtain ⟨h1,h2,h3,h4,h5,h6,h7,h8,h9,h10,h11,h12⟩:=h
 refine ⟨h1,h2,h3,h4,by omega,λ x hx=>?_,h8,Kb.1 h9,Kb.1 h10,Kb.1 h11,Kb.1 h12⟩
 have:=(Uf.1 h6) x hx
 unfold Xbd at this
 simp only[WC,Uq,bne_eq_false_iff_eq,Ix] at this
 exact ⟨this.1,this.2.1,this.2.2.1,Kb.1 this.2.2.2⟩
theorem WF.mk_ {w:WI} (h:WF w) {k:Nat} {m:Iq} (hm:w.Marks[k]? = some m):1<=m.Id/\m.Id<=w.Things.length/\1<=m.Count/\m.Count<=1000:=by
 have:=(Kk w.Marks () 0).1 h.mark k m hm
 unfold XfP at this
 simp only[WC,Uq,W5] at this
 obtain ⟨h1,h2,_,h3,h4⟩:=this
 omega
theorem XgN {l:List US} {p:US} (hp:p∈l) (hL:p.Live=true):p.Ref∈Yi l:=by
 unfold Yi;exact UQ.2 ⟨p,UM.2 ⟨hp,hL⟩,rfl⟩
theorem XgO {l:List W6} {p:W6} (hp:p∈l) (hL:p.Live=true):p.Ref∈XU l:=by
 unfold XU;exact UQ.2 ⟨p,UM.2 ⟨hp,hL⟩,rfl⟩
theorem Xe0 (a:Wq) (i g:Int):(Y9 a i g).2=0\/(Y9 a i g).1=0:=by
 unfold Y9
 split
 ·exact .inr rfl
 split
 ·exact .inr rfl
 split
 ·exact .inr rfl
 split
 ·exact .inr rfl
 split
 ·exact .inr rfl
 split
 ·exact .inr rfl
 split
 ·exact .inl rfl
 ·exact .inr rfl
theorem Xe1 (l:List W6) (i g:Int):(YS l i g).2=0\/(YS l i g).1=0:=by
 unfold YS
 split
 ·exact .inr rfl
 split
 ·exact .inr rfl
 split
 ·exact .inr rfl
 split
 ·exact .inr rfl
 split
 ·exact .inr rfl
 split
 ·exact .inl rfl
 ·exact .inr rfl
theorem XkN {w:WI} (h:WF w) (v:Int):(Y0 w v).1<=w.Things.length:=by
 have g:∀ i g,(Y9 w.Locals i g).1<=w.Things.length:=by
  intro i g
  by_cases he:(Y9 w.Locals i g).2=0
  ·obtain ⟨_,_,p,hp,_,hL,e⟩:=XbY he
   rw[e];exact h.rloc _ (XgN (Um hp) hL)
  ·have:=(Xe0 w.Locals i g).resolve_left he
   omega
 have t:∀ (t:Wy),(∀ r∈XU t.Entries,r<=w.Things.length)->∀ i g,(YS t.Entries i g).1<=w.Things.length:=by
  intro t ht i g
  by_cases he:(YS t.Entries i g).2=0
  ·obtain ⟨_,_,p,hp,_,hL,e⟩:=XbZ he
   rw[e];exact ht _ (XgO (Um hp) hL)
  ·have:=(Xe1 t.Entries i g).resolve_left he
   omega
 unfold Y0
 split
 ·simp
 split
 ·simp
 split
 ·exact g _ _
 split
 ·exact t _ h.rglo _ _
 ·exact t _ h.rwea _ _
section
variable {N:Nat} {w:WI} {k:Nat}
theorem Kt (hw:WB k w) (hN:1000000<N) (hv:Yl w=true) {v:Int} (tv:tU v):QaC N w v=some (Y0 w v):=by
 rw[QaC,Xaq hw hN,Xa,hv,Wt,Wa,Y0]
 by_cases hz:v=0
 ·rw[Wm hz,hz];rfl
 rw[Wk hz,show (v==0)=false by simpa using hz,Wa,XeZ tv,Xa]
 by_cases he:(Zr v).2=0
 ·rw[he,show ((0:Int) != 0)=false from rfl,Wa,Wk (by simp)]
  by_cases h1:(Zr v).1.Tag=1
  ·rw[Wm h1,h1,show ((1:Int)==1)=true from rfl,Wc,Vr hw.loc hN,Xa]
  rw[Wk h1,show ((Zr v).1.Tag==1)=false by simpa using h1,Wa]
  by_cases h2:(Zr v).1.Tag=2
  ·rw[Wm h2,h2,show ((2:Int)==2)=true from rfl,Wc,KV hw.glo hN,Xa]
  rw[Wk h2,show ((Zr v).1.Tag==2)=false by simpa using h2,Wa,KV hw.wea hN,Xa]
 ·rw[show ((Zr v).2 != 0)=true by simpa using he,Wc,Wm he]
theorem Vv (hw:WB k w) (hN:1000000<N) (hv:Yl w=true) {v:Int} (tv:tU v):Qdz N w v=some (Xx w v):=by
 rw[Qdz,Kt hw hN hv tv,Xa,Xx]
 by_cases he:(Y0 w v).2=0
 ·rw[he,show ((0:Int)==0)=true from rfl,Wc]
  by_cases h1:(Y0 w v).1=0
  ·rw[h1,Wm ⟨rfl,rfl⟩];rfl
  ·rw[show ((Y0 w v).1==0)=false by simpa using h1,Wa,Wk (λ h=>h1 h.2)]
   rw[← he]
 ·rw[show ((Y0 w v).2==0)=false by simpa using he,Wa,Wk (λ h=>he h.1)]
end
end Go.Sx
namespace Go.Sx
def zTh:Ie:=⟨⟨0,0,0⟩,[]⟩
def thg (w:WI) (id:Int):Ie:=w.Things.getD (id-1).toNat zTh
def Ku (a:Wq) (id:Int):Int:=if id=0 then 0 else (Xa3 a id).2.2.2
def okW (op a b:Int):Prop:=a<=2147483647/\(op=1->b<=4294967295)
instance (op a b:Int):Decidable (okW op a b):=by unfold okW;infer_instance
def hdW (op a b:Int):Ww:=⟨op,a,if op=1 then b else 0⟩
def Xb2 (c:WX) (d:Ww):Bool:=XL d&&(d.Kind != 0&&XX c (YY d) != -1)
def Vw (w:WI) (op a b:Int) (failed:Bool):Int :=
 if w.Marks.length>0 then 15 else if ¬ okW op a b then 1 else if Xb2 w.Conf (hdW op a b)=false then 1 else
 if Ku w.Locals 1≠0 then Ku w.Locals 1 else if failed then 3 else 0
def Xac (op:Int):Bool:=op==8||op==9
def Xar (w:WI) (op a b c:Int):Int :=
 if (Xx w a).2≠0 then (Xx w a).2 else if b>=(thg w (Xx w a).1).Header.Length then 2 else
 if Kh (thg w (Xx w a).1).Header b≠Xac op then 4 else
 if op=8 then Ku w.Locals ((thg w (Xx w a).1).Fields.getD b.toNat 0) else if op=9 then (Y0 w c).2 else 0
def Xbf (w:WI) (op a:Int):Int :=
 if a=0 then 5 else if (Y0 w a).2≠0 then (Y0 w a).2 else
 if (Zr a).1.Tag≠(if op=16 then 3 else if op=14 then 2 else 1) then 4 else 0
def Xe2 (w:WI) (op a:Int):Int :=
 if (Xx w a).2≠0 then (Xx w a).2 else (JZ (if op=15 then w.Weaks else w.Globals) (Xx w a).1).2.2.2
def XcU (w:WI) (op a:Int):Int :=
 if op=17 then (if a>64 then 1 else (Vs w.Locals a).2) else
 if (Y0 w a).2≠0 then (Y0 w a).2 else if (Ks w.Locals).2≠0 then (Ks w.Locals).2 else Ku (Ks w.Locals).1 (Y0 w a).1
def Xb3 (l:List Iq) (i:Int):Iq:=l.getD i.toNat ⟨0,0,0⟩
def XfR (w:WI) (op a:Int) (failed:Bool):Int :=
 if (Xx w a).2≠0 then (Xx w a).2 else
 if op=20 then (if YC w.Marks (Xx w a).1<0 then 12 else 0) else
 if 0<=YC w.Marks (Xx w a).1/\(Xb3 w.Marks (YC w.Marks (Xx w a).1)).Count=1000 then 18 else
 if YC w.Marks (Xx w a).1<0/\w.Marks.length=64 then 18 else if failed then 18 else 0
def Xbg (w:WI) (op a b:Int):Int :=
 if op=4\/op=5 then (Xx w a).2 else if (Y0 w a).2≠0 then (Y0 w a).2 else
 if op=10 then (Y0 w b).2 else Ku w.Locals (Y0 w a).1
def XiL (w:WI) (op a b c:Int) (failed:Bool):Int :=
 if Yl w=false then 19 else
 if op=1\/op=2\/op=3 then Vw w op a b failed else
 if op=6\/op=7\/op=8\/op=9 then Xar w op a b c else
 if op=12\/op=14\/op=16 then Xbf w op a else
 if op=13\/op=15 then Xe2 w op a else
 if op=17\/op=18 then XcU w op a else
 if op=19\/op=20 then XfR w op a failed else
 if op=4\/op=5\/op=10\/op=11 then Xbg w op a b else 1
theorem XM {a b:Int} (h:¬ a=b):(a==b)=false:=by simpa using h
theorem X9 {a b:Int} (h:a=b):(a==b)=true:=by simpa using h
theorem Y7 {a b:Int} (h:a=b):(a != b)=false:=by simpa using h
theorem Y1 {a b:Int} (h:¬ a=b):(a != b)=true:=by simpa using h
section
variable {N:Nat} {w:WI} {k:Nat}
theorem XkO (hw:WB k w) (hv:Yl w=true) (tw:XN w) {v:Int} (tv:tU v):tU (Y0 w v).1:=by
 have:=QeR (N:=1000001) tw tv
 exact this _ (Kt (N:=1000001) hw (by omega) hv tv)
theorem Xb4 (hw:WB k w) (hv:Yl w=true) (tw:XN w) {v:Int} (tv:tU v) (h:(Xx w v).2=0):1<=(Xx w v).1/\(Xx w v).1<=w.Things.length/\Xx w v=Y0 w v:=by
 have h1:=XkO hw hv tw tv
 have h2:=XkN (ZZ hv) v
 unfold Xx at h ⊢
 by_cases hc:(Y0 w v).2=0/\(Y0 w v).1=0
 ·rw[Wm hc] at h;cases h
 ·rw[Wk hc] at h ⊢
  have h3:(Y0 w v).1≠0:=λ e=>hc ⟨h,e⟩
  unfold tU at h1
  exact ⟨by omega,h2,rfl⟩
theorem Km (hw:WB k w) {id:Int} (h1:1<=id) (h2:id<=w.Things.length):Xb w.Things (wU (id-1))=some (thg w id)/\thg w id∈w.Things:=by
 have hk:=hw.kk
 have ht:=hw.things
 have e:=Wd (show (id-1).toNat<w.Things.length by omega)
 have e2:thg w id=w.Things[(id-1).toNat]'(by omega):=by unfold thg;rw[Wp,e];rfl
 rw[XJ (by omega) (by omega),X4 (by omega) (by omega),e2]
 exact ⟨rfl,WT _⟩
theorem KX (hl:LBp w.Locals) (hN:1000000<N) (id:Int):Qcm N w.Locals id=some (Ku w.Locals id):=by
 rw[Qcm,Ku]
 by_cases h:id=0
 ·rw[Wm h,h];rfl
 ·rw[Wk h,XM h,Wa,Xan hl hN,Xa]
theorem Xd4 {a:Wq} (hl:LBp a) (hN:1000000<N) (id:Int):Qcm N a id=some (Ku a id):=KX (w:=⟨⟨0,0⟩,[],a,zT,zT,[],[]⟩) hl hN id
theorem Xd5 (op:Int) {a b:Int} (ta:tU a) (tb:tU b):∃ d,QbK N op a b=some (d,decide (okW op a b))/\(okW op a b->d=hdW op a b):=by
 unfold tU at ta tb
 have hmask:a<=2147483647->wI (Yp .u64 a 2147483647)=a:=λ h=>by
  have:Yp .u64 a 2147483647=a % 2147483648:=Yn a 31 (by omega) ta.1 ta.2
  rw[this,Xc (by omega) (by omega)];omega
 rw[QbK]
 by_cases h1:op=1
 ·rw[X9 h1,Wc]
  by_cases h2:a<=2147483647
  ·rw[Wi h2,Wc]
   refine ⟨⟨op,wI (Yp .u64 a 2147483647),wW b⟩,?_,λ h=>?_⟩
   ·exact congrArg (λ x=>some (_,x)) (decide_eq_decide.2 ⟨λ h=>⟨h2,λ _=>h⟩,λ h=>h.2 h1⟩)
   ·rw[hmask h2,XlA (by omega) (by have:=h.2 h1;omega),hdW,Wm h1]
  ·rw[Wj h2,Wa]
   refine ⟨⟨op,wI (Yp .u64 a 2147483647),wW b⟩,?_,λ h=>absurd h.1 h2⟩
   rw[Wj (show ¬ okW op a b from λ h=>h2 h.1)]
 ·rw[XM h1,Wa]
  refine ⟨⟨op,wI (Yp .u64 a 2147483647),0⟩,?_,λ h=>?_⟩
  ·exact congrArg (λ x=>some (_,x)) (decide_eq_decide.2 ⟨λ h=>⟨h,λ e=>absurd e h1⟩,λ h=>h.1⟩)
  ·rw[hmask h.1,hdW,Wk h1]
theorem XkP (hN:10<=N) (c:WX) (d:Ww):Qdn N c d=some (Xb2 c d):=by
 rw[Qdn,Zh,Xa,Xb2,YK,Xa,Jw hN,Xa]
 cases XL d<;>cases (d.Kind != 0)<;>rfl
theorem Xe3 (hw:WB k w) (hN:1000000<N) (op:Int) {a b:Int} (ta:tU a) (tb:tU b) (f:Bool):QeU N w op a b f=some (Vw w op a b f):=by
 have hm:=hw.marks
 obtain ⟨d,hd,hd2⟩:=Xd5 (N:=N) op ta tb
 rw[QeU,Vw]
 by_cases h0:w.Marks.length>0
 ·rw[Wi (show ((w.Marks.length:Nat):Int)>0 by omega),Wc,Wm h0]
 rw[Wj (show ¬ ((w.Marks.length:Nat):Int)>0 by omega),Wa,Wk h0,hd,Xa]
 by_cases h1:okW op a b
 ·rw[Wi h1,Wt,Wa,Wk (by simpa using h1),XkP (by omega),Xa,hd2 h1]
  cases hA:Xb2 w.Conf (hdW op a b)
  ·rfl
  ·rw[Wt,Wa,Wk (by simp),KX hw.loc hN,Xa]
   by_cases hL:Ku w.Locals 1=0
   ·rw[Y7 hL,Wa,Wk (by simpa using hL)]
    cases f<;>rfl
   ·rw[Y1 hL,Wc,Wm hL]
 ·rw[Wj h1,WR,Wc,Wm h1]
theorem XgP (hw:WB k w) (hN:1000000<N) (hv:Yl w=true) (tw:XN w) (op:Int) {a b c:Int} (ta:tU a) (tb:tU b) (tc:tU c):Qfk N w op a b c=some (Xar w op a b c):=by
 rw[Qfk,Vv hw hN hv ta,Xa,Xar]
 by_cases he:(Xx w a).2=0
 rotate_left
 ·rw[Y1 he,Wc,Wm he]
 obtain ⟨i1,i2,_⟩:=Xb4 hw hv tw ta he
 obtain ⟨g1,g2⟩:=Km hw i1 i2
 obtain ⟨v1,v2,v3,v4⟩:=(ZZ hv).thing _ g2
 have vb:=XS v1
 unfold tU at tb
 rw[Y7 he,Wa,Wk (by simpa using he),g1,Xa,XJ (n:=(thg w (Xx w a).1).Header.Length) (by omega) (by omega)]
 by_cases h1:b>=(thg w (Xx w a).1).Header.Length
 ·rw[Wi h1,Wc,Wm h1]
 rw[Wj h1,Wa,Wk h1,Xc (n:=b) (by omega) (by omega)]
 have key:∀ x:Bool,x=Xac op->(bnd (QbF N (thg w (Xx w a).1).Header b) λ y4 =>
  bif (!(y4==x)) then some 4
  else bif (op==8) then (bnd (Xb (thg w (Xx w a).1).Fields b) λ p5 =>
   bnd (Qcm N w.Locals p5) λ y6 =>
   some y6)
  else bif (op==9) then (bnd (QaC N w c) λ y7 =>
   some y7.2)
  else some (Xx w a).2)=some (if Kh (thg w (Xx w a).1).Header b≠Xac op then 4 else
 if op=8 then Ku w.Locals ((thg w (Xx w a).1).Fields.getD b.toNat 0) else if op=9 then (Y0 w c).2 else 0):=by
  intro x hx
  subst hx
  rw[Jv,Xa]
  by_cases h2:Kh (thg w (Xx w a).1).Header b=Xac op
  ·rw[show (Kh (thg w (Xx w a).1).Header b==Xac op)=true by simpa using h2,Wt,Wa,Wk (by simpa using h2)]
   by_cases h3:op=8
   ·rw[X9 h3,Wc,Wm h3,X4 (by omega) (by omega),Xa,KX hw.loc hN,Xa,Wp,Wd (by omega)];rfl
   rw[XM h3,Wa,Wk h3]
   by_cases h4:op=9
   ·rw[X9 h4,Wc,Wm h4,Kt hw hN hv tc,Xa]
   ·rw[XM h4,Wa,Wk h4,he]
  ·rw[show (Kh (thg w (Xx w a).1).Header b==Xac op)=false by simpa using h2,WR,Wc,Wm h2]
 rw[Yy]
 cases h8:(op==8)
 ·have:=key (op==9) (by unfold Xac;rw[h8,Il])
  rw[h8] at this
  exact this
 ·have:=key true (by unfold Xac;rw[h8,Bool.true_or])
  rw[h8] at this
  exact this
theorem Xe4 (hw:WB k w) (hN:1000000<N) (hv:Yl w=true) (op:Int) {a:Int} (ta:tU a):QeV N w op a=some (Xbf w op a):=by
 rw[QeV,Xbf]
 by_cases h0:a=0
 ·rw[X9 h0,Wc,Wm h0]
 rw[XM h0,Wa,Wk h0,Kt hw hN hv ta,Xa]
 by_cases h1:(Y0 w a).2=0
 rotate_left
 ·rw[Y1 h1,Wc,Wm h1]
 rw[Y7 h1,Wa,Wk (by simpa using h1),XeZ ta,Xa,Yy]
 have fin:∀ t:Int,(bif ((Zr a).1.Tag != t) then some (4:Int) else some 0)=some (if (Zr a).1.Tag≠t then 4 else 0):=by
  intro t
  by_cases h:(Zr a).1.Tag=t
  ·rw[Y7 h,Wa,Wk (by simpa using h)]
  ·rw[Y1 h,Wc,Wm h]
 by_cases h2:op=16
 ·rw[Wm h2,X9 h2,← fin]
  cases (op==14)<;>rfl
 ·rw[Wk h2,XM h2]
  by_cases h3:op=14
  ·rw[Wm h3,X9 h3,Wc];exact fin 2
  ·rw[Wk h3,XM h3,Wa];exact fin 1
theorem XiM (hw:WB k w) (hN:1000000<N) (hv:Yl w=true) (op:Int) {a:Int} (ta:tU a):QfO N w op a=some (Xe2 w op a):=by
 rw[QfO,Vv hw hN hv ta,Xa,Xe2]
 by_cases h1:(Xx w a).2=0
 rotate_left
 ·rw[Y1 h1,Wc,Wm h1]
 rw[Y7 h1,Wa,Wk (by simpa using h1),Yy]
 by_cases h2:op=15
 ·rw[Wm h2,X9 h2,Wc]
  show bnd (QbT N w.Weaks (Xx w a).1) _=_
  rw[Jz hw.wea hN,Xa]
 ·rw[Wk h2,XM h2,Wa]
  show bnd (QbT N w.Globals (Xx w a).1) _=_
  rw[Jz hw.glo hN,Xa]
theorem XgQ (hw:WB k w) (hN:1000000<N) (hv:Yl w=true) (op:Int) {a:Int} (ta:tU a):Qfl N w op a=some (XcU w op a):=by
 rw[Qfl,XcU]
 by_cases h0:op=17
 ·rw[X9 h0,Wc,Wm h0]
  by_cases h1:a>64
  ·rw[Wi h1,Wc,Wm h1]
  ·unfold tU at ta
   rw[Wj h1,Wa,Wk h1,Xc (n:=a) (by omega) (by omega),Xa4 hw.loc hN,Xa]
 rw[XM h0,Wa,Wk h0,Kt hw hN hv ta,Xa]
 by_cases h1:(Y0 w a).2=0
 rotate_left
 ·rw[Y1 h1,Wc,Wm h1]
 rw[Y7 h1,Wa,Wk (by simpa using h1),XcQ hw.loc hN,Xa]
 by_cases h2:(Ks w.Locals).2=0
 rotate_left
 ·rw[Y1 h2,Wc,Wm h2]
 rw[Y7 h2,Wa,Wk (by simpa using h2),Xd4 (XcR hw.loc) hN,Xa]
theorem VS {l:List Iq} {id:Int} (h:0<=YC l id):YC l id<l.length/\Xb l (YC l id)=some (Xb3 l (YC l id))/\(Xb3 l (YC l id)).Id=id:=by
 unfold YC at h ⊢
 cases e:l.findIdx? (λ m=>m.Id==id) with
 | none=>rw[e] at h;simp at h
 | some j =>
  have h2:=List.findIdx?_eq_some_iff_getElem.1 e
  obtain ⟨hj,hp,_⟩:=h2
  simp only
  refine ⟨by omega,?_,?_⟩
  ·rw[Xd,Xb3,Wp,Is,Wd hj];rfl
  ·rw[Xb3,Wp,Is,Wd hj]
   simpa using hp
theorem XgR (hw:WB k w) (hN:1000000<N) (hv:Yl w=true) (op:Int) {a:Int} (ta:tU a) (f:Bool):Qf5 N w op a f=some (XfR w op a f):=by
 have hm:=hw.marks
 rw[Qf5,Vv hw hN hv ta,Xa,XfR]
 by_cases h1:(Xx w a).2=0
 rotate_left
 ·rw[Y1 h1,Wc,Wm h1]
 rw[Y7 h1,Wa,Wk (by simpa using h1),XcT (by omega) hN,Xa]
 by_cases h2:op=20
 ·rw[X9 h2,Wc,Wm h2]
  by_cases h3:YC w.Marks (Xx w a).1<0
  ·rw[Wi h3,Wc,Wm h3]
  ·rw[Wj h3,Wa,Wk h3]
 rw[XM h2,Wa,Wk h2]
 by_cases h3:0<=YC w.Marks (Xx w a).1
 ·obtain ⟨m1,m2,m3⟩:=VS h3
  rw[Wi (show YC w.Marks (Xx w a).1>=0 from h3),Wc,m2,Xa,Wj (show ¬ YC w.Marks (Xx w a).1<0 by omega),Wa]
  rw[Wk (show ¬ (YC w.Marks (Xx w a).1<0/\w.Marks.length=64) by omega)]
  by_cases h4:(Xb3 w.Marks (YC w.Marks (Xx w a).1)).Count=1000
  ·rw[X9 h4,Wc,Wm ⟨h3,h4⟩]
  ·rw[XM h4,Wa,Wk (λ h=>h4 h.2)]
   cases f<;>rfl
 ·rw[Wj (show ¬ YC w.Marks (Xx w a).1>=0 from h3),Wa,Wi (show YC w.Marks (Xx w a).1<0 by omega),Wc,Wk (λ h=>h3 h.1)]
  by_cases h4:w.Marks.length=64
  ·rw[h4,Wm ⟨by omega,rfl⟩];rfl
  ·rw[XM (show ¬ ((w.Marks.length:Nat):Int)=64 by omega),Wa,Wk (λ h=>h4 h.2)]
   cases f<;>rfl
theorem XiN (hw:WB k w) (hN:1000000<N) (hv:Yl w=true) (op:Int) {a b:Int} (ta:tU a) (tb:tU b):QfP N w op a b=some (Xbg w op a b):=by
 rw[QfP,Xbg,Yy,Vv hw hN hv ta,Xa]
 by_cases h4:op=4
 ·rw[X9 h4,Wc,Wm (.inl h4)]
 rw[XM h4,Wa]
 by_cases h5:op=5
 ·rw[X9 h5,Wc,Wm (.inr h5)]
 rw[XM h5,Wa,Wk (by omega),Kt hw hN hv ta,Xa]
 by_cases h1:(Y0 w a).2=0
 rotate_left
 ·rw[Y1 h1,Wc,Wm h1]
 rw[Y7 h1,Wa,Wk (by simpa using h1)]
 by_cases h10:op=10
 ·rw[X9 h10,Wc,Wm h10,Kt hw hN hv tb,Xa]
 ·rw[XM h10,Wa,Wk h10,KX hw.loc hN,Xa]
end
end Go.Sx
namespace Go.Sx
theorem XlF {β:Type} (K:Bool->β) (c1 c2:Bool):(jn K λ j=>bif c1 then j true else j c2)=K (c1||c2):=by
 rw[Yy];cases c1<;>rfl
theorem b2 (op a b:Int):(op==a||op==b)=decide (op=a\/op=b):=by rw[Bool.decide_or];rfl
theorem bd (op a:Int) (p:Prop) [Decidable p]:(op==a||decide p)=decide (op=a\/p):=by rw[Bool.decide_or];rfl
theorem XlG {β:Type} {p:Prop} [Decidable p] (x y:β):(bif decide p then x else y)=if p then x else y:=by
 by_cases h:p
 ·rw[Wi h,Wm h];rfl
 ·rw[Wj h,Wk h];rfl
theorem XkQ {β:Type} (o:Option β):(bnd o λ y=>some y)=o:=by
 cases o
 ·exact XcC _
 ·exact Xa _ _
theorem XkR {β:Type} {p:Prop} [Decidable p] (x y:β):(if p then some x else some y)=some (if p then x else y):=by split<;>rfl
section
variable {N:Nat} {w:WI} {k:Nat}
theorem Xmm (hw:WB k w) (hN:1000000<N) (tw:XN w) (op:Int) {a b c:Int} (ta:tU a) (tb:tU b) (tc:tU c) (f:Bool):QeW N w op a b c f=some (XiL w op a b c f):=by
 rw[QeW,Xaq hw hN,Xa,XiL]
 cases hv:Yl w
 ·rfl
 rw[Wt,Wa,Wk (by simp)]
 simp only[XlF,XkQ,Xe3 hw hN op ta tb f,XgP hw hN hv tw op ta tb tc,Xe4 hw hN hv op ta,XiM hw hN hv op ta,XgQ hw hN hv op ta,XgR hw hN hv op ta f,XiN hw hN hv op ta tb,b2,bd,XlG,XkR]
end
end Go.Sx
namespace Go.Sx
theorem VT (d:Ww):∀ (k:Nat) (l:List Int),∀ r∈K1 d k l,r∈l
 | k,[],r,h=>by simp[K1] at h
 | k,f::fs,r,h=>by
  unfold K1 at h
  split at h
  ·rcases UN.1 h with h | h
   ·exact h▸IA
   ·exact W9 _ (VT d (k+1) fs r h)
  ·exact W9 _ (VT d (k+1) fs r h)
def zWo:WI:=⟨⟨0,0⟩,[],zL,zT,zT,[],[]⟩
theorem XiO {k:Nat} (hk:k<=900):WB k zWo:=⟨hk,by simp[zWo],λ x hx=>by simp[zWo] at hx,Zc,by simp[zWo,zT],by simp[zWo,zT],by simp[zWo],by simp[zWo]⟩
section
variable {N:Nat} {w:WI} {k:Nat}
theorem Xbh (hm:w.Marks.length<=1000):∀ (n:Nat) (i:Int) (v:List Int),0<=i->i<=w.Marks.length->(w.Marks.length-i).toNat<n->v.length<=100000+i->(∀ x∈v,0<=x/\x<=w.Things.length)->(∀ m∈w.Marks,0<=m.Id/\m.Id<=w.Things.length)->Ok (Qc6 N w n i v) λ r=>r.length<=v.length+(w.Marks.length-i)/\∀ x∈r,0<=x/\x<=w.Things.length
 | 0,i,v,_,_,hn,_,_,_=>by omega
 | n+1,i,v,h0,hi,hn,hv,hx,hmm=>by
  rw[Qc6]
  refine Wn (λ hc=>?_) λ hc=>We ⟨by omega,hx⟩
  have hc:i<w.Marks.length:=Wu hc
  rw[Xc (n:=i+1) (by omega) (by omega)]
  refine Ok.get h0 hc λ p hp=>W4 (by omega) ?_
  have hpm:=Yh hp
  refine (Xbh hm n (i+1) _ (by omega) (by omega) (by omega) (by rw[Wr];simp;omega) (λ x hx'=>?_) hmm).mono λ r hr=>⟨?_,hr.2⟩
  ·rcases WG.1 hx' with h | h
   ·exact hx x h
   ·rw[UF.1 h];exact hmm p hpm
  ·have:=hr.1
   rw[Wr] at this
   simp at this
   omega
theorem Xe5 (hN:NB N) (hw:WB k w) (hv:Yl w=true) (tw:XN w):Ok (Qfi N w) λ r=>r.length<=10000/\∀ x∈r,0<=x/\x<=w.Things.length:=by
 have hN':=hN
 unfold NB at hN'
 have hr:=hw.roots
 have hm:=hw.marks
 have wf:=ZZ hv
 obtain ⟨t1,t2,t3,t4,t5,t6⟩:=tw
 have l1:=Xd3 wf.loc
 have l2:=Vu wf.glo
 rw[Qfi]
 refine W4 (by omega) ?_
 rw[Ka hw.loc (by omega),Xa,wf.loc,Wc]
 refine W4 (by omega) ?_
 rw[YM hw.glo (by omega),Xa,wf.glo,Wc]
 refine W4 (by omega) (WJ (Xbh hm N 0 _ (by omega) (by omega) (by omega) (by simp only[Wr];omega) (λ x hx=>?_) λ m hmm=>?_) λ r _ h=>We ⟨?_,h.2⟩)
 ·simp only[WG] at hx
  rcases hx with (h | h) | h
  ·exact ⟨(t6 x h).1,wf.roots x h⟩
  ·refine ⟨?_,wf.rloc x h⟩
   unfold Yi at h
   obtain ⟨p,hp,rfl⟩:=UQ.1 h
   exact (t2 p (UM.1 hp).1).1
  ·refine ⟨?_,wf.rglo x h⟩
   unfold XU at h
   obtain ⟨p,hp,rfl⟩:=UQ.1 h
   exact (t3 p (UM.1 hp).1).1
 ·obtain ⟨i,hi,e⟩:=W0 hmm
  have:=wf.mk_ (k:=i) (m:=m) (by rw[Wd hi,e])
  omega
 ·have:=h.1
  simp only[Wr] at this
  omega
theorem Vx (hN:NB N) (hw:WB k w) (hv:Yl w=true) (tw:XN w) (M:Nat) (hM:M<=2000000):∀ (n:Nat) (i:Int) (v:List Bool) (q:List Int),0<=i->i<=q.length->(M-i).toNat<n->v.length=w.Things.length->(∀ x∈q,0<=x/\x<=w.Things.length)->q.length+1000*v.countP (λ b=>!b)<=M->Ok (Qbw N w n i v q) λ r=>r.length=w.Things.length
 | 0,i,v,q,_,_,hn,_,_,_=>by omega
 | n+1,i,v,q,h0,hi,hn,hl,hq,hm=>by
  have hN':=hN
  unfold NB at hN'
  have hk:=hw.kk
  have ht:=hw.things
  rw[Qbw]
  refine W4 (by omega) (Wn (λ hc=>?_) λ _=>We hl)
  have hc:i<q.length:=Wu hc
  rw[Xc (n:=i+1) (by omega) (by omega)]
  refine Ok.get h0 hc λ p hp=>?_
  have same:∀ p',Xb q i=some p'->p'=p:=λ p' h=>WO (h.symm.trans hp)
  have hpq:=hq p (Yh hp)
  refine Wn (λ _=>Vx hN hw hv tw M hM n (i+1) v q (by omega) (by omega) (by omega) hl hq hm) λ hz=>?_
  have hz:¬ p=0:=by simpa using hz
  refine Ok.get h0 hc λ p2 hp2=>?_
  obtain rfl:=same p2 hp2
  rw[XJ (n:=p2-1) (by omega) (by omega)]
  refine Ok.get (by omega) (by omega) λ b hb=>Wn (λ _=>Vx hN hw hv tw M hM n (i+1) v q (by omega) (by omega) (by omega) hl hq hm) λ hbf=>?_
  refine Ok.get h0 hc λ p3 hp3=>?_
  obtain rfl:=same p3 hp3
  rw[XJ (n:=p3-1) (by omega) (by omega)]
  refine Ok.get (by omega) (by omega) λ _ _=>Ok.get h0 hc λ p4 hp4=>?_
  obtain rfl:=same p4 hp4
  obtain ⟨g1,g2⟩:=Km hw (id:=p4) (by omega) (by omega)
  have hf:=hw.fields _ g2
  obtain ⟨v1,v2,v3,v4⟩:=(ZZ hv).thing _ g2
  have hrl:=VR (thg w p4).Header 0 (thg w p4).Fields
  have hrl:(Xbc (thg w p4)).length<=1000:=by unfold Xbc;omega
  rw[g1,Xa,Xd2 (by omega) (by omega),Xa]
  have hlt:(p4-1).toNat<v.length:=by omega
  have hbv:v[(p4-1).toNat]=false:=by
   rw[X4 (by omega) (by omega)] at hb
   rw[WO hb];exact hbf
  have hcount:(v.set (p4-1).toNat true).countP (λ b=>!b)+1<=v.countP (λ b=>!b):=by
   have hpos:0<v.countP (λ b=>!b):=List.countP_pos_iff.2 ⟨v[(p4-1).toNat],WT _,by rw[hbv];rfl⟩
   rw[List.countP_set hlt,hbv]
   simp
   omega
  refine W4 (by omega) (Vx hN hw hv tw M hM n (i+1) _ _ (by omega) (by rw[Wr];omega) (by omega) (by rw[WE];exact hl) (λ x hx=>?_) (by rw[Wr];omega))
  rcases WG.1 hx with h | h
  ·exact hq x h
  ·refine ⟨?_,v4 x h⟩
   exact ((tw.1 _ g2).2 x (VT _ _ _ x h)).1
theorem Xe6 (hN:NB N) (hw:WB k w) (hv:Yl w=true) (tw:XN w):Ok (QeT N w) λ r=>r.length=w.Things.length:=by
 have hN':=hN
 unfold NB at hN'
 have hk:=hw.kk
 have ht:=hw.things
 rw[QeT,Xaq hw (by omega),Xa,hv,Wt,Wa]
 refine W4 (by omega) (WJ (Xe5 hN hw hv tw) λ y _ hy=>WJ (Vx hN hw hv tw 1100000 (by omega) N 0 _ y (by omega) (by omega) (by omega) (by rw[WL];omega) hy.2 ?_) λ r _ hr=>We hr)
 have:(List.replicate (((w.Things.length:Nat):Int)).toNat false).countP (λ b=>!b)<=1000:=by
  refine UP List.countP_le_length ?_
  rw[WL];omega
 have:=hy.1
 omega
theorem XcV (y:List Bool) (hy:y.length=w.Things.length) (hw:WB k w):∀ (n:Nat) (i:Int) (v:List Int),0<=i->i<=v.length->(v.length-i).toNat<n->v.length<=1000->(∀ x∈v,0<=x/\x<=w.Things.length)->Ok (QaJ N w y n i v) λ r=>r.length=v.length
 | 0,i,v,_,_,hn,_,_=>by omega
 | n+1,i,v,h0,hi,hn,hl,hx=>by
  have hk:=hw.kk
  have ht:=hw.things
  rw[QaJ]
  refine W4 (by omega) (Wn (λ hc=>?_) λ _=>We rfl)
  have hc:i<v.length:=Wu hc
  rw[Xc (n:=i+1) (by omega) (by omega)]
  have next:=XcV y hy hw n (i+1) v (by omega) (by omega) (by omega) hl hx
  refine Ok.get h0 hc λ p hp=>Wn (λ hz=>Ok.get h0 hc λ p2 hp2=>?_) λ _=>next
  obtain rfl:p=p2:=WO (hp.symm.trans hp2)
  have hpq:=hx p (Yh hp)
  have hz:¬ p=0:=by simpa using hz
  rw[XJ (n:=p-1) (by omega) (by omega)]
  refine Ok.get (by omega) (by omega) λ _ _=>Wn (λ _=>Ok.get h0 hc λ _ _=>?_) λ _=>next
  refine (XcV y hy hw n (i+1) _ (by omega) (by rw[WE];omega) (by rw[WE];omega) (by rw[WE];exact hl) λ x hx'=>?_).mono λ r hr=>by rw[hr,WE]
  rcases UB hx' with h | h
  ·exact hx x h
  ·rw[h];omega
theorem Xad (hN:NB N) (hw:WB k w) (tw:XN w):Ok (QcF N w) λ r=>WB k r.1:=by
 have hN':=hN
 unfold NB at hN'
 rw[QcF,Xaq hw (by omega),Xa]
 refine Wn (λ _=>We (XiO hw.kk)) λ hv=>?_
 have hv:Yl w=true:=by simpa using hv
 have wf:=ZZ hv
 have l3:=Vu wf.wea
 refine WJ (Xe6 hN hw hv tw) λ y _ hy=>?_
 rw[YM hw.wea (by omega),Xa,wf.wea,Wc]
 refine WJ (XcV y hy hw N 0 _ (by omega) (by omega) (by omega) (by omega) λ x hx=>⟨?_,wf.rwea x hx⟩) λ z _ hz=>WJ (Xb0 hw.wea (by omega) (by omega)) λ t _ ht=>We ⟨hw.kk,hw.things,hw.fields,hw.loc,hw.gloK,UP ht hw.weaK,hw.marksK,hw.rootsK⟩
 unfold XU at hx
 obtain ⟨p,hp,rfl⟩:=UQ.1 hx
 exact (tw.2.2.2.1 p (UM.1 hp).1).1
end
end Go.Sx
namespace Go.Sx
theorem Ox {β κ:Type} {P:β->Prop} {k:κ->Option β} {f:(κ->Option β)->Option β} (Q:κ->Prop) (h:∀ x,Q x->Ok (k x) P) (g:∀ j:κ->Option β,(∀ x,Q x->Ok (j x) P)->Ok (f j) P):Ok (Sx.jn k f) P:=by rw[Yy];exact g k h
section
variable {N:Nat} {w:WI} {k:Nat}
theorem JC (hw:WB k w) (hN:1000000<N) (id:Int):Ok (QbZ N w id) λ r=>WB k r.1:=by
 rw[QbZ]
 refine W8 (We hw) ?_
 rw[Xan hw.loc hN,Xa]
 exact Uj (Y4 _) λ y _=>We ⟨hw.kk,hw.things,hw.fields,XfF hw.loc id,hw.gloK,hw.weaK,hw.marksK,hw.rootsK⟩
theorem XfS (hw:WB k w) {id i v:Int} (h1:1<=id) (h2:id<=w.Things.length) (i0:0<=i) (i1:i<(thg w id).Fields.length):Ok (QeB N w id i v) λ r=>WB k r:=by
 have hk:=hw.kk
 have ht:=hw.things
 obtain ⟨g1,g2⟩:=Km hw h1 h2
 have hf:=hw.fields _ g2
 rw[QeB,Xi (by omega),g1,Xa,Xi (by omega)]
 refine Ok.get i0 (by omega) λ _ _=>?_
 rw[Xa]
 refine We ⟨hw.kk,?_,λ x hx=>?_,hw.loc,hw.gloK,hw.weaK,hw.marksK,hw.rootsK⟩
 ·show (w.Things.set _ _).length<=_;rw[WE];exact ht
 ·have hx:x∈w.Things.set _ _:=hx
  rcases UB hx with h | h
  ·exact hw.fields x h
  ·rw[h];show ((thg w id).Fields.set _ _).length<=_;rw[WE];exact hf
theorem Xd6 (hw:WB k w) (hN:1000000<N) (op id:Int):Ok (Qdd N w op id) λ r=>WB k r.1:=by
 rw[Qdd]
 refine Ip (W8 ?_ ?_)
 ·rw[Jz hw.wea hN,Xa]
  exact Uj (Y4 _) λ y _=>We ⟨hw.kk,hw.things,hw.fields,hw.loc,hw.gloK,XdU hw.weaK id,hw.marksK,hw.rootsK⟩
 ·rw[Jz hw.glo hN,Xa]
  exact Uj (Y4 _) λ y _=>We ⟨hw.kk,hw.things,hw.fields,hw.loc,XdU hw.gloK id,hw.weaK,hw.marksK,hw.rootsK⟩
theorem Xe7 (hw:WB k w) (hN:1000000<N) (v:Int):Ok (QdN N w v) λ r=>WB k r:=by
 rw[QdN]
 refine Uj (VQ _) λ y _=>W8 ?_ (W8 ?_ ?_)
 ·rw[XfG hw.loc hN,Xa];exact We ⟨hw.kk,hw.things,hw.fields,XfH hw.loc _ _,hw.gloK,hw.weaK,hw.marksK,hw.rootsK⟩
 ·rw[Xao hw.glo hN,Xa];exact We ⟨hw.kk,hw.things,hw.fields,hw.loc,XdV hw.gloK _ _,hw.weaK,hw.marksK,hw.rootsK⟩
 ·rw[Xao hw.wea hN,Xa];exact We ⟨hw.kk,hw.things,hw.fields,hw.loc,hw.gloK,XdV hw.weaK _ _,hw.marksK,hw.rootsK⟩
theorem XiP (hw:WB k w) (hN:1000000<N) (h64:w.Marks.length<=64) (op id b:Int) (h20:op=20->0<=YC w.Marks id):Ok (QeO N w op id b) λ r=>WB k r.1:=by
 have setM:∀ l:List Iq,l.length<=100+k->WB k ⟨w.Conf,w.Things,w.Locals,w.Globals,w.Weaks,l,w.Roots⟩:=λ l hl=>⟨hw.kk,hw.things,hw.fields,hw.loc,hw.gloK,hw.weaK,hl,hw.rootsK⟩
 rw[QeO,Qf6,XcT (by omega) hN,Xa,Xa]
 refine W4 (by omega) (Wn (λ h=>?_) λ _=>Wn (λ h=>?_) λ h=>W4 (by omega) (We (setM _ (by rw[Wr];simp;omega))))
 ·have h:=h20 (by simpa using h)
  obtain ⟨m1,_,_⟩:=VS h
  refine Ok.get h m1 λ _ _=>Ok.get h m1 λ _ _=>Ok.get h (by rw[WE];exact m1) λ _ _=>Wn (λ _=>?_) λ _=>We (setM _ (by rw[WE];omega))
  have e:=Xc (n:=YC w.Marks id+1) (by omega) (by omega)
  refine W4 (by omega) (W4 (by rw[e];omega) (W4 (by rw[e];omega) (We (setM _ ?_))))
  simp only[Wz,Wr,WE,WM];omega
 ·have h:0<=YC w.Marks id:=Wu h
  obtain ⟨m1,_,_⟩:=VS h
  exact Ok.get h m1 λ _ _=>Ok.get h m1 λ _ _=>Ok.get h (by rw[WE];exact m1) λ _ _=>We (setM _ (by rw[WE];omega))
theorem WB.up (hw:WB k w) (hk:k+1<=900):WB (k+1) w:=⟨hk,by have:=hw.things;omega,hw.fields,hw.loc,by have:=hw.gloK;omega,by have:=hw.weaK;omega,by have:=hw.marksK;omega,by have:=hw.rootsK;omega⟩
theorem XiQ (hN:NB N) (hw:WB k w) (hk:k+1<=900) (tw:XN w) (op:Int) {a b c:Int} (ta:tU a) (tb:tU b) (tc:tU c) (ft:I6):Ok (QeP N w op a b c ft) λ r=>WB (k+1) r.1:=by
 have hN':=hN
 unfold NB at hN'
 have hN1:1000000<N:=by omega
 have zero:WB (k+1) zWo:=XiO hk
 rw[QeP,Xmm hw hN1 tw op ta tb tc,Xa]
 refine Wn (λ _=>We zero) λ hz=>?_
 have hz:XiL w op a b c ft.Failed=0:=by simpa using hz
 have hv:Yl w=true:=by
  cases h:Yl w
  ·unfold XiL at hz;rw[h] at hz;cases hz
  ·rfl
 have wf:=ZZ hv
 unfold XiL at hz
 rw[hv,Wk (by simp)] at hz
 have thing:(Xx w a).2=0->1<=(Y0 w a).1/\(Y0 w a).1<=w.Things.length/\Xx w a=Y0 w a:=λ h=>by
  obtain ⟨t1,t2,t3⟩:=Xb4 hw hv tw ta h
  rw[t3] at t1 t2
  exact ⟨t1,t2,t3⟩
 refine Ox (λ x=>¬ (op<=3\/op=17)->x=(Y0 w a).1) (λ x3 hx3=>?_) λ j1 h1=>?_
 rotate_left
 ·refine Wn (λ hg=>Wn (λ h17=>?_) λ h17=>h1 _ λ h=>absurd (Or.inr (by simpa using h17)) h) λ hg=>h1 _ λ h=>absurd (Or.inl (by have:=WD hg;omega)) h
  rw[Kt hw hN1 hv ta,Xa]
  exact h1 _ λ _=>rfl
 simp only[XlF]
 refine Wn (λ hc=>?_) λ hc=>?_
 ·
  have hc:op=1\/op=2\/op=3:=by simpa using hc
  rw[Wm hc] at hz
  obtain ⟨d,hd,hd2⟩:=Xd5 (N:=N) op ta tb
  have hfac:okW op a b/\Xb2 w.Conf (hdW op a b)=true:=by
   unfold Vw at hz
   split at hz
   ·cases hz
   split at hz
   ·cases hz
   rename_i _ h2
   split at hz
   ·cases hz
   rename_i h3
   exact ⟨Classical.not_not.1 h2,by simpa using h3⟩
  have hdd:=hd2 hfac.1
  have hvd:XL d=true:=by
   have:=hfac.2
   unfold Xb2 at this
   rw[WC] at this
   rw[hdd];exact this.1
  have hb:=XS hvd
  have main:∀ w':WI,WB k w'->Ok (α:=WI×Int×Int) (bnd (QbK N op a b) λ y17 =>
   grd (w'.Things.length*48<=140737488355328) <|
   grd (0<=y17.1.Length/\y17.1.Length.toNat*8<=140737488355328) <|
   grd ((w'.Things.length+1)*48<=140737488355328) <|
   grd ((w'.Things.length+1)<=140737488355328) <|
   bnd (QbZ N (WI.mk (WX.mk w'.Conf.PageWords w'.Conf.Pages) (w'.Things++[(Ie.mk y17.1 (List.replicate y17.1.Length.toNat 0))]) (Wq.mk w'.Locals.Slots w'.Locals.Scopes w'.Locals.Issued) (Wy.mk w'.Globals.Entries) (Wy.mk w'.Weaks.Entries) w'.Marks w'.Roots) (wU (((w'.Things.length+1):Nat):Int))) λ y18 =>
   some (y18.1,y18.2,0)) λ r=>WB (k+1) r.1:=by
   intro w' hw'
   have ht:=hw'.things
   rw[hd,Xa]
   refine W4 (by omega) (W4 (by constructor<;>simp only<;>omega) (W4 (by omega) (W4 (by omega) (Uj (JC (k:=k+1) (w:=⟨w'.Conf,w'.Things++[⟨d,List.replicate d.Length.toNat 0⟩],w'.Locals,w'.Globals,w'.Weaks,w'.Marks,w'.Roots⟩) ⟨hk,?_,λ x hx=>?_,hw'.loc,Iu hw'.gloK,Iu hw'.weaK,Iu hw'.marksK,Iu hw'.rootsK⟩ hN1 _) λ y hy=>We hy))))
   ·show (w'.Things++[_]).length<=_;rw[Wr];simp;omega
   ·rcases WG.1 hx with h | h
    ·exact hw'.fields x h
    ·rw[UF.1 h];show (List.replicate _ _).length<=_;rw[WL];omega
  refine Ip (Wn (λ _=>WJ (Xad hN hw tw) λ y _ hy=>?_) λ _=>?_)
  ·exact main y.1 hy
  ·exact main w hw
 have hn1:¬ (op=1\/op=2\/op=3):=by simpa using hc
 rw[Wk hn1] at hz
 have sw:∀ v e:Int,Ok (α:=WI×Int×Int) (some (w,v,e)) λ r=>WB (k+1) r.1:=λ v e=>We (hw.up hk)
 have up:∀ {w':WI},WB k w'->WB (k+1) w':=λ h=>WB.up h hk
 have pl:(op=4\/op=5\/op=10\/op=11)->Xbg w op a b=0:=λ h=>by
  rw[Wk (by omega),Wk (by omega),Wk (by omega),Wk (by omega),Wk (by omega),Wm h] at hz
  exact hz
 have len:(op=4\/op=5)->1<=x3/\x3<=w.Things.length:=λ h=>by
  have h1:=pl (by omega)
  unfold Xbg at h1
  rw[Wm h] at h1
  have:=thing h1
  rw[hx3 (by omega)]
  exact ⟨this.1,this.2.1⟩
 have fld:(op=6\/op=7\/op=8\/op=9)->(1<=x3/\x3<=w.Things.length)/\b<(thg w x3).Fields.length/\wI b=b:=λ h=>by
  rw[Wm h] at hz
  unfold Xar at hz
  by_cases h1:(Xx w a).2=0
  rotate_left
  ·rw[Wm h1] at hz;exact absurd hz h1
  rw[Wk (by simpa using h1)] at hz
  obtain ⟨t1,t2,t3⟩:=thing h1
  have e:x3=(Y0 w a).1:=hx3 (by omega)
  rw[t3,← e] at hz
  rw[← e] at t1 t2
  obtain ⟨g1,g2⟩:=Km hw t1 t2
  obtain ⟨v1,v2,v3,v4⟩:=wf.thing _ g2
  have vb:=XS v1
  by_cases h2:b>=(thg w x3).Header.Length
  ·rw[Wm h2] at hz;cases hz
  have:=tb.1
  exact ⟨⟨t1,t2⟩,by omega,Xc (by omega) (by omega)⟩
 refine Wn (λ h4=>?_) λ n4=>Wn (λ h5=>?_) λ n5=>Wn (λ h6=>?_) λ n6=>Wn (λ h7=>?_) λ n7=>Wn (λ h8=>?_) λ n8=>Wn (λ h9=>?_) λ n9=>Wn (λ h10=>?_) λ n10=>Wn (λ h11=>?_) λ n11=>?_
 ·have h4:op=4:=by simpa using h4
  have:=len (.inl h4)
  rw[(Km hw this.1 this.2).1,Xa];exact sw _ _
 ·have h5:op=5:=by simpa using h5
  have:=len (.inr h5)
  rw[(Km hw this.1 this.2).1,Xa];exact sw _ _
 ·have h6:op=6:=by simpa using h6
  obtain ⟨f1,f2,f3⟩:=fld (by omega)
  rw[(Km hw f1.1 f1.2).1,Xa]
  exact Ok.get tb.1 f2 λ _ _=>sw _ _
 ·have h7:op=7:=by simpa using h7
  obtain ⟨f1,f2,f3⟩:=fld (by omega)
  rw[f3]
  exact Uj (XfS hw f1.1 f1.2 tb.1 f2) λ y hy=>We (up hy)
 ·have h8:op=8:=by simpa using h8
  obtain ⟨f1,f2,f3⟩:=fld (by omega)
  rw[(Km hw f1.1 f1.2).1,Xa]
  exact Ok.get tb.1 f2 λ _ _=>Uj (JC hw hN1 _) λ y hy=>We (up hy)
 ·have h9:op=9:=by simpa using h9
  obtain ⟨f1,f2,f3⟩:=fld (by omega)
  rw[Kt hw hN1 hv tc,Xa,f3]
  exact Uj (XfS hw f1.1 f1.2 tb.1 f2) λ y hy=>We (up hy)
 ·rw[Kt hw hN1 hv tb,Xa]
  exact W8 (sw _ _) (sw _ _)
 ·exact Uj (JC hw hN1 _) λ y hy=>We (up hy)
 have n4:¬ op=4:=by simpa using n4
 have n5:¬ op=5:=by simpa using n5
 have n6:¬ op=6:=by simpa using n6
 have n7:¬ op=7:=by simpa using n7
 have n8:¬ op=8:=by simpa using n8
 have n9:¬ op=9:=by simpa using n9
 have n10:¬ op=10:=by simpa using n10
 have n11:¬ op=11:=by simpa using n11
 refine Wn (λ _=>Uj (Xd6 hw hN1 _ _) λ y hy=>We (up hy)) λ nl=>?_
 have nl:¬ (op=13\/op=15):=by simpa using nl
 refine Wn (λ _=>Uj (Xe7 hw hN1 _) λ y hy=>We (up hy)) λ nr=>?_
 have nr:¬ (op=12\/op=14\/op=16):=by simpa using nr
 refine Wn (λ _=>?_) λ n17=>Wn (λ _=>?_) λ n18=>?_
 ·rw[Xa4 hw.loc hN1,Xa]
  exact We (up ⟨hw.kk,hw.things,hw.fields,XdS hw.loc _,hw.gloK,hw.weaK,hw.marksK,hw.rootsK⟩)
 ·rw[XcQ hw.loc hN1,Xa]
  exact Uj (JC (w:=⟨w.Conf,w.Things,(Ks w.Locals).1,w.Globals,w.Weaks,w.Marks,w.Roots⟩) ⟨hw.kk,hw.things,hw.fields,XcR hw.loc,hw.gloK,hw.weaK,hw.marksK,hw.rootsK⟩ hN1 _) λ y hy=>We (up hy)
 have n17:¬ op=17:=by simpa using n17
 have n18:¬ op=18:=by simpa using n18
 rw[Wk (by omega),Wk (by omega),Wk (by omega),Wk (by omega)] at hz
 refine Uj (XiP hw hN1 wf.m64 op x3 _ λ h20=>?_) λ y hy=>We (up hy)
 rw[Wm (.inr h20)] at hz
 unfold XfR at hz
 by_cases h1:(Xx w a).2=0
 rotate_left
 ·rw[Wm h1] at hz;exact absurd hz h1
 rw[Wk (by simpa using h1),Wm h20,(thing h1).2.2,← hx3 (by omega)] at hz
 by_cases h2:YC w.Marks x3<0
 ·rw[Wm h2] at hz;cases hz
 ·omega
end
end Go.Sx
namespace Go.Sx
section
variable {N:Nat}
theorem XkS {t:U7} {m:Int} (h0:0<=t.at_) (h1:t.at_<=m) (hm:m<=1000000) {a:Int} (ha:a<=1000000000):Ok (Qac N t a) λ r=>0<=r.1/\(1<=a->r.1<a)/\0<=r.2.at_/\r.2.at_<=m+1:=by
 rw[Qac]
 refine Wn (λ _=>We ⟨by simp,λ h=>by omega,h0,by simp only;omega⟩) λ hg=>?_
 have hg:=WD hg
 have rest:∀ x:Int,Ok (grd (a≠0) <| grd (a≠0) <| some (((wI ((x.tmod a)+a)).tmod a),(U7.mk t.L (wI (t.at_+1))))) λ r=>0<=r.1/\(1<=a->r.1<a)/\0<=r.2.at_/\r.2.at_<=m+1:=by
  intro x
  have b1:=U4 x (show 0<a by omega)
  have b2 : -a<x.tmod a:=by
   have:=U4 (-x) (show 0<a by omega)
   rw[Int.neg_tmod] at this
   omega
  have e:=Xc (n:=x.tmod a+a) (by omega) (by omega)
  have e2:=Xc (n:=t.at_+1) (by omega) (by omega)
  have c1:=U4 (x.tmod a+a) (show 0<a by omega)
  have c2:=IC a (show 0<=x.tmod a+a by omega)
  refine W4 (by omega) (W4 (by omega) (We ?_))
  simp only[e,e2]
  exact ⟨c2,λ _=>c1,by omega,by omega⟩
 refine Ip (Wn (λ h=>Ok.get h0 (Wu h) λ p _=>rest p) λ _=>rest _)
def TA (m:Int) (t:U7):Prop:=0<=t.at_/\t.at_<=m
theorem nxp {t:U7} {m a:Int} (h:TA m t) (hm:m<=1000000) (ha1:1<=a) (ha:a<=1000000000):Ok (Qac N t a) λ r=>0<=r.1/\r.1<a/\TA (m+1) r.2:=(XkS h.1 h.2 hm ha).mono λ r hr=>⟨hr.1,hr.2.1 ha1,hr.2.2⟩
theorem TA.le {t:U7} {m n:Int} (h:TA m t) (hn:m<=n):TA n t:=⟨h.1,by have:=h.2;omega⟩
theorem JD {p:Io} {t:U7} {m:Int} (hw:1<=p.Words.length) (hw2:p.Words.length<=1000) (h:TA m t) (hm:m+5<=1000000):Ok (Qbc N p t) λ r=>TA (m+3) r.2:=by
 rw[Qbc]
 have k2:∀ (t':U7) (x8:Bool),TA (m+1) t'->Ok (bif x8 then (bnd (Qac N t' ((p.Words.length:Nat):Int)) λ y9=>bnd (Xb p.Words y9.1) λ p10=>some (p10,y9.2)) else bnd (Qac N t' (if 6<((p.Words.length:Nat):Int) then 6 else ((p.Words.length:Nat):Int))) λ y11=>bnd (Xb p.Words (wI ((wI (((p.Words.length:Nat):Int)-1))-y11.1))) λ p12=>some (p12,y11.2)) λ r=>TA (m+3) r.2:= by
  intro t' x8 h'
  refine Wn (λ _=>Uj (nxp h' (by omega) (by omega) (by omega)) λ y hy=>Ok.get hy.1 hy.2.1 λ _ _=>We (hy.2.2.le (by omega))) λ _=>?_
  refine Uj (nxp h' (by omega) (by split<;>omega) (by split<;>omega)) λ y hy=>?_
  have h1:y.1<((p.Words.length:Nat):Int):=by
   have:=hy.2.1
   split at this<;>omega
  have h0:=hy.1
  rw[Xc (n:=((p.Words.length:Nat):Int)-1) (by omega) (by omega),Xc (n:=((p.Words.length:Nat):Int)-1-y.1) (by omega) (by omega)]
  exact Ok.get (by omega) (by omega) λ _ _=>We (hy.2.2.le (by omega))
 refine Uj (nxp h (by omega) (by omega) (by omega)) λ y hy=>Wn (λ _=>Uj (nxp hy.2.2 (by omega) (by omega) (by omega)) λ z hz=>Ok.get hz.1 hz.2.1 λ _ _=>We (hz.2.2.le (by omega))) λ _=>Wn (λ _=>?_) λ _=>?_
 ·exact Uj (nxp hy.2.2 (by omega) (by omega) (by omega)) λ z hz=>Ok.get hz.1 hz.2.1 λ _ _=>Uj (nxp hz.2.2 (by omega) (by omega) (by omega)) λ u hu=>We (hu.2.2.le (by omega))
 ·refine IR (λ x8=>k2 _ x8 hy.2.2) λ j2 h2=>W8 (h2 _) (IR (λ x7=>h2 _) λ j h=>W8 (h _) (h _))
theorem XkT {p:Io} {t:U7} {m:Int} (hw:1<=p.Words.length) (hw2:p.Words.length<=1000) (h:TA m t) (hm:m+30<=1000000):Ok (Qcf N p t) λ r=>TA (m+20) r.2:=by
 rw[Qcf]
 refine Uj (nxp h (by omega) (by omega) (by omega)) λ y1 h1=>Ok.get h1.1 h1.2.1 λ p2 _=>Wn (λ _=>?_) λ _=>?_
 ·refine Uj (nxp h1.2.2 (by omega) (by omega) (by omega)) λ y3 h3=>?_
  have e:=XJ h3.1 (by have:=h3.2.1;omega)
  refine W4 (by rw[e];exact h3.1) ?_
  have hs:1<=Kq .i64 1 (wU y3.1)/\Kq .i64 1 (wU y3.1)<=1000:=by
   rw[e]
   have a:=h3.1
   have b:=h3.2.1
   have c:y3.1=0\/y3.1=1\/y3.1=2\/y3.1=3:=by omega
   rcases c with c | c | c | c<;>rw[c]<;>decide
  exact Uj (nxp h3.2.2 (by omega) (by omega) (by omega)) λ y4 h4=>We (h4.2.2.le (by omega))
 ·refine IR (λ x5=>Wn (λ _=>?_) λ _=>Wn (λ _=>?_) λ _=>?_) λ j h=>W8 (h _) (h _)
  ·exact Uj (nxp h1.2.2 (by omega) (by omega) (by omega)) λ y6 h6=>Uj (nxp h6.2.2 (by omega) (by omega) (by omega)) λ y7 h7=>W8 (Uj (nxp h7.2.2 (by omega) (by omega) (by omega)) λ y8 h8=>We (h8.2.2.le (by omega))) (We (h7.2.2.le (by omega)))
  ·exact Uj (nxp h1.2.2 (by omega) (by omega) (by omega)) λ y9 h9=>We (h9.2.2.le (by omega))
  ·refine Uj (JD hw hw2 h1.2.2 (by omega)) λ y10 h10=>Uj (nxp h10 (by omega) (by omega) (by omega)) λ y11 h11=>Uj (nxp h11.2.2 (by omega) (by omega) (by omega)) λ y12 h12=>?_
   have k:∀ (l:List Int) (at_ c:Int),TA (m+12) ⟨l,at_⟩->Ok (bif (p2==10) then (bnd (Qbc N p (U7.mk l at_)) λ y19 =>
    some ((I4.mk p2 y10.1 y19.1 c),y19.2))
   else some ((I4.mk p2 y10.1 (wU y11.1) c),(U7.mk l at_))) λ r=>TA (m+20) r.2:=λ l at_ c ht =>
    W8 (Uj (JD hw hw2 ht (by omega)) λ y hy=>We (hy.le (by omega))) (We (ht.le (by omega)))
   refine Ip (W8 (Uj (JD hw hw2 h12.2.2 (by omega)) λ y hy=>k _ _ _ (hy.le (by omega))) (Uj (nxp h12.2.2 (by omega) (by omega) (by omega)) λ y13 h13=>W8 (Uj (JD hw hw2 h13.2.2 (by omega)) λ y hy=>k _ _ _ (hy.le (by omega))) (k _ _ _ (h13.2.2.le (by omega)))))
structure PB (k:Nat) (p:Io):Prop where
 env:EB p.Env
 wor:WB k p.World
 ty:JT p
 w1:1<=p.Words.length
 w2:p.Words.length<=k+1
theorem Xmn (a b:Uh) (op v e:Int):Ok (Qdc N a b op v e) λ _=>True:=by
 rw[Qdc]
 have k2:∀ x y:Bool,Ok (bif (op==19) then (bif (e==0) then some (I6.mk x y v)
  else some (I6.mk x y 0))
  else some (I6.mk x y 0)) λ _=>True:=λ x y=>W8 (W8 (We trivial) (We trivial)) (We trivial)
 refine IR (λ x=>IR (λ y=>k2 x y) λ j h=>W8 (h _) (h _)) λ j h=>W8 (h _) (W8 (h _) (h _))
theorem Xnb (hN:NB N) {k:Nat} {p:Io} (hp:PB k p) (hk:k+1<=900) {d:I4} (td:XcD d):Ok (Qct N p d) λ r=>PB (k+1) r.1:=by
 have ty:=λ r (e:Qct N p d=some r)=>Qjh (N:=N) hp.ty td r e
 have main:Ok (Qct N p d) λ r=>EB r.1.Env/\WB (k+1) r.1.World/\1<=r.1.Words.length/\r.1.Words.length<=k+1+1:=by
  have w1:=hp.w1
  have w2:=hp.w2
  have up:=hp.wor.up hk
  rw[Qct]
  refine Wn (λ _=>?_) λ _=>?_
  ·refine Uj (Xab hN hp.env) λ y1 h1=>Ip (W8 (Uj (Xad hN hp.wor hp.ty.2.1) λ y2 h2=>We ⟨h1,h2.up hk,w1,Iu w2⟩) (We ⟨hp.env,up,w1,Iu w2⟩))
  ·refine WJ (XiK hN hp.env _ _ _ _) λ y26 e26 h26=>Uj (Xmn _ _ _ _ _) λ y27 _=>Uj (XiQ hN hp.wor hk hp.ty.2.1 d.Op td.1 td.2.1 td.2.2 y27) λ y28 h28=>?_
   have k2:∀ w:WI,WB (k+1) w->Ok (α:=Io×Int×Int) (bif (y26.2.2==0) then (bif (y26.2.1 != 0) then (grd (p.Words.length*8<=140737488355328) <| grd ((p.Words.length+1)*8<=140737488355328) <| some ((Io.mk y26.1 w (p.Words++[y26.2.1])),y26.2.1,y26.2.2)) else some ((Io.mk y26.1 w p.Words),y26.2.1,y26.2.2)) else some ((Io.mk p.Env w p.Words),y26.2.1,y26.2.2)) λ r=>EB r.1.Env/\WB (k+1) r.1.World/\1<=r.1.Words.length/\r.1.Words.length<=k+1+1:= by
    intro w hw
    refine W8 (W8 (W4 (by omega) (W4 (by omega) (We ⟨h26,hw,?_,?_⟩))) (We ⟨h26,hw,w1,by simp only;omega⟩)) (We ⟨hp.env,hw,w1,by simp only;omega⟩)
    ·show 1<=(p.Words++[_]).length;rw[Wr];omega
    ·show (p.Words++[_]).length<=_;rw[Wr];simp;omega
   exact Ip (W8 (k2 y28.1 h28) (k2 p.World up))
 obtain ⟨r,e,h⟩:=main
 exact ⟨r,e,h.1,h.2.1,(ty r e).1,h.2.2.1,h.2.2.2⟩
end
end Go.Sx
namespace Go.Sx
section
variable {N:Nat}
theorem XgS {t:U7} {m:Int} (h:TA m t) (hm:m+5<=1000000):Ok (Qeq N t) λ r=>TA (m+2) r.2:=by
 rw[Qeq]
 exact Uj (nxp h (by omega) (by omega) (by omega)) λ y hy=>Ok.get hy.1 hy.2.1 λ _ _=>Uj (nxp hy.2.2 (by omega) (by omega) (by omega)) λ z hz=>Ok.get hz.1 hz.2.1 λ _ _=>We (hz.2.2.le (by omega))
theorem XiR (c:WX):Ok (Qff N c) λ r=>EB r.1:=by
 rw[Qff,QfX,YL,Xa]
 refine WJ (Q:=λ r:Wo×Int=>HB r.1) ?_ λ y _ hy=>We ⟨hy,Zc,Xa6,Xa6,by simp,by simp⟩
 refine Wn (λ _=>We Zv) λ hv=>?_
 have hv:X1 c=true:=by simpa using hv
 have hvc:=Xk.1 hv
 have hm:=Yt hv (i:=0) (by omega) (by omega)
 have e:=Xc (n:=c.Pages*c.PageWords) (by omega) (by omega)
 refine W4 (by rw[e];omega) (W4 (by omega) (We ⟨?_,?_⟩))
 ·show (List.replicate _ _).length<=_;rw[WL,e];omega
 ·show (List.replicate _ _).length<=_;rw[WL];omega
theorem XiS (c:WX):Ok (Qfg N c) λ r=>WB 0 r.1:=by
 rw[Qfg,YL,Xa]
 have z:∀ c:WX,WB 0 ⟨c,[],zL,zT,zT,[],[]⟩:=λ c=>⟨by omega,by simp,λ x hx=>by simp at hx,Zc,by simp[zT],by simp[zT],by simp,by simp⟩
 exact W8 (We (z _)) (We (z _))
theorem XiT {t:U7} {m:Int} (h:TA m t) (hm:m+5<=1000000):Ok (QbS N t) λ r=>PB 0 r.1/\TA (m+3) r.2:=by
 have main:Ok (QbS N t) λ r=>EB r.1.Env/\WB 0 r.1.World/\1<=r.1.Words.length/\r.1.Words.length<=1/\TA (m+3) r.2:=by
  rw[QbS]
  refine Uj (XgS h hm) λ y1 h1=>Uj (XiR _) λ y2 h2=>Uj (XiS _) λ y3 h3=>Uj (nxp h1 (by omega) (by omega) (by omega)) λ y4 h4=>We ⟨⟨h2.heap,⟨h2.loc.1,by simp,h2.loc.2.2⟩,h2.glo,h2.wea,h2.pins,h2.roots⟩,⟨h3.kk,h3.things,h3.fields,⟨h3.loc.1,by simp,h3.loc.2.2⟩,h3.gloK,h3.weaK,h3.marksK,h3.rootsK⟩,by simp,by simp,h4.2.2.le (by omega)⟩
 obtain ⟨r,e,h1,h2,h3,h4,h5⟩:=main
 exact ⟨r,e,⟨h1,h2,QhT r e,h3,h4⟩,h5⟩
theorem XfT (hN:NB N):∀ (n:Nat) (i:Int) (t:U7) (p:Io) (k:Nat),0<=i->i<=60->(60-i).toNat<n->(k:Int)=i->PB k p->TA (10+20*i) t ->
 Ok (Qet N 60 n i t.L t.at_ p.Env.Heap.Conf.PageWords p.Env.Heap.Conf.Pages p.Env.Heap.Words p.Env.Heap.Pages p.Env.Heap.Space p.Env.Heap.Bump p.Env.Locals.Slots p.Env.Locals.Scopes p.Env.Locals.Issued p.Env.Globals.Entries p.Env.Weaks.Entries p.Env.Pins p.Env.Roots p.World.Conf.PageWords p.World.Conf.Pages p.World.Things p.World.Locals.Slots p.World.Locals.Scopes p.World.Locals.Issued p.World.Globals.Entries p.World.Weaks.Entries p.World.Marks p.World.Roots p.Words) λ r=>∃ (p':Io) (k':Nat),k'<=60/\PB k' p'/\r=(p'.Env.Heap.Conf.PageWords,p'.Env.Heap.Conf.Pages,p'.Env.Heap.Words,p'.Env.Heap.Pages,p'.Env.Heap.Space,p'.Env.Heap.Bump,p'.Env.Locals.Slots,p'.Env.Locals.Scopes,p'.Env.Locals.Issued,p'.Env.Globals.Entries,p'.Env.Weaks.Entries,p'.Env.Pins,p'.Env.Roots,p'.World.Conf.PageWords,p'.World.Conf.Pages,p'.World.Things,p'.World.Locals.Slots,p'.World.Locals.Scopes,p'.World.Locals.Issued,p'.World.Globals.Entries,p'.World.Weaks.Entries,p'.World.Marks,p'.World.Roots,p'.Words)
 | 0,i,t,p,k,_,_,hn,_,_,_=>by omega
 | n+1,i,t,p,k,h0,hi,hn,hk,hp,ht=>by
  have stop:Ok (some (p.Env.Heap.Conf.PageWords,p.Env.Heap.Conf.Pages,p.Env.Heap.Words,p.Env.Heap.Pages,p.Env.Heap.Space,p.Env.Heap.Bump,p.Env.Locals.Slots,p.Env.Locals.Scopes,p.Env.Locals.Issued,p.Env.Globals.Entries,p.Env.Weaks.Entries,p.Env.Pins,p.Env.Roots,p.World.Conf.PageWords,p.World.Conf.Pages,p.World.Things,p.World.Locals.Slots,p.World.Locals.Scopes,p.World.Locals.Issued,p.World.Globals.Entries,p.World.Weaks.Entries,p.World.Marks,p.World.Roots,p.Words)) λ r=>∃ (p':Io) (k':Nat),k'<=60/\PB k' p'/\r=(p'.Env.Heap.Conf.PageWords,p'.Env.Heap.Conf.Pages,p'.Env.Heap.Words,p'.Env.Heap.Pages,p'.Env.Heap.Space,p'.Env.Heap.Bump,p'.Env.Locals.Slots,p'.Env.Locals.Scopes,p'.Env.Locals.Issued,p'.Env.Globals.Entries,p'.Env.Weaks.Entries,p'.Env.Pins,p'.Env.Roots,p'.World.Conf.PageWords,p'.World.Conf.Pages,p'.World.Things,p'.World.Locals.Slots,p'.World.Locals.Scopes,p'.World.Locals.Issued,p'.World.Globals.Entries,p'.World.Weaks.Entries,p'.World.Marks,p'.World.Roots,p'.Words) :=
   We ⟨p,k,by omega,hp,rfl⟩
  rw[Qet]
  refine Wn (λ hc=>?_) λ _=>stop
  have hc:i<60:=Wu hc
  rw[Qfu,Xa]
  refine Wn (λ _=>?_) λ _=>stop
  have w1:=hp.w1
  have w2:=hp.w2
  have dty:=λ r (e:Qcf N p t=some r)=>Qic (N:=N) hp.ty r e
  rw[Xc (n:=i+1) (by omega) (by omega)]
  refine WJ (XkT (p:=p) (t:=t) w1 (by omega) ht (by omega)) λ y e hy=>?_
  refine Uj (Xnb hN hp (by omega) (dty y e)) λ z hz=>?_
  exact XfT hN n (i+1) y.2 z.1 (k+1) (by omega) (by omega) (by omega) (by omega) hz (hy.le (by omega))
theorem XkU (hN:NB N) (l:List Int):Ok (Qf0 N l 60) λ p=>∃ k,k<=60/\PB k p:=by
 have hN':=hN
 unfold NB at hN'
 rw[Qf0]
 refine Uj (XiT (m:=0) ⟨by simp,by simp⟩ (by omega)) λ y hy=>Uj (XfT hN N 0 y.2 y.1 0 (by omega) (by omega) (by omega) rfl hy.1 (hy.2.le (by omega))) λ z hz=>We ?_
 obtain ⟨p',k',h1,h2,rfl⟩:=hz
 exact ⟨k',h1,h2⟩
end
end Go.Sx
namespace Go.Sx
theorem XfU {α:Type} {l:List α} {F:Nat->Int->Option (Ex Int Unit)} {p:α->Bool} (hl:l.length<=1000000)
 (hstep:∀ (n k:Nat) (x:α),l[k]? = some x->F (n+1) (k:Int)=bif p x then some (.ret (k:Int)) else F n ((k+1:Nat):Int))
 (hstop:∀ n:Nat,F (n+1) (l.length:Int)=some (.nxt ())):∀ (n k:Nat),k<=l.length->l.length-k<n->F n (k:Int)=some (match (l.drop k).findIdx? p with | some j=>.ret ((k+j:Nat):Int) | none=>.nxt ())
 | 0,k,_,hn=>by omega
 | n+1,k,hk,hn=>by
  by_cases h:k<l.length
  ·rw[hstep n k _ (Wd h),Ws h,List.findIdx?_cons]
   cases hp:p l[k]
   ·rw[Wa,XfU hl hstep hstop n (k+1) (by omega) (by omega),Wk (by simp)]
    cases (l.drop (k+1)).findIdx? p with
    | none=>rfl
    | some j=>simp only[If];rw[show k+1+j=k+(j+1) by omega]
   ·rw[Wc,Wm rfl];simp
  ·obtain rfl:k=l.length:=by omega
   rw[hstop,WK (Ue _)]
   rfl
def Ji {α:Type} (p:α->Bool) (l:List α):Int:=match l.findIdx? p with | some j=>(j:Int) | none=>-1
theorem Jj {α:Type} {l:List α} {F:Nat->Int->Option (Ex Int Unit)} {p:α->Bool} {N:Nat} (hl:l.length<=1000000) (hN:1000000<N)
 (hstep:∀ (n k:Nat) (x:α),l[k]? = some x->F (n+1) (k:Int)=bif p x then some (.ret (k:Int)) else F n ((k+1:Nat):Int))
 (hstop:∀ n:Nat,F (n+1) (l.length:Int)=some (.nxt ())):(bnd (F N 0) λ e=>exK e (λ r=>some r) λ _=>some (-1))=some (Ji p l):=by
 have h:=XfU hl hstep hstop N 0 (by omega) (by omega)
 rw[show ((0:Nat):Int)=0 from rfl,WU] at h
 rw[h,Xa,Ji]
 cases l.findIdx? p with
 | none=>simp only[Xq]
 | some j=>simp only[Xz,Uu]
theorem KI {α:Type} (p:α->Bool) (l:List α):decide (Ji p l>=0)=l.any p:=by
 unfold Ji
 cases h:l.findIdx? p with
 | none =>
  rw[List.findIdx?_eq_none_iff] at h
  rw[show l.any p=false by rw[List.any_eq_false];intro x hx;rw[h x hx];simp]
  rfl
 | some j =>
  obtain ⟨hj,hp,_⟩:=List.findIdx?_eq_some_iff_getElem.1 h
  rw[show l.any p=true by rw[IO];exact ⟨_,WT hj,hp⟩]
  exact Wi (by show ((j:Nat):Int)>=0;omega)
section
variable {N:Nat}
theorem XkV (e:W6):Qe0 N e=some (!Vp e):=by
 rw[Qe0]
 unfold Vp
 cases decide (e.Gen<1)<;>cases decide (e.Gen>4294967295)<;>cases e.Live<;>cases (e.Ref != 0)<;>rfl
theorem XcW {α:Type} (p:α->Bool) (l:List α):(!l.any λ x=>!p x)=l.all p:=by
 rw[List.not_any_eq_all_not]
 congr 1
 funext x
 simp
theorem Vy {t:Wy} (hl:TB t) (hN:1000000<N):QdC N t=some (YH t.Entries):=by
 unfold TB at hl
 rw[QdC,Qay,QaG]
 rw[Jj (p:=λ e=>!Vp e) hl hN (λ n k x e=>by
  have hk:=Xv e
  rw[Qah,Xy hk,Wc,Xd,e,Xa,XkV,Xa,Xh (by omega)]) (λ n=>by rw[Qah,Xs,Wa])]
 rw[Xa,Xa,KI,XcW,YH,show decide (((t.Entries.length:Nat):Int)<=64)=decide (t.Entries.length<=64) from decide_eq_decide.2 (by omega)]
 cases t.Entries.all Vp<;>cases decide (t.Entries.length<=64)<;>rfl
theorem VU {t:Wy} (hl:t.Entries.length<=1000000):∀ (n k:Nat) (v:List Int),k<=t.Entries.length->t.Entries.length-k<n->v.length<=k ->
 Qdf N t n (k:Int) v=some (v++XU (t.Entries.drop k))
 | 0,k,v,_,hn,_=>by omega
 | n+1,k,v,hk,hn,hlv=>by
  rw[Qdf]
  by_cases h:k<t.Entries.length
  ·rw[Xy h,Wc,Xd,Wd h,Xa,Xh (by omega),Ws h,XU]
   cases hL:t.Entries[k].Live
   ·rw[Wa,VU hl n (k+1) v (by omega) (by omega) (by omega),Uy (by rw[hL];simp)]
    rfl
   ·rw[Wc,Xi (by omega),VU hl n (k+1) _ (by omega) (by omega) (by rw[Wr];simp;omega),UJ (by rw[hL])]
    simp[XU]
  ·obtain rfl:k=t.Entries.length:=by omega
   rw[Xs,Wa,WK (Ue _)]
   simp[XU]
theorem VV {t:Wy} (hl:TB t) (hN:1000000<N):QeQ N t=some (bif YH t.Entries then XU t.Entries else []):=by
 rw[QeQ,Vy hl hN,Xa]
 cases hv:YH t.Entries
 ·rfl
 ·have h:=VU (N:=N) (t:=t) hl N 0 [] (by omega) (by unfold TB at hl;omega) (by simp)
  rw[show ((0:Nat):Int)=0 from rfl,WU,Ur] at h
  rw[Wt,Wa,h,Xa];rfl
theorem Xd7 {t:Wy} (hl:TB t) (hN:1000000<N) (i g:Int):Qf1 N t i g=some (YS t.Entries i g):=by
 have hl':=hl
 unfold TB at hl
 rw[Qf1,Qgy,Vy hl' hN,Xa,YS]
 cases hv:YH t.Entries
 ·rw[WR,Wc,Xa];rfl
 ·simp only[Wt,Wa,XlG,Bool.true_eq_false,if_false]
  by_cases h0:i<0
  ·rw[Wm h0,Wm (.inl h0),Xa];rfl
  ·rw[Wk h0]
   by_cases h1:i>=((t.Entries.length:Nat):Int)
   ·rw[Wm h1,Wm (.inr (.inl h1)),Xa];rfl
   ·rw[Wk h1]
    by_cases h2:g<1
    ·rw[Wm h2,Wm (.inr (.inr h2)),Xa];rfl
    ·have hlt:i.toNat<t.Entries.length:=by omega
     rw[Wk h2,Wk (by omega),X4 (by omega) (by omega),Xa,Wd hlt]
     simp only[Xa]
     by_cases h3:g>t.Entries[i.toNat].Gen
     ·rw[Wm h3,Wm h3,Xa];rfl
     ·rw[Wk h3,Wk h3]
      by_cases h4:g<t.Entries[i.toNat].Gen
      ·rw[Wm h4,Wm h4,Xa];rfl
      ·rw[Wk h4,Wk h4]
       cases t.Entries[i.toNat].Live
       ·rw[WR,Wc,Xa];rfl
       ·rw[Wt,Wa,Xa];rfl
theorem XgT (x:Int):QeZ N x=some (!(!decide (x<0)&&!decide (x>4095))):=by
 rw[QeZ,show decide (x>=4096)=decide (x>4095) from decide_eq_decide.2 (by omega)]
 cases decide (x<0)<;>cases decide (x>4095)<;>rfl
theorem Xb5 {a:Wq}:∀ (n:Nat) (s i:Int),QaE N ⟨a⟩ n s i=Qag N a n s i
 | 0,s,i=>by rw[QaE,Qag]
 | n+1,s,i=>by
  rw[QaE,Qag]
  have e:∀ s i,QaE N ⟨a⟩ n s i=Qag N a n s i:=Xb5 n
  simp only[e]
theorem Xbi {a:Wq}:∀ (n:Nat) (s i:Int),QaL N ⟨a⟩ n s i=Qai N a n s i
 | 0,s,i=>by rw[QaL,Qai]
 | n+1,s,i=>by
  rw[QaL,Qai]
  have e:∀ s i,QaL N ⟨a⟩ n s i=Qai N a n s i:=Xbi n
  have c:∀ p:US,(p.Live==(p.Ref==0))=(!(p.Live==(p.Ref != 0))):=λ p=>by
   show (p.Live==(p.Ref==0))=(!(p.Live==!(p.Ref==0)))
   cases p.Live<;>cases (p.Ref==0)<;>rfl
  simp only[e,c]
theorem XgU {a:Wq} (hl:LBp a) (hne:neB a.Slots.length a.Scopes=true) {k:Nat} {p:U2} (hp:a.Scopes[k]? = some p):Qc5 N ⟨a⟩ (k:Int)=some ((a.Slots.drop p.From.toNat).take ((toL a k).toNat-p.From.toNat)):=by
 have hf:=Jh hne hp
 have hk:=Xv hp
 have hl2:=hl.2.1
 have hle:(Ii.mk a).Locals.Slots.length=a.Slots.length:=rfl
 rw[Qc5,Xh (by omega),toL]
 by_cases h:k+1<a.Scopes.length
 ·have e2:=Wd h
  have hf2:=Jh hne e2
  have:=hf.2.2.2.2.2 _ e2
  rw[Xy h,Wc,Xd,hp,Xa,Xd,e2,Xa,Xi (by omega)]
 ·rw[show decide (((k+1:Nat):Int)<((a.Scopes.length:Nat):Int))=false from Wj (by omega),Wa,Xd,hp,Xa,Xi (by omega),WN (by omega)]
  congr 1
  rw[UX]
  rw[WM];simp
theorem Xbj (l:List US) (hl:l.length<=1000000):∀ (n k c:Nat),k<=l.length->l.length-k<n->c<=k->Qbg N l n (c:Int) (k:Int)=some (((c+(l.drop k).countP (·.Live):Nat):Int))
 | 0,k,c,_,hn,_=>by omega
 | n+1,k,c,hk,hn,hc=>by
  rw[Qbg]
  by_cases h:k<l.length
  ·rw[Xy h,Wc,Xd,Wd h,Xa,Xh (by omega),Xh (by omega),Ws h,List.countP_cons]
   cases hL:l[k].Live
   ·rw[Wa,Xbj l hl n (k+1) c (by omega) (by omega) (by omega)];simp
   ·rw[Wc,Xbj l hl n (k+1) (c+1) (by omega) (by omega) (by omega)];simp;omega
  ·obtain rfl:k=l.length:=by omega
   rw[Xs,Wa,WK (Ue _)];simp
theorem XiU {a:Wq} (hl:LBp a) (hN:1000000<N) (hne:neB a.Slots.length a.Scopes=true) {k:Nat} {p:U2} (hp:a.Scopes[k]? = some p):QcA N ⟨a⟩ (k:Int)=some ((Kl a.Slots p.From.toNat (toL a k).toNat:Nat):Int):=by
 have hl1:=hl.1
 rw[QcA,XgU hl hne hp,Xa]
 have hlen:((a.Slots.drop p.From.toNat).take ((toL a k).toNat-p.From.toNat)).length<=1000000:=by rw[Wz,WM];omega
 have h:=Xbj (N:=N) _ hlen N 0 0 (by omega) (by omega) (by omega)
 rw[show ((0:Nat):Int)=0 from rfl,WU,Uu] at h
 rw[h,Xa];rfl
theorem Xbk {a:Wq} (hl:LBp a) (hN:1000000<N):QdB N a=some (YZ a):=by
 have hl':=hl
 obtain ⟨hl1,hl2,hl3⟩:=hl
 rw[QdB,Qa5,Qbm]
 rw[Jj (p:=λ x=>!(!decide (x<0)&&!decide (x>4095))) hl3 hN (λ n k x e=>by
  have hk:=Xv e
  rw[Qaw,Xy hk,Wc,Xd,e,Xa,XgT,Xa,Xh (by omega)]) (λ n=>by rw[Qaw,Xs,Wa])]
 have h2:=KG (l:=a.Slots) (F:=λ n s i=>Qai N a n s i) (q:=stQ a.Issued) (nxp:=λ _ p=>p.Stamp) (I:=λ s=>0<=s) (λ n s k p hs e=>by
  have hk:=Xv e
  show Qai N a (n+1) s (k:Int)=_
  rw[Qai,Xy hk,Wc,Xd,e,Xa,Xh (by omega)]
  unfold stQ
  cases g1:decide (p.Stamp<=s)
  ·cases g2:decide (p.Stamp>((a.Issued.length:Nat):Int))
   ·have g1:=WD g1
    have g2:=WD g2
    rw[Wa,Wa,Xc (by omega) (by omega),X4 (by omega) (by omega),Xa]
    have ge:a.Issued[(p.Stamp-1).toNat]'(by omega)=a.Issued.getD (p.Stamp-1).toNat 0:=by
     rw[Wp,Wd (by omega)];rfl
    rw[ge]
    cases (a.Issued.getD (p.Stamp-1).toNat 0 != (k:Int))<;>cases (p.Live==(p.Ref != 0))<;>rfl
   ·rfl
  ·rfl) (λ n s=>by show Qai N a (n+1) s _=_;rw[Qai,Xs,Wa]) (λ s k p hs e hq=>by
   unfold stQ at hq
   simp only[WC,Uq,W5] at hq
   have:=hq.1
   omega) N 0 0 (by omega) (by omega) (by omega)
 have h3:=KG (l:=a.Scopes) (F:=λ n s i=>Qag N a n s i) (q:=neQ a.Slots.length) (nxp:=λ _ p=>p.From) (I:=λ _=>True) (λ n s k p hs e=>by
  have hk:=Xv e
  show Qag N a (n+1) s (k:Int)=_
  rw[Qag,Xy hk,Wc,Xd,e,Xa,Xh (by omega)]
  unfold neQ
  cases ((k:Int)==0)<;>cases (p.From != 0)<;>cases p.Base<;>cases decide (p.From<s)<;>cases decide (p.From>((a.Slots.length:Nat):Int))<;>cases decide (p.Cap<0)<;>cases decide (p.Cap>64)<;>rfl) (λ n s=>by show Qag N a (n+1) s _=_;rw[Qag,Xs,Wa]) (λ _ _ _ _ _ _=>trivial) N 0 0 trivial (by omega) (by omega)
 rw[WU] at h2 h3
 have e2:Qai N a N 0 0=some (bif stB a.Issued a.Slots then .nxt () else .ret false):=h2
 have e3:Qag N a N 0 0=some (bif neB a.Slots.length a.Scopes then .nxt () else .ret false):=h3
 have en:QcL N ⟨a⟩=some (!decide (((a.Scopes.length:Nat):Int)>64)&&((!(((a.Scopes.length:Nat):Int)==0)||!decide (((a.Slots.length:Nat):Int)>0))&&neB a.Slots.length a.Scopes)):=by
  rw[QcL,Yy,Xb5,e3,Xa]
  cases neB a.Slots.length a.Scopes<;>cases decide (((a.Scopes.length:Nat):Int)>64)<;>cases (((a.Scopes.length:Nat):Int)==0)<;>cases decide (((a.Slots.length:Nat):Int)>0)<;>simp only[Wc,Wa,Xz,Xq]<;>rfl
 have es:Qcw N ⟨a⟩=some (stB a.Issued a.Slots):=by
  rw[Qcw,Xbi,e2,Xa]
  cases stB a.Issued a.Slots<;>simp only[Wc,Wa,Xz,Xq]
 rw[Xa,Xa,KI,en,Xa,es,Xa,YZ,XkM]
 have ea:(a.Issued.any λ x=>!(!decide (x<0)&&!decide (x>4095))) = !(a.Issued.all λ p=>!decide (p<0)&&!decide (p>4095)):=by
  rw[← XcW,Bool.not_not]
 rw[ea]
 cases decide (((a.Issued.length:Nat):Int)>4096)
 rotate_left
 ·rfl
 cases (a.Issued.all λ p=>!decide (p<0)&&!decide (p>4095))
 ·cases decide (((a.Scopes.length:Nat):Int)>64)<;>cases (!(((a.Scopes.length:Nat):Int)==0)||!decide (((a.Slots.length:Nat):Int)>0))<;>rfl
 cases decide (((a.Scopes.length:Nat):Int)>64)
 rotate_left
 ·rfl
 cases (!(((a.Scopes.length:Nat):Int)==0)||!decide (((a.Slots.length:Nat):Int)>0))
 ·rfl
 cases hne:neB a.Slots.length a.Scopes
 ·cases stB a.Issued a.Slots<;>rfl
 cases stB a.Issued a.Slots
 ·rfl
 simp only[Wa,Wt,WR,WP,Bool.and_true]
 have h4:=Kj (l:=a.Scopes) (F:=QcY N a) (q:=XiG a ()) (λ n k p e=>by
  have hk:=Xv e
  rw[QcY,Xy hk,Wc,Xd,e,Xa,XiU hl' hN hne e,Xa,Xh (by omega)]
  unfold XiG
  cases decide (((Kl a.Slots p.From.toNat (toL a k).toNat:Nat):Int)>p.Cap)<;>rfl) (λ n=>by rw[QcY,Xs,Wa]) (n:=N) (by omega)
 rw[h4,Xa]
 show exK (bif XeT a then Ex.nxt () else Ex.ret false) _ _=_
 cases XeT a
 ·rw[Wa,Xz]
 ·rw[Wc,Xq]
theorem VW {a:Wq} (hl:a.Slots.length<=1000000):∀ (n k:Nat) (v:List Int),k<=a.Slots.length->a.Slots.length-k<n->v.length<=k ->
 Qdg N a n (k:Int) v=some (v++Yi (a.Slots.drop k))
 | 0,k,v,_,hn,_=>by omega
 | n+1,k,v,hk,hn,hlv=>by
  rw[Qdg]
  by_cases h:k<a.Slots.length
  ·rw[Xy h,Wc,Xd,Wd h,Xa,Xh (by omega),Ws h,Yi]
   cases hL:a.Slots[k].Live
   ·rw[Wa,VW hl n (k+1) v (by omega) (by omega) (by omega),Uy (by rw[hL];simp)]
    rfl
   ·rw[Wc,Xi (by omega),VW hl n (k+1) _ (by omega) (by omega) (by rw[Wr];simp;omega),UJ (by rw[hL])]
    simp[Yi]
  ·obtain rfl:k=a.Slots.length:=by omega
   rw[Xs,Wa,WK (Ue _)]
   simp[Yi]
theorem XgV {a:Wq} (hl:LBp a) (hN:1000000<N):Qga N a=some (bif YZ a then Yi a.Slots else []):=by
 rw[Qga,Xbk hl hN,Xa]
 cases hv:YZ a
 ·rfl
 ·have h:=VW (N:=N) (a:=a) hl.1 N 0 [] (by omega) (by have:=hl.1;omega) (by simp)
  rw[show ((0:Nat):Int)=0 from rfl,WU,Ur] at h
  rw[Wt,Wa,h,Xa];rfl
theorem XiV {a:Wq} (hl:LBp a) (hN:1000000<N) (i g:Int):QgD N a i g=some (Y9 a i g):=by
 rw[← Vr hl hN,QgD,Qdw,Xbk hl hN,Zq hl hN]
end
end Go.Sx
namespace Go.Sx
theorem Z0 (N:Nat) (c:WX):Qbd N c=some (X1 c):=by
 rw[show Qbd N c=Qat N c by rw[Qbd,Qat]]
 exact YL N c
theorem XiW (N:Nat) (c:WX):Qcu N c=some (smC c):=by
 rw[show Qcu N c=Qbt N c by rw[Qcu,Qbt,Z0,YL]]
 exact Xfu N c
theorem XiX (N:Nat) (c:WX) (w:Int):Qd5 N c w=some (XX c w):=by
 simp only[Qd5,Z0,XiW,Xa,XX,smC]
 cases hc:X1 c with
 | false=>simp
 | true =>
  have h:=Xk.1 hc
  simp only[Wt,Wa,if_true,Ut]
  rw[Xc (n:=4*c.PageWords) (by omega) (by omega)]
  by_cases h1:w<1
  ·rw[Wm h1,Wk (show ¬ (True/\1<=w) from λ h=>by omega)]
  rw[Wk h1,Wm (show True/\1<=w from ⟨trivial,by omega⟩)]
  by_cases h2:w>4*c.PageWords
  ·rw[Wm h2];simp only[Wk (show ¬ w<=c.PageWords / 4 by omega),Wk (show ¬ c.PageWords>=w by omega),Wk (show ¬ 2*c.PageWords>=w by omega),Wk (show ¬ 3*c.PageWords>=w by omega),Wk (show ¬ 4*c.PageWords>=w by omega)]
  rw[Wk h2]
  by_cases h3:w<=c.PageWords / 4
  ·rw[Wm h3,Wm h3]
  rw[Wk h3,Wk h3,Xi (by omega),Xc (n:=w+c.PageWords) (by omega) (by omega),Xc (n:=w+c.PageWords-1) (by omega) (by omega),U6 (by omega)]
  have key:∀ k:Int,k*c.PageWords<=w+c.PageWords-1->w+c.PageWords-1<(k+1)*c.PageWords->(w+c.PageWords-1) / c.PageWords=k:=by
   intro k a b
   have b1:=Int.ediv_lt_of_lt_mul (show 0<c.PageWords by omega) b
   have a1:=Int.le_ediv_of_mul_le (show 0<c.PageWords by omega) a
   omega
  split
  ·rw[key 1 (by omega) (by omega)];rfl
  split
  ·rw[key 2 (by omega) (by omega)];rfl
  split
  ·rw[key 3 (by omega) (by omega)];rfl
  split
  ·rw[key 4 (by omega) (by omega)];rfl
  ·omega
theorem XiY (N:Nat) (c:WX) (a:Int) (ha:a<=18446744073709551615):QfA N c a=QcM N c a:=by
 rw[Vm]
 simp only[QfA,Z0,Xa,Ut]
 cases hc:X1 c with
 | false=>simp
 | true =>
  have h:=Xk.1 hc
  have hm:=Yt hc (i:=0) (by omega) (by omega)
  simp only[Wt,Wa]
  rw[Wk (show ¬ (true=false) by simp),Int.mul_comm c.PageWords c.Pages]
  rw[Xc (n:=c.Pages*c.PageWords) (by omega) (by omega),XJ (n:=c.Pages*c.PageWords) (by omega) (by omega)]
  by_cases h1:a<4096
  ·rw[Wm h1,Wk (by omega)]
  rw[Wk h1,XJ (n:=a-4096) (by omega) (by omega)]
  by_cases h2:a>=4096+c.Pages*c.PageWords
  ·rw[Wm (by omega),Wk (by omega)]
  rw[Wk (by omega),Wm (by omega),Xi (by omega),Xi (by omega)]
  rw[Xc (n:=a-4096) (by omega) (by omega),U6 (by omega),In (by omega)]
  have hd:0<=(a-4096) / c.PageWords:=Int.ediv_nonneg (by omega) (by omega)
  have hd2:(a-4096) / c.PageWords<=a-4096:=Int.ediv_le_self _ (by omega)
  rw[Xc (by omega) (by omega)]
theorem Xd8 (N:Nat) (c:WX) (p o:Int):QdO N c p o=QbD N c p o:=by
 rw[Jy]
 simp only[QdO,Z0,Xa,Ut]
 cases hc:X1 c with
 | false=>simp
 | true =>
  have h:=Xk.1 hc
  simp only[Wt,Wa]
  rw[Wk (show ¬ (true=false) by simp)]
  by_cases h1:p<0
  ·rw[Wm h1,Wk (by omega)]
  rw[Wk h1]
  by_cases h2:p>=c.Pages
  ·rw[Wm h2,Wk (by omega)]
  rw[Wk h2]
  by_cases h3:o<0
  ·rw[Wm h3,Wk (by omega)]
  rw[Wk h3]
  by_cases h4:o>=c.PageWords
  ·rw[Wm h4,Wk (by omega)]
  rw[Wk h4,Wm (by omega)]
  have hm:=Yt hc (i:=p) (by omega) (by omega)
  rw[Xc (n:=p*c.PageWords) (by omega) (by omega),Xc (n:=p*c.PageWords+o) (by omega) (by omega),XJ (n:=p*c.PageWords+o) (by omega) (by omega),XJ (by omega) (by omega)]
  unfold Xj;rw[Int.add_assoc]
def Kc (sp:Int) (p:Wx):Bool:=p.Kind==3&&p.Space==sp
def Jk (ps:List Wx) (sp:Int) (i:Nat):Nat:=((ps.drop i).takeWhile (Kc sp)).length
theorem Xd9 (N:Nat) (ps:List Wx) (sp:Int) (hl:ps.length<=1000000):∀ (n c i:Nat),i<=ps.length->c<=i->ps.length-i<n->Qb9 N ps sp n (c:Int) (i:Int)=some (((c+Jk ps sp i:Nat):Int))
 | 0,c,i,_,_,h=>by omega
 | n+1,c,i,h,hc,hn=>by
  rw[Qb9]
  by_cases hlt:i<ps.length
  ·rw[Wi (by omega),Wc,Xd,Wd hlt,Xa,Xa]
   have hd:ps.drop i=ps[i]::ps.drop (i+1):=Ws hlt
   unfold Jk
   rw[hd,List.takeWhile_cons]
   cases h1:(ps[i].Kind==3) with
   | false=>simp[Kc,h1]
   | true =>
    rw[Wc]
    cases h2:(ps[i].Space==sp) with
    | false=>simp[Kc,h1,h2]
    | true =>
     rw[Wc,show Kc sp ps[i]=true by simp[Kc,h1,h2],Wm rfl]
     rw[Xh (by omega),Xh (by omega),Xd9 N ps sp hl n (c+1) (i+1) (by omega) (by omega) (by omega)]
     unfold Jk
     rw[W7];congr 1;omega
  ·have:ps.drop i=[]:=WK (by omega)
   rw[Wj (by omega),Wa];simp[Jk,this]
theorem XiZ {N:Nat} (ps:List Wx) (sp:Int) (hl:ps.length<=1000000) (hN:1000000<N) (i:Nat) (hi:i<ps.length):Qeb N ps (i:Int) sp=some ((Jk ps sp (i+1):Nat):Int):=by
 rw[Qeb,Xh (by omega),show (0:Int)=((0:Nat):Int) from rfl,Xd9 N ps sp hl N 0 (i+1) (by omega) (by omega) (by omega),Xa,Uu]
theorem Vz {α:Type} (q:α->Bool):∀ (l:List α) (k:Nat),k<=(l.takeWhile q).length↔k<=l.length/\(l.take k).all q=true
 | [],k=>by simp
 | a::l,0=>by simp
 | a::l,k+1=>by
  rw[List.takeWhile_cons]
  cases h:q a with
  | false=>simp[h]
  | true=>simp[h];exact Vz q l k |>.trans (by simp)
def Zf (sp:Int) (p:Wx):Bool:=Kc sp p&&(p.Used==0&&p.Pins==0)
theorem XfV (N:Nat) (a1:List Wx) (a2:Int) (p1:Wx) (x5 y6:Int) (l:List Wx) (hl:l.length<=1000000)
 (hd:((a1.drop (wI (a2+1)).toNat).take ((wI (a2+y6)).toNat-(wI (a2+1)).toNat))=l) (hm:min ((wI (a2+y6)).toNat-(wI (a2+1)).toNat) (a1.length-(wI (a2+1)).toNat)=l.length) :
 ∀ (n k:Nat),k<=l.length->l.length-k<n->Qeu N a1 a2 p1 x5 y6 n (k:Int)=some (if (l.drop k).all (Zf p1.Space)=true then .nxt () else .ret 0)
 | 0,k,_,h=>by omega
 | n+1,k,h,hn=>by
  rw[Qeu,hd,hm]
  by_cases hlt:k<l.length
  ·rw[Wi (by omega),Wc,Xd,Wd hlt,Xa,Qen,Xa,Ws hlt,List.all_cons]
   have e:((l[k].Kind==3)&&((l[k].Space==p1.Space)&&((l[k].Used==0)&&(l[k].Pins==0))))=Zf p1.Space l[k]:=by
    unfold Zf Kc;rw[Bool.and_assoc]
   rw[e]
   cases hq:Zf p1.Space l[k] with
   | false=>simp
   | true =>
    rw[Wt,Wa,Xh (by omega),XfV N a1 a2 p1 x5 y6 l hl hd hm n (k+1) (by omega) (by omega),WP]
  ·rw[Wj (by omega),Wa,WK (by omega)];rfl
def Jl (c:WX) (ps:List Wx) (i:Nat) (p:Wx):Nat :=
 if p.Kind=0 then (if p.Space=0/\p.Used=0/\p.Pins=0 then 1 else 0)
 else if (p.Space=0\/p.Space=1)/\0<=p.Pins/\p.Pins<=2147483647 then
  (if p.Kind=1 then (if 0<=p.Used/\p.Used<=c.PageWords then 1 else 0)
   else if p.Kind=2 then (if 1<=XX c p.Used/\(XX c p.Used).toNat<=ps.length-i/\((ps.drop (i+1)).take ((XX c p.Used).toNat-1)).all (Zf p.Space)=true then (XX c p.Used).toNat else 0)
   else 0)
 else 0
theorem Z1 (N:Nat) (p:Wx):Qbs N p=some (decide (p.Space=0\/p.Space=1)):=by
 rw[Qbs]
 by_cases h:p.Space=0
 ·simp[h]
 ·rw[show (p.Space==0)=false by simpa using h,Wa]
  by_cases h1:p.Space=1
  ·simp[h1]
  ·rw[show (p.Space==1)=false by simpa using h1,Wj (by omega)]
theorem JE (N:Nat) (p:Wx):Qcy N p=some (decide (0<=p.Pins/\p.Pins<=2147483647)):=by
 rw[Qcy];exact Xal N p.Pins
theorem Xi0 {N:Nat} {c:WX} {ps:List Wx} (hl:ps.length<=100000) (hN:1000000<N) {i:Nat} (hi:i<ps.length):QgB N c ps (i:Int)=some ((Jl c ps i ps[i]:Nat):Int):=by
 rw[QgB,Xd,Wd hi,Xa,Yy]
 generalize hp:ps[i]=p
 unfold Jl
 by_cases k0:p.Kind<0
 ·rw[Wi k0,Wc,Wk (by omega),Wk (show ¬ p.Kind=1 by omega),Wk (show ¬ p.Kind=2 by omega)];simp
 rw[Wj k0,Wa]
 by_cases k3:p.Kind>=3
 ·rw[Wi k3,Wc,Wk (by omega),Wk (show ¬ p.Kind=1 by omega),Wk (show ¬ p.Kind=2 by omega)];simp
 rw[Wj k3,Wa]
 by_cases e0:p.Kind=0
 ·rw[show (p.Kind==0)=true by simpa using e0,Wc,Wm e0,Qfa,Xa]
  by_cases hz:p.Space=0/\p.Used=0/\p.Pins=0
  ·obtain ⟨z1,z2,z3⟩:=hz
   simp[z1,z2,z3]
  ·rw[Wk hz,show (((0:Int)==0)&&((p.Space==0)&&((p.Used==0)&&(p.Pins==0))))=false by
    rw[Bool.eq_false_iff];intro hh;simp only[WC,beq_iff_eq] at hh;exact hz ⟨hh.2.1,hh.2.2.1,hh.2.2.2⟩]
   rfl
 rw[show (p.Kind==0)=false by simpa using e0,Wa,Wk e0]
 by_cases hsp:(p.Space=0\/p.Space=1)
 case neg =>
  rw[Wk (λ hh=>hsp hh.1)]
  by_cases e1:p.Kind=1
  ·rw[show (p.Kind==1)=true by simpa using e1,Wc,QcV,Z1,Xa,Wj hsp,Wa,Xa];rfl
  ·have e2:p.Kind=2:=by omega
   rw[show (p.Kind==1)=false by simpa using e1,Wa,show (p.Kind==2)=true by simpa using e2,Wc,QcW,Z1,Xa,Wj hsp,Wa,Xa];rfl
 by_cases hpn:0<=p.Pins/\p.Pins<=2147483647
 case neg =>
  rw[Wk (λ hh=>hpn hh.2)]
  by_cases e1:p.Kind=1
  ·rw[show (p.Kind==1)=true by simpa using e1,Wc,QcV,Z1,Xa,Wi hsp,Wc,JE,Xa,Wj hpn,Wa,Xa];rfl
  ·have e2:p.Kind=2:=by omega
   rw[show (p.Kind==1)=false by simpa using e1,Wa,show (p.Kind==2)=true by simpa using e2,Wc,QcW,Z1,Xa,Wi hsp,Wc,JE,Xa,Wj hpn,Wa,Xa];rfl
 rw[Wm ⟨hsp,hpn⟩]
 by_cases e1:p.Kind=1
 ·rw[show (p.Kind==1)=true by simpa using e1,Wc,QcV,Z1,Xa,Wi hsp,Wc,JE,Xa,Wi hpn,Wc,Wm e1]
  by_cases u0:0<=p.Used
  ·by_cases u1:p.Used<=c.PageWords
   ·simp[u0,u1,Xa]
   ·simp[u0,u1,Xa]
  ·simp[u0,Xa]
 have e2:p.Kind=2:=by omega
 rw[show (p.Kind==1)=false by simpa using e1,Wa,show (p.Kind==2)=true by simpa using e2,Wc,QcW,Z1,Xa,Wi hsp,Wc,JE,Xa,Wi hpn,Wc,Wk e1,Wm e2]
 simp only[XiX,Xa]
 by_cases hn1:XX c p.Used>=1
 case neg=>rw[Wj hn1,WR,Wc,Wk (λ hh=>hn1 hh.1)];rfl
 have hr:=Jx c p.Used
 rw[Wi hn1,Wt,Wa,show ((2:Int) != 2)=false from rfl,Wa,Xc (n:=((ps.length:Nat):Int)-i) (by omega) (by omega)]
 by_cases hfit:XX c p.Used>((ps.length:Nat):Int)-i
 ·rw[Wi hfit,Wc,Wk (λ hh=>by have:=hh.2.1;omega)];rfl
 rw[Wj hfit,Wa]
 have w1:wI ((i:Int)+1)=((i+1:Nat):Int):=Xh (by omega)
 have w2:wI ((i:Int)+XX c p.Used)=(i:Int)+XX c p.Used:=Xc (by omega) (by omega)
 rw[Xi (by rw[w1,w2];omega)]
 have t1:(wI ((i:Int)+1)).toNat=i+1:=by rw[w1];omega
 have t2:(wI ((i:Int)+XX c p.Used)).toNat-(wI ((i:Int)+1)).toNat=(XX c p.Used).toNat-1:=by rw[t1,w2];omega
 rw[show (0:Int)=((0:Nat):Int) from rfl,XfV N ps (i:Int) p 2 (XX c p.Used) ((ps.drop (i+1)).take ((XX c p.Used).toNat-1)) (by rw[Wz];omega) (by rw[t2,t1]) (by rw[t2,t1,Wz,WM]) N 0 (by omega) (by rw[Wz];omega),Xa,WU]
 by_cases hall:((ps.drop (i+1)).take ((XX c p.Used).toNat-1)).all (Zf p.Space)=true
 ·rw[Wm hall,Xq,Wm ⟨hn1,by omega,hall⟩];congr 1;omega
 ·rw[Wk hall,Xz,Wk (λ hh=>hall hh.2.2)];rfl
end Go.Sx
namespace Go.Sx
theorem Ya {p:Prop} [Decidable p] (h:¬ p):decide p=false:=Wj h
theorem Xb6 {N:Nat} {h:Wo} (hl:h.Pages.length<=100000) {sp:Int} (hsp:sp=0\/sp=1):∀ (k n i:Nat),i+k<=h.Pages.length->((h.Pages.drop i).take k).all (Kc sp)=true ->
 Qao N h (n+k) (k:Int) (i:Int)=if ((h.Pages.drop i).take k).all (Zf sp)=true then Qao N h n 0 ((i+k:Nat):Int) else some (.ret false)
 | 0,n,i,hik,ha=>by simp
 | k+1,n,i,hik,ha=>by
  have hlt:i<h.Pages.length:=by omega
  have hd:(h.Pages.drop i).take (k+1)=h.Pages[i]::(h.Pages.drop (i+1)).take k:=by rw[Ws hlt,Iw]
  rw[hd,List.all_cons,WC] at ha
  rw[hd,List.all_cons,show n+(k+1)=(n+k)+1 from rfl,Qao,Wi (by omega),Wc,Xd,Wd hlt,Xa]
  have ih:=Xb6 (N:=N) hl hsp k n (i+1) (by omega) ha.2
  generalize h.Pages[i]=p at *
  have hk:p.Kind=3/\p.Space=sp:=by have:=ha.1;simp only[Kc,WC,beq_iff_eq] at this;exact this
  obtain ⟨hk3,hks⟩:=hk
  have q3:(p.Kind==3)=true:=by simpa using hk3
  rw[q3,Wi (show (((k+1:Nat):Int)>0) by omega),show (!(true==true))=false from rfl,Wa,Ya (show ¬ p.Space<0 by omega),Wa,Ya (show ¬ p.Space>1 by omega),Wa,Xal,Xa]
  by_cases hp:p.Pins=0
  case neg =>
   have hc:Zf sp p=false:=by simp[Zf,hp]
   rw[hc,Ui,Wk (by simp)]
   by_cases hp2:0<=p.Pins/\p.Pins<=2147483647
   ·rw[Wi hp2,Wt,Wa]
    simp only[Yy,show (p.Kind==0)=false by rw[hk3];rfl,show (p.Kind==1)=false by rw[hk3];rfl,show (p.Kind==2)=false by rw[hk3];rfl,q3,Wa,Wc,show (p.Pins != 0)=true by simpa using hp,Bool.cond_self]
   ·rw[Wj hp2,WR,Wc]
  rw[Wi (show 0<=p.Pins/\p.Pins<=2147483647 by omega),Wt,Wa]
  simp only[Yy,show (p.Kind==0)=false by rw[hk3];rfl,show (p.Kind==1)=false by rw[hk3];rfl,show (p.Kind==2)=false by rw[hk3];rfl,q3,Wa,Wc,show (p.Pins != 0)=false by simpa using hp]
  by_cases hu:p.Used=0
  ·have hc:Zf sp p=true:=by unfold Zf;rw[ha.1];simp[hu,hp]
   rw[show (p.Used != 0)=false by simpa using hu,Wa,hc,WP,Xc (n:=((k+1:Nat):Int)-1) (by omega) (by omega),Xh (by omega)]
   have e:(if (0:Int)<((k+1:Nat):Int)-1 then ((k+1:Nat):Int)-1 else 0)=(k:Int):=by split<;>omega
   rw[e,ih,show i+1+k=i+(k+1) by omega]
  ·have hc:Zf sp p=false:=by simp[Zf,hu]
   rw[show (p.Used != 0)=true by simpa using hu,Wc,hc,Ui,Wk (by simp)]
theorem Xi1 {α:Type} {p q:α->Bool} (h:∀ x,q x=true->p x=true):∀ {l:List α},l.all q=true->l.all p=true:=by
 intro l hl;rw[Uf] at *;exact λ x hx=>h x (hl x hx)
theorem XgW {N:Nat} {h:Wo} (hc:X1 h.Conf=true) (hl:h.Pages.length<=100000) (hN:1000000<N) {i:Nat} (hi:i<h.Pages.length) (n:Nat) (hn:10<=n) :
 Qao N h n 0 (i:Int)=if Jl h.Conf h.Pages i h.Pages[i]=0 then some (.ret false) else Qao N h (n-Jl h.Conf h.Pages i h.Pages[i]) 0 ((i+Jl h.Conf h.Pages i h.Pages[i]:Nat):Int):=by
 obtain ⟨n,rfl⟩:∃ m,n=m+1:=⟨n-1,by omega⟩
 rw[Qao,Wi (show (i:Int)<((h.Pages.length:Nat):Int) by omega),Wc,Xd,Wd hi,Xa]
 generalize h.Pages[i]=p
 have go:(if (0:Int)<wI (0-1) then wI (0-1) else 0)=0:=by rw[Xc (by omega) (by omega)];rfl
 have ge:wI ((i:Int)+1)=((i+1:Nat):Int):=Xh (by omega)
 generalize hs:Jl h.Conf h.Pages i p=s
 unfold Jl at hs
 have no:s=0->(if s=0 then some (.ret false) else Qao N h (n+1-s) 0 ((i+s:Nat):Int))=some (.ret false):=λ e=>Wm e
 rw[Wj (show ¬ (0:Int)>0 by omega)]
 by_cases k3:p.Kind=3
 ·rw[show (p.Kind==3)=true by simpa using k3,show (!(true==false))=true from rfl,Wc]
  rw[Wk (show ¬ p.Kind=0 by omega),Wk (show ¬ p.Kind=1 by omega),Wk (show ¬ p.Kind=2 by omega),ite_self] at hs
  exact (no hs.symm).symm
 have q3:(p.Kind==3)=false:=by simpa using k3
 rw[q3,show (!(false==false))=false from rfl,Wa]
 by_cases hsp:p.Space=0\/p.Space=1
 case neg =>
  have z:s=0:=by
   rw[← hs,Wk (c:=(p.Space=0\/p.Space=1)/\_) (λ hh=>hsp hh.1)]
   split
   ·rw[Wk (λ hh=>hsp (.inl hh.1))]
   ·rfl
  rw[no z]
  by_cases h0:p.Space<0
  ·rw[Wi h0,Wc]
  ·rw[Ya h0,Wa,Wi (show p.Space>1 by omega),Wc]
 rw[Ya (show ¬ p.Space<0 by omega),Wa,Ya (show ¬ p.Space>1 by omega),Wa,Xal,Xa]
 by_cases hpn:0<=p.Pins/\p.Pins<=2147483647
 case neg =>
  have z:s=0:=by
   rw[← hs,Wk (c:=(p.Space=0\/p.Space=1)/\_) (λ hh=>hpn hh.2)]
   split
   ·rw[Wk (λ hh=>hpn (by omega))]
   ·rfl
  rw[no z,Ya hpn,WR,Wc]
 rw[Wm (c:=(p.Space=0\/p.Space=1)/\_) ⟨hsp,hpn⟩] at hs
 rw[Wi hpn,Wt,Wa]
 by_cases e0:p.Kind=0
 ·have q1:(p.Kind==1)=false:=by rw[e0];rfl
  have q2:(p.Kind==2)=false:=by rw[e0];rfl
  rw[Wm e0] at hs
  simp only[Yy,show (p.Kind==0)=true by simpa using e0,q1,q2,q3,Wc,Wa,WP]
  by_cases hz:p.Space=0/\p.Used=0/\p.Pins=0
  ·rw[Wm hz] at hs
   subst hs
   obtain ⟨z1,z2,z3⟩:=hz
   rw[Wk (show ¬ (1:Nat)=0 by omega)]
   simp only[z1,z2,z3,show ((0:Int)==0)=true from rfl,Ia,Wt,Wa,go,ge,Nat.add_sub_cancel]
  ·rw[Wk hz] at hs
   rw[no hs.symm,show ((p.Space==0)&&((p.Used==0)&&(p.Pins==0)))=false by
    rw[Bool.eq_false_iff];intro hh;simp only[WC,beq_iff_eq] at hh;exact hz ⟨hh.1,hh.2.1,hh.2.2⟩]
   rfl
 have q0:(p.Kind==0)=false:=by simpa using e0
 rw[Wk e0] at hs
 by_cases e1:p.Kind=1
 ·have q2:(p.Kind==2)=false:=by rw[e1];rfl
  rw[Wm e1] at hs
  simp only[Yy,show (p.Kind==1)=true by simpa using e1,q0,q2,q3,Wc,Wa]
  by_cases u0:p.Used<0
  ·rw[Wk (by omega)] at hs
   rw[Wi u0,Wc,no hs.symm]
  rw[Ya u0,Wa]
  by_cases u1:p.Used>h.Conf.PageWords
  ·rw[Wk (by omega)] at hs
   rw[Wi u1,Wc,no hs.symm]
  rw[Wm (by omega)] at hs
  subst hs
  rw[Ya u1,Wa,Wk (show ¬ (1:Nat)=0 by omega),go,ge,Nat.add_sub_cancel]
 have q1:(p.Kind==1)=false:=by simpa using e1
 rw[Wk e1] at hs
 by_cases e2:p.Kind=2
 case neg =>
  have q2:(p.Kind==2)=false:=by simpa using e2
  rw[Wk e2] at hs
  simp only[Yy,q0,q1,q2,q3,Wa]
  rw[no hs.symm]
 rw[Wm e2] at hs
 simp only[Yy,show (p.Kind==2)=true by simpa using e2,q0,q1,q3,Wc,Wa,Jw (show 10<=N by omega),Xa]
 by_cases hn1:XX h.Conf p.Used<1
 ·rw[Wk (λ hh=>by omega)] at hs
  rw[Wi hn1,Wc,no hs.symm]
 have hr:=Jx h.Conf p.Used
 rw[Ya hn1,Wa,XiZ h.Pages p.Space (by omega) hN i hi,Xa,Xc (n:=XX h.Conf p.Used-1) (by omega) (by omega)]
 obtain ⟨k,hk⟩:∃ k:Nat,XX h.Conf p.Used=((k+1:Nat):Int):=⟨(XX h.Conf p.Used).toNat-1,by omega⟩
 have hk1:(XX h.Conf p.Used).toNat=k+1:=by omega
 have tw:=Vz (Kc p.Space) (h.Pages.drop (i+1)) k
 rw[hk1,Nat.add_sub_cancel,hk] at hs
 rw[hk]
 by_cases ht:((Jk h.Pages p.Space (i+1):Nat):Int)<((k+1:Nat):Int)-1
 ·have hnot:¬ k<=((h.Pages.drop (i+1)).takeWhile (Kc p.Space)).length:=by unfold Jk at ht;omega
  rw[Wk (λ hh=>hnot (tw.2 ⟨by rw[WM];omega,Xi1 (λ x hx=>by unfold Zf at hx;rw[WC] at hx;exact hx.1) hh.2.2⟩))] at hs
  rw[Wi ht,Wc,no hs.symm]
 rw[Ya ht,Wa]
 have hyes:=tw.1 (by unfold Jk at ht;omega)
 rw[WM] at hyes
 have e:(if (0:Int)<((k+1:Nat):Int)-1 then ((k+1:Nat):Int)-1 else 0)=(k:Int):=by split<;>omega
 rw[e,ge]
 obtain ⟨m,rfl⟩:∃ m,n=m+k:=⟨n-k,by have:=Jx h.Conf p.Used;omega⟩
 rw[Xb6 hl hsp k m (i+1) (by omega) hyes.2]
 by_cases hcl:((h.Pages.drop (i+1)).take k).all (Zf p.Space)=true
 ·rw[Wm (show 1<=((k+1:Nat):Int)/\k+1<=h.Pages.length-i/\_ from ⟨by omega,by omega,hcl⟩)] at hs
  subst hs
  rw[Wm hcl,Wk (show ¬ k+1=0 by omega),show m+k+1-(k+1)=m by omega,show i+1+k=i+(k+1) by omega]
 ·rw[Wk (λ hh=>hcl hh.2.2)] at hs
  rw[Wk hcl,no hs.symm]
theorem Xi2 {c:WX} {ps:List Wx} {i:Nat} (hi:i<ps.length) {p:Wx}:Jl c ps i p<=ps.length-i/\Jl c ps i p<=4:=by
 have hr:=Jx c p.Used
 unfold Jl
 split
 ·split<;>omega
 split
 ·split
  ·split<;>omega
  split
  ·split
   ·rename_i hh;have:=hh.2.1;omega
   ·omega
  ·omega
 ·omega
theorem Xbl {N:Nat} {h:Wo} (hc:X1 h.Conf=true) (hl:h.Pages.length<=100000) (hN:1000000<N):∀ (m i n n':Nat),i<=h.Pages.length->h.Pages.length-i<=m->h.Pages.length-i<n->h.Pages.length-i+10<=n'->QcX N h n (i:Int)=Qao N h n' 0 (i:Int)
 | m,i,0,n',_,_,h1,_=>by omega
 | m,i,n+1,n',hi,hm,h1,h2=>by
  by_cases hlt:i<h.Pages.length
  ·rw[QcX,Wi (by omega),Wc,Xi0 hl hN hlt,Xa,XgW hc hl hN hlt n' (by omega)]
   have hs:=Xi2 (c:=h.Conf) hlt (p:=h.Pages[i])
   generalize Jl h.Conf h.Pages i h.Pages[i]=s at *
   by_cases h0:s=0
   ·subst h0;rw[Wm rfl];rfl
   ·rw[Wk h0,show (((s:Nat):Int)==0)=false by simpa using h0,Wa,Xc (by omega) (by omega),show (i:Int)+(s:Int)=((i+s:Nat):Int) by omega]
    obtain ⟨m',rfl⟩:∃ m',m=m'+1:=⟨m-1,by omega⟩
    exact Xbl hc hl hN m' (i+s) n (n'-s) (by omega) (by omega) (by omega) (by omega)
  ·rw[QcX,Wj (by omega),Wa]
   obtain ⟨k,rfl⟩:∃ k,n'=k+1:=⟨n'-1,by omega⟩
   rw[Qao,Wj (by omega),Wa]
theorem Ke {N:Nat} {h:Wo} (hl:h.Pages.length<=100000) (hN:1000000<N):Qb0 N h=Qad N h:=by
 rw[Qb0,Qad,Z0,YL]
 simp only[Xa,Yy]
 cases hc:X1 h.Conf with
 | false=>rfl
 | true =>
 simp only[Wt,Wa,Int.mul_comm h.Conf.PageWords h.Conf.Pages]
 have e:=Xbl hc hl hN h.Pages.length 0 N N (by omega) (by omega) (by omega) (by omega)
 rw[show ((0:Nat):Int)=0 from rfl] at e
 rw[e]
 congr 2
 by_cases s0:h.Space=0
 ·simp[s0]
 ·rw[show (h.Space != 0)=true by simpa using s0,Wc]
  by_cases s1:h.Space=1
  ·simp[s1]
  ·rw[show (h.Space != 1)=true by simpa using s1,Wc]
   by_cases s2:h.Space<0
   ·simp[s2]
   ·rw[Ya s2,Wa,Wi (show h.Space>1 by omega),Wc]
end Go.Sx
namespace Go.Sx
section
variable {N:Nat}
theorem XkW {m:Int} (h0:0<=m) (h1:2*m+1<=18446744073709551615):bOr .u64 (m*2) 1=m*2+1:=by
 obtain ⟨n,rfl⟩:=U5 h0
 have hb:IntKind.u64.bits=64:=rfl
 show IntKind.u64.wrap ((BitVec.ofInt IntKind.u64.bits ((n:Int)*2) ||| BitVec.ofInt IntKind.u64.bits 1).toNat:Int)=_
 rw[hb]
 have e1:BitVec.ofInt 64 ((n:Int)*2)=BitVec.ofNat 64 (n*2):=by
  rw[show (n:Int)*2=((n*2:Nat):Int) by omega];exact BitVec.ofInt_natCast 64 (n*2)
 have e2:BitVec.ofInt 64 (1:Int)=BitVec.ofNat 64 1:=by decide
 have hn:n*2 % 2 ^ 64=n*2:=Nat.mod_eq_of_lt (by omega)
 have h3:=Nat.shiftLeft_add_eq_or_of_lt (i:=1) (b:=1) (by decide) n
 rw[Nat.shiftLeft_eq,Nat.pow_one] at h3
 rw[e1,e2,BitVec.toNat_or,BitVec.toNat_ofNat,BitVec.toNat_ofNat,hn,show 1 % 2 ^ 64=1 from rfl,← h3]
 show wU _=_
 rw[XJ (by omega) (by omega)]
 omega
theorem XfW {a:Int} (h0:0<=a) (h1:a<=64):∀ (n k:Nat),(k:Int)<=a->(a-k).toNat<n->Qev N a n ((2:Int) ^ k-1) (k:Int)=some ((2:Int) ^ a.toNat-1)
 | 0,k,_,hn=>by omega
 | n+1,k,hk,hn=>by
  rw[Qev]
  have e:(if 64<(if a<0 then 0 else a) then 64 else (if a<0 then 0 else a))=a:=by
   rw[Wk (show ¬ a<0 by omega),Wk (by omega)]
  rw[e]
  by_cases h:(k:Int)<a
  ·have hp:(1:Int)<=2 ^ k:=Int.pow_pos (n:=(2:Int)) (m:=k) (by decide)
   have hq:(2:Int) ^ k<=2 ^ 63:=by
    have:2 ^ k<=2 ^ 63:=Nat.pow_le_pow_right (by omega) (by omega)
    exact_mod_cast this
   have s1:Kq .u64 ((2:Int) ^ k-1) 1=wU (((2:Int) ^ k-1)*2):=rfl
   rw[Wi h,Wc,s1,XJ (by omega) (by omega),XkW (by omega) (by omega),Xh (by omega)]
   have e2:((2:Int) ^ k-1)*2+1=2 ^ (k+1)-1:=by rw[Int.pow_succ];omega
   rw[e2]
   exact XfW h0 h1 n (k+1) (by omega) (by omega)
  ·rw[Wj h,Wa,show k=a.toNat by omega]
theorem ZN {a:Int} (h0:0<=a) (h1:a<=64) (hN:1000<N):Qbe N a=some ((2:Int) ^ a.toNat-1):=by
 have:=XfW (N:=N) h0 h1 N 0 (by omega) (by omega)
 rw[Qbe]
 rw[show ((2:Int) ^ 0-1)=0 from rfl,show ((0:Nat):Int)=0 from rfl] at this
 rw[this,Xa]
theorem J0 (hN:1000<N) (d:Ww):Qcv N d=some (XL d):=by
 rw[Qcv,XL]
 by_cases h1:d.Kind<0
 ·rw[Wi h1,Wc,Wj (by omega),Ui]
 rw[Wj h1,Wa]
 by_cases h2:d.Kind>3
 ·rw[Wi h2,Wc,Wj (by omega),Ui]
 rw[Wj h2,Wa]
 by_cases h3:d.Length<0
 ·rw[Wi h3,Wc,Wj (by omega),Ui]
 rw[Wj h3,Wa]
 by_cases h4:d.Length>255
 ·rw[Wi h4,Wc,Wj (p:=0<=d.Kind/\d.Kind<=3/\0<=d.Length/\d.Length<=255) (by omega),Ui]
 rw[Wj h4,Wa,Wi (p:=0<=d.Kind/\d.Kind<=3/\0<=d.Length/\d.Length<=255) (by omega),WP]
 by_cases h5:d.Kind=1
 ·rw[Wm h5,X9 h5,Wc,Yy]
  by_cases h6:d.Length<=32
  ·rw[Wi h6,Wc,ZN (by omega) (by omega) hN,Xa,WP,XbO]
   exact congrArg some (decide_eq_decide.2 (by omega))
  ·rw[Wj h6,Wa,Ui]
 ·rw[Wk h5,XM h5,Wa]
  simp only[BEq.rfl,WP]
  rfl
theorem KJ (hN:1000<N) (d:Ww):QbL N d=some (YY d):=by
 rw[QbL,J0 hN,Xa,YY]
 cases h:XL d with
 | false=>rfl
 | true =>
  have:=XS h
  rw[Wt,Wa,Xc (n:=d.Length+1) (by omega) (by omega)]
  rfl
theorem Xea (hN:1000<N) (d:Ww) (i:Int):QdH N d i=some (Kh d i):=by
 rw[QdH,J0 hN,Xa,Kh]
 cases h:XL d with
 | false=>rfl
 | true =>
  have hb:=XS h
  rw[Wt,Wa,WP]
  by_cases h1:i<0
  ·rw[Wi h1,Wc,Wj (by omega),Ui]
  rw[Wj h1,Wa]
  by_cases h2:i>=d.Length
  ·rw[Wi h2,Wc,Wj (by omega),Ui]
  rw[Wj h2,Wa,Wi (p:=0<=i/\i<d.Length) (by omega),WP,XJ (n:=i) (by omega) (by omega)]
  by_cases h3:d.Kind=2
  ·rw[X9 h3,Wc,Wi h3,Bool.true_or]
  rw[XM h3,Wa,Wj h3,Il]
  by_cases h4:d.Kind=1
  ·rw[X9 h4,Wc,Wi h4,WP,Xi (by omega)]
  ·rw[XM h4,Wa,Wj h4,Ui]
theorem VA (hN:1000<N) (d:Ww) (hv:XL d=true):∀ (n:Nat) (i:Int) (v:List Int),0<=i->i<=d.Length+1->(d.Length+1-i).toNat<n->v.length+(d.Length+1-i).toNat<=1000->Qbz N d (d.Length+1) n i v=some (v++X8 d (d.Length-i).toNat i)
 | 0,i,v,_,_,hn,_=>by omega
 | n+1,i,v,h0,h1,hn,hl=>by
  have hb:=XS hv
  rw[Qbz]
  by_cases h:i<d.Length+1
  ·rw[Wi h,Wc,Xea hN,Xa,Xc (n:=i+1) (by omega) (by omega)]
   by_cases h2:i<d.Length
   ·obtain ⟨k,hk⟩:∃ k,(d.Length-i).toNat=k+1:=⟨(d.Length-i).toNat-1,by omega⟩
    have hk2:(d.Length-(i+1)).toNat=k:=by omega
    rw[hk,X8]
    cases hp:Kh d i
    ·rw[Wa,VA hN d hv n (i+1) v (by omega) (by omega) (by omega) (by omega),hk2];simp
    ·rw[Wc,Xi (by omega),VA hN d hv n (i+1) _ (by omega) (by omega) (by omega) (by rw[Wr];simp only[W7,UC];omega),hk2];simp
   ·have hp:Kh d i=false:=by
     unfold Kh
     rw[Wj (p:=0<=i/\i<d.Length) (by omega)];simp
    rw[hp,Wa,VA hN d hv n (i+1) v (by omega) (by omega) (by omega) (by omega),show (d.Length-i).toNat=0 by omega,show (d.Length-(i+1)).toNat=0 by omega]
    rfl
  ·rw[Wj h,Wa,show (d.Length-i).toNat=0 by omega]
   simp[X8]
theorem XgX (hN:1000<N) (d:Ww) (hv:XL d=true):Qd8 N d=some (Zo d):=by
 have hb:=XS hv
 have hs:YY d=d.Length+1:=by unfold YY;rw[hv];rfl
 rw[Qd8,KJ hN,Xa,hs,VA hN d hv N 0 [] (by omega) (by omega) (by omega) (by simp only[UC];omega),Xa,Zo,hv]
 simp
theorem XcX {l:List Int} (hl:l.length<=1000000) (hN:1000000<N):Qa1 N l 0=some (!l.all λ p=>!(p==0)):=by
 rw[Qa1,Qb7]
 rw[Jj (p:=λ x:Int=>(0==x)) hl hN (λ n j x e=>by
  have hk:=Xv e
  rw[QaN,Xy hk,Wc,Xd,e,Xa,Xh (by omega)]) (λ n=>by rw[QaN,Xs,Wa])]
 rw[Xa,KI,← XcW,Bool.not_not]
 congr 2
 funext x
 rw[Bool.not_not]
 by_cases h:x=0
 ·subst h;rfl
 ·rw[XM h,XM (λ e=>h e.symm)]
def VX:List (List Int)->Nat
 | []=>0
 | l::ls=>l.length+VX ls
theorem Xb7 (ls:List (List Int)) (hl:ls.length<=1000):∀ (n k s:Nat),k<=ls.length->ls.length-k<n->s+VX (ls.drop k)<=10000000->QaH N ls n (s:Int) (k:Int)=some (((s+VX (ls.drop k):Nat):Int))
 | 0,k,s,_,hn,_=>by omega
 | n+1,k,s,hk,hn,hs=>by
  rw[QaH]
  by_cases h:k<ls.length
  ·rw[Ws h,VX] at hs ⊢
   rw[Xy h,Wc,Xd,Wd h,Xa,Xc (n:=(s:Int)+((ls[k].length:Nat):Int)) (by omega) (by omega),Wj (by omega),Wa,Xh (by omega)]
   have:=Xb7 ls hl n (k+1) (s+ls[k].length) (by omega) (by omega) (by omega)
   rw[show (s:Int)+((ls[k].length:Nat):Int)=((s+ls[k].length:Nat):Int) by omega,this,IF]
  ·obtain rfl:k=ls.length:=by omega
   rw[Xs,Wa,WK (Ue _)];simp[VX]
theorem Xb8 (ls:List (List Int)) (hl:ls.length<=1000):∀ (n k:Nat) (v:List Int),k<=ls.length->ls.length-k<n->v.length+VX (ls.drop k)<=10000000->QaI N ls n (k:Int) v=some (v++(ls.drop k).flatten)
 | 0,k,v,_,hn,_=>by omega
 | n+1,k,v,hk,hn,hs=>by
  rw[QaI]
  by_cases h:k<ls.length
  ·rw[Ws h,VX] at hs
   rw[Ws h,Xy h,Wc,Xd,Wd h,Xa,Xi (by omega),Xh (by omega),Xb8 ls hl n (k+1) _ (by omega) (by omega) (by rw[Wr];omega),List.flatten_cons,Ux]
  ·obtain rfl:k=ls.length:=by omega
   rw[Xs,Wa,WK (Ue _)];simp
theorem Xb9 (ls:List (List Int)) (hl:ls.length<=1000) (hs:VX ls<=10000000) (hN:1000000<N):Qbf N ls=some ls.flatten:=by
 have h1:=Xb7 (N:=N) ls hl N 0 0 (by omega) (by omega) (by rw[WU];omega)
 have h2:=Xb8 (N:=N) ls hl N 0 [] (by omega) (by omega) (by rw[WU];simp;omega)
 rw[WU] at h1 h2
 rw[show ((0:Nat):Int)=0 from rfl,Uu] at h1
 rw[show ((0:Nat):Int)=0 from rfl,Ur] at h2
 have hg:Qa2 N ((VX ls:Nat):Int)=some []:=by
  rw[Qa2,Wj (by omega),Wa,Xc (n:=(0:Int)) (by omega) (by omega),Int.sub_zero]
  have e:=Xc (n:=((VX ls:Nat):Int)) (by omega) (by omega)
  by_cases h:(wI ((VX ls:Nat):Int))>0
  ·rw[Wi h,Wc,Xi ⟨rfl,rfl⟩,Xi (by rw[e];omega),Xi (by rw[e];omega),Xi (by rw[e];omega),List.take_zero]
  ·rw[Wj h,Wa]
 rw[Qbf,h1,Xa,hg,Xa,h2,Xa]
theorem Xnc:Xb [(2:Int),16,32] 0=some 2:=by unfold Xb;rfl
theorem Xnd:Xb [(2:Int),16,32] 1=some 16:=by unfold Xb;rfl
theorem Xne:Xb [(2:Int),16,32] 2=some 32:=by unfold Xb;rfl
theorem XgY (hN:1000000<N) {v:Int} (h0:0<=v) (h1:v<=18446744073709551615):QdA N v [2,16,32]=some (if v / 1125899906842624=0 then ([v % 4,v / 4 % 65536,v / 262144 % 4294967296],0) else ([],2)):=by
 obtain ⟨m,rfl⟩:∃ m,N=m+4:=⟨N-4,by omega⟩
 have l3:([(2:Int),16,32].length:Nat)=3:=rfl
 have i1:wI (0+1)=1:=Xc (by omega) (by omega)
 have i2:wI (1+1)=2:=Xc (by omega) (by omega)
 have i3:wI (2+1)=3:=Xc (by omega) (by omega)
 have j1:wI (64-2)=62:=Xc (by omega) (by omega)
 have j2:wI (62-16)=46:=Xc (by omega) (by omega)
 have j3:wI (46-32)=14:=Xc (by omega) (by omega)
 have e1:QaA (m+4) v [2,16,32] (m+4) 64 0=some (.nxt ()):=by
  rw[QaA,l3,Xnc]
  simp only[Xa,i1,j1]
  rw[QaA,l3,Xnd]
  simp only[Xa,i2,j2]
  rw[QaA,l3,Xne]
  simp only[Xa,i3,j3]
  rw[QaA,l3]
  rfl
 have o1:Qbe (m+4) 2=some 3:=ZN (by omega) (by omega) (by omega)
 have o2:Qbe (m+4) 16=some 65535:=ZN (by omega) (by omega) (by omega)
 have o3:Qbe (m+4) 32=some 4294967295:=ZN (by omega) (by omega) (by omega)
 have s1:X2 .u64 v 2=v / 4:=Yz v 2 (by omega) h0
 have s2:X2 .u64 (v / 4) 16=v / 4 / 65536:=Yz (v / 4) 16 (by omega) (by omega)
 have s3:X2 .u64 (v / 4 / 65536) 32=v / 4 / 65536 / 4294967296:=Yz (v / 4 / 65536) 32 (by omega) (by omega)
 have a1:Yp .u64 v 3=v % 4:=Yn v 2 (by omega) h0 h1
 have a2:Yp .u64 (v / 4) 65535=v / 4 % 65536:=Yn (v / 4) 16 (by omega) (by omega) (by omega)
 have a3:Yp .u64 (v / 4 / 65536) 4294967295=v / 4 / 65536 % 4294967296:=Yn (v / 4 / 65536) 32 (by omega) (by omega) (by omega)
 have g:∀ (p:Prop) [Decidable p] (x:Option (Int×List Int)),p->grd p x=x:=λ p _ x h=>Xi h x
 have e2:QaB (m+4) [2,16,32] (m+4) v 0 []=some (v / 4 / 65536 / 4294967296,[v % 4,v / 4 % 65536,v / 4 / 65536 % 4294967296]):=by
  rw[QaB,l3,Xnc]
  rw[Wi (by omega),Wc,Xa,o1,Xa,Xi (by simp),Xi (by omega),s1,a1,i1]
  rw[QaB,l3,Xnd]
  rw[Wi (by omega),Wc,Xa,o2,Xa,Xi (by simp),Xi (by omega),s2,a2,i2]
  rw[QaB,l3,Xne]
  rw[Wi (by omega),Wc,Xa,o3,Xa,Xi (by simp),Xi (by omega),s3,a3,i3]
  rw[QaB,l3]
  rw[Wj (by omega),Wa]
  rfl
 rw[QdA,e1,Xa,Xq,e2,Xa]
 have q1:v / 4 / 65536=v / 262144:=by omega
 have q2:v / 262144 / 4294967296=v / 1125899906842624:=by omega
 rw[q1,q2]
 by_cases h:v / 1125899906842624=0
 ·rw[Wm h,h];rfl
 ·rw[Wk h,Y1 h,Wc]
theorem XkX (hN:1000000<N) {v:Int} (hv:tU v):Qe1 N v=some (Zr v):=by
 obtain ⟨h0,h1⟩:=hv
 rw[Qe1,Zr]
 by_cases hz:v=0
 ·subst hz;rfl
 rw[XM hz,Wa,Wk hz,XgY hN h0 h1,Xa]
 by_cases h:v / 1125899906842624=0
 ·have g0:Xb [v % 4,v / 4 % 65536,v / 262144 % 4294967296] 0=some (v % 4):=by unfold Xb;rfl
  have g1:Xb [v % 4,v / 4 % 65536,v / 262144 % 4294967296] 1=some (v / 4 % 65536):=by unfold Xb;rfl
  have g2:Xb [v % 4,v / 4 % 65536,v / 262144 % 4294967296] 2=some (v / 262144 % 4294967296):=by unfold Xb;rfl
  rw[Wm h]
  simp only
  rw[show ((0:Int) != 0)=false from rfl,Wa,g0,Xa,g1,Xa,g2,Xa,Xc (n:=v % 4) (by omega) (by omega),Xc (n:=v / 4 % 65536) (by omega) (by omega),Xc (n:=v / 262144 % 4294967296) (by omega) (by omega)]
  have q:v / 262144 % 4294967296=v / 262144:=by omega
  have o2:Qbe N 16=some 65535:=ZN (by omega) (by omega) (by omega)
  have o3:Qbe N 32=some 4294967295:=ZN (by omega) (by omega) (by omega)
  rw[q,Qfp,Wj (show ¬ v / 4 % 65536<0 by omega),Wj (show ¬ v % 4>3 by omega),o2,Xa,o3,Xa]
  simp only[Wa]
  rw[XJ (n:=v / 4 % 65536) (by omega) (by omega),XJ (n:=v / 262144) (by omega) (by omega),Wi (show v / 4 % 65536<=65535 by omega),Wi (show v / 262144<=4294967295 by omega),Wc]
  by_cases c1:v % 4<1
  ·rw[Wi c1,Wc,Xa,WR,Wc,Wk (by omega)]
  rw[Wj c1,Wa]
  by_cases c2:v / 262144<1
  ·rw[Wi c2,Wc,Xa,WR,Wc,Wk (by omega)]
  rw[Wj c2,Wa,Xa,Wt,Wa,Wm (by omega)]
 ·rw[Wk h,Wk (by omega)];rfl
end
end Go.Sx
namespace Go.Sx
section
variable {N:Nat}
theorem XcY {w:Int} (hw:tU w):JU w=⟨w / 4 % 4,w / 16 % 4096,w / 65536 % 4294967296⟩:=by
 obtain ⟨h0,h1⟩:=hw
 unfold JU
 rw[show X2 .u64 w 2=w / 4 from Yz w 2 (by omega) h0,show X2 .u64 w 4=w / 16 from Yz w 4 (by omega) h0,show X2 .u64 w 16=w / 65536 from Yz w 16 (by omega) h0]
 rw[show Yp .u64 (w / 4) 3=w / 4 % 4 from Yn (w / 4) 2 (by omega) (by omega) (by omega),show Yp .u64 (w / 16) 4095=w / 16 % 4096 from Yn (w / 16) 12 (by omega) (by omega) (by omega)]
 rw[Xc (by omega) (by omega),Xc (by omega) (by omega),Xig]
theorem Xmo {w:Int} (hw:tU w):okH w=(XL (JU w)&&(decide (w / 281474976710656=0)&&decide (w % 4=1))):=by
 obtain ⟨h0,h1⟩:=hw
 unfold okH
 cases hv:XL (JU w) with
 | false=>rfl
 | true =>
  rw[WP,WP]
  have hb:=XS hv
  rw[XcY ⟨h0,h1⟩] at hb
  have hb:0<=w / 4 % 4/\w / 4 % 4<=3/\0<=w / 16 % 4096/\w / 16 % 4096<=255:=hb
  have e:Xbz (JU w)=1+4*(w / 4 % 4)+16*(w / 16 % 4096)+w / 65536 % 4294967296*65536:=by
   rw[XcY ⟨h0,h1⟩]
   unfold Xbz
   have s:∀ x:Int,Kq .u64 x 16=wU (x*65536):=λ _=>rfl
   simp only[s]
   simp only[XbO]
   omega
  rw[e]
  by_cases a:w / 281474976710656=0/\w % 4=1
  ·rw[Wi a.1,Wi a.2]
   simp only[Ia,beq_iff_eq];omega
  ·have:(decide (w / 281474976710656=0)&&decide (w % 4=1))=false:=by
    rw[Bool.eq_false_iff];intro hh;simp only[WC,decide_eq_true_eq] at hh;exact a hh
   rw[this]
   simp only[Ix,ne_eq];omega
theorem Xnf:Xb [(2:Int),2,12,32] 0=some 2:=by unfold Xb;rfl
theorem Xng:Xb [(2:Int),2,12,32] 1=some 2:=by unfold Xb;rfl
theorem Xnh:Xb [(2:Int),2,12,32] 2=some 12:=by unfold Xb;rfl
theorem Xni:Xb [(2:Int),2,12,32] 3=some 32:=by unfold Xb;rfl
theorem Xe8 (hN:1000000<N) {v:Int} (h0:0<=v) (h1:v<=18446744073709551615):QdA N v [2,2,12,32]=some (if v / 281474976710656=0 then ([v % 4,v / 4 % 4,v / 16 % 4096,v / 65536 % 4294967296],0) else ([],2)):=by
 obtain ⟨m,rfl⟩:∃ m,N=m+5:=⟨N-5,by omega⟩
 have l3:([(2:Int),2,12,32].length:Nat)=4:=rfl
 have i1:wI (0+1)=1:=Xc (by omega) (by omega)
 have i2:wI (1+1)=2:=Xc (by omega) (by omega)
 have i3:wI (2+1)=3:=Xc (by omega) (by omega)
 have i4:wI (3+1)=4:=Xc (by omega) (by omega)
 have j1:wI (64-2)=62:=Xc (by omega) (by omega)
 have j2:wI (62-2)=60:=Xc (by omega) (by omega)
 have j3:wI (60-12)=48:=Xc (by omega) (by omega)
 have j4:wI (48-32)=16:=Xc (by omega) (by omega)
 have e1:QaA (m+5) v [2,2,12,32] (m+5) 64 0=some (.nxt ()):=by
  rw[QaA,l3,Xnf]
  simp only[Xa,i1,j1]
  rw[QaA,l3,Xng]
  simp only[Xa,i2,j2]
  rw[QaA,l3,Xnh]
  simp only[Xa,i3,j3]
  rw[QaA,l3,Xni]
  simp only[Xa,i4,j4]
  rw[QaA,l3]
  rfl
 have o1:Qbe (m+5) 2=some 3:=ZN (by omega) (by omega) (by omega)
 have o2:Qbe (m+5) 12=some 4095:=ZN (by omega) (by omega) (by omega)
 have o3:Qbe (m+5) 32=some 4294967295:=ZN (by omega) (by omega) (by omega)
 have s1:X2 .u64 v 2=v / 4:=Yz v 2 (by omega) h0
 have s2:X2 .u64 (v / 4) 2=v / 4 / 4:=Yz (v / 4) 2 (by omega) (by omega)
 have s3:X2 .u64 (v / 4 / 4) 12=v / 4 / 4 / 4096:=Yz (v / 4 / 4) 12 (by omega) (by omega)
 have s4:X2 .u64 (v / 4 / 4 / 4096) 32=v / 4 / 4 / 4096 / 4294967296:=Yz (v / 4 / 4 / 4096) 32 (by omega) (by omega)
 have a1:Yp .u64 v 3=v % 4:=Yn v 2 (by omega) h0 h1
 have a2:Yp .u64 (v / 4) 3=v / 4 % 4:=Yn (v / 4) 2 (by omega) (by omega) (by omega)
 have a3:Yp .u64 (v / 4 / 4) 4095=v / 4 / 4 % 4096:=Yn (v / 4 / 4) 12 (by omega) (by omega) (by omega)
 have a4:Yp .u64 (v / 4 / 4 / 4096) 4294967295=v / 4 / 4 / 4096 % 4294967296:=Yn (v / 4 / 4 / 4096) 32 (by omega) (by omega) (by omega)
 have e2:QaB (m+5) [2,2,12,32] (m+5) v 0 []=some (v / 4 / 4 / 4096 / 4294967296,[v % 4,v / 4 % 4,v / 4 / 4 % 4096,v / 4 / 4 / 4096 % 4294967296]):=by
  rw[QaB,l3,Xnf]
  rw[Wi (by omega),Wc,Xa,o1,Xa,Xi (by simp),Xi (by omega),s1,a1,i1]
  rw[QaB,l3,Xng]
  rw[Wi (by omega),Wc,Xa,o1,Xa,Xi (by simp),Xi (by omega),s2,a2,i2]
  rw[QaB,l3,Xnh]
  rw[Wi (by omega),Wc,Xa,o2,Xa,Xi (by simp),Xi (by omega),s3,a3,i3]
  rw[QaB,l3,Xni]
  rw[Wi (by omega),Wc,Xa,o3,Xa,Xi (by simp),Xi (by omega),s4,a4,i4]
  rw[QaB,l3]
  rw[Wj (by omega),Wa]
  rfl
 rw[QdA,e1,Xa,Xq,e2,Xa]
 have q0:v / 4 / 4=v / 16:=by omega
 have q1:v / 16 / 4096=v / 65536:=by omega
 have q2:v / 65536 / 4294967296=v / 281474976710656:=by omega
 rw[q0,q1,q2]
 by_cases h:v / 281474976710656=0
 ·rw[Wm h,h];rfl
 ·rw[Wk h,Y1 h,Wc]
theorem Xi3 (hN:1000000<N) {w:Int} (hw:tU w):QeX N w=some (ZF w,okH w):=by
 obtain ⟨h0,h1⟩:=hw
 rw[QeX,Xe8 hN h0 h1,Xa]
 unfold ZF
 rw[Xmo ⟨h0,h1⟩]
 by_cases h:w / 281474976710656=0
 ·have g0:Xb [w % 4,w / 4 % 4,w / 16 % 4096,w / 65536 % 4294967296] 0=some (w % 4):=by unfold Xb;rfl
  have g1:Xb [w % 4,w / 4 % 4,w / 16 % 4096,w / 65536 % 4294967296] 1=some (w / 4 % 4):=by unfold Xb;rfl
  have g2:Xb [w % 4,w / 4 % 4,w / 16 % 4096,w / 65536 % 4294967296] 2=some (w / 16 % 4096):=by unfold Xb;rfl
  have g3:Xb [w % 4,w / 4 % 4,w / 16 % 4096,w / 65536 % 4294967296] 3=some (w / 65536 % 4294967296):=by unfold Xb;rfl
  rw[Wm h]
  simp only[g0,g1,g2,g3,Xa,show ((0:Int) != 0)=false from rfl,Wa,Xc (n:=w / 4 % 4) (by omega) (by omega),Xc (n:=w / 16 % 4096) (by omega) (by omega),XlA (n:=w / 65536 % 4294967296) (by omega) (by omega)]
  rw[J0 (by omega),Xa,← XcY ⟨h0,h1⟩,Wi h,WP]
  by_cases hm:w % 4=1
  ·rw[hm,show ((1:Int) != 1)=false from rfl,Wa,Wi rfl,Bool.and_true]
   cases XL (JU w)<;>rfl
  ·rw[show (w % 4 != 1)=true by simpa using hm,Wc,Wj hm,IW];rfl
 ·rw[Wk h,Wj h,Ui,IW];rfl
theorem Xca {ws:List Int} (hl:ws.length<=1000000) {a:Int} (ha:a<=18446744073709551615) (n:Int):Qek N ws a n=QcZ N ws a n:=by
 rw[Qek,QcZ]
 by_cases h1:a<4096
 ·rw[Wi h1,Wc,Wc]
 rw[Ya h1,Wa,Wa,XJ (n:=a-4096) (by omega) (by omega),XJ (n:=((ws.length:Nat):Int)) (by omega) (by omega),XJ (n:=4096+((ws.length:Nat):Int)) (by omega) (by omega)]
 rw[show decide (a-4096>((ws.length:Nat):Int))=decide (a>4096+((ws.length:Nat):Int)) from decide_eq_decide.2 (by omega)]
theorem Xbm {ws:List Int} (hl:ws.length<=1000000) {a:Int} (ha:a<=18446744073709551615):Qd6 N ws a=QaX N ws a:=by
 rw[Qd6,QaX,Qgw,Qe4,Xca hl ha]
theorem Xi4 {ws:List Int} (hl:ws.length<=1000000) {a:Int} (ha:a<=18446744073709551615) (n:Int):Qf7 N ws a n=Qcq N ws a n:=by
 rw[Qf7,Qcq,Xca hl ha]
 by_cases h0:n<0
 ·rw[Wi h0,Wc,Wc]
 rw[Ya h0,Wa,Wa]
 congr 1
 funext y
 cases y.2 with
 | false=>rfl
 | true =>
  simp only[Wt,Wa,Qax,Xa]
  unfold grd
  by_cases g:0<=y.1/\y.1<=wI (y.1+n)/\wI (y.1+n)<=((ws.length:Nat):Int)
  ·rw[Wm g,Wm g,Wm (by omega)]
  ·rw[Wk g,Wk g]
structure HT (h:Wo):Prop where
 hb:HB h
 tw:XG h
theorem HT.word {h:Wo} (t:HT h) {i:Int} {w:Int} (e:Xb h.Words i=some w):tU w:=by
 have:=t.tw
 exact this w (Yh e)
theorem Xbn (hN:NB N) {h:Wo} (ht:HT h) {a:Int} (ha:tU a):Qd7 N h a=Qau N h a:=by
 have hN':1000000<N:=by unfold NB at hN;omega
 have hb:=ht.hb
 unfold HB at hb
 rw[Qd7,Qau,Ke (by omega) hN']
 obtain ⟨b,eb,hb2⟩:=Yo (N:=N) (by omega) (h:=h) (by omega) (by omega)
 rw[eb,Xa,Xa]
 cases b with
 | false=>rfl
 | true =>
 have hp:=hb2 rfl
 rw[Wt,Wa,Wa,XiY _ _ _ ha.2,Vm,Wk (by rw[hp.conf];simp)]
 by_cases hr:4096<=a/\a<4096+h.Conf.Pages*h.Conf.PageWords
 case neg=>rw[Wk hr,Xa,Xa];rfl
 rw[Wm hr,Xa,Xa]
 simp only[show ((0:Int) != 0)=false from rfl,Wa]
 have po:=XcH hp.conf hr.1 hr.2
 have hpl:=hp.pages
 generalize (a-4096) / h.Conf.PageWords=pn at *
 generalize (a-4096) % h.Conf.PageWords=po' at *
 have hpg:=hp.pgs pn (by omega) (by omega)
 have hsm:=hpg.small
 rw[Z8 (by omega) (by omega),Xa,Xa]
 generalize pg h.Pages pn=p at hsm ⊢
 rw[QfR,Xbm (by omega) ha.2]
 have hcv:=Xk.1 hp.conf
 have hmm:=Yt hp.conf (i:=0) (by omega) (by omega)
 have ew:∃ w,QaX N h.Words a=some (w,0)/\tU w:=by
  rw[QaX,Qe4,QcZ,Ya (show ¬ a<4096 by omega),Wa,XJ (n:=((h.Words.length:Nat):Int)) (by omega) (by omega),XJ (n:=4096+((h.Words.length:Nat):Int)) (by omega) (by omega),Ya (show ¬ a>4096+((h.Words.length:Nat):Int) by have:=hp.words;omega),Wa,XJ (n:=a-4096) (by omega) (by omega),Xc (n:=a-4096) (by omega) (by omega),Xc (by omega) (by omega),Xa]
  rw[Wi (show 1<=((h.Words.length:Nat):Int)-(a-4096) by have:=hp.words;omega),Wt,Wa,Xa]
  simp only[show ((0:Int) != 0)=false from rfl,Wa]
  have hg:=X4 (l:=h.Words) (i:=a-4096) (by omega) (by have:=hp.words;omega)
  exact ⟨_,by rw[hg,Xa],ht.word hg⟩
 obtain ⟨w,ew,tw⟩:=ew
 rw[ew,Xa,Xa,Xa,Xi3 hN' tw,Vl,Xa,Xa]
 simp only[KJ (show 1000<N by omega),YK,Xa,Yy]
 have hs:=XbP w
 generalize ZF w=d at *
 generalize YY d=s at *
 cases okH w with
 | false =>
  simp only[WR,Wc,Bool.cond_self]
 | true =>
  simp only[Wt,Wa]
  by_cases k1:p.Kind=1
  ·have k2:(p.Kind==2)=false:=by rw[k1];rfl
   simp only[show (p.Kind != 1)=false by simpa using k1,show (p.Kind==1)=true by simpa using k1,k2,Wc,Wa]
   by_cases u:po'>=p.Used
   ·rw[Wi u,Wc,Wc];rfl
   ·rw[Ya u,Wa,Wa]
    have hpo:po'<=64:=by omega
    by_cases z:wI (po'+s)>p.Used
    ·rw[Wi z,Wc]
     rw[Xc (n:=po'+s) (by omega) (by omega)] at z
     have:¬ s<=wI (p.Used-po'):=by
      rw[Xc (by omega) (by omega)];omega
     rw[Ya this];rfl
    ·rw[Ya z,Wa]
     rw[Xc (n:=po'+s) (by omega) (by omega)] at z
     have:=hsm k1
     rw[Xc (n:=p.Used-po') (by omega) (by omega),Wi (by omega)];rfl
  ·rw[show (p.Kind != 1)=true by simpa using k1,show (p.Kind==1)=false by simpa using k1]
   simp only[Wc,Wa]
   by_cases k2:p.Kind=2
   ·simp only[show (p.Kind != 2)=false by simpa using k2,show (p.Kind==2)=true by simpa using k2,Wc,Wa]
    by_cases u:po'>=p.Used
    ·rw[Wi u,Wc,Wc];rfl
    ·rw[Ya u,Wa,Wa]
     by_cases z:po'=0
     ·rw[show (po'==0)=true by simpa using z,show (po' != 0)=false by simpa using z,Wc,Wa]
      by_cases q:s=p.Used
      ·rw[show (s==p.Used)=true by simpa using q,show (s != p.Used)=false by simpa using q];rfl
      ·rw[show (s==p.Used)=false by simpa using q,show (s != p.Used)=true by simpa using q];rfl
     ·rw[show (po'==0)=false by simpa using z,show (po' != 0)=true by simpa using z];rfl
   ·simp only[show (p.Kind != 2)=true by simpa using k2,show (p.Kind==2)=false by simpa using k2,Wc,Wa,WR,Bool.cond_self]
end
end Go.Sx
namespace Go.Sx
section
variable {N:Nat}
def fnd (h:Wo) (a:Int):Uz:=⟨a,hdA h.Words a⟩
theorem Xeb (l:List Uz) (hl:l.length<=1000000):∀ (n k:Nat) (v:List Int),k<=l.length->l.length-k<n->v.length=k->Qcz N l n (k:Int) v=some (v++(l.drop k).map (·.addr))
 | 0,k,v,_,h,_=>by omega
 | n+1,k,v,hk,hn,hv=>by
  rw[Qcz]
  by_cases hlt:k<l.length
  ·rw[Wi (by omega),Wc,Xd,Wd hlt,Xa,Xi (by omega),Xh (by omega),Xeb l hl n (k+1) _ (by omega) (by omega) (by simp[hv]),Ws hlt,Ux,Un]
   rfl
  ·rw[Wj (by omega),Wa,WK (by omega)];simp
theorem Xbo (l:List Uz) (hl:l.length<=1000000) (hN:1000000<N):QbN N l=some (l.map (·.addr)):=by
 rw[QbN,show (0:Int)=((0:Nat):Int) from rfl,Xeb l hl N 0 [] (by omega) (by omega) rfl,Xa];simp
theorem XkY (h:Wo) (l:List Int):(l.map (fnd h)).map (·.addr)=l:=by
 rw[List.map_map];exact List.map_id'' (λ _=>rfl) l
def Xop (h:Wo):Ex (List Int×Int) (List Int)->List Uz×Int
 | .ret r=>([],19)
 | .nxt l=>(l.map (fnd h),0)
theorem Xcb (hN:NB N) {h:Wo} (ht:HT h) (hp:UK h) {i:Int} (h0:0<=i) (h1:i<h.Pages.length) (hk:(pg h.Pages i).Kind=1\/(pg h.Pages i).Kind=2):∀ (n:Nat) (o:Int) (l:List Int),0<=o->(66-o).toNat<n->(l.length:Int)<=o->((pg h.Pages i).Kind=1->o<=64)->((pg h.Pages i).Kind=2->o=0) ->
 ∃ e,QaU N h i (pg h.Pages i) n o l=some e/\Qbq N h i (pg h.Pages i) n o (l.map (fnd h))=some (Xop h e)/\(∀ r,e=.ret r->r=([],19))
 | 0,o,l,ho,hn,hl,k1,k2=>by
  rcases hk with hk | hk
  ·have:=k1 hk;omega
  ·have:=k2 hk;omega
 | n+1,o,l,ho,hn,hl,k1,k2=>by
  have hN':1000000<N:=by unfold NB at hN;omega
  have hv:=Xk.1 hp.conf
  have hpl:=hp.pages
  have hsm:=(hp.pgs i h0 h1).small
  have ho64:o<=64:=by rcases hk with hk | hk;exact k1 hk;have:=k2 hk;omega
  rw[QaU,Qbq]
  by_cases hlt:o<(pg h.Pages i).Used
  case neg=>rw[Ya hlt,Wa,Wa];exact ⟨_,rfl,rfl,λ r e=>by cases e⟩
  have hopw:o<h.Conf.PageWords:=by
   rcases hk with hk | hk
   ·have:=hsm hk;omega
   ·have:=k2 hk;omega
  rw[Wi hlt,Wc,Wc,Xd8,Jy,hp.conf,Xa,Xa,Wk (by simp),Wm (by omega)]
  dsimp only
  have hpw:=Yt hp.conf (i:=i) h0 (by omega)
  have ha:tU (Xj h.Conf i o):=by unfold Xj;exact ⟨by omega,by omega⟩
  rw[show ((0:Int)==0)=true from rfl,Wc,Xbn hN ht ha]
  obtain ⟨y,ey,hy⟩:=XbS hN ht.hb (Xj h.Conf i o)
  rw[ey,Xa,Xa]
  by_cases hy0:y.2=0
  case neg =>
   rw[show (y.2 != 0)=true by simpa using hy0,show (y.2==0)=false by simpa using hy0,Wc,Wa]
   exact ⟨_,rfl,rfl,λ r e=>by cases e;rfl⟩
  obtain ⟨_,_,hat,hhd⟩:=hy hy0
  have hsz:=ZA h.Words (Xj h.Conf i o)
  have hpi:=XdL hp.conf (p:=i) ho hopw
  rw[show (y.2 != 0)=false by simpa using hy0,show (y.2==0)=true by simpa using hy0,Wc,Wa,hhd,Xi (by omega)]
  rw[KJ (by omega),Xa,hsz.1,Xi (by rw[Ug];omega)]
  rw[show Uz.mk (Xj h.Conf i o) (hdA h.Words (Xj h.Conf i o))=fnd h (Xj h.Conf i o) from rfl]
  have em:l.map (fnd h)++[fnd h (Xj h.Conf i o)]=(l++[Xj h.Conf i o]).map (fnd h):=by simp
  rw[em]
  rcases hk with hk | hk
  ·have hu:=hsm hk
   rw[show ((pg h.Pages i).Kind==2)=false by rw[hk];rfl,Wa,YK,Xa,hsz.1]
   have hat1:=hat.small
   rw[hpi.1,hpi.2] at hat1
   have:=hat1 hk
   rw[Xc (n:=o+szA h.Words (Xj h.Conf i o)) (by omega) (by omega)]
   exact Xcb hN ht hp h0 h1 (.inl hk) n _ _ (by omega) (by omega) (by simp;omega) (λ _=>by omega) (λ k=>by omega)
  ·rw[show ((pg h.Pages i).Kind==2)=true by rw[hk];rfl,Wc]
   have hat2:=hat.large
   rw[hpi.1,hpi.2] at hat2
   have:=hat2 hk
   refine ⟨_,rfl,?_,λ r e=>by cases e⟩
   rw[Xc (n:=o+szA h.Words (Xj h.Conf i o)) (by omega) (by omega)]
   obtain ⟨m,rfl⟩:∃ m,n=m+1:=⟨n-1,by omega⟩
   rw[Qbq,Ya (by omega),Wa];rfl
theorem JF {h:Wo} (hN:NB N) (hb:HB h) (ep:Qad N h=some true):UK h:=by
 obtain ⟨b,eb,hb2⟩:=Yo (N:=N) (by unfold NB at hN;omega) hb.1 hb.2
 rw[ep] at eb;cases eb;exact hb2 rfl
theorem JG (hN:NB N) {h:Wo} (hb:HB h):∃ b,Qad N h=some b:=by
 obtain ⟨b,eb,_⟩:=Yo (N:=N) (by unfold NB at hN;omega) hb.1 hb.2
 exact ⟨b,eb⟩
theorem Xbp (hN:NB N) {h:Wo} (ht:HT h) (ep:Qad N h=some true) {i:Int} (h0:0<=i) (h1:i<h.Pages.length):∃ r,Qar N h i=some r/\Qe6 N h i=some (r.1.map (fnd h),r.2)/\(r.2≠0->r=([],19)):=by
 have hb:=ht.hb
 have hp:=JF hN hb ep
 rw[Qar,Qe6,ep,Xa,Z8 h0 h1,Xa,Xa,Wt,Wa,Ya (show ¬ i<0 by omega),Wa,Ya (show ¬ i>=_ by omega),Wa]
 have hkk:=(hp.pgs i h0 h1).kind
 have main:((pg h.Pages i).Kind=1\/(pg h.Pages i).Kind=2)->∃ r,(bnd (QaU N h i (pg h.Pages i) N 0 []) λ e=>exK e (λ r=>some r) λ y8=>some (y8,0))=some r/\Qbq N h i (pg h.Pages i) N 0 []=some (r.1.map (fnd h),r.2)/\(r.2≠0->r=([],19)):=by
  intro hk
  obtain ⟨e,e1,e2,e3⟩:=Xcb hN ht hp h0 h1 hk N 0 [] (by omega) (by unfold NB at hN;omega) (by simp) (λ _=>by omega) (λ _=>rfl)
  rw[e1,Xa]
  rw[Ij] at e2
  rw[e2]
  cases e with
  | ret r=>rw[e3 r rfl];rw[Xz];exact ⟨_,rfl,rfl,λ _=>rfl⟩
  | nxt l=>rw[Xq];exact ⟨_,rfl,rfl,λ h=>absurd rfl h⟩
 by_cases k1:(pg h.Pages i).Kind=1
 ·have:=main (.inl k1)
  rw[show ((pg h.Pages i).Kind==0)=false by rw[k1];rfl,show ((pg h.Pages i).Kind==3)=false by rw[k1];rfl,show ((pg h.Pages i).Kind != 1)=false by rw[k1];rfl]
  exact this
 by_cases k2:(pg h.Pages i).Kind=2
 ·have:=main (.inr k2)
  rw[show ((pg h.Pages i).Kind==0)=false by rw[k2];rfl,show ((pg h.Pages i).Kind==3)=false by rw[k2];rfl,show ((pg h.Pages i).Kind != 1)=true by rw[k2];rfl,show ((pg h.Pages i).Kind != 2)=false by rw[k2];rfl]
  exact this
 ·rw[show ((pg h.Pages i).Kind != 1)=true by simpa using k1,show ((pg h.Pages i).Kind != 2)=true by simpa using k2]
  simp only[Wc]
  refine ⟨([],0),?_,rfl,λ h=>absurd rfl h⟩
  by_cases k0:(pg h.Pages i).Kind=0
  ·rw[show ((pg h.Pages i).Kind==0)=true by simpa using k0,Wc]
  ·rw[show ((pg h.Pages i).Kind==0)=false by simpa using k0,show ((pg h.Pages i).Kind==3)=true by simp;omega];rfl
theorem Qkz (hN:NB N) {h:Wo} (hb:HB h) (i:Int) {r:List Int×Int} (e:Qar N h i=some r):r.1.length<=64:=by
 have:=(QkD hN hb i).get_eq e
 exact this.2.1
theorem Xec (hN:NB N) {h:Wo} (ht:HT h) (i:Int):Qfm N h i=Qar N h i:=by
 have hb:=ht.hb
 rw[Qfm,Ke (by have:=hb.2;omega) (by unfold NB at hN;omega)]
 obtain ⟨b,eb⟩:=JG (N:=N) hN hb
 rw[eb,Xa]
 cases b with
 | false=>rw[Qar,eb,Xa];rfl
 | true =>
 by_cases h0:i<0
 ·rw[Qar,eb,Xa,Wi h0];rfl
 by_cases h1:i>=h.Pages.length
 ·rw[Qar,eb,Xa,Ya h0,Wi h1];rfl
 obtain ⟨r,e1,e2,e3⟩:=Xbp hN ht eb (i:=i) (by omega) (by omega)
 rw[Wt,Wa,Ya h0,Wa,Ya h1,Wa,e2,Xa,e1]
 have hl:=Qkz hN hb i e1
 by_cases z:r.2=0
 ·dsimp only
  rw[show (r.2 != 0)=false by simpa using z,Wa,Xbo _ (by rw[Ug];omega) (by unfold NB at hN;omega),Xa,XkY]
  congr 1;exact Prod.ext rfl z.symm
 ·dsimp only
  rw[show (r.2 != 0)=true by simpa using z,Wc,e3 z]
theorem XfX (hN:NB N) {h:Wo} (ht:HT h) (ep:Qad N h=some true):∀ (n k:Nat) (l:List Int),k<=h.Pages.length->h.Pages.length-k<n->l.length<=64*k ->
 ∃ e,QaP N h n (k:Int) l=some e/\Qe8 N h n (k:Int) (l.map (fnd h))=some (match e with | .ret r=>.ret (r.1.map (fnd h),r.2) | .nxt l=>.nxt (l.map (fnd h)))/\(∀ r,e=.ret r->r=([],19))/\(∀ l',e=.nxt l'->l'.length<=64*h.Pages.length)
 | 0,k,l,_,h,_=>by omega
 | n+1,k,l,hk,hn,hl=>by
  have hb:=ht.hb
  have hb2:=hb.2
  rw[QaP,Qe8]
  by_cases hlt:k<h.Pages.length
  case neg=>rw[Wj (show ¬ (k:Int)<_ by omega),Wa,Wa];refine ⟨_,rfl,rfl,?_,?_⟩<;>intro r e<;>cases e;omega
  rw[Wi (show (k:Int)<_ by omega),Wc,Wc]
  obtain ⟨r,e1,e2,e3⟩:=Xbp hN ht ep (i:=(k:Int)) (by omega) (by omega)
  rw[e1,e2,Xa,Xa]
  have hr:=Qkz hN hb (k:Int) e1
  dsimp only
  by_cases z:r.2=0
  ·rw[show (r.2 != 0)=false by simpa using z,Wa,Wa,Xi (by omega),Xi (by simp only[Ug];omega),Xh (by omega),← List.map_append]
   exact XfX hN ht ep n (k+1) _ (by omega) (by omega) (by rw[Wr];omega)
  ·rw[show (r.2 != 0)=true by simpa using z,Wc,Wc,e3 z]
   refine ⟨_,rfl,rfl,?_,?_⟩<;>intro r e<;>cases e;rfl
theorem XkZ (hN:NB N) {h:Wo} (ht:HT h):∃ r,Qcp N h=some r/\QgT N h=some (r.1.map (fnd h),r.2)/\(r.2≠0->r.1=[])/\r.1.length<=6400000:=by
 have hb:=ht.hb
 have hb2:=hb.2
 rw[Qcp,QgT,Ke (by omega) (by unfold NB at hN;omega)]
 obtain ⟨b,eb⟩:=JG (N:=N) hN hb
 rw[eb,Xa,Xa]
 cases b with
 | false=>exact ⟨_,rfl,rfl,λ _=>rfl,by simp⟩
 | true =>
 rw[Wt,Wa,Wa]
 obtain ⟨e,e1,e2,e3,e4⟩:=XfX hN ht eb N 0 [] (by omega) (by unfold NB at hN;omega) (by simp)
 rw[Ij] at e2
 rw[show (0:Int)=((0:Nat):Int) from rfl,e1,e2,Xa,Xa]
 cases e with
 | ret r =>
  rw[Xz]
  dsimp only
  rw[Xz,e3 r rfl]
  exact ⟨_,rfl,rfl,λ _=>rfl,by simp⟩
 | nxt l =>
  have:=e4 l rfl
  rw[Xq]
  dsimp only
  rw[Xq]
  exact ⟨_,rfl,rfl,λ h=>absurd rfl h,by dsimp only;omega⟩
end
end Go.Sx
namespace Go.Sx
section
variable {N:Nat}
def Kf (f:Uz):Bool:=!(f.hd.Kind==0)
def Xed (h:Wo) (l:List Int):List Int:=l.filter λ a=>Kf (fnd h a)
theorem Xe9 (l0:List Uz) (hl:l0.length<=1000000):∀ (n i j:Nat) (v:List Uz),i<=j->j<=l0.length->l0.length-j<n->v.length=l0.length->v.drop j=l0.drop j ->
 ∃ (i':Nat) (v':List Uz),QbU N n (i:Int) (j:Int) v=some ((i':Int),v')/\v'.length=l0.length/\i'<=l0.length/\v'.take i'=v.take i++(l0.drop j).filter Kf
 | 0,i,j,v,_,_,h,_,_=>by omega
 | n+1,i,j,v,hij,hj,hn,hv,hd=>by
  rw[QbU,Xi (by omega)]
  by_cases hlt:j<l0.length
  case neg =>
   rw[Wj (by omega),Wa]
   refine ⟨i,v,rfl,hv,by omega,?_⟩
   rw[WK (by omega)];simp
  have hjv:v[j]'(by omega)=l0[j]:=by
   have a:=Ws (l:=v) (i:=j) (by omega)
   have b:=Ws (l:=l0) (i:=j) (by omega)
   rw[hd,b] at a
   exact (IS a).1.symm
  have hd1:v.drop (j+1)=l0.drop (j+1):=by
   have a:=Ws (l:=v) (i:=j) (by omega)
   have b:=Ws (l:=l0) (i:=j) (by omega)
   rw[hd,b] at a
   exact (IS a).2.symm
  rw[Wi (by omega),Wc,Xd,Wd (by omega),Xa,QdG,Xa,hjv,Ws hlt]
  cases hk:(l0[j].hd.Kind==0) with
  | true =>
   rw[Wt,Wa,Xh (by omega),Uy (by unfold Kf;rw[hk];simp)]
   exact Xe9 l0 hl n i (j+1) v (by omega) (by omega) (by omega) hv hd1
  | false =>
   rw[WR,Wc,Xd,Wd (by omega),Xa,Xh (by omega),Xh (by omega),UJ (by unfold Kf;rw[hk];rfl)]
   rw[show ((i:Int)).toNat=i from rfl]
   obtain ⟨i',v',e1,e2,e3,e4⟩:=Xe9 l0 hl n (i+1) (j+1) (v.set i l0[j]) (by omega) (by omega) (by omega) (by rw[WE];exact hv) (by rw[List.drop_set_of_lt (by omega)];exact hd1)
   refine ⟨i',v',e1,e2,e3,?_⟩
   rw[e4,List.take_succ,List.getElem?_set_self (by omega),List.take_set_of_le (Ue _)]
   simp
theorem Xk0 (l:List Uz) (hl:l.length<=1000000) (hN:1000000<N):Qaf N l=some (Ji (λ f=>f.hd.Kind==0) l):=by
 rw[Qaf]
 exact Jj (p:=λ f:Uz=>f.hd.Kind==0) hl hN (λ n k x e=>by
  have hk:=Xv e
  rw[Qae,Xy hk,Wc,Xd,e,Xa,QdG,Xa,Xh (by omega)]) (λ n=>by rw[Qae,Xs,Wa])
theorem XgZ (l:List Uz) (hl:l.length<=1000000) (hN:1000000<N):(bnd (Qaf N l) λ y2 =>
 bif (y2==(-1)) then (bnd (QbN N l) λ y11 =>
  some (y11,(0:Int)))
 else bnd (QbU N N y2 (wI (y2+1)) l) λ y9 =>
 grd (0<=y9.1/\y9.1<=((y9.2.length:Nat):Int)/\((y9.2.length:Nat):Int)<=((y9.2.length:Nat):Int)) <|
 grd (0<=y9.1/\y9.1<=(((((min y9.1.toNat y9.2.length)+(y9.2.length-y9.1.toNat))+(y9.2.length-(y9.1.toNat+(y9.2.length-y9.1.toNat)))):Nat):Int)) <|
 bnd (QbN N ((((y9.2.take y9.1.toNat)++(List.replicate (y9.2.length-y9.1.toNat) (Uz.mk 0 (Ww.mk 0 0 0))))++(y9.2.drop (y9.1.toNat+(y9.2.length-y9.1.toNat)))).take y9.1.toNat)) λ y12 =>
 some (y12,0))=some ((l.filter Kf).map (·.addr),0):=by
 rw[Xk0 l hl hN,Xa]
 unfold Ji
 cases hf:l.findIdx? (λ f=>f.hd.Kind==0) with
 | none =>
  have hall:l.filter Kf=l:=by
   rw[List.findIdx?_eq_none_iff] at hf
   rw[Iv]
   intro x hx
   unfold Kf;rw[hf x hx];rfl
  dsimp only
  rw[show ((-1:Int)==-1)=true from rfl,Wc,Xbo l hl hN,Xa,hall]
 | some j =>
  obtain ⟨hj,hp,hb⟩:=List.findIdx?_eq_some_iff_getElem.1 hf
  dsimp only
  rw[show (((j:Nat):Int)==-1)=false by simp,Wa,Xh (by omega)]
  obtain ⟨i',v',e1,e2,e3,e4⟩:=Xe9 (N:=N) l hl N j (j+1) l (by omega) (by omega) (by omega) rfl rfl
  rw[e1,Xa]
  dsimp only
  rw[Xi (by omega),Xi (by omega),show ((i':Int)).toNat=i' from rfl]
  have et:(((v'.take i')++(List.replicate (v'.length-i') (Uz.mk 0 (Ww.mk 0 0 0))))++(v'.drop (i'+(v'.length-i')))).take i'=v'.take i':=by
   rw[Ux,List.take_append_of_le_length (by rw[Wz];omega),List.take_take,Uv]
  have ef:l.filter Kf=l.take j++(l.drop (j+1)).filter Kf:=by
   conv=>lhs;rw[← List.take_append_drop j l,List.filter_append,Ws hj,Uy (by unfold Kf;rw[hp];simp)]
   congr 1
   rw[Iv]
   intro x hx
   obtain ⟨k,hk,rfl⟩:=W0 hx
   rw[Wz] at hk
   rw[List.getElem_take]
   have:=hb k (by omega)
   unfold Kf
   simpa using this
  rw[et,e4,← ef]
  have hle:(l.filter Kf).length<=l.length:=List.length_filter_le _ _
  rw[Xbo _ (by omega) hN,Xa]
theorem Xas {h:Wo} (y:List Int×Int) (hy:y.1.length<=1000000) (hev:∀ a∈y.1,Qau N h a=some (hdA h.Words a,0)):∀ (n k:Nat) (v:List Int),k<=y.1.length->y.1.length-k<n->v.length<=k ->
 Qaz N h y n (k:Int) v=some (v++Xed h (y.1.drop k))
 | 0,k,v,_,hn,_=>by omega
 | n+1,k,v,hk,hn,hv=>by
  rw[Qaz]
  by_cases hlt:k<y.1.length
  ·rw[Wi (by omega),Wc,Xd,Wd hlt,Xa,hev _ (WT hlt),Xa,Xh (by omega),Ws hlt,Xed]
   dsimp only
   by_cases hk:(hdA h.Words y.1[k]).Kind=0
   ·rw[show ((hdA h.Words y.1[k]).Kind != 0)=false by simpa using hk,Wa,Xas y hy hev n (k+1) v (by omega) (by omega) (by omega),Uy (by simp[Kf,fnd,hk])]
    rfl
   ·rw[show ((hdA h.Words y.1[k]).Kind != 0)=true by simpa using hk,Wc,Xa,Xi (by omega),Xas y hy hev n (k+1) _ (by omega) (by omega) (by rw[Wr];simp;omega),UJ (by simp[Kf,fnd,hk])]
    simp[Xed]
  ·rw[Wj (by omega),Wa,WK (by omega)];simp[Xed]
theorem Jm (hN:NB N) {h:Wo} (ht:HT h):QdP N h=Qas N h:=by
 have hN':1000000<N:=by unfold NB at hN;omega
 obtain ⟨r,e1,e2,e3,_⟩:=XkZ hN ht
 obtain ⟨hs,hp,_⟩:=(VM hN ht.hb).get_eq e1
 have hlen:=hs.len
 rw[QdP,Qas,e1,e2,Xa,Xa]
 dsimp only
 rw[show (0:Int)=((0:Nat):Int) from rfl,Xas r (by omega) hs.obj.ev N 0 [] (by omega) (by omega) (by simp),Xa,WU,Ur]
 by_cases z:r.2=0
 ·rw[show (r.2 != ((0:Nat):Int))=false by simpa using z,Wa]
  have:=XgZ (N:=N) (r.1.map (fnd h)) (by rw[Ug];omega) hN'
  rw[show ((0:Nat):Int)=0 from rfl,this,z]
  congr 2
  rw[List.filter_map,List.map_map]
  unfold Xed
  exact List.map_id'' (λ _=>rfl) _
 ·rw[show (r.2 != ((0:Nat):Int))=true by simpa using z,Wc,e3 z];rfl
end
end Go.Sx
namespace Go.Sx
section
variable {N:Nat}
def exM {α β γ:Type} (f:α->γ):Ex α β->Ex γ β
 | .ret a=>.ret (f a)
 | .nxt b=>.nxt b
theorem IQ.tu {h:Wo} (hp:UK h) {a:Int} (ha:IQ h a):tU a:=by
 have:=ha.rng;have:=Yt hp.conf (i:=0) (by omega) (by have:=Xk.1 hp.conf;omega)
 exact ⟨by omega,by omega⟩
theorem Xcc (hN:NB N) {h:Wo} (ht:HT h) (hp:UK h) {i:Int} (h0:0<=i) (h1:i<h.Pages.length) (l:List Int) (hl:l.length<=4096) (hat:∀ a∈l,IQ h a) (hev:∀ a∈l,Qau N h a=some (hdA h.Words a,0)):∀ (n k:Nat),k<=l.length->l.length-k<n ->
 ∃ e,QaV N h i l n (k:Int)=some e/\QbO N h i l n (k:Int)=some (exM (λ a=>(a,true)) e)/\∀ a,e=.ret a->a∈l
 | 0,k,_,hn=>by omega
 | n+1,k,hk,hn=>by
  rw[QaV,QbO]
  by_cases hlt:k<l.length
  case neg=>rw[Wj (by omega),Wa,Wa];exact ⟨_,rfl,rfl,λ a e=>by cases e⟩
  have hm:=WT hlt
  have hne:1000<N:=by unfold NB at hN;omega
  have nx:=Xcc hN ht hp h0 h1 l hl hat hev n (k+1) (by omega) (by omega)
  simp only[Wi (show (k:Int)<((l.length:Nat):Int) by omega),Wc,Xd,Wd hlt,Xa,Xbn hN ht ((hat _ hm).tu hp),hev _ hm,KJ hne,YK,XiW,Xfu,Z8 h0 h1,Xh (show k<=140737488355328 by omega)]
  cases ((pg h.Pages i).Kind==1)<;>cases ((pg h.Pages i).Kind==2)<;>cases (decide (YY (hdA h.Words l[k])<=smC h.Conf))<;>cases ((hdA h.Words l[k]).Kind==0)
  all_goals simp only[Wc,Wa,Wt,WR]
  all_goals first
   | exact nx
   | exact ⟨_,rfl,rfl,λ a e=>by cases e;exact hm⟩
theorem Xg0 (hN:NB N) {h:Wo} (ht:HT h) (hp:UK h) {i:Int} (h0:0<=i) (h1:i<h.Pages.length) (l:List Int) (hl:l.length<=4096) (hat:∀ a∈l,IQ h a) (hev:∀ a∈l,Qau N h a=some (hdA h.Words a,0)) :
 ∃ a,Qdp N h i l=some a/\∃ b,Qe7 N h i l=some (b,a != 0):=by
 obtain ⟨e,e1,e2,e3⟩:=Xcc hN ht hp h0 h1 l hl hat hev N 0 (by omega) (by unfold NB at hN;omega)
 rw[Qdp,Qe7,show (0:Int)=((0:Nat):Int) from rfl,e1,e2,Xa,Xa]
 cases e with
 | ret a =>
  have:=(hat a (e3 a rfl)).rng
  simp only[exM,Xz]
  exact ⟨a,rfl,a,by rw[show (a != ((0:Nat):Int))=true by simp;omega]⟩
 | nxt u=>simp only[exM,Xq];exact ⟨_,rfl,_,rfl⟩
theorem Xee {h:Wo} (hf:(pg h.Pages 0).Kind≠3) (hl:h.Pages.length<=100000):∀ (n i:Nat),i<h.Pages.length->i<n->QdW N h n (i:Int)=QcB N h n (i:Int)
 | 0,i,_,hn=>by omega
 | n+1,i,hi,hn=>by
  rw[QdW,QcB,Z8 (by omega) (by omega),Xa,Xa]
  cases i with
  | zero=>rw[show decide (((0:Nat):Int)>0)=false from rfl,Wa,show ((pg h.Pages ((0:Nat):Int)).Kind==3)=false by simpa using hf,Wa]
  | succ j =>
   rw[Wi (by omega),Wc,Xc (by omega) (by omega),show ((j+1:Nat):Int)-1=(j:Int) by omega,Xee hf hl n j (by omega) (by omega)]
theorem Xi5 (hN:NB N) {h:Wo} (hb:HB h) (hp:UK h) {i:Int} (h0:0<=i) (h1:i<h.Pages.length):Qf8 N h i=Qd0 N h i:=by
 obtain ⟨k,rfl⟩:∃ k:Nat,i=(k:Int):=⟨i.toNat,by omega⟩
 have:=hb.2
 rw[Qf8,Qd0,Xee hp.first this N k (by omega) (by unfold NB at hN;omega)]
def Jn (h:Wo) (a:Int):Int:=if (hdA h.Words a).Kind=0 then 1 else szA h.Words a
def Xmp (h:Wo) (i:Int) (l:List Int) (k:Int):Bool:=l.any λ a=>decide (a-Xj h.Conf i 0<=k/\k<a-Xj h.Conf i 0+Jn h a)
theorem XfY (h:Wo) (hp:UK h) (i:Int) (h0:0<=i) (h1:i<h.Pages.length) (l:List Int) (k:Nat) (a:Int) (hk:l[k]? = some a) (x:Int) (hx:x<=256) (ha:4096<=a/\a<=8192):∀ (n:Nat) (w:Int) (u:List Bool),0<=w->(x-w).toNat<n->u.length<=1000 ->
 ∃ u',Qa6 N h i l (k:Int) x n w u=some u'/\u'.length=u.length/\∀ j,j<u.length->u'.getD j false=(u.getD j false||decide (a-Xj h.Conf i 0+w<=j/\(j:Int)<a-Xj h.Conf i 0+x))
 | 0,w,u,_,hn,_=>by omega
 | n+1,w,u,hw,hn,hu=>by
  have hpl:=hp.pages
  have hv:=Xk.1 hp.conf
  have hm:=Yt hp.conf (i:=i) h0 (by omega)
  rw[Qa6]
  by_cases hlt:w<x
  case neg =>
   rw[Ya hlt,Wa]
   exact ⟨u,rfl,rfl,λ j hj=>by rw[Ya (show ¬ _ by omega),Bool.or_false]⟩
  have ad:Xj h.Conf i 0=4096+i*h.Conf.PageWords:=by unfold Xj;omega
  rw[Wi hlt,Wc,Xd,hk,Xa]
  rw[Xc (n:=a) (by omega) (by omega),Xc (n:=a-4096) (by omega) (by omega),Xc (n:=a-4096+w) (by omega) (by omega),Xc (n:=i*h.Conf.PageWords) (by omega) (by omega),Xc (n:=a-4096+w-i*h.Conf.PageWords) (by omega) (by omega),Xc (n:=w+1) (by omega) (by omega)]
  generalize hq:a-4096+w-i*h.Conf.PageWords=q
  have step:∀ v:List Bool,v.length=u.length->(∀ j,j<u.length->v.getD j false=(u.getD j false||decide ((j:Int)=q)))->∃ u',Qa6 N h i l (k:Int) x n (w+1) v=some u'/\u'.length=u.length/\∀ j,j<u.length->u'.getD j false=(u.getD j false||decide (a-Xj h.Conf i 0+w<=j/\(j:Int)<a-Xj h.Conf i 0+x)):=by
   intro v hv1 hv2
   obtain ⟨u',e1,e2,e3⟩:=XfY h hp i h0 h1 l k a hk x hx ha n (w+1) v (by omega) (by omega) (by omega)
   refine ⟨u',e1,e2.trans hv1,λ j hj=>?_⟩
   rw[e3 j (by omega),hv2 j hj,Bool.or_assoc]
   congr 1
   rw[← Bool.decide_or]
   exact decide_eq_decide.2 (by omega)
  by_cases q0:q>=0
  case neg =>
   rw[Ya q0,Wa]
   exact step u rfl λ j hj=>by rw[Ya (show ¬ (j:Int)=q by omega),Bool.or_false]
  rw[Wi q0,Wc,Xi (by omega)]
  by_cases q1:q<u.length
  case neg =>
   rw[Ya q1,Wa]
   exact step u rfl λ j hj=>by rw[Ya (show ¬ (j:Int)=q by omega),Bool.or_false]
  rw[Wi q1,Wc,X4 q0 q1,Xa]
  refine step _ (by rw[WE]) λ j hj=>?_
  rw[Wp,Ic]
  by_cases hjq:q.toNat=j
  ·rw[Wm hjq,Wm (by omega),Wi (show (j:Int)=q by omega),Bool.or_true];rfl
  ·rw[Wk hjq,Ya (show ¬ (j:Int)=q by omega),Bool.or_false,Wp]
end
end Go.Sx
namespace Go.Sx
section
variable {N:Nat}
def Xg1 (h:Wo) (i:Int) (k:Int) (a:Int):Bool:=decide (a-Xj h.Conf i 0<=k/\k<a-Xj h.Conf i 0+Jn h a)
theorem XcZ (h:Wo) (i:Int) (l:List Int) (k:Int):Xmp h i l k=l.any (Xg1 h i k):=rfl
theorem Xi6 (h:Wo) (a:Int):1<=Jn h a/\Jn h a<=256:=by
 have:=ZA h.Words a
 unfold Jn;split<;>omega
theorem XfZ (hN:NB N) {h:Wo} (hp:UK h) (i:Int) (h0:0<=i) (h1:i<h.Pages.length) (l:List Int) (hl:l.length<=4096) (hat:∀ a∈l,IQ h a) (hev:∀ a∈l,Qau N h a=some (hdA h.Words a,0)):∀ (n k:Nat) (u:List Bool),k<=l.length->l.length-k<n->u.length<=1000 ->
 ∃ u',Qb3 N h i l n (k:Int) u=some u'/\u'.length=u.length/\∀ j:Nat,j<u.length->u'.getD j false=(u.getD j false||(l.drop k).any (Xg1 h i (j:Int)))
 | 0,k,u,_,hn,_=>by omega
 | n+1,k,u,hk,hn,hu=>by
  have hv:=Xk.1 hp.conf
  have hm:=Yt hp.conf (i:=0) (by omega) (by omega)
  have hN':1000000<N:=by unfold NB at hN;omega
  rw[Qb3]
  by_cases hlt:k<l.length
  case neg =>
   rw[Wj (by omega),Wa,WK (by omega)]
   exact ⟨u,rfl,rfl,λ j hj=>by simp⟩
  have hmem:=WT hlt
  have hr:=(hat _ hmem).rng
  have hx:=Xi6 h l[k]
  have hsz:=ZA h.Words l[k]
  have e:∀ kk:Int->Option (List Bool),(jn kk λ j1=>bif ((hdA h.Words l[k]).Kind==0) then j1 1 else j1 (YY (hdA h.Words l[k])))=kk (Jn h l[k]):=by
   intro kk
   rw[Yy]
   unfold Jn
   rw[hsz.1]
   by_cases q:(hdA h.Words l[k]).Kind=0
   ·rw[Wm q,show ((hdA h.Words l[k]).Kind==0)=true by simpa using q,Wc]
   ·rw[Wk q,show ((hdA h.Words l[k]).Kind==0)=false by simpa using q,Wa]
  rw[Wi (by omega),Wc,Xd,Wd hlt,Xa,hev _ hmem,Xa,YK,Xa]
  dsimp only
  rw[e]
  obtain ⟨u1,f1,f2,f3⟩:=XfY (N:=N) h hp i h0 h1 l k l[k] (Wd hlt) (Jn h l[k]) hx.2 (by omega) N 0 u (by omega) (by omega) hu
  rw[f1,Xa,Xh (by omega)]
  obtain ⟨u',g1,g2,g3⟩:=XfZ hN hp i h0 h1 l hl hat hev n (k+1) u1 (by omega) (by omega) (by omega)
  refine ⟨u',g1,g2.trans f2,λ j hj=>?_⟩
  rw[g3 j (by omega),f3 j hj,Bool.or_assoc,Ws hlt,List.any_cons]
  congr 2
  unfold Xg1
  exact decide_eq_decide.2 (by omega)
theorem Xk1 (hN:NB N) {h:Wo} (hp:UK h) (i:Int) (h0:0<=i) (h1:i<h.Pages.length) (l:List Int) (hl:l.length<=4096) (hat:∀ a∈l,IQ h a) (hev:∀ a∈l,Qau N h a=some (hdA h.Words a,0)) :
 ∃ u,Qfv N h i l=some u/\u.length=h.Conf.PageWords.toNat/\∀ j:Nat,j<u.length->u.getD j false=Xmp h i l (j:Int):=by
 have hv:=Xk.1 hp.conf
 rw[Qfv,Xi (by omega),show (0:Int)=((0:Nat):Int) from rfl]
 obtain ⟨u,e1,e2,e3⟩:=XfZ hN hp i h0 h1 l hl hat hev N 0 (List.replicate h.Conf.PageWords.toNat false) (by omega) (by unfold NB at hN;omega) (by rw[WL];omega)
 rw[e1,Xa]
 rw[WL] at e2 e3
 refine ⟨u,rfl,e2,λ j hj=>?_⟩
 rw[e3 j (by omega),WU,XcZ,show (List.replicate h.Conf.PageWords.toNat false).getD j false=false by rw[Wp,List.getElem?_replicate];split<;>rfl,Il]
def wdP (h:Wo) (i:Int) (k:Nat):Int:=wd h.Words (Xj h.Conf i 0+k)
theorem Xk2 (hN:NB N) {h:Wo} (hb:HB h) (hp:UK h) {i:Int} (h0:0<=i) (h1:i<h.Pages.length) {k:Nat} (hk:(k:Int)<h.Conf.PageWords):QeC N h i (k:Int)=some (wdP h i k):=by
 have hv:=Xk.1 hp.conf
 have hpl:=hp.pages
 have hm:=Yt hp.conf (i:=i) h0 (by omega)
 rw[QeC,Qf4,Jy,hp.conf,Wk (by simp),Wm (by omega),Xa,Zn (by unfold BIG;have:=hb.1;omega),Xa,Xa]
 have ea:Xj h.Conf i (k:Int)=Xj h.Conf i 0+k:=by unfold Xj;omega
 have hw:=hp.words
 rw[ea,Wm (by unfold inW Xj;simp;omega)]
 rfl
theorem Xf0 (hN:NB N) {h:Wo} (hb:HB h) (hp:UK h) {i:Int} (h0:0<=i) (h1:i<h.Pages.length) (u:List Bool) (hu:u.length=h.Conf.PageWords.toNat):∀ (n k:Nat),k<=u.length->u.length-k<n ->
 ∃ e,QbE N h i u n (k:Int)=some e/\((∃ j,k<=j/\j<u.length/\u.getD j false=false/\wdP h i j≠0)->∃ a,e=.ret a/\a≠0)/\((¬ ∃ j,k<=j/\j<u.length/\u.getD j false=false/\wdP h i j≠0)->e=.nxt ())
 | 0,k,_,hn=>by omega
 | n+1,k,hk,hn=>by
  have hv:=Xk.1 hp.conf
  have hpl:=hp.pages
  have hm:=Yt hp.conf (i:=i) h0 (by omega)
  rw[QbE]
  by_cases hlt:k<u.length
  case neg =>
   rw[Wj (by omega),Wa]
   exact ⟨_,rfl,λ ⟨j,a,b,_⟩=>by omega,λ _=>rfl⟩
  rw[Wi (by omega),Wc,Xd,Wd hlt,Xa,Xk2 hN hb hp h0 h1 (by omega),Xa,Xh (by omega)]
  have hg:u.getD k false=u[k]:=by rw[Wp,Wd hlt];rfl
  have skip:(u[k]=true\/wdP h i k=0)->∃ e,QbE N h i u n ((k+1:Nat):Int)=some e/\((∃ j,k<=j/\j<u.length/\u.getD j false=false/\wdP h i j≠0)->∃ a,e=.ret a/\a≠0)/\((¬ ∃ j,k<=j/\j<u.length/\u.getD j false=false/\wdP h i j≠0)->e=.nxt ()):=by
   intro hs
   obtain ⟨e,e1,e2,e3⟩:=Xf0 hN hb hp h0 h1 u hu n (k+1) (by omega) (by omega)
   refine ⟨e,e1,λ ⟨j,a,b,c,d⟩=>e2 ⟨j,?_,b,c,d⟩,λ hh=>e3 λ ⟨j,a,b⟩=>hh ⟨j,by omega,b⟩⟩
   by_cases hjk:j=k
   ·subst hjk
    rw[hg] at c
    rcases hs with hs | hs
    ·rw[hs] at c;cases c
    ·exact absurd hs d
   ·omega
  cases hc:u[k] with
  | true=>rw[Wt,Wa];exact skip (.inl hc)
  | false =>
   rw[WR,Wc]
   by_cases hz:wdP h i k=0
   ·rw[show (wdP h i k != 0)=false by simpa using hz,Wa];exact skip (.inr hz)
   ·rw[show (wdP h i k != 0)=true by simpa using hz,Wc,QeS,Xa]
    refine ⟨_,rfl,λ _=>⟨_,rfl,?_⟩,λ hh=>absurd ⟨k,by omega,hlt,by rw[hg,hc],hz⟩ hh⟩
    rw[Xc (n:=i*h.Conf.PageWords) (by omega) (by omega),Xc (n:=4096+i*h.Conf.PageWords) (by omega) (by omega),Xc (by omega) (by omega),XJ (by omega) (by omega)]
    omega
end
end Go.Sx
namespace Go.Sx
section
variable {N:Nat}
def Zs (L x:Int):Int:=if L<(if x<0 then 0 else x) then L else (if x<0 then 0 else x)
theorem Xc0 {v:List Int} {lo hi:Nat} (h1:lo<=hi) (h2:hi<=v.length):(((v.take lo)++(List.replicate (hi-lo) 0))++(v.drop (lo+(hi-lo)))).length=v.length:=by
 simp only[Wr,Wz,WL,WM];omega
theorem Xk3 {v:List Int} {lo hi:Nat} (h1:lo<=hi) (h2:hi<=v.length) (j:Nat):(((v.take lo)++(List.replicate (hi-lo) 0))++(v.drop (lo+(hi-lo)))).getD j 0=if lo<=j/\j<hi then 0 else v.getD j 0:=by
 simp only[Wp,UL,Wr,Wz,WL,Uk,List.getElem?_replicate,UU]
 by_cases a:j<lo
 ·rw[Wm (by omega),Wm (by omega),Wm a,Wk (by omega)]
 by_cases b:j<hi
 ·rw[Wm (by omega),Wk (by omega),Wm (by omega),Wm (by omega)];rfl
 ·rw[Wk (by omega),Wk (by omega)]
  congr 2;omega
theorem Xef (hN:NB N) {h:Wo} (ht:HT h) (hp:UK h) (i:Int) (h0:0<=i) (h1:i<h.Pages.length) (y4:List Int×Int) (hl:y4.1.length<=4096) (hat:∀ a∈y4.1,IQ h a) (hev:∀ a∈y4.1,Qau N h a=some (hdA h.Words a,0)):∀ (n k:Nat) (v:List Int),k<=y4.1.length->y4.1.length-k<n->v.length<=1000 ->
 ∃ v',Qde N h (Xj h.Conf i 0,0) y4 n (k:Int) v=some v'/\v'.length=v.length/\∀ j:Nat,j<v.length->v'.getD j 0=if (y4.1.drop k).any (Xg1 h i (j:Int))=true then 0 else v.getD j 0
 | 0,k,v,_,hn,_=>by omega
 | n+1,k,v,hk,hn,hv=>by
  have hcv:=Xk.1 hp.conf
  have hpl:=hp.pages
  have hm:=Yt hp.conf (i:=i) h0 (by omega)
  have hN':1000000<N:=by unfold NB at hN;omega
  rw[Qde]
  by_cases hlt:k<y4.1.length
  case neg =>
   rw[Wj (by omega),Wa,WK (by omega)]
   exact ⟨v,rfl,rfl,λ j hj=>by simp⟩
  have hmem:=WT hlt
  have hr:=(hat _ hmem).rng
  have hx:=Xi6 h y4.1[k]
  have hsz:=ZA h.Words y4.1[k]
  have e:∀ kk:Int->Option (List Int),(jn kk λ j1=>bif ((hdA h.Words y4.1[k]).Kind != 0) then (bnd (some (YY (hdA h.Words y4.1[k]))) λ y9=>j1 y9) else j1 1)=kk (Jn h y4.1[k]):=by
   intro kk
   rw[Yy]
   unfold Jn
   rw[hsz.1]
   by_cases q:(hdA h.Words y4.1[k]).Kind=0
   ·rw[Wm q,show ((hdA h.Words y4.1[k]).Kind != 0)=false by simpa using q,Wa]
   ·rw[Wk q,show ((hdA h.Words y4.1[k]).Kind != 0)=true by simpa using q,Wc,Xa]
  rw[Wi (show (k:Int)<((y4.1.length:Nat):Int) by omega),Wc,Xd,Wd hlt,Xa,Xbn hN ht ((hat _ hmem).tu hp),hev _ hmem,Xa,KJ (by omega)]
  dsimp only
  rw[e]
  have ad:Xj h.Conf i 0=4096+i*h.Conf.PageWords:=by unfold Xj;omega
  have w0:wI y4.1[k]=y4.1[k]:=Xc (by omega) (by omega)
  have w1:wI (Xj h.Conf i 0)=Xj h.Conf i 0:=Xc (by omega) (by omega)
  have w2:wI (y4.1[k]-Xj h.Conf i 0)=y4.1[k]-Xj h.Conf i 0:=Xc (by omega) (by omega)
  have w3:wI (y4.1[k]-Xj h.Conf i 0+Jn h y4.1[k])=y4.1[k]-Xj h.Conf i 0+Jn h y4.1[k]:=Xc (by omega) (by omega)
  simp only[w0,w1,w2,w3,Xh (show k<=140737488355328 by omega)]
  rw[Xi (by omega),Xi (by omega)]
  have cl:∀ x:Int,(if ((v.length:Nat):Int)<(if x<0 then 0 else x) then ((v.length:Nat):Int) else (if x<0 then 0 else x))=Zs v.length x:=λ _=>rfl
  simp only[cl]
  have c1:∀ x:Int,0<=Zs v.length x/\Zs v.length x<=v.length:=by intro x;unfold Zs;split<;>split<;>omega
  generalize hA:y4.1[k]-Xj h.Conf i 0=A at *
  have a1:=c1 A
  have a2:=c1 (A+Jn h y4.1[k])
  have a3:Zs v.length A<=Zs v.length (A+Jn h y4.1[k]):=by
   unfold Zs;repeat' split
   all_goals omega
  rw[Xi (by omega)]
  obtain ⟨v',g1,g2,g3⟩:=Xef hN ht hp i h0 h1 y4 hl hat hev n (k+1) _ (by omega) (by omega) (by rw[Xc0 (v:=v) (lo:=(Zs v.length A).toNat) (hi:=(Zs v.length (A+Jn h y4.1[k])).toNat) (by omega) (by omega)];exact hv)
  refine ⟨v',g1,by rw[g2,Xc0 (by omega) (by omega)],λ j hj=>?_⟩
  rw[g3 j (by rw[Xc0 (by omega) (by omega)];exact hj),Xk3 (by omega) (by omega),Ws hlt,List.any_cons]
  have ec:Xg1 h i (j:Int) y4.1[k]=decide ((Zs v.length A).toNat<=j/\j<(Zs v.length (A+Jn h y4.1[k])).toNat):=by
   unfold Xg1
   rw[hA]
   refine decide_eq_decide.2 ?_
   unfold Zs
   repeat' split
   all_goals omega
  rw[ec]
  by_cases q:(Zs v.length A).toNat<=j/\j<(Zs v.length (A+Jn h y4.1[k])).toNat
  ·rw[Wm q,Wi q,Bool.true_or,Wm rfl];exact ite_self _
  ·rw[Wk q,Wj q,Il]
theorem Xk4 (l:List Int) (hl:l.length<=1000000) (hN:1000000<N):QaF N l=some (Ji (λ x=>x != 0) l):=by
 rw[QaF]
 exact Jj (p:=λ x:Int=>x != 0) hl hN (λ n k x e=>by
  have hk:=Xv e
  rw[Qan,Xy hk,Wc,Xd,e,Xa,Qf9,Xa,Xh (by omega)]) (λ n=>by rw[Qan,Xs,Wa])
theorem Xi7 (hN:NB N) {h:Wo} (ht:HT h) (ep:Qad N h=some true) {i:Int} (h0:0<=i) (h1:i<h.Pages.length) :
 ∃ a,Qd1 N h i=some a/\∃ b,QfB N h i=some (b,a != 0):=by
 have hN':1000000<N:=by unfold NB at hN;omega
 have hb:=ht.hb
 have hp:=JF hN hb ep
 have hcv:=Xk.1 hp.conf
 have hpl:=hp.pages
 have hm:=Yt hp.conf (i:=i) h0 (by omega)
 have ad:Xj h.Conf i 0=4096+i*h.Conf.PageWords:=by unfold Xj;omega
 have hw:=hp.words
 obtain ⟨pw,hpw⟩:∃ pw:Nat,h.Conf.PageWords=(pw:Int):=⟨h.Conf.PageWords.toNat,by omega⟩
 have hin:Yu h.Words (Xj h.Conf i 0) pw:=by unfold Yu;omega
 have erd:Qcq N h.Words (Xj h.Conf i 0) h.Conf.PageWords=some ((h.Words.drop (ix (Xj h.Conf i 0))).take pw,0):=by
  rw[hpw,Xaj (by unfold BIG;have:=hb.1;omega) N _ pw (by omega),Wm hin]
 have eadr:QbD N h.Conf i 0=some (Xj h.Conf i 0,0):=by rw[Jy,hp.conf,Wk (by simp),Wm (by omega)]
 have hau:Xj h.Conf i 0<=18446744073709551615:=by omega
 obtain ⟨hd,eh,hh0,hh1⟩:=XcL N (h:=h) hp.first N i h0 h1 hb.2 (by have:=hb.2;unfold NB at hN;omega)
 have eh':Qd0 N h i=some hd:=by rw[Qd0,eh,Xa]
 obtain ⟨r,er,hr,hlen⟩:=Qha hN hb hp hd hh0 hh1
 obtain ⟨⟨hat,hev,_⟩,_,_⟩:=hr
 obtain ⟨u,eu,hu1,hu2⟩:=Xk1 hN hp i h0 h1 r.1 (by omega) hat hev
 obtain ⟨e,e1,e2,e3⟩:=Xf0 hN hb hp h0 h1 u hu1 N 0 (by omega) (by omega)
 rw[Qd1,eh',Xa,er,Xa,eu,Xa,show (0:Int)=((0:Nat):Int) from rfl,e1,Xa]
 rw[QfB,Xd8,eadr,Xa,Xi4 (by have:=hb.1;omega) hau]
 dsimp only
 rw[erd,Xa,Xi5 hN hb hp h0 h1,eh',Xa,Xec hN ht,er,Xa]
 dsimp only
 have hvl:((h.Words.drop (ix (Xj h.Conf i 0))).take pw).length=pw:=by
  rw[Wz,WM];unfold ix;unfold Yu at hin;omega
 obtain ⟨v,g1,g2,g3⟩:=Xef hN ht hp i h0 h1 r (by omega) hat hev N 0 ((h.Words.drop (ix (Xj h.Conf i 0))).take pw) (by omega) (by omega) (by omega)
 have g1':Qde N h (Xj h.Conf i 0,0) r N 0 ((h.Words.drop (ix (Xj h.Conf i 0))).take pw)=some v:=g1
 have hul:u.length=pw:=by clear e2 e3;omega
 have hvL:v.length=pw:=by rw[g2,hvl]
 rw[g1',Xa,Xk4 v (by clear e2 e3;omega) hN',Xa]
 have hany:decide (Ji (λ x=>x != 0) v>=0)=v.any (λ x=>x != 0):=KI _ v
 rw[hany]
 have hword:∀ j,j<pw->((h.Words.drop (ix (Xj h.Conf i 0))).take pw).getD j 0=wdP h i j:=by
  intro j hj
  unfold wdP wd ix
  rw[Wp,Uk,Wm hj,UU,Wp]
  congr 2;omega
 clear hu1
 have iff1:v.any (λ x=>x != 0)=true↔∃ j,0<=j/\j<u.length/\u.getD j false=false/\wdP h i j≠0:=by
  rw[IO]
  constructor
  ·rintro ⟨x,hx,hx0⟩
   obtain ⟨j,hj,rfl⟩:=W0 hx
   have hj':j<pw:=by omega
   have:=g3 j (by omega)
   rw[Wp,Wd hj,Uw,hword j hj',WU,← XcZ] at this
   have hne:v[j]≠0:=by simpa using hx0
   refine ⟨j,IH _,by omega,?_,?_⟩
   ·rw[hu2 j (by omega)]
    cases hc:Xmp h i r.1 (j:Int) with
    | false=>rfl
    | true=>rw[hc,Wm rfl] at this;exact absurd this hne
   ·intro hz
    rw[hz,ite_self] at this;exact hne this
  ·rintro ⟨j,_,hj,hc,hz⟩
   have hj':j<v.length:=by omega
   refine ⟨v[j],WT hj',?_⟩
   have:=g3 j (by omega)
   rw[Wp,Wd hj',Uw,hword j (by omega),WU,← XcZ,← hu2 j hj,hc,Wk (by simp)] at this
   rw[this];simpa using hz
 by_cases hex:∃ j,0<=j/\j<u.length/\u.getD j false=false/\wdP h i j≠0
 ·obtain ⟨a,rfl,ha⟩:=e2 hex
  rw[Xz,iff1.2 hex]
  exact ⟨a,rfl,_,by rw[show (a != ((0:Nat):Int))=true by simpa using ha]⟩
 ·have hne:=e3 hex
  subst hne
  rw[Xq,show v.any (λ x=>x != 0)=false by rw[← IL];exact λ hh=>hex (iff1.1 hh)]
  exact ⟨_,rfl,_,rfl⟩
end
end Go.Sx
namespace Go.Sx
theorem Kn {α β:Type} {L:Nat} {F:Nat->Int->Option (Ex α β)} {p:Nat->Prop} {Q:α->Prop} {u:β}
 (hbad:∀ n k,k<L->p k->∃ a,F (n+1) (k:Int)=some (.ret a)/\Q a)
 (hok:∀ n k,k<L->¬ p k->F (n+1) (k:Int)=F n ((k+1:Nat):Int))
 (hstop:∀ n,F (n+1) (L:Int)=some (.nxt u)):∀ (n k:Nat),k<=L->L-k<n ->
 ∃ e,F n (k:Int)=some e/\((∃ j,k<=j/\j<L/\p j)->∃ a,e=.ret a/\Q a)/\((¬ ∃ j,k<=j/\j<L/\p j)->e=.nxt u)
 | 0,k,_,hn=>by omega
 | n+1,k,hk,hn=>by
  by_cases hlt:k<L
  case neg =>
   obtain rfl:k=L:=by omega
   exact ⟨_,hstop n,λ ⟨j,a,b,_⟩=>by omega,λ _=>rfl⟩
  by_cases hp:p k
  ·obtain ⟨a,e,hq⟩:=hbad n k hlt hp
   exact ⟨_,e,λ _=>⟨a,rfl,hq⟩,λ hh=>absurd ⟨k,Ue _,hlt,hp⟩ hh⟩
  ·obtain ⟨e,e1,e2,e3⟩:=Kn hbad hok hstop n (k+1) (by omega) (by omega)
   refine ⟨e,(hok n k hlt hp).trans e1,λ ⟨j,a,b,c⟩=>e2 ⟨j,?_,b,c⟩,λ hh=>e3 λ ⟨j,a,b⟩=>hh ⟨j,by omega,b⟩⟩
   by_cases hjk:j=k
   ·subst hjk;exact absurd c hp
   ·omega
section
variable {N:Nat}
theorem Xi8 (l:List Int) (x:Int) (hl:l.length<=1000000) (hs:l.Pairwise (·<·)):∀ (n lo hi:Nat),lo<=hi->hi<=l.length->hi-lo<n->(∀ i (h:i<l.length),i<lo->l[i]<x)->(∀ i (h:i<l.length),hi<=i->x<=l[i]) ->
 ∃ k:Nat,Qal N l x n (lo:Int) (hi:Int)=some (k:Int)/\k<=l.length/\(∀ i (h:i<l.length),i<k->l[i]<x)/\(∀ i (h:i<l.length),k<=i->x<=l[i])
 | 0,lo,hi,_,_,hn,_,_=>by omega
 | n+1,lo,hi,h1,h2,hn,ha,hb=>by
  rw[Qal]
  by_cases hlt:lo<hi
  case neg =>
   rw[Wj (by omega),Wa]
   exact ⟨lo,rfl,by omega,ha,λ i h hi'=>hb i h (by omega)⟩
  have hmid:wI (X2 .u64 (wU (wI ((lo:Int)+hi))) 1)=(((lo+hi) / 2:Nat):Int):=by
   rw[Xc (n:=(lo:Int)+hi) (by omega) (by omega),XJ (by omega) (by omega),show X2 .u64 ((lo:Int)+hi) 1=((lo:Int)+hi) / 2 from Yz _ 1 (by omega) (by omega),Xc (by omega) (by omega)]
   omega
  have hm:(lo+hi) / 2<l.length:=by omega
  have hlm:lo<=(lo+hi) / 2/\(lo+hi) / 2<hi:=by omega
  generalize (lo+hi) / 2=m at *
  rw[Wi (by omega),Wc,hmid,Xd,Wd hm,Xa,Qfb,QdQ,Xa,show (l[m] != l[m])=false by simp,Wa,Xa]
  have hpw:=UY.1 hs
  by_cases hc:l[m]<x
  ·rw[Wi hc,Wc,Xh (by omega)]
   refine Xi8 l x hl hs n (m+1) hi (by omega) h2 (by omega) (λ i h hi'=>?_) hb
   by_cases him:i=m
   ·subst him;exact hc
   ·exact Int.lt_trans (hpw i m h hm (by omega)) hc
  ·rw[Wj hc,Wa]
   refine Xi8 l x hl hs n lo m (by omega) (by omega) (by omega) ha (λ i h hi'=>?_)
   by_cases him:i=m
   ·subst him;omega
   ·have:=hpw m i hm h (by omega);omega
theorem Xi9 (l:List Int) (x:Int) (hl:l.length<=1000000) (hN:1000000<N) (hs:l.Pairwise (·<·)):∃ k:Int,Qaq N l x=some (k,l.contains x):=by
 obtain ⟨k,e,hk,h1,h2⟩:=Xi8 (N:=N) l x hl hs N 0 l.length (by omega) (by omega) (by omega) (λ i h hi=>by omega) (λ i h hi=>by omega)
 rw[Qaq,show (0:Int)=((0:Nat):Int) from rfl,e,Xa]
 by_cases hlt:k<l.length
 ·rw[Wi (by omega),Wc,Xd,Wd hlt,Xa]
  by_cases hx:l[k]=x
  ·refine ⟨k,?_⟩
   rw[show (l[k]==x)=true by simpa using hx,Wc,show l.contains x=true by rw[U1,← hx];exact WT hlt]
  ·refine ⟨k,?_⟩
   rw[show (l[k]==x)=false by simpa using hx,Wa,Xa,QcK,Xa,show (l[k] != l[k])=false by simp,Wa]
   have:l.contains x=false:=by
    rw[← IL,U1]
    intro hm
    obtain ⟨i,hi,rfl⟩:=W0 hm
    have hpw:=UY.1 hs
    by_cases hik:i<k
    ·have:=h1 i hi hik;omega
    ·have a:=h2 k hlt (Ue _)
     by_cases heq:i=k
     ·subst heq;exact hx rfl
     ·have:=hpw k i hlt hi (by omega);omega
   rw[this]
 ·refine ⟨k,?_⟩
  rw[Wj (by omega),Wa]
  have:l.contains x=false:=by
   rw[← IL,U1]
   intro hm
   obtain ⟨i,hi,rfl⟩:=W0 hm
   have:=h1 i hi (by omega);omega
  rw[this]
theorem Od.asc {h:Wo} {l:List Int} (o:Od N h l):l.Pairwise (·<·) :=
 o.pw.imp λ {a b} hab=>by have:=(ZA h.Words a).2;omega
theorem JN {d:Ww}:∀ {k:Nat} {i x:Int},i<=x->x<i+k->Kh d x=true->x∈X8 d k i
 | 0,i,x,h1,h2,_=>by omega
 | k+1,i,x,h1,h2,h3=>by
  simp only[X8,WG]
  by_cases hx:x=i
  ·subst hx;left;rw[Wm h3];simp
  ·right;exact JN (by omega) (by omega) h3
theorem VY {d:Ww} (hv:XL d=true) {x:Int}:x∈Zo d↔0<=x/\x<d.Length/\Kh d x=true:=by
 have hb:=XS hv
 unfold Zo
 rw[Wm hv]
 constructor
 ·intro h;have:=KS h;exact ⟨by omega,by omega,this.2.2⟩
 ·intro h;exact JN (by omega) (by omega) h.2.2
end
end Go.Sx
namespace Go.Sx
section
variable {N:Nat}
def Xmq (h:Wo) (l:List Int) (a i:Int):Prop:=wd h.Words (a+1+i)≠0/\l.contains (wd h.Words (a+1+i))=false
def J1 (h:Wo) (l:List Int) (a:Int):Prop:=∃ i,i∈Zo (hdA h.Words a)/\Xmq h l a i
theorem JH (h:Wo) (a:Int):XL (hdA h.Words a)=true:=JV _
theorem Xk5 {h:Wo} (hp:UK h) {a:Int} (ha:IQ h a) {i:Int} (h0:0<=i) (h1:i<(hdA h.Words a).Length):4096<=a+1+i/\a+1+i<4096+h.Words.length/\a+1+i<=8192/\(hdA h.Words a).Length<=255:=by
 have:=XcJ hp ha
 have:=ha.rng
 have:=ZA h.Words a
 have hv:=Xk.1 hp.conf
 have:=Yt hp.conf (i:=0) (by omega) (by omega)
 have:=hp.words
 unfold szA at *
 omega
theorem Xnj (hN:NB N) {h:Wo} (ht:HT h) (hp:UK h) (y1:List Int×Int) (hl:y1.1.length<=1000000) (hs:y1.1.Pairwise (·<·)) (v2:Int) {a:Int} (ha:IQ h a) :
 ∃ e,QaD N h y1 v2 a (Zo (hdA h.Words a)) N 0=some e/\(J1 h y1.1 a->∃ b,e=.ret b/\b≠0)/\(¬ J1 h y1.1 a->e=.nxt ()):=by
 have hN':1000000<N:=by unfold NB at hN;omega
 have hb:=ht.hb
 have hv:=JH h a
 have hb255:=XS hv
 have hpl:(Zo (hdA h.Words a)).length<=255:=by
  unfold Zo;rw[Wm hv];have:=KT (d:=hdA h.Words a) (k:=(hdA h.Words a).Length.toNat) (i:=0);omega
 have hmem:∀ k (hk:k<(Zo (hdA h.Words a)).length),0<=(Zo (hdA h.Words a))[k]/\(Zo (hdA h.Words a))[k]<(hdA h.Words a).Length:=λ k hk=>by
  have:=(VY hv).1 (WT hk);exact ⟨this.1,this.2.1⟩
 generalize hps:Zo (hdA h.Words a)=ps at *
 have hr:=ha.rng
 have step:∀ n k (hk:k<ps.length),QaD N h y1 v2 a ps (n+1) (k:Int)=bif (wd h.Words (a+1+ps[k]) != 0) then (bif (!y1.1.contains (wd h.Words (a+1+ps[k]))) then some (.ret (a+1+ps[k])) else QaD N h y1 v2 a ps n ((k+1:Nat):Int)) else QaD N h y1 v2 a ps n ((k+1:Nat):Int):=by
  intro n k hk
  have hm:=hmem k hk
  have hf:=Xk5 hp ha hm.1 hm.2
  have hw8:(h.Words.length:Int)<=100000:=by have:=hb.1;omega
  have w1:wU (wU (a+1)+wU ps[k])=a+1+ps[k]:=by
   rw[XJ (n:=a+1) (by omega) (by omega),XJ (n:=ps[k]) (by omega) (by omega),XJ (by omega) (by omega)]
  rw[QaD,Wi (by omega),Wc,Xd,Wd hk,Xa,w1,Xbm (by have:=hb.1;omega) (by omega),Zn (by unfold BIG;have:=hb.1;omega),Wm (by unfold inW;omega),Xa]
  dsimp only
  obtain ⟨q,eq⟩:=Xi9 (N:=N) y1.1 (h.Words.getD (ix (a+1+ps[k])) 0) hl hN' hs
  rw[eq,Xa,Xh (by omega)]
  rfl
 have key:=Kn (L:=ps.length) (F:=QaD N h y1 v2 a ps) (p:=λ k=>∃ hk:k<ps.length,Xmq h y1.1 a ps[k]) (Q:=λ b=>b≠0) (u:=())
  (λ n k hk hbad=>by
   obtain ⟨hk',h1,h2⟩:=hbad
   refine ⟨a+1+ps[k],?_,?_⟩
   ·rw[step n k hk,show (wd h.Words (a+1+ps[k]) != 0)=true by simpa using h1,Wc,h2];rfl
   ·have:=hmem k hk;omega)
  (λ n k hk hnb=>by
   rw[step n k hk]
   by_cases h1:wd h.Words (a+1+ps[k])=0
   ·rw[show (wd h.Words (a+1+ps[k]) != 0)=false by simpa using h1,Wa]
   ·rw[show (wd h.Words (a+1+ps[k]) != 0)=true by simpa using h1,Wc]
    cases h2:y1.1.contains (wd h.Words (a+1+ps[k])) with
    | true=>rfl
    | false=>exact absurd ⟨hk,h1,h2⟩ hnb)
  (λ n=>by rw[QaD,Wj (by omega),Wa]) N 0 (by omega) (by omega)
 obtain ⟨e,e1,e2,e3⟩:=key
 refine ⟨e,e1,λ hbo=>?_,λ hbo=>?_⟩
 ·obtain ⟨i,hi,hbp⟩:=hbo
  rw[hps] at hi
  obtain ⟨j,hj,rfl⟩:=W0 hi
  exact e2 ⟨j,IH _,hj,hj,hbp⟩
 ·refine e3 λ ⟨j,_,hj,hj',hbp⟩=>hbo ⟨ps[j],?_,hbp⟩
  rw[hps];exact WT hj
theorem XlH (hN:NB N) {h:Wo} (ht:HT h) (hp:UK h) (y1:List Int×Int) (hl:y1.1.length<=1000000) (hs:y1.1.Pairwise (·<·)) (hat:∀ a∈y1.1,IQ h a) (hev:∀ a∈y1.1,Qau N h a=some (hdA h.Words a,0)):∀ (n k:Nat),k<=y1.1.length->y1.1.length-k<n ->
 ∃ r,QbR N h y1 n (k:Int)=some r/\((∃ a∈y1.1.drop k,J1 h y1.1 a)->r≠0)/\((¬ ∃ a∈y1.1.drop k,J1 h y1.1 a)->r=0)
 | 0,k,_,hn=>by omega
 | n+1,k,hk,hn=>by
  have hN':1000000<N:=by unfold NB at hN;omega
  rw[QbR]
  by_cases hlt:k<y1.1.length
  case neg =>
   rw[Wj (by omega),Wa,WK (by omega)]
   exact ⟨0,rfl,λ ⟨a,ha,_⟩=>by simp at ha,λ _=>rfl⟩
  have hm:=WT hlt
  rw[Wi (by omega),Wc,Xd,Wd hlt,Xa,Xbn hN ht ((hat _ hm).tu hp),hev _ hm,Xa,XgX (by omega) _ (JH h _),Xa]
  obtain ⟨e,e1,e2,e3⟩:=Xnj hN ht hp y1 hl hs (k:Int) (hat _ hm)
  rw[e1,Xa,Ws hlt]
  by_cases hbo:J1 h y1.1 y1.1[k]
  ·obtain ⟨b,rfl,hb0⟩:=e2 hbo
   rw[Xz]
   exact ⟨b,rfl,λ _=>hb0,λ hh=>absurd ⟨_,IA,hbo⟩ hh⟩
  ·have:=e3 hbo
   subst this
   rw[Xq,Xh (by omega)]
   obtain ⟨r,r1,r2,r3⟩:=XlH hN ht hp y1 hl hs hat hev n (k+1) (by omega) (by omega)
   refine ⟨r,r1,λ ⟨a,ha,hb⟩=>r2 ⟨a,?_,hb⟩,λ hh=>r3 λ ⟨a,ha,hb⟩=>hh ⟨a,W9 _ ha,hb⟩⟩
   rcases UN.1 ha with rfl | ha
   ·exact absurd hb hbo
   ·exact ha
theorem Xja (hN:NB N) {h:Wo} (hb:HB h) (ep:Qad N h=some true) {a:Int} (ha:IQ h a) (hev:Qau N h a=some (hdA h.Words a,0)) (hk:(hdA h.Words a).Kind≠0):Qca N h a=some (hdA h.Words a,0):=by
 have:=ha.rng
 rw[Qca,ep,Xa,Wt,Wa,show (a==0)=false by simp;omega,Wa,hev,Xa]
 dsimp only
 rw[show ((0:Int)==0)=true from rfl,Wc,show ((hdA h.Words a).Kind==0)=false by simpa using hk,Wa]
theorem Xg2 (hN:NB N) {h:Wo} (hb:HB h) (ep:Qad N h=some true) {a:Int} (ha:IQ h a) (hev:Qau N h a=some (hdA h.Words a,0)) (hk:(hdA h.Words a).Kind≠0):∃ l,QdI N h a=some (l,0)/\(l.length:Int)=(hdA h.Words a).Length/\∀ (j:Nat) (hj:j<l.length),l[j]=wd h.Words (a+1+j):=by
 have hp:=JF hN hb ep
 have hv:=XS (JH h a)
 have hr:=ha.rng
 have hfit:=XcJ hp ha
 have hm:=Yt hp.conf (i:=0) (by omega) (by have:=Xk.1 hp.conf;omega)
 have hw:=hp.words
 unfold szA at hfit
 obtain ⟨m,hm'⟩:∃ m:Nat,(hdA h.Words a).Length=(m:Int):=⟨(hdA h.Words a).Length.toNat,by omega⟩
 rw[QdI,Xja hN hb ep ha hev hk,Xa]
 dsimp only
 rw[show ((0:Int) != 0)=false from rfl,Wa,XJ (n:=a+1) (by omega) (by omega),hm',Xaj (by unfold BIG;have:=hb.1;omega) N _ m (by omega),Wm (by unfold Yu;omega),Xa]
 refine ⟨_,rfl,?_,λ j hj=>?_⟩
 ·rw[Wz,WM];unfold ix;omega
 ·have hj':j<m:=by rw[Wz] at hj;omega
  rw[List.getElem_take,List.getElem_drop]
  unfold wd
  rw[Wp,show ix (a+1+(j:Int))=ix (a+1)+j by unfold ix;omega,Wd (by rw[Wz,WM] at hj;omega)];rfl
end
end Go.Sx
namespace Go.Sx
section
variable {N:Nat}
theorem Xnk (hN:NB N) {h:Wo} (hb:HB h) (hp:UK h) (y1 y6:List Int×Int) (hl:y1.1.length<=1000000) (v2:Int) {a:Int} (hv2:Xb y1.1 v2=some a) (ha:IQ h a) (hy:(y6.1.length:Int)=(hdA h.Words a).Length) (hf:∀ (j:Nat) (hj:j<y6.1.length),y6.1[j]=wd h.Words (a+1+j)) :
 ∃ e,Qak N h y1 y6 v2 (hdA h.Words a,0) N 0=some e/\(J1 h y1.1 a->∃ f,e=.ret f/\f.Fault≠0)/\(¬ J1 h y1.1 a->e=.nxt ()):=by
 have hN':1000000<N:=by unfold NB at hN;omega
 have hv:=JH h a
 have hb255:=XS hv
 have step:∀ n k (hk:k<y6.1.length),Qak N h y1 y6 v2 (hdA h.Words a,0) (n+1) (k:Int)=bif Kh (hdA h.Words a) (k:Int) then (bif (wd h.Words (a+1+k) != 0) then (bif (!y1.1.contains (wd h.Words (a+1+k))) then (bnd (QcM N h.Conf (wU ((wU (a+1))+(wU (k:Int))))) λ y13=>some (.ret (Ud.mk 6 y13.1 (wU ((wU (a+1))+(wU (k:Int))))))) else Qak N h y1 y6 v2 (hdA h.Words a,0) n ((k+1:Nat):Int)) else Qak N h y1 y6 v2 (hdA h.Words a,0) n ((k+1:Nat):Int)) else Qak N h y1 y6 v2 (hdA h.Words a,0) n ((k+1:Nat):Int):=by
  intro n k hk
  rw[Qak,Wi (by omega),Wc,Jv,Xa,Xd,Wd hk,hf k hk,Xh (by omega)]
  simp only[Xa,Y8 (wd h.Words (a+1+(k:Int))) (show y1.1.length<=1000000000 by omega) (show y1.1.length<N by omega),hv2]
 have key:=Kn (L:=y6.1.length) (F:=Qak N h y1 y6 v2 (hdA h.Words a,0)) (p:=λ k=>Kh (hdA h.Words a) (k:Int)=true/\Xmq h y1.1 a (k:Int)) (Q:=λ f=>f.Fault≠0) (u:=())
  (λ n k hk hbad=>by
   obtain ⟨h0,h1,h2⟩:=hbad
   rw[step n k hk,h0,Wc,show (wd h.Words (a+1+(k:Int)) != 0)=true by simpa using h1,Wc,h2,WR,Wc,Vm,Xa]
   exact ⟨_,rfl,by show (6:Int)≠0;omega⟩)
  (λ n k hk hnb=>by
   rw[step n k hk]
   cases h0:Kh (hdA h.Words a) (k:Int) with
   | false=>rfl
   | true =>
   rw[Wc]
   by_cases h1:wd h.Words (a+1+(k:Int))=0
   ·rw[show (wd h.Words (a+1+(k:Int)) != 0)=false by simpa using h1,Wa]
   ·rw[show (wd h.Words (a+1+(k:Int)) != 0)=true by simpa using h1,Wc]
    cases h2:y1.1.contains (wd h.Words (a+1+(k:Int))) with
    | true=>rfl
    | false=>exact absurd ⟨h0,h1,h2⟩ hnb)
  (λ n=>by rw[Qak,Wj (by omega),Wa]) N 0 (by omega) (by omega)
 obtain ⟨e,e1,e2,e3⟩:=key
 refine ⟨e,e1,λ hbo=>?_,λ hbo=>?_⟩
 ·obtain ⟨i,hi,hbp⟩:=hbo
  have hm:=(VY hv).1 hi
  obtain ⟨j,rfl⟩:∃ j:Nat,i=(j:Int):=⟨i.toNat,by omega⟩
  exact e2 ⟨j,IH _,by omega,hm.2.2,hbp⟩
 ·exact e3 λ ⟨j,_,hj,hpj,hbp⟩=>hbo ⟨(j:Int),(VY hv).2 ⟨by omega,by omega,hpj⟩,hbp⟩
theorem XlI (hN:NB N) {h:Wo} (hb:HB h) (ep:Qad N h=some true) (y1:List Int×Int) (hl:y1.1.length<=1000000) (hat:∀ a∈y1.1,IQ h a) (hev:∀ a∈y1.1,Qau N h a=some (hdA h.Words a,0)) (hkd:∀ a∈y1.1,(hdA h.Words a).Kind≠0):∀ (n k:Nat),k<=y1.1.length->y1.1.length-k<n ->
 ∃ e,Qa3 N h y1 n (k:Int)=some e/\((∃ a∈y1.1.drop k,J1 h y1.1 a)->∃ f,e=.ret f/\f.Fault≠0)/\((¬ ∃ a∈y1.1.drop k,J1 h y1.1 a)->e=.nxt ())
 | 0,k,_,hn=>by omega
 | n+1,k,hk,hn=>by
  have hN':1000000<N:=by unfold NB at hN;omega
  have hp:=JF hN hb ep
  rw[Qa3]
  by_cases hlt:k<y1.1.length
  case neg =>
   rw[Wj (by omega),Wa,WK (by omega)]
   exact ⟨_,rfl,λ ⟨a,ha,_⟩=>by simp at ha,λ _=>rfl⟩
  have hm:=WT hlt
  have hg:Xb y1.1 (k:Int)=some y1.1[k]:=by rw[Xd,Wd hlt]
  obtain ⟨l,f1,f2,f3⟩:=Xg2 hN hb ep (hat _ hm) (hev _ hm) (hkd _ hm)
  rw[Wi (by omega),Wc,hg,Xa,Xja hN hb ep (hat _ hm) (hev _ hm) (hkd _ hm),Xa,Xa,f1,Xa]
  obtain ⟨e,e1,e2,e3⟩:=Xnk hN hb hp y1 (l,0) hl (k:Int) hg (hat _ hm) f2 f3
  rw[e1,Xa,Ws hlt]
  by_cases hbo:J1 h y1.1 y1.1[k]
  ·obtain ⟨f,rfl,hb0⟩:=e2 hbo
   rw[Xz]
   exact ⟨_,rfl,λ _=>⟨f,rfl,hb0⟩,λ hh=>absurd ⟨_,IA,hbo⟩ hh⟩
  ·have:=e3 hbo
   subst this
   rw[Xq,Xh (by omega)]
   obtain ⟨r,r1,r2,r3⟩:=XlI hN hb ep y1 hl hat hev hkd n (k+1) (by omega) (by omega)
   refine ⟨r,r1,λ ⟨a,ha,hb⟩=>r2 ⟨a,?_,hb⟩,λ hh=>r3 λ ⟨a,ha,hb⟩=>hh ⟨a,W9 _ ha,hb⟩⟩
   rcases UN.1 ha with rfl | ha
   ·exact absurd hb hbo
   ·exact ha
theorem KY (hN:NB N) {h:Wo} (hb:HB h):∃ y,Qas N h=some y/\y.1.length<=4096/\y.1.Pairwise (·<·)/\(∀ a∈y.1,IQ h a)/\(∀ a∈y.1,Qau N h a=some (hdA h.Words a,0))/\(∀ a∈y.1,(hdA h.Words a).Kind≠0):=by
 obtain ⟨y,e,hs,_,_⟩:=ZB hN hb
 refine ⟨y,e,hs.len,hs.obj.asc,hs.obj.at_,hs.obj.ev,?_⟩
 obtain ⟨r,er,hr,_,_⟩:=VM hN hb
 have hlen:=hr.len
 rw[Qas,er,Xa,show (0:Int)=((0:Nat):Int) from rfl,Xas r (by omega) hr.obj.ev N 0 [] (by omega) (by unfold NB at hN;omega) (by simp),Xa,WU,Ur] at e
 cases e
 intro a ha
 have:=(UM.1 ha).2
 simpa [Kf,fnd] using this
def zF:Ud:=⟨0,0,0⟩
def Xk6 (P:Prop) (o:Option Ud):Prop:=∃ f,o=some f/\(P->f.Fault≠0)/\(¬ P->f=zF)
theorem Xeg (hN:NB N) {h:Wo} (ht:HT h) (ep:Qad N h=some true) {y:List Int×Int} (ey:Qas N h=some y):Xk6 (∃ a∈y.1,J1 h y.1 a) (Qew N h)/\Xk6 (∃ a∈y.1,J1 h y.1 a) (QcN N h):=by
 have hb:=ht.hb
 have hp:=JF hN hb ep
 obtain ⟨y',ey',hl,hs,hat,hev,hkd⟩:=KY hN hb
 rw[ey] at ey';cases ey'
 have hbig:y.1.length<N:=by unfold NB at hN;omega
 constructor
 ·obtain ⟨r,e1,e2,e3⟩:=XlH hN ht hp y (by omega) hs hat hev N 0 (by omega) (by omega)
  rw[Qew,Jm hN ht,ey,Xa]
  have e1':QbR N h y N 0=some r:=e1
  rw[e1',Xa]
  rw[WU] at e2 e3
  by_cases hbo:∃ a∈y.1,J1 h y.1 a
  ·rw[show (r==0)=false by simpa using e2 hbo,Wa]
   have:∃ q,QfA N h.Conf r=some q:=by
    rw[QfA,Z0,Xa]
    cases hc:X1 h.Conf with
    | false=>exact ⟨_,rfl⟩
    | true =>
     have:=Xk.1 hc
     rw[Wt,Wa]
     cases decide (r<4096)
     ·rw[Wa]
      cases decide (wU (r-4096)>=wU (wI (h.Conf.PageWords*h.Conf.Pages)))
      ·rw[Wa,Xi (by omega),Xi (by omega)];exact ⟨_,rfl⟩
      ·exact ⟨_,rfl⟩
     ·exact ⟨_,rfl⟩
   obtain ⟨q,eq⟩:=this
   rw[eq,Xa]
   exact ⟨_,rfl,λ _=>by show (6:Int)≠0;omega,λ hh=>absurd hbo hh⟩
  ·rw[e3 hbo]
   exact ⟨_,rfl,λ hh=>absurd hh hbo,λ _=>rfl⟩
 ·obtain ⟨e,e1,e2,e3⟩:=XlI hN hb ep y (by omega) hat hev hkd N 0 (by omega) (by omega)
  rw[QcN,ey,Xa]
  have e1':Qa3 N h y N 0=some e:=e1
  rw[e1',Xa]
  rw[WU] at e2 e3
  by_cases hbo:∃ a∈y.1,J1 h y.1 a
  ·obtain ⟨f,rfl,hf⟩:=e2 hbo
   rw[Xz]
   exact ⟨_,rfl,λ _=>hf,λ hh=>absurd hbo hh⟩
  ·rw[e3 hbo,Xq]
   exact ⟨_,rfl,λ hh=>absurd hh hbo,λ _=>rfl⟩
end
end Go.Sx
namespace Go.Sx
section
variable {N:Nat}
theorem Xc1 (hN:NB N) {h:Wo} (ht:HT h) (ep:Qad N h=some true) {i:Nat} (h1:i<h.Pages.length) :
 ∃ f,Qd2 N h (i:Int)=some f/\((f.Fault≠0/\∀ n,∃ f',QaO N h (n+1) (i:Int)=some (.ret f')/\f'.Fault≠0)\/(f.Fault=0/\∀ n,QaO N h (n+1) (i:Int)=QaO N h n ((i+1:Nat):Int))):=by
 have hb:=ht.hb
 have hp:=JF hN hb ep
 have hpl:h.Pages.length<=100000:=hb.2
 have hg:Xb h.Pages (i:Int)=some (pg h.Pages (i:Int)):=Z8 (by omega) (by omega)
 have hst:∀ n,QaO N h (n+1) (i:Int)=jn (λ (_:Unit) =>
  bnd (Qfm N h (i:Int)) λ y3 =>
  bif (y3.2 != 0) then some (.ret (Ud.mk 3 (i:Int) 0))
  else bnd (Qe7 N h (i:Int) y3.1) λ y4 =>
  bif y4.2 then some (.ret (Ud.mk 5 (i:Int) y4.1))
  else bnd (QfB N h (i:Int)) λ y5 =>
  bif y5.2 then some (.ret (Ud.mk 4 (i:Int) y5.1))
  else QaO N h n ((i+1:Nat):Int)) λ j1 =>
  bif ((pg h.Pages (i:Int)).Kind != 0) then (bif ((pg h.Pages (i:Int)).Space != h.Space) then some (.ret (Ud.mk 2 (i:Int) 0))
   else j1 ())
  else j1 ():=by
  intro n
  rw[QaO,Wi (by omega),Wc,hg,Xa,Xh (by omega)]
 simp only[hst,Yy]
 rw[Qd2,Yy,hg]
 simp only[Xa]
 by_cases hsp:(pg h.Pages (i:Int)).Kind≠0/\(pg h.Pages (i:Int)).Space≠h.Space
 ·rw[show ((pg h.Pages (i:Int)).Kind != 0)=true by simpa using hsp.1,show ((pg h.Pages (i:Int)).Space != h.Space)=true by simpa using hsp.2]
  exact ⟨_,rfl,.inl ⟨by show (2:Int)≠0;omega,λ n=>⟨_,rfl,by show (2:Int)≠0;omega⟩⟩⟩
 have e1:∀ {α:Type} (x y:α),(bif ((pg h.Pages (i:Int)).Kind != 0) then (bif ((pg h.Pages (i:Int)).Space != h.Space) then x else y) else y)=y:=by
  intro α x y
  by_cases k0:(pg h.Pages (i:Int)).Kind=0
  ·rw[show ((pg h.Pages (i:Int)).Kind != 0)=false by simpa using k0,Wa]
  ·have:(pg h.Pages (i:Int)).Space=h.Space:=Classical.byContradiction λ hh=>hsp ⟨k0,hh⟩
   rw[show ((pg h.Pages (i:Int)).Space != h.Space)=false by simpa using this,Wa,Bool.cond_self]
 simp only[e1]
 obtain ⟨r,er,hr,hlen⟩:=Qha hN hb hp (i:Int) (by omega) (by omega)
 simp only[Xec hN ht,er,Xa]
 by_cases hz:r.2=0
 case neg =>
  rw[show (r.2 != 0)=true by simpa using hz]
  exact ⟨_,rfl,.inl ⟨by show (3:Int)≠0;omega,λ n=>⟨_,rfl,by show (3:Int)≠0;omega⟩⟩⟩
 rw[show (r.2 != 0)=false by simpa using hz]
 simp only[Wa]
 obtain ⟨⟨hat,hev,_⟩,_,_⟩:=hr
 obtain ⟨a,ea,b,eb⟩:=Xg0 hN ht hp (i:=(i:Int)) (by omega) (by omega) r.1 (by omega) hat hev
 simp only[ea,eb,Xa]
 by_cases ha:a=0
 case neg =>
  rw[show (a != 0)=true by simpa using ha]
  exact ⟨_,rfl,.inl ⟨by show (5:Int)≠0;omega,λ n=>⟨_,rfl,by show (5:Int)≠0;omega⟩⟩⟩
 rw[show (a != 0)=false by simpa using ha]
 simp only[Wa]
 obtain ⟨d,ed,d',ed'⟩:=Xi7 hN ht ep (i:=(i:Int)) (by omega) (by omega)
 simp only[ed,ed',Xa]
 by_cases hd:d=0
 case neg =>
  rw[show (d != 0)=true by simpa using hd]
  exact ⟨_,rfl,.inl ⟨by show (4:Int)≠0;omega,λ n=>⟨_,rfl,by show (4:Int)≠0;omega⟩⟩⟩
 rw[show (d != 0)=false by simpa using hd]
 simp only[Wa]
 first
  | exact ⟨_,rfl,.inr ⟨rfl,λ n=>rfl⟩⟩
  | exact ⟨_,rfl,.inr ⟨rfl,trivial⟩⟩
  | exact ⟨_,rfl,.inr rfl⟩
  | simp
theorem Xjb (hN:NB N) {h:Wo} (ht:HT h) (ep:Qad N h=some true):∃ P:Prop,Xk6 P (QfQ N h)/\∃ e,Qba N h N 0=some e/\(P->∃ f,e=.ret f/\f.Fault≠0)/\(¬ P->e=.nxt ()):=by
 have hb:=ht.hb
 have hpl:h.Pages.length<=100000:=hb.2
 have hbig:h.Pages.length<N:=by unfold NB at hN;omega
 let p:Nat->Prop:=λ k=>∃ f,Qd2 N h (k:Int)=some f/\f.Fault≠0
 refine ⟨∃ j,0<=j/\j<h.Pages.length/\p j,?_,?_⟩
 ·have key:=Kn (L:=h.Pages.length) (F:=QaO N h) (p:=p) (Q:=λ f=>f.Fault≠0) (u:=())
   (λ n k hk hbad=>by
    obtain ⟨f,ef,hf⟩:=hbad
    obtain ⟨f2,ef2,hor⟩:=Xc1 hN ht ep hk
    rw[ef] at ef2;cases ef2
    rcases hor with hor | hor
    ·obtain ⟨f',e',hf'⟩:=hor.2 n;exact ⟨f',e',hf'⟩
    ·exact absurd hor.1 hf)
   (λ n k hk hnb=>by
    obtain ⟨f2,ef2,hor⟩:=Xc1 hN ht ep hk
    rcases hor with hor | hor
    ·exact absurd ⟨f2,ef2,hor.1⟩ hnb
    ·exact hor.2 n)
   (λ n=>by rw[QaO,Wj (by omega),Wa]) N 0 (by omega) (by omega)
  obtain ⟨e,e1,e2,e3⟩:=key
  have e1':QaO N h N 0=some e:=e1
  unfold Xk6
  rw[QfQ,e1',Xa]
  by_cases hP:∃ j,0<=j/\j<h.Pages.length/\p j
  ·obtain ⟨f,rfl,hf⟩:=e2 hP
   rw[Xz]
   exact ⟨_,rfl,λ _=>hf,λ hh=>absurd hP hh⟩
  ·rw[e3 hP,Xq];exact ⟨_,rfl,λ hh=>absurd hh hP,λ _=>rfl⟩
 ·have key:=Kn (L:=h.Pages.length) (F:=Qba N h) (p:=p) (Q:=λ f=>f.Fault≠0) (u:=())
   (λ n k hk hbad=>by
    obtain ⟨f,ef,hf⟩:=hbad
    rw[Qba,Wi (by omega),Wc,ef,Xa,show (f.Fault != 0)=true by simpa using hf]
    exact ⟨f,rfl,hf⟩)
   (λ n k hk hnb=>by
    obtain ⟨f2,ef2,hor⟩:=Xc1 hN ht ep hk
    have hz:f2.Fault=0:=Classical.byContradiction λ hh=>hnb ⟨f2,ef2,hh⟩
    rw[Qba,Wi (by omega),Wc,ef2,Xa,show (f2.Fault != 0)=false by simpa using hz,Wa,Xh (by omega)])
   (λ n=>by rw[Qba,Wj (by omega),Wa]) N 0 (by omega) (by omega)
  exact key
theorem Xc2 {f:Ud} (hf:f.Fault≠0):((f.Fault==0)&&((f.Page==0)&&(f.Addr==0)))=false:=by
 rw[show (f.Fault==0)=false by simpa using hf,Ui]
theorem Xeh (hN:NB N) {h:Wo} (ht:HT h):QfC N h=Qb4 N h:=by
 have hb:=ht.hb
 have hpl:h.Pages.length<=100000:=hb.2
 rw[QfC,Qb4,Qgx,QfK,Ke hpl (by unfold NB at hN;omega)]
 obtain ⟨b,eb⟩:=JG (N:=N) hN hb
 simp only[eb,Xa]
 cases b with
 | false=>rfl
 | true =>
 rw[Wt,Wa,Wa]
 obtain ⟨P,⟨f,ef,hf1,hf2⟩,e,e1,e2,e3⟩:=Xjb hN ht eb
 obtain ⟨y,ey,_⟩:=KY hN hb
 obtain ⟨⟨g,eg,hg1,hg2⟩,⟨g',eg',hg1',hg2'⟩⟩:=Xeg hN ht eb ey
 simp only[ef,e1,Xa]
 by_cases hP:P
 ·obtain ⟨f',rfl,hf'⟩:=e2 hP
  simp only[Xz,Xc2 (hf1 hP),WR,Wc,Xa,Xc2 hf']
 rw[e3 hP,hf2 hP]
 simp only[Xq,eg,eg',Xa,zF,show ((0:Int)==0)=true from rfl,Ia,Wt,Wa]
 by_cases hQ:∃ a∈y.1,J1 h y.1 a
 ·simp only[Xc2 (hg1 hQ),WR,Wc,Xa,show (g'.Fault != 0)=true by simpa using hg1' hQ,Xc2 (hg1' hQ)]
 rw[hg2 hQ,hg2' hQ]
 simp only[zF,show ((0:Int)==0)=true from rfl,show ((0:Int) != 0)=false from rfl,Ia,Wt,Wa]
 have hl2:∀ (n:Nat) (c i:Int),QbP N h n c i=Qbb N h n c i:=by
  intro n
  induction n with
  | zero=>intro c i;rw[QbP,Qbb]
  | succ n ih =>
   intro c i
   rw[QbP,Qbb]
   simp only[ih]
   cases hg:Xb h.Pages i with
   | none=>simp only[XcC]
   | some p=>simp only[Xa]
 rw[hl2]
theorem Xg3 (hN:NB N) {h:Wo} (ht:HT h) {l:List Int} (hl:l.length<=1000000):Qfn N h l=Qbv N h l:=by
 have hN':1000000<N:=by unfold NB at hN;omega
 have hb:=ht.hb
 rw[Qfn,Qbv,Xeh hN ht]
 obtain ⟨b,eb,_⟩:=KU hN hb
 rw[eb,Xa,Xa]
 cases b with
 | false=>rfl
 | true =>
 obtain ⟨y,ey,hy,hs,_⟩:=KY hN hb
 rw[Wt,Wa,Wa,Jm hN ht,ey,Xa,Xa]
 have hr1:∀ x:Int,QdS N x y.1=some (x != 0&&!y.1.contains x):=by
  intro x
  obtain ⟨k,ek⟩:=Xi9 (N:=N) y.1 x (by omega) hN' hs
  rw[QdS,ek,Xa]
  cases (x != 0)<;>rfl
 rw[QaM,QaT]
 rw[Jj (p:=λ x:Int=>x != 0&&!y.1.contains x) hl hN' (λ n k x e=>by
  have hk:=Xv e
  rw[Qam,Xy hk,Wc,Xd,e,Xa,hr1,Xa,Xh (by omega)]) (λ n=>by rw[Qam,Xs,Wa])]
 rw[Xa,Xa,KI]
 have key:=Kn (L:=l.length) (F:=Qap N l y) (p:=λ k=>∃ hk:k<l.length,(l[k] != 0&&!y.1.contains l[k])=true) (Q:=λ b=>b=false) (u:=())
  (λ n k hk hbad=>by
   obtain ⟨hk',hq⟩:=hbad
   simp only[WC] at hq
   refine ⟨false,?_,rfl⟩
   rw[Qap,Wi (by omega),Wc,Xd,Wd hk,Xa,hq.1,Wc,Xa,Y8 _ (by omega) (by omega),Xa,hq.2,Wc])
  (λ n k hk hnb=>by
   rw[Qap,Wi (by omega),Wc,Xd,Wd hk,Xa,Xa,Y8 _ (by omega) (by omega),Xa,Xh (by omega)]
   have:(l[k] != 0&&!y.1.contains l[k])=false:=by rw[← IL];exact λ hh=>hnb ⟨hk,hh⟩
   cases h1:(l[k] != 0) with
   | false=>rfl
   | true=>rw[h1,WP] at this;rw[this];rfl)
  (λ n=>by rw[Qap,Wj (by omega),Wa]) N 0 (by omega) (by omega)
 obtain ⟨e,e1,e2,e3⟩:=key
 have e1':Qap N l y N 0=some e:=e1
 rw[e1',Xa]
 cases hA:l.any (λ x=>x != 0&&!y.1.contains x) with
 | true =>
  obtain ⟨x,hx,hq⟩:=IO.1 hA
  obtain ⟨j,hj,rfl⟩:=W0 hx
  obtain ⟨b,rfl,hbf⟩:=e2 ⟨j,IH _,hj,hj,hq⟩
  rw[Xz,hbf];rfl
 | false =>
  have:=e3 λ ⟨j,_,hj,hj',hq⟩=>by
   rw[List.any_eq_false] at hA
   exact hA _ (WT hj) hq
  subst this
  rw[Xq];rfl
theorem Xae (hN:NB N) {h:Wo} (ht:HT h) {l:List Int} (hl:l.length<=10000000 / 4) (eg:Qb4 N h=some true) {y:List Int×Int} (ey:Qas N h=some y):Qbv N h l=some (l.all λ x=>x==0||y.1.contains x):=by
 have hb:=ht.hb
 obtain ⟨y',ey',hy,hs,_⟩:=KY hN hb
 rw[ey] at ey';cases ey'
 have hbig:l.length<N:=by unfold NB at hN;omega
 have hN':1000000<N:=by unfold NB at hN;omega
 rw[Qbv,eg,Xa,Wt,Wa,ey,Xa]
 have key:=Kn (L:=l.length) (F:=Qap N l y) (p:=λ k=>∃ hk:k<l.length,(l[k]==0||y.1.contains l[k])=false) (Q:=λ b=>b=false) (u:=())
  (λ n k hk hbad=>by
   obtain ⟨hk',hq⟩:=hbad
   simp only[Bool.or_eq_false_iff] at hq
   refine ⟨false,?_,rfl⟩
   rw[Qap,Wi (by omega),Wc,Xd,Wd hk,Xa,show (l[k] != 0)=true by simpa using hq.1,Wc,Xa,Y8 _ (by omega) (by omega),Xa,hq.2];rfl)
  (λ n k hk hnb=>by
   rw[Qap,Wi (by omega),Wc,Xd,Wd hk,Xa,Xa,Y8 _ (by omega) (by omega),Xa,Xh (by omega)]
   have:(l[k]==0||y.1.contains l[k])=true:=by rw[← Bool.not_eq_false];exact λ hh=>hnb ⟨hk,hh⟩
   by_cases h1:l[k]=0
   ·rw[show (l[k] != 0)=false by simpa using h1,Wa]
   ·rw[show (l[k]==0)=false by simpa using h1,Il] at this
    rw[show (l[k] != 0)=true by simpa using h1,this];rfl)
  (λ n=>by rw[Qap,Wj (by omega),Wa]) N 0 (by omega) (by omega)
 obtain ⟨e,e1,e2,e3⟩:=key
 have e1':Qap N l y N 0=some e:=e1
 rw[e1',Xa]
 cases hA:l.all (λ x=>x==0||y.1.contains x) with
 | false =>
  obtain ⟨x,hx,hq⟩:=List.all_eq_false.1 hA
  obtain ⟨j,hj,rfl⟩:=W0 hx
  obtain ⟨b,rfl,hbf⟩:=e2 ⟨j,IH _,hj,hj,by simpa using hq⟩
  rw[Xz,hbf]
 | true =>
  have:=e3 λ ⟨j,_,hj,hj',hq⟩=>by
   rw[Uf] at hA
   rw[hA _ (WT hj)] at hq;cases hq
  subst this
  rw[Xq]
end
end Go.Sx
namespace Go.Sx
section
variable {N:Nat}
theorem Xmr (l:List UE) (r:Int) (hl:l.length<=1000000) (hN:1000000<N):QeD N l r=some (Ji (λ p=>p.Ref==r) l):=by
 rw[QeD]
 exact Jj (p:=λ p:UE=>p.Ref==r) hl hN (λ n k x e=>by
  have hk:=Xv e
  rw[Qdq,Xy hk,Wc,Xd,e,Xa,Xh (by omega)]) (λ n=>by rw[Qdq,Xs,Wa])
theorem Xjc (l:List UE) (r:Int) (hl:l.length<=1000000) (hN:1000000<N):QeY N l r=some (Ji (λ p=>p.Ref==r) l):=by
 rw[QeY,QaR]
 rw[Jj (p:=λ p:UE=>p.Ref==r) hl hN (λ n k x e=>by
  have hk:=Xv e
  rw[Qaj,Xy hk,Wc,Xd,e,Xa,Qeo,Xa,Xh (by omega)]) (λ n=>by rw[Qaj,Xs,Wa]),Xa]
theorem J4 (hN:NB N) {h:Wo} (ht:HT h) (hp:UK h) (pins:List UE) (hpn:pins.length<=1000000) (y:List Int×Int) (hy:y.1.length<=4096) (hs:y.1.Pairwise (·<·)) (hat:∀ a∈y.1,IQ h a):∀ (n k:Nat) (v:List Int),k<=pins.length->pins.length-k<n->v.length=h.Pages.length ->
 ∃ e,Qbn N h pins y n (k:Int) v=some e/\QbA N pins h y n (k:Int) v=some (match e with | .ret _=>.ret ([],false) | .nxt v=>.nxt v)/\(∀ b,e=.ret b->b=false)/\(∀ v',e=.nxt v'->v'.length=h.Pages.length/\∀ p∈pins.drop k,y.1.contains p.Ref=true)
 | 0,k,v,_,hn,_=>by omega
 | n+1,k,v,hk,hn,hv=>by
  have hN':1000000<N:=by unfold NB at hN;omega
  rw[Qbn,QbA]
  by_cases hlt:k<pins.length
  case neg =>
   rw[Wj (by omega),Wa,Wa]
   refine ⟨_,rfl,rfl,?_,?_⟩<;>intro v' e<;>cases e
   exact ⟨hv,λ p hp=>by rw[WK (by omega)] at hp;cases hp⟩
  obtain ⟨q,eq⟩:=Xi9 (N:=N) y.1 pins[k].Ref (by omega) hN' hs
  have fin:∀ (o:Option (Ex (List Int×Bool) (List Int))),o=some (.ret ([],false))->∃ e:Ex Bool (List Int),some (.ret false)=some e/\o=some (match e with | .ret _=>.ret ([],false) | .nxt v=>.nxt v)/\(∀ b,e=.ret b->b=false)/\(∀ v',e=.nxt v'->v'.length=h.Pages.length/\∀ p∈pins.drop k,y.1.contains p.Ref=true):=by
   intro o ho
   refine ⟨_,rfl,ho,?_,?_⟩<;>intro b e<;>cases e
   rfl
  have hg:Xb pins (k:Int)=some pins[k]:=by rw[Xd,Wd hlt]
  simp only[Wi (show (k:Int)<((pins.length:Nat):Int) by omega),Wc,hg,Xa,Y8 pins[k].Ref (show y.1.length<=1000000000 by omega) (show y.1.length<N by omega),eq,Xmr pins pins[k].Ref hpn hN',Xjc pins pins[k].Ref hpn hN']
  cases hc:y.1.contains pins[k].Ref with
  | false=>exact fin _ rfl
  | true =>
  have ha:=hat _ (by rw[U1] at hc;exact hc)
  have hta:=ha.tu hp
  obtain ⟨eh,eh1,eh2⟩:=Xap (N:=N) hp ha
  have eo:QcM N h.Conf pins[k].Ref=some (pgi h.Conf pins[k].Ref,pgo h.Conf pins[k].Ref,0):=by
   rw[Vm,Wk (by rw[hp.conf];simp),Wm ha.rng];rfl
  obtain ⟨c,hvc⟩:∃ c,Xb v (pgi h.Conf pins[k].Ref)=some c:=⟨_,X4 eh1 (by omega)⟩
  simp only[Wt,Wa,eh,XiY N h.Conf pins[k].Ref hta.2,eo,Xa,hvc,Xh (show k<=140737488355328 by omega)]
  obtain ⟨e,n1,n2,n3,n4⟩:=J4 hN ht hp pins hpn y hy hs hat n (k+1) (v.set (pgi h.Conf pins[k].Ref).toNat (wI (c+pins[k].Count))) (by omega) (by omega) (by rw[WE];exact hv)
  have n5:∀ v',e=.nxt v'->v'.length=h.Pages.length/\∀ p∈pins.drop k,y.1.contains p.Ref=true:=λ v' hv'=>⟨(n4 v' hv').1,λ p hp=>by
   rw[Ws hlt] at hp
   rcases UN.1 hp with rfl | hp
   ·exact hc
   ·exact (n4 v' hv').2 p hp⟩
  cases (Ji (λ p:UE=>p.Ref==pins[k].Ref) pins != (k:Int))<;>cases (decide (pins[k].Count<1))<;>cases (decide (pins[k].Count>1000))
  all_goals simp only[Wc,Wa]
  all_goals first
   | exact ⟨e,n1,n2,n3,n5⟩
   | exact fin _ rfl
theorem Xg4 (hN:NB N) {h:Wo} (ht:HT h) {pins:List UE} (hpn:pins.length<=1000000):QgC N h pins=QbW N h pins:=by
 have hN':1000000<N:=by unfold NB at hN;omega
 have hb:=ht.hb
 have hpl:h.Pages.length<=100000:=hb.2
 rw[QgC,QbW,Xeh hN ht]
 obtain ⟨b,eb,hgd⟩:=KU hN hb
 rw[eb,Xa,Xa]
 cases b with
 | false=>rfl
 | true =>
 rw[Wt,Wa,Wa]
 cases decide (((pins.length:Nat):Int)>64) with
 | true=>rfl
 | false =>
 have hp:UK h:=(hgd rfl).prop
 obtain ⟨y,ey,hy,hs,hat,_⟩:=KY hN hb
 rw[Wa,Wa,Qfc,Jm hN ht,ey,Xa,Xa]
 rw[Xi (by omega)]
 obtain ⟨e,e1,e2,e3,e4⟩:=J4 hN ht hp pins hpn y hy hs hat N 0 (List.replicate ((h.Pages.length:Nat):Int).toNat 0) (by omega) (by omega) (by rw[WL];rfl)
 have e1':Qbn N h pins y N 0 (List.replicate ((h.Pages.length:Nat):Int).toNat 0)=some e:=e1
 have e2':QbA N pins h y N 0 (List.replicate ((h.Pages.length:Nat):Int).toNat 0)=_:=e2
 rw[Xi (by omega),e1',e2',Xa,Xa]
 cases e with
 | ret b =>
  dsimp only
  rw[e3 b rfl,Xz,Xz,Xa];rfl
 | nxt v =>
  dsimp only
  rw[Xq,Xq,Xa]
  have hl:∀ (n:Nat) (i:Int),QdR N h (v,true) n i=QbM N h v n i:=by
   intro n
   induction n with
   | zero=>intro i;rw[QdR,QbM]
   | succ n ih=>intro i;rw[QdR,QbM];simp only[ih]
  simp only[hl,Wt,Wa]
theorem Xfa (hN:NB N) {h:Wo} (ht:HT h) {pins:List UE} (hpn:pins.length<=1000000) (em:QbW N h pins=some true):Qb4 N h=some true/\pins.length<=64/\∀ y,Qas N h=some y->∀ p∈pins,y.1.contains p.Ref=true:=by
 have hb:=ht.hb
 have hpl:h.Pages.length<=100000:=hb.2
 rw[QbW] at em
 obtain ⟨b,eb,hgd⟩:=KU hN hb
 rw[eb,Xa] at em
 cases b with
 | false=>cases em
 | true =>
 rw[Wt,Wa] at em
 refine ⟨eb,?_,λ y ey p hpm=>?_⟩
 ·cases hd:decide (((pins.length:Nat):Int)>64) with
  | true=>rw[hd] at em;cases em
  | false=>have:=WD hd;omega
 have hp:UK h:=(hgd rfl).prop
 obtain ⟨y',ey',hy,hs,hat,_⟩:=KY hN hb
 rw[ey] at ey';cases ey'
 cases hd:decide (((pins.length:Nat):Int)>64) with
 | true=>rw[hd] at em;cases em
 | false =>
 rw[hd,Wa,ey,Xa,Xi (by omega)] at em
 obtain ⟨e,e1,e2,e3,e4⟩:=J4 hN ht hp pins hpn y hy hs hat N 0 (List.replicate ((h.Pages.length:Nat):Int).toNat 0) (by omega) (by unfold NB at hN;omega) (by rw[WL];rfl)
 have e1':Qbn N h pins y N 0 (List.replicate ((h.Pages.length:Nat):Int).toNat 0)=some e:=e1
 rw[e1',Xa] at em
 cases e with
 | ret b=>rw[e3 b rfl,Xz] at em;cases em
 | nxt v=>exact (e4 v rfl).2 p (by rw[WU];exact hpm)
theorem Xbq {x:Uh} (hp:x.Pins.length<=1000000):∀ (n k:Nat) (v:List Int),k<=x.Pins.length->x.Pins.length-k<n->v.length<=10000000+k ->
 QdX N x n (k:Int) v=some (v++(x.Pins.drop k).map (·.Ref))/\QaQ N x n (k:Int) v=some (v++(x.Pins.drop k).map (·.Ref))
 | 0,k,v,_,hn,_=>by omega
 | n+1,k,v,hk,hn,hv=>by
  rw[QdX,QaQ]
  by_cases hlt:k<x.Pins.length
  ·rw[Wi (by omega),Wc,Wc,Xd,Wd hlt,Xa,Xa,Xi (by omega),Xi (by omega),Xh (by omega)]
   obtain ⟨a,b⟩:=Xbq hp n (k+1) (v++[x.Pins[k].Ref]) (by omega) (by omega) (by rw[Wr];simp;omega)
   rw[a,b,Ws hlt,Ux,Un]
   exact ⟨rfl,rfl⟩
  ·rw[Wj (by omega),Wa,Wa,WK (by omega)];simp
def Xei (x:Uh):List Int:=((x.Roots++(bif YZ x.Locals then Yi x.Locals.Slots else []))++(bif YH x.Globals.Entries then XU x.Globals.Entries else []))++x.Pins.map (·.Ref)
theorem Xjd {x:Uh} (hx:EB x):(Xei x).length<=104160+x.Pins.length:=by
 have h1:=ZX hx.loc
 have h2:=Y5 x.Globals.Entries
 have h3:=hx.pins
 have h4:=hx.roots
 unfold Xei
 simp only[Wr,Ug]
 omega
theorem Xfb (hN:NB N) {x:Uh} (hx:EB x):Qgb N x=some (Xei x):=by
 have h1:=ZX hx.loc
 have h2:=Y5 x.Globals.Entries
 have h3:=hx.pins
 have h4:=hx.roots
 have hN':1000000<N:=by unfold NB at hN;omega
 rw[Qgb,XgV hx.loc hN',Xa,VV hx.glo hN',Xa,QgN]
 have:=(Xbq (N:=N) h3 N 0 [] (by omega) (by omega) (by simp)).1
 rw[show (0:Int)=((0:Nat):Int) from rfl,this,Xa,Xa,WU,Ur,QfD,Xb9 _ (by simp) (by simp only[VX,Ug];omega) hN',Xa,Xa]
 unfold Xei
 simp[Ux]
structure ET (x:Uh):Prop where
 eb:EB x
 tw:XG x.Heap
theorem ET.ht {x:Uh} (t:ET x):HT x.Heap:=⟨t.eb.heap,t.tw⟩
end
end Go.Sx
namespace Go.Sx
section
variable {N:Nat}
theorem Xje (l:List Int):(!l.all λ p=>!(p==0))=l.contains 0:=by
 cases h:l.contains 0 with
 | true =>
  rw[U1] at h
  rw[show (l.all λ p=>!(p==0))=false from List.all_eq_false.2 ⟨0,h,by simp⟩];rfl
 | false =>
  have h':¬ (0:Int)∈l:=by rw[← U1,h];simp
  rw[show (l.all λ p=>!(p==0))=true from Uf.2 λ x hx=>by
   by_cases hz:x=0
   ·subst hz;exact absurd hx h'
   ·simpa using hz];rfl
theorem Xf1 (hN:NB N) {x:Uh} (ht:ET x):Qfo N x=Qch N x:=by
 have hN':1000000<N:=by unfold NB at hN;omega
 have hx:=ht.eb
 have h1:=ZX hx.loc
 have h2:=Y5 x.Globals.Entries
 have h5:=Y5 x.Weaks.Entries
 have h3:=hx.pins
 have h4:=hx.roots
 rw[Qfo,Qch,Xg4 hN ht.ht h3]
 obtain ⟨b,eb,_⟩:=Vt hN hx.heap h3
 rw[eb,Xa,Xa]
 cases b with
 | false=>rfl
 | true =>
 obtain ⟨eg,hp64,hpn⟩:=Xfa hN ht.ht h3 eb
 simp only[Wt,Wa,Xbk hx.loc hN',Zq hx.loc hN',Vy hx.glo hN',Zp hx.glo hN',Vy hx.wea hN',Zp hx.wea hN',VV hx.glo hN',YM hx.glo hN',VV hx.wea hN',YM hx.wea hN',Ka hx.loc hN',Xa,Xfb hN hx]
 cases el:YZ x.Locals with
 | false=>rfl
 | true =>
 cases et:YH x.Globals.Entries with
 | false=>rfl
 | true =>
 cases ew:YH x.Weaks.Entries with
 | false=>rfl
 | true =>
 have hl:Xei x=((x.Roots++Yi x.Locals.Slots)++XU x.Globals.Entries)++x.Pins.map (·.Ref):=by unfold Xei;rw[el,et];rfl
 have hlen:=Xjd hx
 rw[el,Wc] at h1
 rw[et,Wc] at h2
 rw[ew,Wc] at h5
 simp only[Wt,Wa,Wc]
 rw[XcX (by omega) hN',Xa,Xje,Y8 0 (by omega) (by omega),Xa]
 cases (XU x.Globals.Entries).contains 0 with
 | true=>rfl
 | false =>
 rw[Wa,Wa,Xi (by omega),Xi (by omega),Xi (by omega),Xi (by omega)]
 rw[QfD,Xb9 _ (by simp) (by simp only[VX];omega) hN',Xa,Xa]
 obtain ⟨y,ey,hy,_⟩:=KY hN hx.heap
 have e1:[Xei x,XU x.Weaks.Entries].flatten=Xei x++XU x.Weaks.Entries:=by simp
 rw[e1,Xg3 hN ht.ht (by rw[Wr];omega),Xae hN ht.ht (by rw[Wr];omega) eg ey,Xae hN ht.ht (by simp only[Wr];omega) eg ey,Xa,Xa,hl]
 simp only[List.all_append]
 have hp:(x.Pins.map (·.Ref)).all (λ x=>x==0||y.1.contains x)=true:=by
  rw[Uf]
  intro r hr
  obtain ⟨p,hp,rfl⟩:=UQ.1 hr
  rw[hpn y ey p hp,Bool.or_true]
 rw[hp,Bool.and_true]
end
end Go.Sx
namespace Go.Sx
section
variable {N:Nat}
theorem Xjf (v:Int):v≠0->(Zr v).2=0\/(Zr v).2=6:=by
 intro hv
 unfold Zr
 rw[Wk hv]
 split
 ·exact .inl rfl
 ·exact .inr rfl
theorem Xjg (hN:NB N) {x:Uh} (ht:ET x) {v:Int} (tv:tU v):Qcn N x v=QaK N x v:=by
 have hN':1000000<N:=by unfold NB at hN;omega
 have hx:=ht.eb
 rw[Qcn,QaK,Xf1 hN ht]
 obtain ⟨b,eb,_⟩:=ZY hN hx
 rw[eb,Xa,Xa]
 cases b with
 | false=>rfl
 | true =>
 rw[Wt,Wa,Wa,XkX hN' tv,Xa]
 by_cases hz:v=0
 ·subst hz
  rw[show ((0:Int)==0)=true from rfl,Wc]
  unfold Zr
  rw[Wm rfl];rfl
 rw[show (v==0)=false by simpa using hz,Wa,XeZ tv,Xa]
 have he:=Xjf v hz
 rw[show ((Zr v).2==5)=false by simp;omega,Wa]
 simp only[XiV hx.loc hN',Vr hx.loc hN',Xd7 hx.glo hN',KV hx.glo hN',Xd7 hx.wea hN',KV hx.wea hN']
end
end Go.Sx
namespace Go.Sx
section
variable {N:Nat}
theorem Xk7 (x:Uh):QfE N x=some x:=by
 simp only[QfE,Qgz,QfS,Qfq,Qax,Qav,QaY,QaS,Qcx,Qbh,QbQ,Xa]
theorem Xat (hN:NB N) {h:Wo} (ht:HT h) {a:Int} (ta:tU a):Ok (Qd9 N h a) λ _=>True:=by
 have hN':1000000<N:=by unfold NB at hN;omega
 have hb:=ht.hb
 rw[Qd9,Ke (by have:=hb.2;omega) hN']
 obtain ⟨b,eb⟩:=JG (N:=N) hN hb
 rw[eb,Xa]
 refine W8 (We trivial) (W8 (We trivial) ?_)
 rw[Xbn hN ht ta]
 exact Uj (XbS hN hb a) λ y _=>W8 (We trivial) (W8 (We trivial) (We trivial))
theorem Xg5 (hN:NB N) {h:Wo} (ht:HT h) {a:Int} (ta:tU a) (i:Int):Ok (Qfr N h a i) λ _=>True:=by
 rw[Qfr,Qgf]
 obtain ⟨g,eg,_⟩:=Xat hN ht ta
 rw[eg,Xa]
 have ld:∀ p:Int×Int,p.1<=18446744073709551615->Ok (bif (p.2 != 0) then some ((0:Int),p.2) else bnd (Qd6 N h.Words p.1) λ y2=>some (y2.1,y2.2)) λ _=>True:=by
  intro p hp
  refine W8 (We trivial) ?_
  have:=ht.hb.1
  rw[Xbm (by omega) hp,Zn (by unfold BIG;omega),Xa]
  exact We trivial
 refine Uj (Q:=λ p:Int×Int=>p.1<=18446744073709551615) ?_ λ p hp=>ld p hp
 refine W8 (We (by show (0:Int)<=_;omega)) (W8 (We (by show (0:Int)<=_;omega)) (W8 (We (by show (0:Int)<=_;omega)) (We ?_)))
 exact (Vi _).2
theorem Xej (hN:NB N) {x:Uh} (hx:ET x) (tx:X0 x) {v:Int} (tv:tU v):Ok (Qcn N x v) λ r=>tU r.1:=by
 rw[Xjg hN hx tv]
 obtain ⟨r,er,_⟩:=YB hN hx.eb v
 exact ⟨r,er,(QbC tx tv).of er⟩
theorem Xjh (hN:NB N) {x:Uh} (hx:ET x) (tx:X0 x) {op a b:Int} (ho:op=4\/op=5\/op=6\/op=10) (ta:tU a) (tb:tU b):Ok (Qdh N x op a b 0) λ r=>r.2.2=0->r.1=x:=by
 have bad:∀ (y:Uh) (v e:Int),e≠0->Ok (some (y,v,e)) λ r=>r.2.2=0->r.1=x:=λ y v e he=>We λ h=>absurd h he
 have good:∀ (v e:Int),Ok (some (x,v,e)) λ r=>r.2.2=0->r.1=x:=λ v e=>We λ h=>rfl
 rw[Qdh,Xf1 hN hx]
 obtain ⟨v,ev,_⟩:=ZY hN hx.eb
 rw[ev,Xa]
 refine W8 (bad _ _ _ (by decide)) ?_
 rw[Xk7]
 have fin:∀ (y:Uh) (v e:Int),Ok (bif (e != 0) then some (y,0,e) else some (x,v,0)) λ r=>r.2.2=0->r.1=x:=λ y v e =>
  Wn (λ h=>bad _ _ _ (by simpa using h)) λ _=>good _ _
 rcases ho with rfl | rfl | rfl | rfl
 all_goals
  simp only[Xa,Yy,show decide ((4:Int)<1)=false from rfl,show decide ((4:Int)>20)=false from rfl,show decide ((5:Int)<1)=false from rfl,show decide ((5:Int)>20)=false from rfl,show decide ((6:Int)<1)=false from rfl,show decide ((6:Int)>20)=false from rfl,show decide ((10:Int)<1)=false from rfl,show decide ((10:Int)>20)=false from rfl,Wa,Wc,
   show ((4:Int)==3)=false from rfl,show ((4:Int)==4)=true from rfl,show ((5:Int)==3)=false from rfl,show ((5:Int)==4)=false from rfl,show ((5:Int)==5)=true from rfl,show ((6:Int)==3)=false from rfl,show ((6:Int)==4)=false from rfl,show ((6:Int)==5)=false from rfl,show ((6:Int)==6)=true from rfl,show ((10:Int)==3)=false from rfl,show ((10:Int)==4)=false from rfl,show ((10:Int)==5)=false from rfl,show ((10:Int)==6)=false from rfl,show ((10:Int)==10)=true from rfl]
  refine Uj (Xej hN hx tx ta) λ y ty=>?_
 case inr.inr.inr =>
  refine Wn (λ h=>by rw[h];exact bad _ _ _ (by simpa using h)) λ _=>?_
  refine Uj (Xej hN hx tx tb) λ z tz=>?_
  refine Wn (λ h=>by rw[h];exact bad _ _ _ (by simpa using h)) λ h=>Wn (λ _=>fin _ _ _) λ _=>good _ _
 case inl =>
  refine Wn (λ h=>by simp only[h,Wc];exact bad _ _ _ (by simpa using h)) λ _=>?_
  refine Wn (λ _=>bad _ _ _ (by decide)) λ _=>?_
  exact Uj (Xat hN hx.ht ty) λ z _=>fin _ _ _
 case inr.inl =>
  refine Wn (λ h=>by simp only[h,Wc];exact bad _ _ _ (by simpa using h)) λ _=>?_
  refine Wn (λ _=>bad _ _ _ (by decide)) λ _=>?_
  exact Uj (Xat hN hx.ht ty) λ z _=>fin _ _ _
 case inr.inr.inl =>
  refine Wn (λ h=>by simp only[h,Wc];exact bad _ _ _ (by simpa using h)) λ _=>?_
  refine Wn (λ _=>bad _ _ _ (by decide)) λ _=>?_
  refine Uj (Xat hN hx.ht ty) λ z _=>?_
  refine Wn (λ h=>by simp only[h,Wc];exact bad _ _ _ (by simpa using h)) λ _=>?_
  refine Wn (λ _=>bad _ _ _ (by decide)) λ _=>?_
  rw[Xea (by unfold NB at hN;omega),Xa]
  refine Wn (λ _=>bad _ _ _ (by decide)) λ _=>?_
  exact Uj (Xg5 hN hx.ht ty _) λ w _=>fin _ _ _
end
end Go.Sx
namespace Go.Sx
section
variable {N:Nat}
theorem Jo {α β:Type} {L:Nat} {F:Nat->Int->Option (Ex α β)} {u:β} (hok:∀ n k,k<L->F (n+1) (k:Int)=F n ((k+1:Nat):Int)) (hstop:∀ n,F (n+1) (L:Int)=some (.nxt u)) {n:Nat} (hn:L<n):F n 0=some (.nxt u):=by
 obtain ⟨e,e1,_,e3⟩:=Kn (p:=λ _=>False) (Q:=λ _=>True) (u:=u) (λ n k _ h=>h.elim) (λ n k hk _=>hok n k hk) hstop n 0 (by omega) (by omega)
 rw[e3 (λ ⟨_,_,_,h⟩=>h)] at e1
 exact e1
theorem KZ (n:Nat):(((n:Nat):Int) != ((n:Nat):Int))=false:=by simp
theorem Xms {l:List Int} (hl:l.length<=1300000) (hN:NB N):Qgj N l l=some true:=by
 unfold NB at hN
 rw[Qgj,KZ,Wa,Jo (F:=Qdl N l l) (L:=l.length) (u:=()) (λ n k hk=>by rw[Qdl,Wi (by omega),Wc,Xd,Wd hk,Xa,Xa,show (l[k] != l[k])=false by simp,Wa,Xh (by omega)]) (λ n=>by rw[Qdl,Wj (by omega),Wa]) (by omega),Xa,Xq]
theorem Xmt {h:Wo} (hb:HB h) (hN:NB N):Qgg N h h=some true:=by
 unfold NB at hN
 have hb1:=hb.1
 have hb2:=hb.2
 have e1:Qea N h.Pages h.Pages=some true:=by
  rw[Qea,KZ,Wa,Jo (F:=QbB N h.Pages h.Pages) (L:=h.Pages.length) (u:=()) (λ n k hk=>by rw[QbB,Wi (by omega),Wc,Xd,Wd hk,Xa,Xa];simp only[beq_self_eq_true,Ia,Wt,Wa];rw[Xh (by omega)]) (λ n=>by rw[QbB,Wj (by omega),Wa]) (by omega),Xa,Xq]
 rw[Qgg]
 simp only[beq_self_eq_true,Ia,Wt,Wa,bne_self_eq_false,e1,Xa]
 rw[Jo (F:=Qdi N h h) (L:=h.Words.length) (u:=()) (λ n k hk=>by rw[Qdi,Wi (by omega),Wc,Xd,Wd hk,Xa,Xa,show (h.Words[k] != h.Words[k])=false by simp,Wa,Xh (by omega)]) (λ n=>by rw[Qdi,Wj (by omega),Wa]) (by omega),Xa,Xq]
end
end Go.Sx
namespace Go.Sx
section
variable {N:Nat}
theorem Xmu (hN:NB N) {a:Wq} (h:LBp a):Qgh N a a=some true:=by
 unfold NB at hN
 obtain ⟨h1,h2,h3⟩:=h
 have e1:QcH N a a N 0=some (.nxt ()):=Jo (F:=QcH N a a) (L:=a.Slots.length) (u:=()) (λ n k hk=>by rw[QcH,Wi (by omega),Wc,Xd,Wd hk,Xa,Xa];simp only[beq_self_eq_true,Ia,Wt,Wa];rw[Xh (by omega)]) (λ n=>by rw[QcH,Wj (by omega),Wa]) (by omega)
 have e2:QcI N a a N 0=some (.nxt ()):=Jo (F:=QcI N a a) (L:=a.Scopes.length) (u:=()) (λ n k hk=>by rw[QcI,Wi (by omega),Wc,Xd,Wd hk,Xa,Xa];simp only[beq_self_eq_true,Ia,Wt,Wa];rw[Xh (by omega)]) (λ n=>by rw[QcI,Wj (by omega),Wa]) (by omega)
 have e3:QcJ N a a N 0=some (.nxt ()):=Jo (F:=QcJ N a a) (L:=a.Issued.length) (u:=()) (λ n k hk=>by rw[QcJ,Wi (by omega),Wc,Xd,Wd hk,Xa,Xa];simp only[bne_self_eq_false,Wa];rw[Xh (by omega)]) (λ n=>by rw[QcJ,Wj (by omega),Wa]) (by omega)
 rw[Qgh,KZ,Wa,KZ,Wa,KZ,Wa,e1,Xa,Xq,e2,Xa,Xq,e3,Xa,Xq]
theorem Xji (hN:NB N) {a:Wy} (h:TB a):QfF N a a=some true:=by
 unfold NB at hN
 unfold TB at h
 rw[QfF,KZ,Wa,Jo (F:=Qdj N a a) (L:=a.Entries.length) (u:=()) (λ n k hk=>by rw[Qdj,Wi (by omega),Wc,Xd,Wd hk,Xa,Xa];simp only[beq_self_eq_true,Ia,Wt,Wa];rw[Xh (by omega)]) (λ n=>by rw[Qdj,Wj (by omega),Wa]) (by omega),Xa,Xq]
theorem Xmv (hN:NB N) {a:List UE} (h:a.length<=1000000):Qgi N a a=some true:=by
 unfold NB at hN
 rw[Qgi,KZ,Wa,Jo (F:=Qdk N a a) (L:=a.length) (u:=()) (λ n k hk=>by rw[Qdk,Wi (by omega),Wc,Xd,Wd hk,Xa,Xa];simp only[beq_self_eq_true,Ia,Wt,Wa];rw[Xh (by omega)]) (λ n=>by rw[Qdk,Wj (by omega),Wa]) (by omega),Xa,Xq]
theorem Xmw (hN:NB N) {x:Uh} (hx:EB x):Qgk N x x=some true:=by
 have:=hx.roots
 rw[Qgk,Xmt hx.heap hN,Xa,Wc,Xmu hN hx.loc,Xa,Wc,Xji hN hx.glo,Xa,Wc,Xji hN hx.wea,Xa,Wc,Xmv hN hx.pins,Xa,Wc,Xms (by omega) hN,Xa]
theorem Xc3 (m:Nat):QgA (m+5000)=some true:=by kernel_rfl
theorem J5 (hN:NB N) (tape:List Int) {a b:Int} (ta:tU a) (tb:tU b) (i:Int):QbV N tape a b i=some true:=by
 obtain ⟨p,ep,k,hk,hp⟩:=XkU hN tape
 have w1:=hp.w1
 have w2:=hp.w2
 have e1:=U4 i (show (0:Int)<4 by omega)
 have e2 : -4<i.tmod 4:=by
  have:=U4 (-i) (show (0:Int)<4 by omega)
  rw[Int.neg_tmod] at this
  omega
 have e3:wI (i.tmod 4+4)=i.tmod 4+4:=Xc (by omega) (by omega)
 have e4:=IC 4 (show 0<=i.tmod 4+4 by omega)
 have e5:=U4 (i.tmod 4+4) (show (0:Int)<4 by omega)
 obtain ⟨a0,a1⟩:=ta
 obtain ⟨b0,b1⟩:=tb
 have ew:wU ((p.Words.length:Nat):Int)=((p.Words.length:Nat):Int):=XJ (by omega) (by omega)
 have f1:=IC ((p.Words.length:Nat):Int) a0
 have f2:=U4 a (show (0:Int)<((p.Words.length:Nat):Int) by omega)
 have g1:=IC 3 b0
 have g2:=U4 b (show (0:Int)<3 by omega)
 obtain ⟨m,hm⟩:∃ m,N=m+5000:=⟨N-5000,by unfold NB at hN;omega⟩
 have aw:=Xc3 m
 rw[← hm] at aw
 have hx:ET p.Env:=⟨hp.env,hp.ty.1.1⟩
 suffices h:Ok (QbV N tape a b i) λ r=>r=true by
  obtain ⟨r,er,hr⟩:=h
  rw[er,hr]
 rw[QbV,ep,Xa,e3,ew]
 refine Ok.get e4 (by simpa using e5) λ op hop=>?_
 have ho:op=4\/op=5\/op=6\/op=10:=by simpa using Yh hop
 refine W4 (by omega) (Ok.get f1 f2 λ v hv=>?_)
 have tv:=hp.ty.2.2 _ (Yh hv)
 refine Uj (Xjh hN hx hp.ty.1 ho tv ⟨g1,by omega⟩) λ y hy=>?_
 rw[aw,Xa,Wc]
 refine Wn (λ _=>We rfl) λ h=>?_
 rw[hy (by simpa using h),Xmw hN hp.env,Xa]
 exact We rfl
end
end Go.Sx
