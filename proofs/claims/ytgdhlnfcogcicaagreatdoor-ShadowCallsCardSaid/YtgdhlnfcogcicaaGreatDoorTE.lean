import Derived.Test.YtgdhlnfcogcicaaGreatDoorTD
set_option linter.all false
namespace Go.Sx
section
variable {N:Nat}
theorem Zr (h:UI):Ok (QaP N h) λ _=>True:=by
 rw[QaP]
 refine WL (Q:=λ _=>True) ?_ λ b _ _=>Wq (λ _=>Wg trivial) λ _=>Wg trivial
 rw[QfF]
 exact Wq (λ _=>Wq (λ _=>Wq (λ _=>Wq (λ _=>Wq (λ _=>Wg trivial) λ _=>Wg trivial) λ _=>Wg trivial) λ _=>Wg trivial) λ _=>Wg trivial) λ _=>Wg trivial
theorem Xas (a:Int):Ok (QbA N a) λ _=>True:=by
 rw[QbA]
 exact Wq (λ _=>Wg trivial) λ _=>WL (Zr _) λ _ _ _=>Wq (λ _=>Wg trivial) λ _=>Wq (λ _=>Wg trivial) λ _=>Wg trivial
theorem Xml {l:List II} (r:Int) (hl:l.length<=1000000):∀ (n:Nat) (k:Int),0<=k->k<=l.length->(l.length-k).toNat<n->Ok (QfH N l r n k) λ e=>∀ i,e=.ret i->0<=i/\i<l.length/\∃ p∈l,p.Ref=r
 | 0,k,_,_,hn=>by omega
 | n+1,k,h0,hk,hn=>by
  rw[QfH]
  refine Wq (λ hc=>?_) λ _=>Wg λ i e=>by cases e
  have hc:k<l.length:=Wu hc
  rw[Xe (n:=k+1) (by omega) (by omega)]
  refine Ok.get h0 hc λ p hp=>Wq (λ h=>Wg λ i e=>?_) λ _=>Xml r hl n (k+1) (by omega) (by omega) (by omega)
  cases e
  exact ⟨h0,hc,p,YN hp,by simpa using h⟩
theorem XbM {l:List II} (r:Int) (hl:l.length<=1000000) (hN:1000000<N):Ok (Qgq N l r) λ i=>i = -1\/(0<=i/\i<l.length/\∃ p∈l,p.Ref=r):=by
 rw[Qgq]
 exact I7 (Xml r hl N 0 (by omega) (by omega) (by omega)) (λ i q=>Wg (.inr (q i rfl))) λ _ _=>Wg (.inl rfl)
theorem XdB {h:Wz} (hp:IH h) {a:Int} (ha:OL h a):Qfh N h a=some (pgi h.Conf a)/\0<=pgi h.Conf a/\pgi h.Conf a<h.Pages.length:=by
 have hv:=XH.1 hp.conf
 obtain ⟨_,q0,q1,_⟩:=JQ hp.conf ha.rng
 have:=hp.pages
 refine ⟨?_,q0,by omega⟩
 rw[Qfh,Xel,Xa,hp.conf,Wh (by simp),Wn ha.rng]
 rfl
theorem XeB {h:Wz} {pins:List II} (hN:NB N) (hp:IH h) (y:List Int×Int) (hy:OD N h y.1) (hl:pins.length<=64) (hb:HB h):∀ (n:Nat) (k:Int) (v:List Int),0<=k->k<=pins.length->(pins.length-k).toNat<n->v.length=h.Pages.length->Ok (Qd3 N h pins y n k v) λ e=>match e with | .ret b=>b=false | .nxt v=>v.length=h.Pages.length/\∀ i,k<=i->∀ p,Xb pins i=some p->OL h p.Ref
 | 0,k,v,_,_,hn,_=>by omega
 | n+1,k,v,h0,hk,hn,hv=>by
  have hN':=hN
  unfold NB at hN'
  have hyl:=hy.len
  rw[Qd3]
  refine Wq (λ hc=>?_) λ hc=>Wg ⟨hv,λ i hi p hp=>?_⟩
  rotate_left
  ·have:=WI hc
   rw[Xcz (by omega)] at hp;cases hp
  have hc:k<pins.length:=Wu hc
  rw[Xe (n:=k+1) (by omega) (by omega)]
  have a1:0<=k+1:=by omega
  have a2:k+1<=pins.length:=by omega
  have a3:(pins.length-(k+1)).toNat<n:=by omega
  refine Ok.get h0 hc λ p hp1=>?_
  have same:∀ q,Xb pins k=some q->q=p:=λ q hq=>Ww (hq.symm.trans hp1)
  rw[Jq p.Ref (by omega) (by omega),Xa]
  refine Wq (λ _=>Wg rfl) λ hh=>?_
  have hm:p.Ref∈y.1:=Vq (by simpa using hh)
  have hat:=hy.obj.at_ _ hm
  refine Ok.get h0 hc λ q hq=>?_
  obtain rfl:=same q hq
  refine WL (XbM _ (by omega) (by omega)) λ _ _ _=>Wq (λ _=>Wg rfl) λ _=>Ok.get h0 hc λ _ _=>Wq (λ _=>Wg rfl) λ _=>Ok.get h0 hc λ _ _=>Wq (λ _=>Wg rfl) λ _=>Ok.get h0 hc λ q hq=>?_
  obtain rfl:=same q hq
  obtain ⟨e,q0,q1⟩:=XdB (N:=N) hp hat
  rw[e,Xa]
  refine Ok.get q0 (by omega) λ _ _=>Ok.get h0 hc λ _ _=>Ok.get q0 (by omega) λ _ _=>?_
  refine (XeB hN hp y hy hl hb n (k+1) _ a1 a2 a3 (by rw[Wv];exact hv)).mono λ e he=>?_
  cases e with
  | ret b=>exact he
  | nxt v =>
   refine ⟨he.1,λ i hi p' hp'=>?_⟩
   by_cases hik:i=k
   ·subst hik
    obtain rfl:=same p' hp'
    exact hat
   ·exact he.2 i (by omega) p' hp'
theorem XeC {h:Wz} (hb:HB h) (v:List Int) (hv:v.length=h.Pages.length):∀ (n:Nat) (k:Int),0<=k->k<=h.Pages.length->(h.Pages.length-k).toNat<n->Ok (Qd4 N h v n k) λ e=>∀ b,e=.ret b->b=false
 | 0,k,_,_,hn=>by omega
 | n+1,k,h0,hk,hn=>by
  have:=hb.2
  rw[Qd4]
  refine Wq (λ hc=>?_) λ _=>Wg λ b e=>by cases e
  have hc:k<h.Pages.length:=Wu hc
  rw[Xe (n:=k+1) (by omega) (by omega)]
  exact Ok.get h0 hc λ _ _=>Ok.get h0 (by omega) λ _ _=>Wq (λ _=>Wg λ b e=>by cases e;rfl) λ _=>XeC hb v hv n (k+1) (by omega) (by omega) (by omega)
structure O2 (N:Nat) (h:Wz) (pins:List II):Prop where
 good:OR N h
 len:pins.length<=64
 at_:∀ p∈pins,OL h p.Ref
theorem XbN (hN:NB N) {h:Wz} (hb:HB h) {pins:List II} (hl:pins.length<=1000000):Ok (QeM N h pins) λ b=>b=true->O2 N h pins:=by
 have hN':=hN
 unfold NB at hN'
 have hb2:=hb.2
 rw[QeM]
 refine WL (Xa3 hN hb) λ b _ hg=>Wq (λ _=>Wg λ e=>by cases e) λ hb1=>?_
 have hg:=hg (by simpa using hb1)
 refine Wq (λ _=>Wg λ e=>by cases e) λ h64=>?_
 have h64:=WI h64
 refine WL (KB hN hb) λ y _ hy=>Ug (by omega) ?_
 refine I7 (XeB hN hg.prop y hy.1 (by omega) hb N 0 _ (by omega) (by omega) (by omega) (by rw[Uc];omega)) (λ b q=>Wg λ e=>?_) λ v q=>?_
 ·have q:b=false:=q
  rw[q] at e;cases e
 refine I7 (XeC hb v q.1 N 0 (by omega) (by omega) (by omega)) (λ b q=>Wg λ e=>?_) λ _ _=>Wg λ _=>⟨hg,by omega,λ p hp=>?_⟩
 ·rw[q b rfl] at e;cases e
 ·obtain ⟨i,hi,e⟩:=WX hp
  exact q.2 (i:Int) (by omega) p (by rw[Xd,Wc hi,e])
theorem XeD {h:Wz} (hb:HB h) (hp:IH h) {a:Int} (ha:OL h a) (d:Int):Ok (Qcn N h a d) HB:=by
 have hb2:=hb.2
 obtain ⟨e,q0,q1⟩:=XdB (N:=N) hp ha
 rw[Qcn,Xi (by omega),e,Xa]
 exact Ok.get q0 q1 λ _ _=>Ok.get q0 q1 λ _ _=>Wg ⟨hb.1,by show (h.Pages.set _ _).length<=_;rw[Wv];exact hb2⟩
theorem Xfw (hN:NB N) {h:Wz} (hb:HB h) {pins:List II} (hl:pins.length<=1000000) (a:Int):Ok (Qdx N h pins a) λ r=>HB r.1/\r.2.1.length<=1000000:=by
 have hN':=hN
 unfold NB at hN'
 have zero:HB zH/\([]:List II).length<=1000000:=⟨ZN,by simp⟩
 rw[Qdx]
 refine WL (XbN hN hb hl) λ b _ hm=>Wq (λ _=>Wg zero) λ hb1=>?_
 have hm:=hm (by simpa using hb1)
 refine Wq (λ _=>Wg zero) λ _=>WL (XbM _ hl (by omega)) λ i _ hi=>Wq (λ _=>Wg zero) λ h0=>?_
 have h0:=WI h0
 obtain ⟨i0,i1,p,hpm,hpr⟩:0<=i/\i<pins.length/\∃ p∈pins,p.Ref=a:=by
  rcases hi with h | h
  ·omega
  ·exact h
 have hat:=hm.at_ p hpm
 rw[hpr] at hat
 have hc:=XeD (N:=N) hb hm.good.prop hat (-1)
 refine Ug (by omega) (Ok.get i0 i1 λ _ _=>Ok.get i0 i1 λ _ _=>Ok.get i0 (by rw[Wv];exact i1) λ _ _=>?_)
 rw[Xe (n:=i+1) (by omega) (by omega)]
 refine Wq (λ _=>Ug (by omega) (Ug (by omega) (Ug (by omega) (WL hc λ y _ hy=>Wg ⟨hy,?_⟩)))) λ _=>WL hc λ y _ hy=>Wg ⟨hy,?_⟩
 ·simp only[WO,Wr,Wv,Uo];omega
 ·show (pins.set _ _).length<=_;rw[Wv];exact hl
theorem XbO {h:Wz} (hb:HB h) (a:Int):∀ (n:Nat) (c k:Int),0<=k->k<=h.Pages.length->(h.Pages.length-k).toNat<n->Ok (QbC N h a n c k) λ _=>True
 | 0,c,k,_,_,hn=>by omega
 | n+1,c,k,h0,hk,hn=>by
  have:=hb.2
  rw[QbC]
  refine Wq (λ hc=>?_) λ _=>Wg trivial
  have hc:k<h.Pages.length:=Wu hc
  rw[Xe (n:=k+1) (by omega) (by omega)]
  have next:=λ c'=>XbO hb a n c' (k+1) (by omega) (by omega) (by omega)
  exact Ok.get h0 hc λ _ _=>Wq (λ _=>Ok.get h0 hc λ _ _=>Wq (λ _=>next _) λ _=>next _) λ _=>next _
theorem Js (hN:NB N) {h:Wz} (hb:HB h) (a:Int):Ok (QcE N h a) λ _=>True:=by
 have hN':=hN
 unfold NB at hN'
 have hb2:=hb.2
 rw[QcE]
 refine WL (Xa3 hN hb) λ b _ hg=>Wq (λ _=>Wg trivial) λ hb1=>?_
 refine WL (XaK hN hb a) λ b _ ho=>Wq (λ _=>Wg trivial) λ hb1=>?_
 obtain ⟨hp,hat⟩:=ho (by simpa using hb1)
 obtain ⟨e,q0,q1⟩:=XdB (N:=N) hp hat
 refine WL (XbO hb a N 0 0 (by omega) (by omega) (by omega)) λ c _ _=>?_
 rw[e,Xa]
 exact Ok.get q0 q1 λ _ _=>Wq (λ _=>Wq (λ _=>Wg trivial) λ _=>Wg trivial) λ _=>Wg trivial
theorem Xhz (hN:NB N) {h:Wz} (hb:HB h) {pins:List II} (hl:pins.length<=1000000) (a:Int):Ok (QfY N h pins a) λ r=>HB r.1/\r.2.1.length<=1000000:=by
 have hN':=hN
 unfold NB at hN'
 have zero:HB zH/\([]:List II).length<=1000000:=⟨ZN,by simp⟩
 rw[QfY]
 refine WL (XbN hN hb hl) λ b _ hm=>Wq (λ _=>Wg zero) λ hb1=>?_
 have hm:=hm (by simpa using hb1)
 refine Wq (λ _=>Wg zero) λ _=>WL (XaK hN hb a) λ b _ ho=>Wq (λ _=>Wg zero) λ hb1=>?_
 obtain ⟨hp,hat⟩:=ho (by simpa using hb1)
 have hc:=XeD (N:=N) hb hm.good.prop hat 1
 have h64:=hm.len
 refine WL (XbM _ hl (by omega)) λ i _ hi=>?_
 have rest:Ok (α:=Wz×List II×Int×Int) (grd (pins.length*16<=140737488355328) <|
  jn (λ (x11:List II) =>
   bnd (Qcn N h a 1) λ y12 =>
   some (y12,x11,(wU (a+1)),0)) λ j2 =>
  bif (decide (i>=0)) then (bnd (Xb pins i) λ p9 =>
   bnd (Xb pins i) λ p10 =>
   j2 (pins.set i.toNat (II.mk p10.Ref (wI (p9.Count+1)))))
  else grd ((pins.length+1)*16<=140737488355328) <|
  j2 (pins++[(II.mk a 1)])) λ r=>HB r.1/\r.2.1.length<=1000000:=by
  refine Ug (by omega) (IS (Wq (λ h0=>?_) λ _=>Ug (by omega) (WL hc λ y _ hy=>Wg ⟨hy,?_⟩)))
  ·have h0:0<=i:=Wu h0
   have i1:i<pins.length:=by rcases hi with h | h;omega;exact h.2.1
   exact Ok.get h0 i1 λ _ _=>Ok.get h0 i1 λ _ _=>WL hc λ y _ hy=>Wg ⟨hy,by show (pins.set _ _).length<=_;rw[Wv];exact hl⟩
  ·show (pins++[_]).length<=_;rw[Wr];simp;omega
 refine IS (Wq (λ h0=>?_) λ _=>Wq (λ _=>Wq (λ _=>Wg zero) λ _=>WL (Js hN hb a) λ _ _ _=>Wq (λ _=>Wg zero) λ _=>rest) λ _=>WL (Js hN hb a) λ _ _ _=>Wq (λ _=>Wg zero) λ _=>rest)
 have h0:0<=i:=Wu h0
 have i1:i<pins.length:=by rcases hi with h | h;omega;exact h.2.1
 exact Ok.get h0 i1 λ _ _=>Wq (λ _=>Wg zero) λ _=>Wq (λ _=>Wq (λ _=>Wg zero) λ _=>WL (Js hN hb a) λ _ _ _=>Wq (λ _=>Wg zero) λ _=>rest) λ _=>WL (Js hN hb a) λ _ _ _=>Wq (λ _=>Wg zero) λ _=>rest
end
end Go.Sx
namespace Go.Sx
section
variable {N:Nat}
theorem XgA (hN:NB N) (c:Ut) (d:WE):Ok (QdK N c d) λ b=>b=true->XW d=true/\d.Kind≠0/\Zh c (ZE d)≠-1:=by
 have hN':=hN
 unfold NB at hN'
 rw[QdK,ZD,Xa]
 refine Wq (λ hv=>Wq (λ hk=>?_) λ _=>Wg λ e=>by cases e) λ _=>Wg λ e=>by cases e
 rw[ZY,Xa,VV (by omega),Xa]
 exact Wg λ e=>⟨hv,by simpa using hk,by simpa using e⟩
theorem XeE (hN:NB N) {h:Wz} (hb:HB h) (hp:IH h) (n:Int):Ok (QeQ N h n) λ r=>HB r.1:=by
 have hN':=hN
 unfold NB at hN'
 have hb2:=hb.2
 have setP:∀ (ps:List W4) (i:Nat) (p:W4) (s b:Int),ps.length<=100000->HB ⟨h.Conf,h.Words,ps.set i p,s,b⟩:=λ ps i p s b hl=>⟨hb.1,by show (ps.set i p).length<=_;rw[Wv];exact hl⟩
 rw[QeQ]
 refine Ug (by omega) ?_
 rw[Xji,Xa]
 refine WL (Xen (by omega) (by omega)) λ u _ _=>?_
 have fresh:Ok (α:=Wz×Int×Bool) (bnd (QdU N h.Pages 1) λ y5 =>
  bif (decide (y5<0)) then some ((Wz.mk (Ut.mk 0 0) [] [] 0 0),0,false)
  else bif (decide (u>=Xm7 h.Conf)) then some ((Wz.mk (Ut.mk 0 0) [] [] 0 0),0,false)
  else bnd (QdV N h.Pages y5 h.Space) λ y6 =>
  bnd (Xb y6.1 y5) λ p11 =>
  bnd (Xb y6.1 y5) λ p12 =>
  bnd (Xb y6.1 y5) λ p13 =>
  some ((Wz.mk h.Conf h.Words (y6.1.set y5.toNat (W4.mk p13.Kind p13.Space (wI (p12.Used+n)) p13.Pins)) h.Space y5),(wU (wI ((wI (4096+(wI (y5*h.Conf.PageWords))))+p11.Used))),true)) λ r=>HB r.1:=by
  refine WL (XbA 1 (by omega) (by omega)) λ j _ hj=>Wq (λ _=>Wg ZN) λ hj0=>Wq (λ _=>Wg ZN) λ _=>?_
  have hr:RunOK h.Pages j 1:=by
   rcases hj with rfl | hj
   ·cases hj0
   ·exact hj
  have hsp:=hp.space
  refine WL (Xep j h.Space (by omega) (by omega)) λ y _ hy=>?_
  obtain ⟨q0,q1,q2,q3⟩:=hy.1 (hy.2.2 hr (by omega) (by omega))
  have hjl:j<y.1.length:=by omega
  exact Ok.get q0 hjl λ _ _=>Ok.get q0 hjl λ _ _=>Ok.get q0 hjl λ _ _=>Wg (setP _ _ _ _ _ (by omega))
 refine IS (Wq (λ _=>fresh) λ h0=>?_)
 have h0:=WI h0
 have hbu:=hp.bump
 have h1:h.Bump<h.Pages.length:=by rcases hbu with h | h;omega;exact h.2.1
 have h0:0<=h.Bump:=by omega
 exact Ok.get h0 h1 λ _ _=>Wq (λ _=>fresh) λ _=>Ok.get h0 h1 λ _ _=>Wq (λ _=>fresh) λ _=>Wq (λ _=>fresh) λ _=>Ok.get h0 h1 λ _ _=>Ok.get h0 h1 λ _ _=>Ok.get h0 h1 λ _ _=>Wg (setP _ _ _ _ _ hb2)
theorem XeF (hN:NB N) {h:Wz} (hb:HB h) (hp:IH h) (w k:Int):Ok (QeR N h w k) λ r=>HB r.1:=by
 have hN':=hN
 unfold NB at hN'
 have hb2:=hb.2
 rw[QeR]
 refine WL (XbA k (by omega) (by omega)) λ j _ hj=>Wq (λ _=>Wg ZN) λ hj0=>WL (Xen (by omega) (by omega)) λ u _ _=>?_
 rw[Xji,Xa]
 refine Wq (λ _=>Wg ZN) λ _=>WL (Xjl h.Conf j h.Space w (by omega) (by omega)) λ y _ hy=>Wg ⟨hb.1,?_⟩
 show y.1.length<=_
 by_cases he:y.2=0
 ·have:=(hy.1 he).2.2.2.1;omega
 ·rw[hy.2 he];simp
theorem XgB (hN:NB N) {h:Wz} (hb:HB h) (d:WE):Ok (Qfc N h d) λ r=>HB r.1:=by
 have hN':=hN
 unfold NB at hN'
 rw[Qfc]
 refine WL (Zp (N:=N) (by omega) hb.1 hb.2) λ b _ hp=>Wq (λ _=>Wg ZN) λ hb1=>?_
 have hp:=hp (by simpa using hb1)
 refine WL (XgA hN _ _) λ b _ _=>Wq (λ _=>Wg ZN) λ _=>?_
 rw[ZY,Xa,VV (by omega),Xa]
 refine WL (XeE hN hb hp _) λ y5 _ h5=>IS (Wq (λ _=>WL (XeF hN hb hp _ _) λ y6 _ h6=>?_) λ _=>?_)
 ·exact Wq (λ _=>Wg ZN) λ _=>WL (Xgm hN (h:=y6.1) h6 _ d) λ y15 _ h15=>Wg h15
 ·exact Wq (λ _=>Wg ZN) λ _=>WL (Xgm hN (h:=y5.1) h5 _ d) λ y15 _ h15=>Wg h15
end
structure EB (x:UX):Prop where
 heap:HB x.Heap
 loc:LBp x.Locals
 glo:TB x.Globals
 wea:TB x.Weaks
 pins:x.Pins.length<=1000000
 roots:x.Roots.length<=100000
def zE:UX:=⟨zH,zL,zT,zT,[],[]⟩
theorem XbP:EB zE:=⟨ZN,Zx,XbK,XbK,by simp[zE],by simp[zE]⟩
section
variable {N:Nat} {x:UX}
theorem Xat {a:Ws} (h:LBp a):(bif YY a then Yc a.Slots else []).length<=4096:=by
 cases hv:YY a
 ·simp
 ·have hf:=Zw.1 hv
  have:=hf.slots
  have:=hf.iss
  have:=XcI a.Slots
  simp only[We];omega
theorem K6 (l:List WP):(bif YO l then XE l else []).length<=64:=by
 cases hv:YO l
 ·simp
 ·have:=K5 hv
  have:=J6 l
  simp only[We];omega
structure EV (N:Nat) (x:UX):Prop where
 mat:O2 N x.Heap x.Pins
 loc:YY x.Locals=true
 glo:YO x.Globals.Entries=true
 wea:YO x.Weaks.Entries=true
theorem J8 (hN:NB N) (hx:EB x):Ok (QdT N x) λ b=>b=true->EV N x:=by
 have hN':=hN
 unfold NB at hN'
 have hr:=hx.roots
 rw[QdT]
 refine WL (XbN hN hx.heap hx.pins) λ b _ hm=>Wq (λ _=>Wg λ e=>by cases e) λ hb1=>?_
 have hm:=hm (by simpa using hb1)
 rw[ZX hx.loc (by omega),Xa]
 refine Wq (λ _=>Wg λ e=>by cases e) λ h1=>?_
 rw[ZW hx.glo (by omega),Xa]
 refine Wq (λ _=>Wg λ e=>by cases e) λ h2=>?_
 rw[ZW hx.wea (by omega),Xa]
 refine Wq (λ _=>Wg λ e=>by cases e) λ h3=>?_
 rw[YP hx.glo (by omega),Xa]
 have l1:=Xat hx.loc
 have l2:=K6 x.Globals.Entries
 have l3:=K6 x.Weaks.Entries
 rw[Jq _ (by omega) (by omega),Xa]
 refine Wq (λ _=>Wg λ e=>by cases e) λ _=>Ug (by omega) ?_
 rw[KC hx.loc (by omega),Xa]
 refine Ug (by omega) (Ug (by omega) ?_)
 rw[YP hx.wea (by omega),Xa]
 refine Ug (by omega) (WL (Xap hN hx.heap (by simp only[Wr];omega)) λ b _ _=>Wg λ _=>⟨hm,by simpa using h1,by simpa using h2,by simpa using h3⟩)
theorem XbQ (hp:x.Pins.length<=1000000):∀ (n:Nat) (k:Int) (v:List Int),0<=k->k<=x.Pins.length->(x.Pins.length-k).toNat<n->v.length<=1000000+k->Ok (Qbe N x n k v) λ r=>(r.length:Int)=v.length+(x.Pins.length-k)
 | 0,k,v,_,_,hn,_=>by omega
 | n+1,k,v,h0,hk,hn,hv=>by
  rw[Qbe]
  refine Wq (λ hc=>?_) λ hc=>Wg (by have:=WI hc;omega)
  have hc:k<x.Pins.length:=Wu hc
  rw[Xe (n:=k+1) (by omega) (by omega)]
  refine Ok.get h0 hc λ p _=>Ug (by omega) ?_
  refine (XbQ hp n (k+1) _ (by omega) (by omega) (by omega) (by rw[Wr];simp;omega)).mono λ r hr=>?_
  rw[hr,Wr];simp;omega
theorem Xfx (hN:NB N) (hx:EB x):Ok (Qep N x) λ r=>r.length=x.Roots.length+(bif YY x.Locals then Yc x.Locals.Slots else []).length+(bif YO x.Globals.Entries then XE x.Globals.Entries else []).length+x.Pins.length:=by
 have hN':=hN
 unfold NB at hN'
 have hr:=hx.roots
 have hp:=hx.pins
 have l1:=Xat hx.loc
 have l2:=K6 x.Globals.Entries
 rw[Qep]
 refine Ug (by omega) ?_
 rw[KC hx.loc (by omega),Xa]
 refine Ug (by omega) ?_
 rw[YP hx.glo (by omega),Xa]
 refine Ug (by omega) (WL (XbQ hp N 0 _ (by omega) (by omega) (by omega) (by simp only[Wr];omega)) λ r _ hr=>Wg ?_)
 simp only[Wr] at hr
 omega
theorem XgC (y4:Wz×List Int×List Int×UL×Int) (y5 y6:List Int) (y7:Ws×Int) (y8 y9:WC×Int) (hp:x.Pins.length<=1000000) (hr:x.Roots.length<=100000) (h5:y5.length<=4096) (h6:y6.length<=64) (h4:y4.2.1.length=x.Roots.length+y5.length+y6.length+x.Pins.length):∀ (n:Nat) (k:Int) (v:List II),0<=k->k<=x.Pins.length->(x.Pins.length-k).toNat<n->(v.length:Int)=k->Ok (Qa0 N x y4 y5 y6 y7 y8 y9 n k v) λ r=>r.length=x.Pins.length
 | 0,k,v,_,_,hn,_=>by omega
 | n+1,k,v,h0,hk,hn,hv=>by
  rw[Qa0]
  refine Wq (λ hc=>?_) λ hc=>Wg (by have:=WI hc;omega)
  have hc:k<x.Pins.length:=Wu hc
  rw[Xe (n:=k+1) (by omega) (by omega),Xe (n:=((x.Roots.length:Nat):Int)+((y5.length:Nat):Int)) (by omega) (by omega),Xe (n:=((x.Roots.length:Nat):Int)+((y5.length:Nat):Int)+((y6.length:Nat):Int)) (by omega) (by omega),Xe (n:=((x.Roots.length:Nat):Int)+((y5.length:Nat):Int)+((y6.length:Nat):Int)+k) (by omega) (by omega)]
  refine Ok.get (by omega) (by omega) λ _ _=>Ok.get h0 hc λ p _=>Ug (by omega) ?_
  exact XgC y4 y5 y6 y7 y8 y9 hp hr h5 h6 h4 n (k+1) _ (by omega) (by omega) (by omega) (by rw[Wr];simp;omega)
theorem XaP (hN:NB N) (hx:EB x):Ok (QcD N x) λ r=>EB r.1:=by
 have hN':=hN
 unfold NB at hN'
 have hr:=hx.roots
 have hp:=hx.pins
 rw[QcD]
 refine WL (J8 hN hx) λ b _ hv=>Wq (λ _=>Wg XbP) λ hb1=>?_
 have hv:=hv (by simpa using hb1)
 have h64:=hv.mat.len
 have l1:=Xat hx.loc
 have l2:=K6 x.Globals.Entries
 have l3:=K6 x.Weaks.Entries
 refine WL (Xfx hN hx) λ y2 _ h2=>?_
 rw[hv.loc,hv.glo] at h2
 rw[hv.loc] at l1
 rw[hv.glo] at l2
 rw[YP hx.wea (by omega),Xa]
 rw[hv.wea] at l3 ⊢
 simp only[We] at h2 l1 l2 l3 ⊢
 refine WL (Xfu hN hx.heap (by omega) (by omega)) λ y4 _ h4=>Wq (λ _=>Wg XbP) λ he=>?_
 obtain ⟨g1,g2⟩:=h4.len (by simpa using he)
 rw[KC hx.loc (by omega),Xa,YP hx.glo (by omega),Xa,hv.loc,hv.glo]
 simp only[We]
 have e1:=Xe (n:=((x.Roots.length:Nat):Int)+(((Yc x.Locals.Slots).length:Nat):Int)) (by omega) (by omega)
 have e2:=Xe (n:=((x.Roots.length:Nat):Int)+(((Yc x.Locals.Slots).length:Nat):Int)+(((XE x.Globals.Entries).length:Nat):Int)) (by omega) (by omega)
 refine Ug (by omega) (Ug (by omega) (Ug (by omega) (Ug (by rw[e1];omega) ?_)))
 refine WL (XjC hx.loc (by omega) (by rw[WO,Uo];omega)) λ y7 _ h7=>Ug (by rw[e1,e2];omega) ?_
 refine WL (Xey hx.glo (by omega) (by rw[WO,Uo];omega)) λ y8 _ h8=>?_
 refine WL (Xey hx.wea (by omega) (by omega)) λ y9 _ h9=>?_
 refine WL (XgC y4 (Yc x.Locals.Slots) (XE x.Globals.Entries) y7 y8 y9 hp hr l1 l2 (by omega) N 0 [] (by omega) (by omega) (by omega) rfl) λ y14 _ h14=>Wg ⟨h4.hb,h7,h8,h9,?_,?_⟩
 ·show y14.length<=_;omega
 ·show (y4.2.1.take _).length<=_
  rw[WO];omega
theorem XhA (hN:NB N) (hx:EB x) (d:WE):Ok (QeS N x d) λ r=>EB r.1:=by
 rw[QeS]
 refine WL (J8 hN hx) λ b _ hv=>Wq (λ _=>Wg XbP) λ hb1=>?_
 refine WL (XgB hN hx.heap d) λ y2 _ h2=>IS (Wq (λ _=>WL (XaP hN hx) λ y3 _ h3=>Wq (λ _=>Wg XbP) λ _=>WL (XgB hN h3.heap d) λ y4 _ h4=>?_) λ _=>?_)
 ·exact Wq (λ _=>Wg XbP) λ _=>Wg ⟨h4,h3.loc,h3.glo,h3.wea,h3.pins,h3.roots⟩
 ·exact Wq (λ _=>Wg XbP) λ _=>Wg ⟨h2,hx.loc,hx.glo,hx.wea,hx.pins,hx.roots⟩
theorem Zk (hN:NB N) (hx:EB x) (v:Int):Ok (QaU N x v) λ r=>True:=by
 have hN':=hN
 unfold NB at hN'
 rw[QaU]
 refine WL (J8 hN hx) λ b _ hv=>Wq (λ _=>Wg trivial) λ hb1=>Wq (λ _=>Wg trivial) λ _=>?_
 refine WL (Xas v) λ y _ _=>Wq (λ _=>Wg trivial) λ _=>Wq (λ _=>?_) λ _=>Wq (λ _=>?_) λ _=>?_
 ·rw[Xa4 hx.loc (by omega),Xa];exact Wg trivial
 ·rw[V0 hx.glo (by omega),Xa];exact Wg trivial
 ·rw[V0 hx.wea (by omega),Xa];exact Wg trivial
end
end Go.Sx
namespace Go.Sx
theorem Ox {β κ:Type} {P:β->Prop} {k:κ->Option β} {f:(κ->Option β)->Option β} (h:∀ x,Ok (k x) P) (g:∀ j:κ->Option β,(∀ x,Ok (j x) P)->Ok (f j) P):Ok (Sx.jn k f) P:=by rw[XY];exact g k h
theorem Uw {β:Type} {P:β->Prop} {b:Bool} {x y:Option β} (h1:Ok x P) (h2:Ok y P):Ok (bif b then x else y) P:=by cases b;exact h2;exact h1
theorem Uy {α β:Type} {P:β->Prop} {o:Option α} {Q:α->Prop} {f:α->Option β} (h:Ok o Q) (k:∀ y,Q y->Ok (f y) P):Ok (Sx.bnd o f) P:=WL h λ y _ hq=>k y hq
theorem Ok.t {α:Type} {o:Option α} {P:α->Prop} (h:Ok o P):Ok o λ _=>True:=h.mono λ _ _=>trivial
section
variable {N:Nat} {x:UX}
abbrev EP (r:UX×Int×Int):Prop:=EB r.1
theorem XhB (e:Int):Ok (Qae N e) EP:=by rw[Qae];exact Wg XbP
theorem XD (e:Int):Ok (bnd (Qae N e) λ y=>some (y.1,y.2.1,y.2.2)) EP:=Uy (XhB e) λ y hy=>Wg hy
theorem XjD (a b c:Int):Ok (Qbp N a b c) λ _=>True:=by
 rw[Qbp]
 exact Uw (Uw (Wg trivial) (Wg trivial)) (Wg trivial)
theorem J9 (hN:NB N) (hx:EB x) (a:Int):Ok (Qcl N x a) EP:=by
 have hN':=hN
 unfold NB at hN'
 rw[Qcl]
 refine Uw (Wg hx) ?_
 rw[V2 hx.loc (by omega),Xa]
 exact Uw (XD _) (Uy (Zr _) λ y _=>Wg ⟨hx.heap,Xgv hx.loc a,hx.glo,hx.wea,hx.pins,hx.roots⟩)
theorem Xfy (hN:NB N) (hx:EB x) (a b c:Int):Ok (Qeq N x a b c) EP:=by
 have hN':=hN
 unfold NB at hN'
 rw[Qeq]
 refine Uw (XD _) (Uy (XjD _ _ _) λ y _=>IS (Uw (XD _) (Uy (XgA hN _ _) λ z _=>Uw (XD _) ?_)))
 rw[V2 hx.loc (by omega),Xa]
 exact Uw (XD _) (Uy (XhA hN hx _) λ y7 h7=>Uw (XD _) (Uy (J9 hN h7 _) λ y9 h9=>Wg h9))
theorem Va (hN:NB N) (hx:EB x) (a:Int):Ok (Qcm N x a) λ _=>True:=by
 rw[Qcm]
 exact Uy (Zk hN hx a) λ y _=>Uw (Uw (Wg trivial) (Wg trivial)) (Wg trivial)
theorem XcK (hN:NB N) (hx:EB x) (a b:Int) (c:Bool):Ok (QdX N x a b c) λ _=>True:=by
 rw[QdX]
 refine Uy (Va hN hx a) λ y _=>Uw (Wg trivial) (Uy (XbB hN hx.heap _) λ z _=>Uw (Wg trivial) ?_)
 rw[VT,Xa]
 exact Uw (Wg trivial) (Wg trivial)
theorem XhC (hN:NB N) (hx:EB x) (a b c d:Int):Ok (QeT N x a b c d) EP:=by
 rw[QeT]
 have sf:∀ i j v:Int,Ok (α:=UX×Int×Int) (bnd (Qcg N x.Heap i j v) λ y12=>some ((UX.mk y12.1 x.Locals x.Globals x.Weaks x.Pins x.Roots),0,0)) EP:=λ i j v =>
  Uy (Xer hN hx.heap i j v) λ y hy=>Wg ⟨hy,hx.loc,hx.glo,hx.wea,hx.pins,hx.roots⟩
 refine IS (Uw (Uy (XcK hN hx _ _ _) λ y _=>?_) (Uy (XcK hN hx _ _ _) λ y _=>?_))<;>
 exact Uw (XD _) (Uy (Xeq hN hx.heap _ _) λ z _=>Uw (Wg hx) (Uw (Uy (J9 hN hx _) λ y8 h8=>Wg h8) (IS (Uw (Uy (Zk hN hx _) λ y9 _=>Uw (XD _) (sf _ _ _)) (sf _ _ _)))))
theorem XhD (hN:NB N) (hx:EB x) (a b c:Int):Ok (QeU N x a b c) EP:=by
 rw[QeU]
 refine Ox (λ b1=>Uw (Uy (Va hN hx _) λ y _=>Uw (XD _) (Uy (XbB hN hx.heap _) λ z _=>Uw (Wg hx) (Wg hx))) (Uw (Uy (Zk hN hx _) λ y _=>Uw (XD _) (Uy (Zk hN hx _) λ z _=>Uw (XD _) (Uw (Wg hx) (Wg hx)))) (Uy (Zk hN hx _) λ y _=>Uw (XD _) (Uy (J9 hN hx _) λ z hz=>Wg hz)))) λ j hj=>Uw (hj _) (hj _)
theorem XeG (hN:NB N) (hx:EB x) (a b:Int):Ok (Qdw N x a b) EP:=by
 have hN':=hN
 unfold NB at hN'
 rw[Qdw]
 refine Uy (Va hN hx _) λ y _=>Uw (XD _) (IS (Uw ?_ ?_))
 ·show Ok (bnd (QbZ N ⟨x.Weaks.Entries⟩ y.1) _) EP;rw[KN (t:=⟨x.Weaks.Entries⟩) hx.wea (by omega),Xa]
  have h:=Xgy (t:=⟨x.Weaks.Entries⟩) hx.wea y.1
  exact Uw (XD _) (IS (Uw (Uy (Zr _) λ z _=>Wg ⟨hx.heap,hx.loc,hx.glo,h,hx.pins,hx.roots⟩) (Uy (Zr _) λ z _=>Wg ⟨hx.heap,hx.loc,h,hx.wea,hx.pins,hx.roots⟩)))
 ·show Ok (bnd (QbZ N ⟨x.Globals.Entries⟩ y.1) _) EP;rw[KN (t:=⟨x.Globals.Entries⟩) hx.glo (by omega),Xa]
  have h:=Xgy (t:=⟨x.Globals.Entries⟩) hx.glo y.1
  exact Uw (XD _) (IS (Uw (Uy (Zr _) λ z _=>Wg ⟨hx.heap,hx.loc,hx.glo,h,hx.pins,hx.roots⟩) (Uy (Zr _) λ z _=>Wg ⟨hx.heap,hx.loc,h,hx.wea,hx.pins,hx.roots⟩)))
theorem Xfz (hN:NB N) (hx:EB x) (a b:Int):Ok (Qer N x a b) EP:=by
 have hN':=hN
 unfold NB at hN'
 rw[Qer]
 refine Uw (XD _) (Uy (Zk hN hx _) λ y _=>Uw (XD _) (Uy (Xas _) λ z _=>Ox (λ _=>Uw ?_ (Uw ?_ ?_)) λ j2 h2=>Ox (λ _=>XD _) λ j1 h1=>?_))
 ·rw[XdA hx.loc (by omega),Xa];exact Wg ⟨hx.heap,Xgw hx.loc _ _,hx.glo,hx.wea,hx.pins,hx.roots⟩
 ·rw[J7 hx.glo (by omega),Xa];exact Wg ⟨hx.heap,hx.loc,Xgz hx.glo _ _,hx.wea,hx.pins,hx.roots⟩
 ·rw[J7 hx.wea (by omega),Xa];exact Wg ⟨hx.heap,hx.loc,hx.glo,Xgz hx.wea _ _,hx.pins,hx.roots⟩
 ·repeat' first
   | exact h1 _
   | exact h2 _
   | refine Uw ?_ ?_
theorem XfA (hN:NB N) (hx:EB x) (a b:Int):Ok (Qes N x a b) EP:=by
 have hN':=hN
 unfold NB at hN'
 rw[Qes]
 refine Uw (Uw (XD _) ?_) (Uy (Zk hN hx _) λ y _=>Uw (XD _) ?_)
 ·rw[V3 hx.loc (by omega),Xa]
  exact Uw (XD _) (Wg ⟨hx.heap,Xex hx.loc _,hx.glo,hx.wea,hx.pins,hx.roots⟩)
 ·rw[Xa5 hx.loc (by omega),Xa]
  exact Uw (XD _) (Uy (J9 hN (x:=⟨x.Heap,(ZC x.Locals).1,x.Globals,x.Weaks,x.Pins,x.Roots⟩) ⟨hx.heap,V4 hx.loc,hx.glo,hx.wea,hx.pins,hx.roots⟩ _) λ z hz=>Wg hz)
theorem XjE (hN:NB N) (hx:EB x) (a b:Int):Ok (Qfo N x a b) EP:=by
 rw[Qfo]
 refine Uy (Va hN hx _) λ y _=>Uw (XD _) (Uw (Uy (Xfw hN hx.heap hx.pins _) λ z hz=>Uw (XD _) (Wg ⟨hz.1,hx.loc,hx.glo,hx.wea,hz.2,hx.roots⟩)) (Uy (Xhz hN hx.heap hx.pins _) λ z hz=>Uw (XD _) (Wg ⟨hz.1,hx.loc,hx.glo,hx.wea,hz.2,hx.roots⟩)))
theorem XjF (hN:NB N) (hx:EB x) (op a b c:Int):Ok (Qfp N x op a b c) EP:=by
 rw[Qfp]
 have thr:∀ {o:Option (UX×Int×Int)},Ok o EP->Ok (bnd o λ y=>some (y.1,y.2.1,y.2.2)) EP:=λ h=>Uy h λ y hy=>Wg hy
 refine Uy (J8 hN hx) λ b1 _=>Uw (XD _) ?_
 refine Ox (λ x1=>Uw (thr (Xfy hN hx _ _ _)) ?_) λ j2 h2=>?_
 ·refine Ox (λ x1=>Uw (thr (XhC hN hx _ _ _ _)) ?_) λ j h=>?_
  ·refine Ox (λ x1=>Uw (thr (XhD hN hx _ _ _)) ?_) λ j h=>?_
   ·refine Ox (λ x1=>Uw (thr (XeG hN hx _ _)) ?_) λ j h=>?_
    ·refine Ox (λ x1=>Uw (thr (Xfz hN hx _ _)) ?_) λ j h=>?_
     ·refine Ox (λ x1=>Uw (thr (XfA hN hx _ _)) ?_) λ j h=>?_
      ·refine Ox (λ x1=>Uw (thr (XjE hN hx _ _)) (XD _)) λ j h=>Uw (h _) (h _)
      ·exact Uw (h _) (h _)
     ·exact Uw (h _) (Ox (λ x1=>h _) λ j h=>Uw (h _) (h _))
    ·exact Uw (h _) (h _)
   ·exact Uw (h _) (Ox (λ x1=>h _) λ j h=>Uw (h _) (Ox (λ x1=>h _) λ j h=>Uw (h _) (h _)))
  ·exact Uw (h _) (Ox (λ x1=>h _) λ j h=>Uw (h _) (Ox (λ x1=>h _) λ j h=>Uw (h _) (h _)))
 ·exact Uw (h2 _) (Ox (λ x1=>h2 _) λ j h=>Uw (h _) (h _))
end
end Go.Sx
namespace Go.Sx
structure WB (k:Nat) (w:Wm):Prop where
 kk:k<=900
 things:w.Things.length<=k
 fields:∀ x∈w.Things,x.Fields.length<=1000
 loc:LBp w.Locals
 gloK:w.Globals.Entries.length<=1000+k
 weaK:w.Weaks.Entries.length<=1000+k
 marksK:w.Marks.length<=100+k
 rootsK:w.Roots.length<=100+k
theorem WB.glo {k:Nat} {w:Wm} (h:WB k w):TB w.Globals:=by have:=h.kk;have:=h.gloK;unfold TB;omega
theorem WB.wea {k:Nat} {w:Wm} (h:WB k w):TB w.Weaks:=by have:=h.kk;have:=h.weaK;unfold TB;omega
theorem WB.marks {k:Nat} {w:Wm} (h:WB k w):w.Marks.length<=1000:=by have:=h.kk;have:=h.marksK;omega
theorem WB.roots {k:Nat} {w:Wm} (h:WB k w):w.Roots.length<=1000:=by have:=h.kk;have:=h.rootsK;omega
def KD (d:WE):Nat->List Int->List Int
 | _,[]=>[]
 | k,f::fs=>if Z5 d k then f::KD d (k+1) fs else KD d (k+1) fs
def K7 (x:W5):List Int:=KD x.Header 0 x.Fields
theorem K8 (d:WE):∀ (k:Nat) (l:List Int),(KD d k l).length<=l.length
 | k,[]=>by simp[KD]
 | k,f::fs=>by
  have:=K8 d (k+1) fs
  unfold KD
  split<;>simp<;>omega
def X3 (n:Nat) (l:List Int):Bool:=l.all λ p=>!decide (p>(n:Int))
def XZ (l:List Uz) (id:Int):Int:=match l.findIdx? (λ m=>m.Id==id) with | some k=>(k:Int) | none=>-1
def KE (n:Nat) (x:W5):Bool:=XW x.Header&&(!(x.Header.Kind==0)&&(!(((x.Fields.length:Nat):Int) != x.Header.Length)&&X3 n (K7 x)))
def XcL (n:Nat) (l:List Uz) (_:Unit) (i:Nat) (m:Uz):Bool:=!decide (m.Id<1)&&(!decide (m.Id>(n:Int))&&(!(XZ l m.Id != (i:Int))&&(!decide (m.Count<1)&&!decide (m.Count>1000))))
def JS (n:Nat) (l:List Uz):Bool:=Zq (XcL n l) (λ s _=>s) () 0 l
def XK (w:Wm):Bool:=Yq w.Conf&&(YY w.Locals&&(YO w.Globals.Entries&&(YO w.Weaks.Entries&&(!decide (((w.Marks.length:Nat):Int)>64)&&(w.Things.all (KE w.Things.length)&&(((XE w.Globals.Entries).all λ p=>!(p==0))&&(JS w.Things.length w.Marks&&(X3 w.Things.length w.Roots&&(X3 w.Things.length (Yc w.Locals.Slots)&&(X3 w.Things.length (XE w.Globals.Entries)&&X3 w.Things.length (XE w.Weaks.Entries)))))))))))
section
variable {N:Nat} {w:Wm}
theorem K9 (ht:w.Things.length<=1000) {l:List Int} (hl:l.length<=1000000) (hN:1000000<N):Qcq N w l=some (X3 w.Things.length l):=by
 have h:=ZV (l:=l) (F:=Qcp N w l) (q:=λ _ p=>!decide (p>(w.Things.length:Int))) (λ n k p e=>by
  have hk:=Xo e
  rw[Qcp,Xw hk,We,Xd,e,Xa,Xp (by omega),XT (by omega) (by omega)]
  cases decide (p>(w.Things.length:Int))<;>rfl) (λ n=>by rw[Qcp,Xr,Wa]) (n:=N) (by omega)
 rw[Zi] at h
 rw[Qcq,h,Xa,X3]
 cases l.all λ p=>!decide (p>(w.Things.length:Int))
 ·rw[Wa,X8]
 ·rw[We,XN]
theorem XbR {x:W5} (hl:x.Fields.length<=1000000):∀ (n k:Nat) (v:List Int),k<=x.Fields.length->x.Fields.length-k<n->v.length<=k->Qdp N x n (k:Int) v=some (v++KD x.Header k (x.Fields.drop k))
 | 0,k,v,_,hn,_=>by omega
 | n+1,k,v,hk,hn,hlv=>by
  rw[Qdp]
  by_cases h:k<x.Fields.length
  ·rw[Xw h,We,VT,Xa,Xp (by omega),WA h,KD]
   cases hp:Z5 x.Header (k:Int)
   ·rw[Wa,Wh (by simp),XbR hl n (k+1) v (by omega) (by omega) (by omega)]
   ·rw[We,Wn rfl,Xd,Wc h,Xa,Xi (by omega),XbR hl n (k+1) _ (by omega) (by omega) (by rw[Wr];simp;omega)]
    simp
  ·obtain rfl:k=x.Fields.length:=by omega
   rw[Xr,Wa,WZ (WQ _)]
   simp[KD]
theorem V5 {x:W5} (hl:x.Fields.length<=1000000) (hN:1000000<N):QcX N x=some (K7 x):=by
 have h:=XbR (N:=N) (x:=x) hl N 0 [] (by omega) (by omega) (by simp)
 rw[show ((0:Nat):Int)=0 from rfl,Un,Uu] at h
 rw[QcX,h,Xa];rfl
theorem XgD (id:Int) (hl:w.Marks.length<=1000000):∀ (n k:Nat),k<=w.Marks.length->w.Marks.length-k<n->Qew N w id n (k:Int)=some (match (w.Marks.drop k).findIdx? (λ m=>m.Id==id) with | some j=>.ret ((k+j:Nat):Int) | none=>.nxt ())
 | 0,k,_,hn=>by omega
 | n+1,k,hk,hn=>by
  rw[Qew]
  by_cases h:k<w.Marks.length
  ·rw[Xw h,We,Xd,Wc h,Xa,Xp (by omega),WA h,Oa]
   cases hm:(w.Marks[k].Id==id)
   ·rw[Wa,XgD id hl n (k+1) (by omega) (by omega),Wh (by simp)]
    cases (w.Marks.drop (k+1)).findIdx? (λ m=>m.Id==id) with
    | none=>rfl
    | some j=>simp only[Im];rw[show k+1+j=k+(j+1) by omega]
   ·rw[We,Wn rfl];simp
  ·obtain rfl:k=w.Marks.length:=by omega
   rw[Xr,Wa,WZ (WQ _)]
   rfl
theorem V6 (hl:w.Marks.length<=1000000) (hN:1000000<N) (id:Int):Qff N w id=some (XZ w.Marks id):=by
 have h:=XgD (N:=N) id hl N 0 (by omega) (by omega)
 rw[show ((0:Nat):Int)=0 from rfl,Un] at h
 rw[Qff,h,Xa,XZ]
 cases w.Marks.findIdx? (λ m=>m.Id==id) with
 | none=>simp only[XN]
 | some j=>simp only[X8,UM]
theorem Ja {a:Ws} (h:YY a=true):(Yc a.Slots).length<=4096:=by
 have hf:=Zw.1 h
 have:=hf.slots
 have:=hf.iss
 have:=XcI a.Slots
 omega
theorem Zy {l:List WP} (h:YO l=true):(XE l).length<=64:=by
 have:=K5 h
 have:=J6 l
 omega
theorem Vb {k:Nat} (hw:WB k w) (hN:1000000<N):QdO N w=some (XK w):=by
 have hk:=hw.kk
 have ht:=hw.things
 have hm:=hw.marks
 have hr:=hw.roots
 rw[QdO,Zg,Xa,XK]
 cases Yq w.Conf
 ·rfl
 rw[Wx,Wa,ZX hw.loc hN,Xa,WN]
 cases hv1:YY w.Locals
 ·rfl
 rw[Wx,Wa,ZW hw.glo hN,Xa,WN]
 cases hv2:YO w.Globals.Entries
 ·rfl
 rw[Wx,Wa,ZW hw.wea hN,Xa,WN]
 cases hv3:YO w.Weaks.Entries
 ·rfl
 rw[Wx,Wa,WN]
 cases decide (((w.Marks.length:Nat):Int)>64)
 rotate_left
 ·rfl
 rw[Wa,WS,WN]
 have h1:=ZV (l:=w.Things) (F:=QcL N w) (q:=λ _=>KE w.Things.length) (λ n k p e=>by
  have hk:=Xo e
  have hpf:=hw.fields p (WU e)
  have hrl:=K8 p.Header 0 p.Fields
  rw[QcL,Xw hk,We,Xd,e,Xa,ZD,Xa,V5 (by omega) hN,Xa,K9 (by omega) (by unfold K7;omega) hN,Xa,Xp (by omega)]
  unfold KE
  cases XW p.Header<;>cases (p.Header.Kind==0)<;>cases (((p.Fields.length:Nat):Int) != p.Header.Length)<;>cases X3 w.Things.length (K7 p)<;>rfl) (λ n=>by rw[QcL,Xr,Wa]) (n:=N) (by omega)
 rw[Zi] at h1
 rw[h1,Xa]
 cases w.Things.all (KE w.Things.length)
 ·rw[Wa,X8];rfl
 rw[We,XN,YP hw.glo hN,Xa,hv2,We,WN]
 have g64:=Zy hv2
 have h2:=ZV (l:=XE w.Globals.Entries) (F:=QcM N w (XE w.Globals.Entries)) (q:=λ _ p=>!(p==0)) (λ n k p e=>by
  have hk:=Xo e
  rw[QcM,Xi (by omega),Xw hk,We,Xd,e,Xa,Xp (by omega)]
  cases (p==0)<;>rfl) (λ n=>by rw[QcM,Xi (by omega),Xr,Wa]) (n:=N) (by omega)
 rw[Zi] at h2
 rw[h2,Xa]
 cases (XE w.Globals.Entries).all λ p=>!(p==0)
 ·rw[Wa,X8];rfl
 rw[We,XN,WN]
 have h3:=ZV (l:=w.Marks) (F:=QcN N w (XE w.Globals.Entries)) (q:=XcL w.Things.length w.Marks ()) (λ n k p e=>by
  have hk:=Xo e
  rw[QcN,Xw hk,We,Xd,e,Xa,V6 (by omega) hN,Xa,Xp (by omega),XT (by omega) (by omega)]
  unfold XcL
  cases decide (p.Id<1)<;>cases decide (p.Id>(w.Things.length:Int))<;>cases (XZ w.Marks p.Id != (k:Int))<;>cases decide (p.Count<1)<;>cases decide (p.Count>1000)<;>rfl) (λ n=>by rw[QcN,Xr,Wa]) (n:=N) (by omega)
 rw[h3,Xa]
 show exK (bif JS w.Things.length w.Marks then Ex.nxt () else Ex.ret false) _ _=_
 cases JS w.Things.length w.Marks
 ·rw[Wa,X8];rfl
 rw[We,XN,K9 (by omega) (by omega) hN,Xa,WN]
 cases X3 w.Things.length w.Roots
 ·rfl
 have s1:=Ja hv1
 rw[We,KC hw.loc hN,Xa,hv1,We,K9 (by omega) (by omega) hN,Xa,WN]
 cases X3 w.Things.length (Yc w.Locals.Slots)
 ·rfl
 rw[We,K9 (by omega) (by omega) hN,Xa,WN]
 cases X3 w.Things.length (XE w.Globals.Entries)
 ·rfl
 have s3:=Zy hv3
 rw[We,YP hw.wea hN,Xa,hv3,We,K9 (by omega) (by omega) hN,Xa,WN]
end
end Go.Sx
namespace Go.Sx
def Zs (v:Int):UI×Int :=
 if v=0 then (⟨0,0,0⟩,5) else if 1<=v % 4/\1<=v / 262144/\v / 262144<=4294967295 then (⟨v % 4,v / 4 % 65536,v / 262144⟩,0) else (⟨0,0,0⟩,6)
theorem XfB {N:Nat} {v:Int} (hv:tU v):QbA N v=some (Zs v):=by
 obtain ⟨h0,h1⟩:=hv
 rw[QbA,Zs]
 by_cases hz:v=0
 ·subst hz;rfl
 rw[show (v==0)=false by simpa using hz,Wa,Wh hz]
 have a1:Y0 .u64 v 3=v % 4:=Kr v 2 (by omega) h0 h1
 have a2:YD .u64 v 2=v / 4:=JM v 2 (by omega) h0
 have a3:Y0 .u64 (v / 4) 65535=v / 4 % 65536:=Kr (v / 4) 16 (by omega) (by omega) (by omega)
 have a4:YD .u64 v 18=v / 262144:=JM v 18 (by omega) h0
 rw[a2,a1,a3,a4,Xe (n:=v % 4) (by omega) (by omega),Xe (n:=v / 4 % 65536) (by omega) (by omega),Xe (n:=v / 262144) (by omega) (by omega),QaP,QfF]
 have s1:∀ x:Int,Ka .u64 x 2=wU (x*4):=λ _=>rfl
 have s2:∀ x:Int,Ka .u64 x 18=wU (x*262144):=λ _=>rfl
 rw[Wo (show v / 4 % 65536>=0 by omega),Wo (show v / 4 % 65536<=65535 by omega),Wo (show v % 4<=3 by omega)]
 simp only[We]
 by_cases g1:v % 4>=1
 ·rw[Wo g1,We]
  by_cases g2:v / 262144>=1
  ·rw[Wo g2,We,Xa]
   by_cases g3:v / 262144<=4294967295
   ·rw[Wo g3,Wx,Wa,Xa,Wn ⟨g1,g2,g3⟩]
    have e:wU (wU (wU (v % 4)+Ka .u64 (wU (v / 4 % 65536)) 2)+Ka .u64 (wU (v / 262144)) 18)=v:=by
     rw[s1,s2,XT (n:=v % 4) (by omega) (by omega),XT (n:=v / 4 % 65536) (by omega) (by omega),XT (n:=v / 262144) (by omega) (by omega),XT (n:=v / 4 % 65536*4) (by omega) (by omega),XT (n:=v / 262144*262144) (by omega) (by omega),XT (n:=v % 4+v / 4 % 65536*4) (by omega) (by omega),XT (by omega) (by omega)]
     omega
    simp only[e]
    rw[show ((0:Int) != 0)=false from rfl,Wa,show (v != v)=false by simp,Wa]
   ·rw[Wl g3,WS,We,Xa,Wh (λ h=>g3 h.2.2)];rfl
  ·rw[Wl g2,Wa,Xa,WS,We,Xa,Wh (λ h=>g2 h.2.1)];rfl
 ·rw[Wl g1,Wa,Xa,WS,We,Xa,Wh (λ h=>g1 h.1)];rfl
def XP (w:Wm) (v:Int):Int×Int :=
 if v=0 then (0,0) else if (Zs v).2≠0 then (0,(Zs v).2) else
 if (Zs v).1.Tag=1 then Y9 w.Locals (Zs v).1.Index (Zs v).1.Stamp else
 if (Zs v).1.Tag=2 then YI w.Globals.Entries (Zs v).1.Index (Zs v).1.Stamp else YI w.Weaks.Entries (Zs v).1.Index (Zs v).1.Stamp
def Xh (w:Wm) (a:Int):Int×Int:=if (XP w a).2=0/\(XP w a).1=0 then (0,5) else XP w a
structure WF (w:Wm):Prop where
 conf:Yq w.Conf=true
 loc:YY w.Locals=true
 glo:YO w.Globals.Entries=true
 wea:YO w.Weaks.Entries=true
 m64:w.Marks.length<=64
 thing:∀ x∈w.Things,XW x.Header=true/\x.Header.Kind≠0/\(x.Fields.length:Int)=x.Header.Length/\∀ r∈K7 x,r<=w.Things.length
 mark:JS w.Things.length w.Marks=true
 roots:∀ r∈w.Roots,r<=w.Things.length
 rloc:∀ r∈Yc w.Locals.Slots,r<=w.Things.length
 rglo:∀ r∈XE w.Globals.Entries,r<=w.Things.length
 rwea:∀ r∈XE w.Weaks.Entries,r<=w.Things.length
theorem KF {n:Nat} {l:List Int}:X3 n l=true↔∀ r∈l,r<=n:=by
 unfold X3
 simp only[Ur,Uv,Um]
 exact ⟨λ h r hr=>by have:=h r hr;omega,λ h r hr=>by have:=h r hr;omega⟩
theorem Yi {w:Wm} (h:XK w=true):WF w:=by
 unfold XK at h
 simp only[WG,Uv,Um] at h
 obtain ⟨h1,h2,h3,h4,h5,h6,h7,h8,h9,h10,h11,h12⟩:=h
 refine ⟨h1,h2,h3,h4,by omega,λ x hx=>?_,h8,KF.1 h9,KF.1 h10,KF.1 h11,KF.1 h12⟩
 have:=(Ur.1 h6) x hx
 unfold KE at this
 simp only[WG,Uv,bne_eq_false_iff_eq,WY] at this
 exact ⟨this.1,this.2.1,this.2.2.1,KF.1 this.2.2.2⟩
theorem WF.mk_ {w:Wm} (h:WF w) {k:Nat} {m:Uz} (hm:w.Marks[k]? = some m):1<=m.Id/\m.Id<=w.Things.length/\1<=m.Count/\m.Count<=1000:=by
 have:=(KM w.Marks () 0).1 h.mark k m hm
 unfold XcL at this
 simp only[WG,Uv,Um] at this
 obtain ⟨h1,h2,_,h3,h4⟩:=this
 omega
theorem XhE {l:List UR} {p:UR} (hp:p∈l) (hL:p.Live=true):p.Ref∈Yc l:=by
 unfold Yc;exact W8.2 ⟨p,Uq.2 ⟨hp,hL⟩,rfl⟩
theorem XcM {l:List WP} {p:WP} (hp:p∈l) (hL:p.Live=true):p.Ref∈XE l:=by
 unfold XE;exact W8.2 ⟨p,Uq.2 ⟨hp,hL⟩,rfl⟩
theorem XfC (a:Ws) (i g:Int):(Y9 a i g).2=0\/(Y9 a i g).1=0:=by
 unfold Y9
 split
 ·exact .inr rfl
 split
 ·exact .inr rfl
 split
 ·exact .inr rfl
 split
 ·exact .inr rfl
 split
 ·exact .inr rfl
 split
 ·exact .inr rfl
 split
 ·exact .inl rfl
 ·exact .inr rfl
theorem XfD (l:List WP) (i g:Int):(YI l i g).2=0\/(YI l i g).1=0:=by
 unfold YI
 split
 ·exact .inr rfl
 split
 ·exact .inr rfl
 split
 ·exact .inr rfl
 split
 ·exact .inr rfl
 split
 ·exact .inr rfl
 split
 ·exact .inl rfl
 ·exact .inr rfl
theorem XgE {w:Wm} (h:WF w) (v:Int):(XP w v).1<=w.Things.length:=by
 have g:∀ i g,(Y9 w.Locals i g).1<=w.Things.length:=by
  intro i g
  by_cases he:(Y9 w.Locals i g).2=0
  ·obtain ⟨_,_,p,hp,_,hL,e⟩:=Xaq he
   rw[e];exact h.rloc _ (XhE (WU hp) hL)
  ·have:=(XfC w.Locals i g).resolve_left he
   omega
 have t:∀ (t:WC),(∀ r∈XE t.Entries,r<=w.Things.length)->∀ i g,(YI t.Entries i g).1<=w.Things.length:=by
  intro t ht i g
  by_cases he:(YI t.Entries i g).2=0
  ·obtain ⟨_,_,p,hp,_,hL,e⟩:=Xar he
   rw[e];exact ht _ (XcM (WU hp) hL)
  ·have:=(XfD t.Entries i g).resolve_left he
   omega
 unfold XP
 split
 ·simp
 split
 ·simp
 split
 ·exact g _ _
 split
 ·exact t _ h.rglo _ _
 ·exact t _ h.rwea _ _
section
variable {N:Nat} {w:Wm} {k:Nat}
theorem ZT (hw:WB k w) (hN:1000000<N) (hv:XK w=true) {v:Int} (tv:tU v):Qay N w v=some (XP w v):=by
 rw[Qay,Vb hw hN,Xa,hv,Wx,Wa,XP]
 by_cases hz:v=0
 ·rw[Wn hz,hz];rfl
 rw[Wh hz,show (v==0)=false by simpa using hz,Wa,XfB tv,Xa]
 by_cases he:(Zs v).2=0
 ·rw[he,show ((0:Int) != 0)=false from rfl,Wa,Wh (by simp)]
  by_cases h1:(Zs v).1.Tag=1
  ·rw[Wn h1,h1,show ((1:Int)==1)=true from rfl,We,Xa4 hw.loc hN,Xa]
  rw[Wh h1,show ((Zs v).1.Tag==1)=false by simpa using h1,Wa]
  by_cases h2:(Zs v).1.Tag=2
  ·rw[Wn h2,h2,show ((2:Int)==2)=true from rfl,We,V0 hw.glo hN,Xa]
  rw[Wh h2,show ((Zs v).1.Tag==2)=false by simpa using h2,Wa,V0 hw.wea hN,Xa]
 ·rw[show ((Zs v).2 != 0)=true by simpa using he,We,Wn he]
theorem V7 (hw:WB k w) (hN:1000000<N) (hv:XK w=true) {v:Int} (tv:tU v):QdR N w v=some (Xh w v):=by
 rw[QdR,ZT hw hN hv tv,Xa,Xh]
 by_cases he:(XP w v).2=0
 ·rw[he,show ((0:Int)==0)=true from rfl,We]
  by_cases h1:(XP w v).1=0
  ·rw[h1,Wn ⟨rfl,rfl⟩];rfl
  ·rw[show ((XP w v).1==0)=false by simpa using h1,Wa,Wh (λ h=>h1 h.2)]
   rw[← he]
 ·rw[show ((XP w v).2==0)=false by simpa using he,Wa,Wh (λ h=>he h.1)]
end
end Go.Sx
namespace Go.Sx
def zTh:W5:=⟨⟨0,0,0⟩,[]⟩
def thg (w:Wm) (id:Int):W5:=w.Things.getD (id-1).toNat zTh
def YQ (a:Ws) (id:Int):Int:=if id=0 then 0 else (Zj a id).2.2.2
def okW (op a b:Int):Prop:=a<=2147483647/\(op=1->b<=4294967295)
instance (op a b:Int):Decidable (okW op a b):=by unfold okW;infer_instance
def hdW (op a b:Int):WE:=⟨op,a,if op=1 then b else 0⟩
def V8 (c:Ut) (d:WE):Bool:=XW d&&(d.Kind != 0&&Zh c (ZE d) != -1)
def Zl (w:Wm) (op a b:Int) (failed:Bool):Int :=
 if w.Marks.length>0 then 15 else if ¬ okW op a b then 1 else if V8 w.Conf (hdW op a b)=false then 1 else
 if YQ w.Locals 1≠0 then YQ w.Locals 1 else if failed then 3 else 0
def Jb (op:Int):Bool:=op==8||op==9
def YZ (w:Wm) (op a b c:Int):Int :=
 if (Xh w a).2≠0 then (Xh w a).2 else if b>=(thg w (Xh w a).1).Header.Length then 2 else
 if Z5 (thg w (Xh w a).1).Header b≠Jb op then 4 else
 if op=8 then YQ w.Locals ((thg w (Xh w a).1).Fields.getD b.toNat 0) else if op=9 then (XP w c).2 else 0
def Zz (w:Wm) (op a:Int):Int :=
 if a=0 then 5 else if (XP w a).2≠0 then (XP w a).2 else
 if (Zs a).1.Tag≠(if op=16 then 3 else if op=14 then 2 else 1) then 4 else 0
def JT (w:Wm) (op a:Int):Int :=
 if (Xh w a).2≠0 then (Xh w a).2 else (YB (if op=15 then w.Weaks else w.Globals) (Xh w a).1).2.2.2
def Kf (w:Wm) (op a:Int):Int :=
 if op=17 then (if a>64 then 1 else (Jr w.Locals a).2) else
 if (XP w a).2≠0 then (XP w a).2 else if (ZC w.Locals).2≠0 then (ZC w.Locals).2 else YQ (ZC w.Locals).1 (XP w a).1
def Vr (l:List Uz) (i:Int):Uz:=l.getD i.toNat ⟨0,0,0⟩
def JU (w:Wm) (op a:Int) (failed:Bool):Int :=
 if (Xh w a).2≠0 then (Xh w a).2 else
 if op=20 then (if XZ w.Marks (Xh w a).1<0 then 12 else 0) else
 if 0<=XZ w.Marks (Xh w a).1/\(Vr w.Marks (XZ w.Marks (Xh w a).1)).Count=1000 then 18 else
 if XZ w.Marks (Xh w a).1<0/\w.Marks.length=64 then 18 else if failed then 18 else 0
def ZL (w:Wm) (op a b:Int):Int :=
 if op=4\/op=5 then (Xh w a).2 else if (XP w a).2≠0 then (XP w a).2 else
 if op=10 then (XP w b).2 else YQ w.Locals (XP w a).1
def Yz (w:Wm) (op a b c:Int) (failed:Bool):Int :=
 if XK w=false then 19 else
 if op=1\/op=2\/op=3 then Zl w op a b failed else
 if op=6\/op=7\/op=8\/op=9 then YZ w op a b c else
 if op=12\/op=14\/op=16 then Zz w op a else
 if op=13\/op=15 then JT w op a else
 if op=17\/op=18 then Kf w op a else
 if op=19\/op=20 then JU w op a failed else
 if op=4\/op=5\/op=10\/op=11 then ZL w op a b else 1
theorem Xc {a b:Int} (h:¬ a=b):(a==b)=false:=by simpa using h
theorem XA {a b:Int} (h:a=b):(a==b)=true:=by simpa using h
theorem Xk {a b:Int} (h:a=b):(a != b)=false:=by simpa using h
theorem Xm {a b:Int} (h:¬ a=b):(a != b)=true:=by simpa using h
section
variable {N:Nat} {w:Wm} {k:Nat}
theorem XgF (hw:WB k w) (hv:XK w=true) (tw:Xv w) {v:Int} (tv:tU v):tU (XP w v).1:=by
 have:=Qfs (N:=1000001) tw tv
 exact this _ (ZT (N:=1000001) hw (by omega) hv tv)
theorem Ks (hw:WB k w) (hv:XK w=true) (tw:Xv w) {v:Int} (tv:tU v) (h:(Xh w v).2=0):1<=(Xh w v).1/\(Xh w v).1<=w.Things.length/\Xh w v=XP w v:=by
 have h1:=XgF hw hv tw tv
 have h2:=XgE (Yi hv) v
 unfold Xh at h ⊢
 by_cases hc:(XP w v).2=0/\(XP w v).1=0
 ·rw[Wn hc] at h;cases h
 ·rw[Wh hc] at h ⊢
  have h3:(XP w v).1≠0:=λ e=>hc ⟨h,e⟩
  unfold tU at h1
  exact ⟨by omega,h2,rfl⟩
theorem Ys (hw:WB k w) {id:Int} (h1:1<=id) (h2:id<=w.Things.length):Xb w.Things (wU (id-1))=some (thg w id)/\thg w id∈w.Things:=by
 have hk:=hw.kk
 have ht:=hw.things
 have e:=Wc (show (id-1).toNat<w.Things.length by omega)
 have e2:thg w id=w.Things[(id-1).toNat]'(by omega):=by unfold thg;rw[Wk,e];rfl
 rw[XT (by omega) (by omega),XM (by omega) (by omega),e2]
 exact ⟨rfl,W6 _⟩
theorem Jt (hl:LBp w.Locals) (hN:1000000<N) (id:Int):Qcj N w.Locals id=some (YQ w.Locals id):=by
 rw[Qcj,YQ]
 by_cases h:id=0
 ·rw[Wn h,h];rfl
 ·rw[Wh h,Xc h,Wa,V2 hl hN,Xa]
theorem XeH {a:Ws} (hl:LBp a) (hN:1000000<N) (id:Int):Qcj N a id=some (YQ a id):=Jt (w:=⟨⟨0,0⟩,[],a,zT,zT,[],[]⟩) hl hN id
theorem XbS (op:Int) {a b:Int} (ta:tU a) (tb:tU b):∃ d,Qbp N op a b=some (d,decide (okW op a b))/\(okW op a b->d=hdW op a b):=by
 unfold tU at ta tb
 have hmask:a<=2147483647->wI (Y0 .u64 a 2147483647)=a:=λ h=>by
  have:Y0 .u64 a 2147483647=a % 2147483648:=Kr a 31 (by omega) ta.1 ta.2
  rw[this,Xe (by omega) (by omega)];omega
 rw[Qbp]
 by_cases h1:op=1
 ·rw[XA h1,We]
  by_cases h2:a<=2147483647
  ·rw[Wo h2,We]
   refine ⟨⟨op,wI (Y0 .u64 a 2147483647),wW b⟩,?_,λ h=>?_⟩
   ·exact congrArg (λ x=>some (_,x)) (decide_eq_decide.2 ⟨λ h=>⟨h2,λ _=>h⟩,λ h=>h.2 h1⟩)
   ·rw[hmask h2,Xjb (by omega) (by have:=h.2 h1;omega),hdW,Wn h1]
  ·rw[Wl h2,Wa]
   refine ⟨⟨op,wI (Y0 .u64 a 2147483647),wW b⟩,?_,λ h=>absurd h.1 h2⟩
   rw[Wl (show ¬ okW op a b from λ h=>h2 h.1)]
 ·rw[Xc h1,Wa]
  refine ⟨⟨op,wI (Y0 .u64 a 2147483647),0⟩,?_,λ h=>?_⟩
  ·exact congrArg (λ x=>some (_,x)) (decide_eq_decide.2 ⟨λ h=>⟨h,λ e=>absurd e h1⟩,λ h=>h.1⟩)
  ·rw[hmask h.1,hdW,Wh h1]
theorem Xlu (hN:10<=N) (c:Ut) (d:WE):QdK N c d=some (V8 c d):=by
 rw[QdK,ZD,Xa,V8,ZY,Xa,VV hN,Xa]
 cases XW d<;>cases (d.Kind != 0)<;>rfl
theorem XfE (hw:WB k w) (hN:1000000<N) (op:Int) {a b:Int} (ta:tU a) (tb:tU b) (f:Bool):Qft N w op a b f=some (Zl w op a b f):=by
 have hm:=hw.marks
 obtain ⟨d,hd,hd2⟩:=XbS (N:=N) op ta tb
 rw[Qft,Zl]
 by_cases h0:w.Marks.length>0
 ·rw[Wo (show ((w.Marks.length:Nat):Int)>0 by omega),We,Wn h0]
 rw[Wl (show ¬ ((w.Marks.length:Nat):Int)>0 by omega),Wa,Wh h0,hd,Xa]
 by_cases h1:okW op a b
 ·rw[Wo h1,Wx,Wa,Wh (by simpa using h1),Xlu (by omega),Xa,hd2 h1]
  cases hA:V8 w.Conf (hdW op a b)
  ·rfl
  ·rw[Wx,Wa,Wh (by simp),Jt hw.loc hN,Xa]
   by_cases hL:YQ w.Locals 1=0
   ·rw[Xk hL,Wa,Wh (by simpa using hL)]
    cases f<;>rfl
   ·rw[Xm hL,We,Wn hL]
 ·rw[Wl h1,WS,We,Wn h1]
theorem XhF (hw:WB k w) (hN:1000000<N) (hv:XK w=true) (tw:Xv w) (op:Int) {a b c:Int} (ta:tU a) (tb:tU b) (tc:tU c):QfU N w op a b c=some (YZ w op a b c):=by
 rw[QfU,V7 hw hN hv ta,Xa,YZ]
 by_cases he:(Xh w a).2=0
 rotate_left
 ·rw[Xm he,We,Wn he]
 obtain ⟨i1,i2,_⟩:=Ks hw hv tw ta he
 obtain ⟨g1,g2⟩:=Ys hw i1 i2
 obtain ⟨v1,v2,v3,v4⟩:=(Yi hv).thing _ g2
 have vb:=Yf v1
 unfold tU at tb
 rw[Xk he,Wa,Wh (by simpa using he),g1,Xa,XT (n:=(thg w (Xh w a).1).Header.Length) (by omega) (by omega)]
 by_cases h1:b>=(thg w (Xh w a).1).Header.Length
 ·rw[Wo h1,We,Wn h1]
 rw[Wl h1,Wa,Wh h1,Xe (n:=b) (by omega) (by omega)]
 have key:∀ x:Bool,x=Jb op->(bnd (QbG N (thg w (Xh w a).1).Header b) λ y4 =>
  bif (!(y4==x)) then some 4
  else bif (op==8) then (bnd (Xb (thg w (Xh w a).1).Fields b) λ p5 =>
   bnd (Qcj N w.Locals p5) λ y6 =>
   some y6)
  else bif (op==9) then (bnd (Qay N w c) λ y7 =>
   some y7.2)
  else some (Xh w a).2)=some (if Z5 (thg w (Xh w a).1).Header b≠Jb op then 4 else
 if op=8 then YQ w.Locals ((thg w (Xh w a).1).Fields.getD b.toNat 0) else if op=9 then (XP w c).2 else 0):=by
  intro x hx
  subst hx
  rw[VT,Xa]
  by_cases h2:Z5 (thg w (Xh w a).1).Header b=Jb op
  ·rw[show (Z5 (thg w (Xh w a).1).Header b==Jb op)=true by simpa using h2,Wx,Wa,Wh (by simpa using h2)]
   by_cases h3:op=8
   ·rw[XA h3,We,Wn h3,XM (by omega) (by omega),Xa,Jt hw.loc hN,Xa,Wk,Wc (by omega)];rfl
   rw[Xc h3,Wa,Wh h3]
   by_cases h4:op=9
   ·rw[XA h4,We,Wn h4,ZT hw hN hv tc,Xa]
   ·rw[Xc h4,Wa,Wh h4,he]
  ·rw[show (Z5 (thg w (Xh w a).1).Header b==Jb op)=false by simpa using h2,WS,We,Wn h2]
 rw[XY]
 cases h8:(op==8)
 ·have:=key (op==9) (by unfold Jb;rw[h8,IZ])
  rw[h8] at this
  exact this
 ·have:=key true (by unfold Jb;rw[h8,Bool.true_or])
  rw[h8] at this
  exact this
theorem XfF (hw:WB k w) (hN:1000000<N) (hv:XK w=true) (op:Int) {a:Int} (ta:tU a):Qfu N w op a=some (Zz w op a):=by
 rw[Qfu,Zz]
 by_cases h0:a=0
 ·rw[XA h0,We,Wn h0]
 rw[Xc h0,Wa,Wh h0,ZT hw hN hv ta,Xa]
 by_cases h1:(XP w a).2=0
 rotate_left
 ·rw[Xm h1,We,Wn h1]
 rw[Xk h1,Wa,Wh (by simpa using h1),XfB ta,Xa,XY]
 have fin:∀ t:Int,(bif ((Zs a).1.Tag != t) then some (4:Int) else some 0)=some (if (Zs a).1.Tag≠t then 4 else 0):=by
  intro t
  by_cases h:(Zs a).1.Tag=t
  ·rw[Xk h,Wa,Wh (by simpa using h)]
  ·rw[Xm h,We,Wn h]
 by_cases h2:op=16
 ·rw[Wn h2,XA h2,← fin]
  cases (op==14)<;>rfl
 ·rw[Wh h2,Xc h2]
  by_cases h3:op=14
  ·rw[Wn h3,XA h3,We];exact fin 2
  ·rw[Wh h3,Xc h3,Wa];exact fin 1
theorem XjG (hw:WB k w) (hN:1000000<N) (hv:XK w=true) (op:Int) {a:Int} (ta:tU a):Qgj N w op a=some (JT w op a):=by
 rw[Qgj,V7 hw hN hv ta,Xa,JT]
 by_cases h1:(Xh w a).2=0
 rotate_left
 ·rw[Xm h1,We,Wn h1]
 rw[Xk h1,Wa,Wh (by simpa using h1),XY]
 by_cases h2:op=15
 ·rw[Wn h2,XA h2,We]
  show bnd (QbZ N w.Weaks (Xh w a).1) _=_
  rw[KN hw.wea hN,Xa]
 ·rw[Wh h2,Xc h2,Wa]
  show bnd (QbZ N w.Globals (Xh w a).1) _=_
  rw[KN hw.glo hN,Xa]
theorem XhG (hw:WB k w) (hN:1000000<N) (hv:XK w=true) (op:Int) {a:Int} (ta:tU a):QfV N w op a=some (Kf w op a):=by
 rw[QfV,Kf]
 by_cases h0:op=17
 ·rw[XA h0,We,Wn h0]
  by_cases h1:a>64
  ·rw[Wo h1,We,Wn h1]
  ·unfold tU at ta
   rw[Wl h1,Wa,Wh h1,Xe (n:=a) (by omega) (by omega),V3 hw.loc hN,Xa]
 rw[Xc h0,Wa,Wh h0,ZT hw hN hv ta,Xa]
 by_cases h1:(XP w a).2=0
 rotate_left
 ·rw[Xm h1,We,Wn h1]
 rw[Xk h1,Wa,Wh (by simpa using h1),Xa5 hw.loc hN,Xa]
 by_cases h2:(ZC w.Locals).2=0
 rotate_left
 ·rw[Xm h2,We,Wn h2]
 rw[Xk h2,Wa,Wh (by simpa using h2),XeH (V4 hw.loc) hN,Xa]
theorem Kt {l:List Uz} {id:Int} (h:0<=XZ l id):XZ l id<l.length/\Xb l (XZ l id)=some (Vr l (XZ l id))/\(Vr l (XZ l id)).Id=id:=by
 unfold XZ at h ⊢
 cases e:l.findIdx? (λ m=>m.Id==id) with
 | none=>rw[e] at h;simp at h
 | some j =>
  have h2:=UW.1 e
  obtain ⟨hj,hp,_⟩:=h2
  simp only
  refine ⟨by omega,?_,?_⟩
  ·rw[Xd,Vr,Wk,WD,Wc hj];rfl
  ·rw[Vr,Wk,WD,Wc hj]
   simpa using hp
theorem XhH (hw:WB k w) (hN:1000000<N) (hv:XK w=true) (op:Int) {a:Int} (ta:tU a) (f:Bool):Qgy N w op a f=some (JU w op a f):=by
 have hm:=hw.marks
 rw[Qgy,V7 hw hN hv ta,Xa,JU]
 by_cases h1:(Xh w a).2=0
 rotate_left
 ·rw[Xm h1,We,Wn h1]
 rw[Xk h1,Wa,Wh (by simpa using h1),V6 (by omega) hN,Xa]
 by_cases h2:op=20
 ·rw[XA h2,We,Wn h2]
  by_cases h3:XZ w.Marks (Xh w a).1<0
  ·rw[Wo h3,We,Wn h3]
  ·rw[Wl h3,Wa,Wh h3]
 rw[Xc h2,Wa,Wh h2]
 by_cases h3:0<=XZ w.Marks (Xh w a).1
 ·obtain ⟨m1,m2,m3⟩:=Kt h3
  rw[Wo (show XZ w.Marks (Xh w a).1>=0 from h3),We,m2,Xa,Wl (show ¬ XZ w.Marks (Xh w a).1<0 by omega),Wa]
  rw[Wh (show ¬ (XZ w.Marks (Xh w a).1<0/\w.Marks.length=64) by omega)]
  by_cases h4:(Vr w.Marks (XZ w.Marks (Xh w a).1)).Count=1000
  ·rw[XA h4,We,Wn ⟨h3,h4⟩]
  ·rw[Xc h4,Wa,Wh (λ h=>h4 h.2)]
   cases f<;>rfl
 ·rw[Wl (show ¬ XZ w.Marks (Xh w a).1>=0 from h3),Wa,Wo (show XZ w.Marks (Xh w a).1<0 by omega),We,Wh (λ h=>h3 h.1)]
  by_cases h4:w.Marks.length=64
  ·rw[h4,Wn ⟨by omega,rfl⟩];rfl
  ·rw[Xc (show ¬ ((w.Marks.length:Nat):Int)=64 by omega),Wa,Wh (λ h=>h4 h.2)]
   cases f<;>rfl
theorem XjH (hw:WB k w) (hN:1000000<N) (hv:XK w=true) (op:Int) {a b:Int} (ta:tU a) (tb:tU b):Qgk N w op a b=some (ZL w op a b):=by
 rw[Qgk,ZL,XY,V7 hw hN hv ta,Xa]
 by_cases h4:op=4
 ·rw[XA h4,We,Wn (.inl h4)]
 rw[Xc h4,Wa]
 by_cases h5:op=5
 ·rw[XA h5,We,Wn (.inr h5)]
 rw[Xc h5,Wa,Wh (by omega),ZT hw hN hv ta,Xa]
 by_cases h1:(XP w a).2=0
 rotate_left
 ·rw[Xm h1,We,Wn h1]
 rw[Xk h1,Wa,Wh (by simpa using h1)]
 by_cases h10:op=10
 ·rw[XA h10,We,Wn h10,ZT hw hN hv tb,Xa]
 ·rw[Xc h10,Wa,Wh h10,Jt hw.loc hN,Xa]
end
end Go.Sx
namespace Go.Sx
theorem Xmm {β:Type} (K:Bool->β) (c1 c2:Bool):(jn K λ j=>bif c1 then j true else j c2)=K (c1||c2):=by
 rw[XY];cases c1<;>rfl
theorem b2 (op a b:Int):(op==a||op==b)=decide (op=a\/op=b):=by rw[Bool.decide_or];rfl
theorem bd (op a:Int) (p:Prop) [Decidable p]:(op==a||decide p)=decide (op=a\/p):=by rw[Bool.decide_or];rfl
theorem Xmn {β:Type} {p:Prop} [Decidable p] (x y:β):(bif decide p then x else y)=if p then x else y:=by
 by_cases h:p
 ·rw[Wo h,Wn h];rfl
 ·rw[Wl h,Wh h];rfl
theorem Xlv {β:Type} (o:Option β):(bnd o λ y=>some y)=o:=by
 cases o
 ·exact Xbs _
 ·exact Xa _ _
theorem Xlw {β:Type} {p:Prop} [Decidable p] (x y:β):(if p then some x else some y)=some (if p then x else y):=by split<;>rfl
section
variable {N:Nat} {w:Wm} {k:Nat}
theorem XjI (hw:WB k w) (hN:1000000<N) (tw:Xv w) (op:Int) {a b c:Int} (ta:tU a) (tb:tU b) (tc:tU c) (f:Bool):Qex N w op a b c f=some (Yz w op a b c f):=by
 rw[Qex,Vb hw hN,Xa,Yz]
 cases hv:XK w
 ·rfl
 rw[Wx,Wa,Wh (by simp)]
 simp only[Xmm,Xlv,XfE hw hN op ta tb f,XhF hw hN hv tw op ta tb tc,XfF hw hN hv op ta,XjG hw hN hv op ta,XhG hw hN hv op ta,XhH hw hN hv op ta f,XjH hw hN hv op ta tb,b2,bd,Xmn,Xlw]
end
end Go.Sx
namespace Go.Sx
theorem Xau (d:WE):∀ (k:Nat) (l:List Int),∀ r∈KD d k l,r∈l
 | k,[],r,h=>by simp[KD] at h
 | k,f::fs,r,h=>by
  unfold KD at h
  split at h
  ·rcases UN.1 h with h | h
   ·exact h▸List.mem_cons_self
   ·exact Ud _ (Xau d (k+1) fs r h)
  ·exact Ud _ (Xau d (k+1) fs r h)
def zWo:Wm:=⟨⟨0,0⟩,[],zL,zT,zT,[],[]⟩
theorem XjJ {k:Nat} (hk:k<=900):WB k zWo:=⟨hk,by simp[zWo],λ x hx=>by simp[zWo] at hx,Zx,by simp[zWo,zT],by simp[zWo,zT],by simp[zWo],by simp[zWo]⟩
section
variable {N:Nat} {w:Wm} {k:Nat}
theorem XbT (hm:w.Marks.length<=1000):∀ (n:Nat) (i:Int) (v:List Int),0<=i->i<=w.Marks.length->(w.Marks.length-i).toNat<n->v.length<=100000+i->(∀ x∈v,0<=x/\x<=w.Things.length)->(∀ m∈w.Marks,0<=m.Id/\m.Id<=w.Things.length)->Ok (QbY N w n i v) λ r=>r.length<=v.length+(w.Marks.length-i)/\∀ x∈r,0<=x/\x<=w.Things.length
 | 0,i,v,_,_,hn,_,_,_=>by omega
 | n+1,i,v,h0,hi,hn,hv,hx,hmm=>by
  rw[QbY]
  refine Wq (λ hc=>?_) λ hc=>Wg ⟨by omega,hx⟩
  have hc:i<w.Marks.length:=Wu hc
  rw[Xe (n:=i+1) (by omega) (by omega)]
  refine Ok.get h0 hc λ p hp=>Ug (by omega) ?_
  have hpm:=YN hp
  refine (XbT hm n (i+1) _ (by omega) (by omega) (by omega) (by rw[Wr];simp;omega) (λ x hx'=>?_) hmm).mono λ r hr=>⟨?_,hr.2⟩
  ·rcases WH.1 hx' with h | h
   ·exact hx x h
   ·rw[UT.1 h];exact hmm p hpm
  ·have:=hr.1
   rw[Wr] at this
   simp at this
   omega
theorem XfG (hN:NB N) (hw:WB k w) (hv:XK w=true) (tw:Xv w):Ok (Qem N w) λ r=>r.length<=10000/\∀ x∈r,0<=x/\x<=w.Things.length:=by
 have hN':=hN
 unfold NB at hN'
 have hr:=hw.roots
 have hm:=hw.marks
 have wf:=Yi hv
 obtain ⟨t1,t2,t3,t4,t5,t6⟩:=tw
 have l1:=Ja wf.loc
 have l2:=Zy wf.glo
 rw[Qem]
 refine Ug (by omega) ?_
 rw[KC hw.loc (by omega),Xa,wf.loc,We]
 refine Ug (by omega) ?_
 rw[YP hw.glo (by omega),Xa,wf.glo,We]
 refine Ug (by omega) (WL (XbT hm N 0 _ (by omega) (by omega) (by omega) (by simp only[Wr];omega) (λ x hx=>?_) λ m hmm=>?_) λ r _ h=>Wg ⟨?_,h.2⟩)
 ·simp only[WH] at hx
  rcases hx with (h | h) | h
  ·exact ⟨(t6 x h).1,wf.roots x h⟩
  ·refine ⟨?_,wf.rloc x h⟩
   unfold Yc at h
   obtain ⟨p,hp,rfl⟩:=W8.1 h
   exact (t2 p (Uq.1 hp).1).1
  ·refine ⟨?_,wf.rglo x h⟩
   unfold XE at h
   obtain ⟨p,hp,rfl⟩:=W8.1 h
   exact (t3 p (Uq.1 hp).1).1
 ·obtain ⟨i,hi,e⟩:=WX hmm
  have:=wf.mk_ (k:=i) (m:=m) (by rw[Wc hi,e])
  omega
 ·have:=h.1
  simp only[Wr] at this
  omega
theorem V9 (hN:NB N) (hw:WB k w) (hv:XK w=true) (tw:Xv w) (M:Nat) (hM:M<=2000000):∀ (n:Nat) (i:Int) (v:List Bool) (q:List Int),0<=i->i<=q.length->(M-i).toNat<n->v.length=w.Things.length->(∀ x∈q,0<=x/\x<=w.Things.length)->q.length+1000*v.countP (λ b=>!b)<=M->Ok (Qar N w n i v q) λ r=>r.length=w.Things.length
 | 0,i,v,q,_,_,hn,_,_,_=>by omega
 | n+1,i,v,q,h0,hi,hn,hl,hq,hm=>by
  have hN':=hN
  unfold NB at hN'
  have hk:=hw.kk
  have ht:=hw.things
  rw[Qar]
  refine Ug (by omega) (Wq (λ hc=>?_) λ _=>Wg hl)
  have hc:i<q.length:=Wu hc
  rw[Xe (n:=i+1) (by omega) (by omega)]
  refine Ok.get h0 hc λ p hp=>?_
  have same:∀ p',Xb q i=some p'->p'=p:=λ p' h=>Ww (h.symm.trans hp)
  have hpq:=hq p (YN hp)
  refine Wq (λ _=>V9 hN hw hv tw M hM n (i+1) v q (by omega) (by omega) (by omega) hl hq hm) λ hz=>?_
  have hz:¬ p=0:=by simpa using hz
  refine Ok.get h0 hc λ p2 hp2=>?_
  obtain rfl:=same p2 hp2
  rw[XT (n:=p2-1) (by omega) (by omega)]
  refine Ok.get (by omega) (by omega) λ b hb=>Wq (λ _=>V9 hN hw hv tw M hM n (i+1) v q (by omega) (by omega) (by omega) hl hq hm) λ hbf=>?_
  refine Ok.get h0 hc λ p3 hp3=>?_
  obtain rfl:=same p3 hp3
  rw[XT (n:=p3-1) (by omega) (by omega)]
  refine Ok.get (by omega) (by omega) λ _ _=>Ok.get h0 hc λ p4 hp4=>?_
  obtain rfl:=same p4 hp4
  obtain ⟨g1,g2⟩:=Ys hw (id:=p4) (by omega) (by omega)
  have hf:=hw.fields _ g2
  obtain ⟨v1,v2,v3,v4⟩:=(Yi hv).thing _ g2
  have hrl:=K8 (thg w p4).Header 0 (thg w p4).Fields
  have hrl:(K7 (thg w p4)).length<=1000:=by unfold K7;omega
  rw[g1,Xa,V5 (by omega) (by omega),Xa]
  have hlt:(p4-1).toNat<v.length:=by omega
  have hbv:v[(p4-1).toNat]=false:=by
   rw[XM (by omega) (by omega)] at hb
   rw[Ww hb];exact hbf
  have hcount:(v.set (p4-1).toNat true).countP (λ b=>!b)+1<=v.countP (λ b=>!b):=by
   have hpos:0<v.countP (λ b=>!b):=List.countP_pos_iff.2 ⟨v[(p4-1).toNat],W6 _,by rw[hbv];rfl⟩
   rw[List.countP_set hlt,hbv]
   simp
   omega
  refine Ug (by omega) (V9 hN hw hv tw M hM n (i+1) _ _ (by omega) (by rw[Wr];omega) (by omega) (by rw[Wv];exact hl) (λ x hx=>?_) (by rw[Wr];omega))
  rcases WH.1 hx with h | h
  ·exact hq x h
  ·refine ⟨?_,v4 x h⟩
   exact ((tw.1 _ g2).2 x (Xau _ _ _ x h)).1
theorem XfH (hN:NB N) (hw:WB k w) (hv:XK w=true) (tw:Xv w):Ok (Qdq N w) λ r=>r.length=w.Things.length:=by
 have hN':=hN
 unfold NB at hN'
 have hk:=hw.kk
 have ht:=hw.things
 rw[Qdq,Vb hw (by omega),Xa,hv,Wx,Wa]
 refine Ug (by omega) (WL (XfG hN hw hv tw) λ y _ hy=>WL (V9 hN hw hv tw 1100000 (by omega) N 0 _ y (by omega) (by omega) (by omega) (by rw[Uc];omega) hy.2 ?_) λ r _ hr=>Wg hr)
 have:(List.replicate (((w.Things.length:Nat):Int)).toNat false).countP (λ b=>!b)<=1000:=by
  refine Ic List.countP_le_length ?_
  rw[Uc];omega
 have:=hy.1
 omega
theorem XdC (y:List Bool) (hy:y.length=w.Things.length) (hw:WB k w):∀ (n:Nat) (i:Int) (v:List Int),0<=i->i<=v.length->(v.length-i).toNat<n->v.length<=1000->(∀ x∈v,0<=x/\x<=w.Things.length)->Ok (Qaw N w y n i v) λ r=>r.length=v.length
 | 0,i,v,_,_,hn,_,_=>by omega
 | n+1,i,v,h0,hi,hn,hl,hx=>by
  have hk:=hw.kk
  have ht:=hw.things
  rw[Qaw]
  refine Ug (by omega) (Wq (λ hc=>?_) λ _=>Wg rfl)
  have hc:i<v.length:=Wu hc
  rw[Xe (n:=i+1) (by omega) (by omega)]
  have next:=XdC y hy hw n (i+1) v (by omega) (by omega) (by omega) hl hx
  refine Ok.get h0 hc λ p hp=>Wq (λ hz=>Ok.get h0 hc λ p2 hp2=>?_) λ _=>next
  obtain rfl:p=p2:=Ww (hp.symm.trans hp2)
  have hpq:=hx p (YN hp)
  have hz:¬ p=0:=by simpa using hz
  rw[XT (n:=p-1) (by omega) (by omega)]
  refine Ok.get (by omega) (by omega) λ _ _=>Wq (λ _=>Ok.get h0 hc λ _ _=>?_) λ _=>next
  refine (XdC y hy hw n (i+1) _ (by omega) (by rw[Wv];omega) (by rw[Wv];omega) (by rw[Wv];exact hl) λ x hx'=>?_).mono λ r hr=>by rw[hr,Wv]
  rcases UB hx' with h | h
  ·exact hx x h
  ·rw[h];omega
theorem XaQ (hN:NB N) (hw:WB k w) (tw:Xv w):Ok (QbI N w) λ r=>WB k r.1:=by
 have hN':=hN
 unfold NB at hN'
 rw[QbI,Vb hw (by omega),Xa]
 refine Wq (λ _=>Wg (XjJ hw.kk)) λ hv=>?_
 have hv:XK w=true:=by simpa using hv
 have wf:=Yi hv
 have l3:=Zy wf.wea
 refine WL (XfH hN hw hv tw) λ y _ hy=>?_
 rw[YP hw.wea (by omega),Xa,wf.wea,We]
 refine WL (XdC y hy hw N 0 _ (by omega) (by omega) (by omega) (by omega) λ x hx=>⟨?_,wf.rwea x hx⟩) λ z _ hz=>WL (XcJ hw.wea (by omega) (by omega)) λ t _ ht=>Wg ⟨hw.kk,hw.things,hw.fields,hw.loc,hw.gloK,Ic ht hw.weaK,hw.marksK,hw.rootsK⟩
 unfold XE at hx
 obtain ⟨p,hp,rfl⟩:=W8.1 hx
 exact (tw.2.2.2.1 p (Uq.1 hp).1).1
end
end Go.Sx
namespace Go.Sx
theorem Sb {β κ:Type} {P:β->Prop} {k:κ->Option β} {f:(κ->Option β)->Option β} (Q:κ->Prop) (h:∀ x,Q x->Ok (k x) P) (g:∀ j:κ->Option β,(∀ x,Q x->Ok (j x) P)->Ok (f j) P):Ok (Sx.jn k f) P:=by rw[XY];exact g k h
section
variable {N:Nat} {w:Wm} {k:Nat}
theorem Vc (hw:WB k w) (hN:1000000<N) (id:Int):Ok (Qbc N w id) λ r=>WB k r.1:=by
 rw[Qbc]
 refine Uw (Wg hw) ?_
 rw[V2 hw.loc hN,Xa]
 exact Uy (Zr _) λ y _=>Wg ⟨hw.kk,hw.things,hw.fields,Xgv hw.loc id,hw.gloK,hw.weaK,hw.marksK,hw.rootsK⟩
theorem XgG (hw:WB k w) {id i v:Int} (h1:1<=id) (h2:id<=w.Things.length) (i0:0<=i) (i1:i<(thg w id).Fields.length):Ok (QdS N w id i v) λ r=>WB k r:=by
 have hk:=hw.kk
 have ht:=hw.things
 obtain ⟨g1,g2⟩:=Ys hw h1 h2
 have hf:=hw.fields _ g2
 rw[QdS,Xi (by omega),g1,Xa,Xi (by omega)]
 refine Ok.get i0 (by omega) λ _ _=>?_
 rw[Xa]
 refine Wg ⟨hw.kk,?_,λ x hx=>?_,hw.loc,hw.gloK,hw.weaK,hw.marksK,hw.rootsK⟩
 ·show (w.Things.set _ _).length<=_;rw[Wv];exact ht
 ·have hx:x∈w.Things.set _ _:=hx
  rcases UB hx with h | h
  ·exact hw.fields x h
  ·rw[h];show ((thg w id).Fields.set _ _).length<=_;rw[Wv];exact hf
theorem XeI (hw:WB k w) (hN:1000000<N) (op id:Int):Ok (Qb6 N w op id) λ r=>WB k r.1:=by
 rw[Qb6]
 refine IS (Uw ?_ ?_)
 ·rw[KN hw.wea hN,Xa]
  exact Uy (Zr _) λ y _=>Wg ⟨hw.kk,hw.things,hw.fields,hw.loc,hw.gloK,Xez hw.weaK id,hw.marksK,hw.rootsK⟩
 ·rw[KN hw.glo hN,Xa]
  exact Uy (Zr _) λ y _=>Wg ⟨hw.kk,hw.things,hw.fields,hw.loc,Xez hw.gloK id,hw.weaK,hw.marksK,hw.rootsK⟩
theorem XfI (hw:WB k w) (hN:1000000<N) (v:Int):Ok (Qcs N w v) λ r=>WB k r:=by
 rw[Qcs]
 refine Uy (Xas _) λ y _=>Uw ?_ (Uw ?_ ?_)
 ·rw[XdA hw.loc hN,Xa];exact Wg ⟨hw.kk,hw.things,hw.fields,Xgw hw.loc _ _,hw.gloK,hw.weaK,hw.marksK,hw.rootsK⟩
 ·rw[J7 hw.glo hN,Xa];exact Wg ⟨hw.kk,hw.things,hw.fields,hw.loc,XeA hw.gloK _ _,hw.weaK,hw.marksK,hw.rootsK⟩
 ·rw[J7 hw.wea hN,Xa];exact Wg ⟨hw.kk,hw.things,hw.fields,hw.loc,hw.gloK,XeA hw.weaK _ _,hw.marksK,hw.rootsK⟩
theorem XjK (hw:WB k w) (hN:1000000<N) (h64:w.Marks.length<=64) (op id b:Int) (h20:op=20->0<=XZ w.Marks id):Ok (QdM N w op id b) λ r=>WB k r.1:=by
 have setM:∀ l:List Uz,l.length<=100+k->WB k ⟨w.Conf,w.Things,w.Locals,w.Globals,w.Weaks,l,w.Roots⟩:=λ l hl=>⟨hw.kk,hw.things,hw.fields,hw.loc,hw.gloK,hw.weaK,hl,hw.rootsK⟩
 rw[QdM,QeY,V6 (by omega) hN,Xa,Xa]
 refine Ug (by omega) (Wq (λ h=>?_) λ _=>Wq (λ h=>?_) λ h=>Ug (by omega) (Wg (setM _ (by rw[Wr];simp;omega))))
 ·have h:=h20 (by simpa using h)
  obtain ⟨m1,_,_⟩:=Kt h
  refine Ok.get h m1 λ _ _=>Ok.get h m1 λ _ _=>Ok.get h (by rw[Wv];exact m1) λ _ _=>Wq (λ _=>?_) λ _=>Wg (setM _ (by rw[Wv];omega))
  have e:=Xe (n:=XZ w.Marks id+1) (by omega) (by omega)
  refine Ug (by omega) (Ug (by rw[e];omega) (Ug (by rw[e];omega) (Wg (setM _ ?_))))
  simp only[WO,Wr,Wv,Uo];omega
 ·have h:0<=XZ w.Marks id:=Wu h
  obtain ⟨m1,_,_⟩:=Kt h
  exact Ok.get h m1 λ _ _=>Ok.get h m1 λ _ _=>Ok.get h (by rw[Wv];exact m1) λ _ _=>Wg (setM _ (by rw[Wv];omega))
theorem WB.up (hw:WB k w) (hk:k+1<=900):WB (k+1) w:=⟨hk,by have:=hw.things;omega,hw.fields,hw.loc,by have:=hw.gloK;omega,by have:=hw.weaK;omega,by have:=hw.marksK;omega,by have:=hw.rootsK;omega⟩
theorem XeJ (hN:NB N) (hw:WB k w) (hk:k+1<=900) (tw:Xv w) (op:Int) {a b c:Int} (ta:tU a) (tb:tU b) (tc:tU c) (ft:UH):Ok (Qaa N w op a b c ft) λ r=>WB (k+1) r.1:=by
 have hN':=hN
 unfold NB at hN'
 have hN1:1000000<N:=by omega
 have zero:WB (k+1) zWo:=XjJ hk
 rw[Qaa,XjI hw hN1 tw op ta tb tc,Xa]
 refine Wq (λ _=>Wg zero) λ hz=>?_
 have hz:Yz w op a b c ft.Failed=0:=by simpa using hz
 have hv:XK w=true:=by
  cases h:XK w
  ·unfold Yz at hz;rw[h] at hz;cases hz
  ·rfl
 have wf:=Yi hv
 unfold Yz at hz
 rw[hv,Wh (by simp)] at hz
 have thing:(Xh w a).2=0->1<=(XP w a).1/\(XP w a).1<=w.Things.length/\Xh w a=XP w a:=λ h=>by
  obtain ⟨t1,t2,t3⟩:=Ks hw hv tw ta h
  rw[t3] at t1 t2
  exact ⟨t1,t2,t3⟩
 refine Sb (λ x=>¬ (op<=3\/op=17)->x=(XP w a).1) (λ x3 hx3=>?_) λ j1 h1=>?_
 rotate_left
 ·refine Wq (λ hg=>Wq (λ h17=>?_) λ h17=>h1 _ λ h=>absurd (Or.inr (by simpa using h17)) h) λ hg=>h1 _ λ h=>absurd (Or.inl (by have:=WI hg;omega)) h
  rw[ZT hw hN1 hv ta,Xa]
  exact h1 _ λ _=>rfl
 simp only[Xmm]
 refine Wq (λ hc=>?_) λ hc=>?_
 ·
  have hc:op=1\/op=2\/op=3:=by simpa using hc
  rw[Wn hc] at hz
  obtain ⟨d,hd,hd2⟩:=XbS (N:=N) op ta tb
  have hfac:okW op a b/\V8 w.Conf (hdW op a b)=true:=by
   unfold Zl at hz
   split at hz
   ·cases hz
   split at hz
   ·cases hz
   rename_i _ h2
   split at hz
   ·cases hz
   rename_i h3
   exact ⟨Classical.not_not.1 h2,by simpa using h3⟩
  have hdd:=hd2 hfac.1
  have hvd:XW d=true:=by
   have:=hfac.2
   unfold V8 at this
   rw[WG] at this
   rw[hdd];exact this.1
  have hb:=Yf hvd
  have main:∀ w':Wm,WB k w'->Ok (α:=Wm×Int×Int) (bnd (Qbp N op a b) λ y17 =>
   grd (w'.Things.length*48<=140737488355328) <|
   grd (0<=y17.1.Length/\y17.1.Length.toNat*8<=140737488355328) <|
   grd ((w'.Things.length+1)*48<=140737488355328) <|
   grd ((w'.Things.length+1)<=140737488355328) <|
   bnd (Qbc N (Wm.mk (Ut.mk w'.Conf.PageWords w'.Conf.Pages) (w'.Things++[(W5.mk y17.1 (List.replicate y17.1.Length.toNat 0))]) (Ws.mk w'.Locals.Slots w'.Locals.Scopes w'.Locals.Issued) (WC.mk w'.Globals.Entries) (WC.mk w'.Weaks.Entries) w'.Marks w'.Roots) (wU (((w'.Things.length+1):Nat):Int))) λ y18 =>
   some (y18.1,y18.2,0)) λ r=>WB (k+1) r.1:=by
   intro w' hw'
   have ht:=hw'.things
   rw[hd,Xa]
   refine Ug (by omega) (Ug (by constructor<;>simp only<;>omega) (Ug (by omega) (Ug (by omega) (Uy (Vc (k:=k+1) (w:=⟨w'.Conf,w'.Things++[⟨d,List.replicate d.Length.toNat 0⟩],w'.Locals,w'.Globals,w'.Weaks,w'.Marks,w'.Roots⟩) ⟨hk,?_,λ x hx=>?_,hw'.loc,IX hw'.gloK,IX hw'.weaK,IX hw'.marksK,IX hw'.rootsK⟩ hN1 _) λ y hy=>Wg hy))))
   ·show (w'.Things++[_]).length<=_;rw[Wr];simp;omega
   ·rcases WH.1 hx with h | h
    ·exact hw'.fields x h
    ·rw[UT.1 h];show (List.replicate _ _).length<=_;rw[Uc];omega
  refine IS (Wq (λ _=>WL (XaQ hN hw tw) λ y _ hy=>?_) λ _=>?_)
  ·exact main y.1 hy
  ·exact main w hw
 have hn1:¬ (op=1\/op=2\/op=3):=by simpa using hc
 rw[Wh hn1] at hz
 have sw:∀ v e:Int,Ok (α:=Wm×Int×Int) (some (w,v,e)) λ r=>WB (k+1) r.1:=λ v e=>Wg (hw.up hk)
 have up:∀ {w':Wm},WB k w'->WB (k+1) w':=λ h=>WB.up h hk
 have pl:(op=4\/op=5\/op=10\/op=11)->ZL w op a b=0:=λ h=>by
  rw[Wh (by omega),Wh (by omega),Wh (by omega),Wh (by omega),Wh (by omega),Wn h] at hz
  exact hz
 have len:(op=4\/op=5)->1<=x3/\x3<=w.Things.length:=λ h=>by
  have h1:=pl (by omega)
  unfold ZL at h1
  rw[Wn h] at h1
  have:=thing h1
  rw[hx3 (by omega)]
  exact ⟨this.1,this.2.1⟩
 have fld:(op=6\/op=7\/op=8\/op=9)->(1<=x3/\x3<=w.Things.length)/\b<(thg w x3).Fields.length/\wI b=b:=λ h=>by
  rw[Wn h] at hz
  unfold YZ at hz
  by_cases h1:(Xh w a).2=0
  rotate_left
  ·rw[Wn h1] at hz;exact absurd hz h1
  rw[Wh (by simpa using h1)] at hz
  obtain ⟨t1,t2,t3⟩:=thing h1
  have e:x3=(XP w a).1:=hx3 (by omega)
  rw[t3,← e] at hz
  rw[← e] at t1 t2
  obtain ⟨g1,g2⟩:=Ys hw t1 t2
  obtain ⟨v1,v2,v3,v4⟩:=wf.thing _ g2
  have vb:=Yf v1
  by_cases h2:b>=(thg w x3).Header.Length
  ·rw[Wn h2] at hz;cases hz
  have:=tb.1
  exact ⟨⟨t1,t2⟩,by omega,Xe (by omega) (by omega)⟩
 refine Wq (λ h4=>?_) λ n4=>Wq (λ h5=>?_) λ n5=>Wq (λ h6=>?_) λ n6=>Wq (λ h7=>?_) λ n7=>Wq (λ h8=>?_) λ n8=>Wq (λ h9=>?_) λ n9=>Wq (λ h10=>?_) λ n10=>Wq (λ h11=>?_) λ n11=>?_
 ·have h4:op=4:=by simpa using h4
  have:=len (.inl h4)
  rw[(Ys hw this.1 this.2).1,Xa];exact sw _ _
 ·have h5:op=5:=by simpa using h5
  have:=len (.inr h5)
  rw[(Ys hw this.1 this.2).1,Xa];exact sw _ _
 ·have h6:op=6:=by simpa using h6
  obtain ⟨f1,f2,f3⟩:=fld (by omega)
  rw[(Ys hw f1.1 f1.2).1,Xa]
  exact Ok.get tb.1 f2 λ _ _=>sw _ _
 ·have h7:op=7:=by simpa using h7
  obtain ⟨f1,f2,f3⟩:=fld (by omega)
  rw[f3]
  exact Uy (XgG hw f1.1 f1.2 tb.1 f2) λ y hy=>Wg (up hy)
 ·have h8:op=8:=by simpa using h8
  obtain ⟨f1,f2,f3⟩:=fld (by omega)
  rw[(Ys hw f1.1 f1.2).1,Xa]
  exact Ok.get tb.1 f2 λ _ _=>Uy (Vc hw hN1 _) λ y hy=>Wg (up hy)
 ·have h9:op=9:=by simpa using h9
  obtain ⟨f1,f2,f3⟩:=fld (by omega)
  rw[ZT hw hN1 hv tc,Xa,f3]
  exact Uy (XgG hw f1.1 f1.2 tb.1 f2) λ y hy=>Wg (up hy)
 ·rw[ZT hw hN1 hv tb,Xa]
  exact Uw (sw _ _) (sw _ _)
 ·exact Uy (Vc hw hN1 _) λ y hy=>Wg (up hy)
 have n4:¬ op=4:=by simpa using n4
 have n5:¬ op=5:=by simpa using n5
 have n6:¬ op=6:=by simpa using n6
 have n7:¬ op=7:=by simpa using n7
 have n8:¬ op=8:=by simpa using n8
 have n9:¬ op=9:=by simpa using n9
 have n10:¬ op=10:=by simpa using n10
 have n11:¬ op=11:=by simpa using n11
 refine Wq (λ _=>Uy (XeI hw hN1 _ _) λ y hy=>Wg (up hy)) λ nl=>?_
 have nl:¬ (op=13\/op=15):=by simpa using nl
 refine Wq (λ _=>Uy (XfI hw hN1 _) λ y hy=>Wg (up hy)) λ nr=>?_
 have nr:¬ (op=12\/op=14\/op=16):=by simpa using nr
 refine Wq (λ _=>?_) λ n17=>Wq (λ _=>?_) λ n18=>?_
 ·rw[V3 hw.loc hN1,Xa]
  exact Wg (up ⟨hw.kk,hw.things,hw.fields,Xex hw.loc _,hw.gloK,hw.weaK,hw.marksK,hw.rootsK⟩)
 ·rw[Xa5 hw.loc hN1,Xa]
  exact Uy (Vc (w:=⟨w.Conf,w.Things,(ZC w.Locals).1,w.Globals,w.Weaks,w.Marks,w.Roots⟩) ⟨hw.kk,hw.things,hw.fields,V4 hw.loc,hw.gloK,hw.weaK,hw.marksK,hw.rootsK⟩ hN1 _) λ y hy=>Wg (up hy)
 have n17:¬ op=17:=by simpa using n17
 have n18:¬ op=18:=by simpa using n18
 rw[Wh (by omega),Wh (by omega),Wh (by omega),Wh (by omega)] at hz
 refine Uy (XjK hw hN1 wf.m64 op x3 _ λ h20=>?_) λ y hy=>Wg (up hy)
 rw[Wn (.inr h20)] at hz
 unfold JU at hz
 by_cases h1:(Xh w a).2=0
 rotate_left
 ·rw[Wn h1] at hz;exact absurd hz h1
 rw[Wh (by simpa using h1),Wn h20,(thing h1).2.2,← hx3 (by omega)] at hz
 by_cases h2:XZ w.Marks x3<0
 ·rw[Wn h2] at hz;cases hz
 ·omega
end
end Go.Sx
namespace Go.Sx
section
variable {N:Nat}
theorem Xlx {t:Ir} {m:Int} (h0:0<=t.at_) (h1:t.at_<=m) (hm:m<=1000000) {a:Int} (ha:a<=1000000000):Ok (Qab N t a) λ r=>0<=r.1/\(1<=a->r.1<a)/\0<=r.2.at_/\r.2.at_<=m+1:=by
 rw[Qab]
 refine Wq (λ _=>Wg ⟨by simp,λ h=>by omega,h0,by simp only;omega⟩) λ hg=>?_
 have hg:=WI hg
 have rest:∀ x:Int,Ok (grd (a≠0) <| grd (a≠0) <| some (((wI ((x.tmod a)+a)).tmod a),(Ir.mk t.L (wI (t.at_+1))))) λ r=>0<=r.1/\(1<=a->r.1<a)/\0<=r.2.at_/\r.2.at_<=m+1:=by
  intro x
  have b1:=Int.tmod_lt_of_pos x (show 0<a by omega)
  have b2 : -a<x.tmod a:=by
   have:=Int.tmod_lt_of_pos (-x) (show 0<a by omega)
   rw[Int.neg_tmod] at this
   omega
  have e:=Xe (n:=x.tmod a+a) (by omega) (by omega)
  have e2:=Xe (n:=t.at_+1) (by omega) (by omega)
  have c1:=Int.tmod_lt_of_pos (x.tmod a+a) (show 0<a by omega)
  have c2:=Int.tmod_nonneg a (show 0<=x.tmod a+a by omega)
  refine Ug (by omega) (Ug (by omega) (Wg ?_))
  simp only[e,e2]
  exact ⟨c2,λ _=>c1,by omega,by omega⟩
 refine IS (Wq (λ h=>Ok.get h0 (Wu h) λ p _=>rest p) λ _=>rest _)
def TA (m:Int) (t:Ir):Prop:=0<=t.at_/\t.at_<=m
theorem nxp {t:Ir} {m a:Int} (h:TA m t) (hm:m<=1000000) (ha1:1<=a) (ha:a<=1000000000):Ok (Qab N t a) λ r=>0<=r.1/\r.1<a/\TA (m+1) r.2:=(Xlx h.1 h.2 hm ha).mono λ r hr=>⟨hr.1,hr.2.1 ha1,hr.2.2⟩
theorem TA.le {t:Ir} {m n:Int} (h:TA m t) (hn:m<=n):TA n t:=⟨h.1,by have:=h.2;omega⟩
theorem Vd {p:IL} {t:Ir} {m:Int} (hw:1<=p.Words.length) (hw2:p.Words.length<=1000) (h:TA m t) (hm:m+5<=1000000):Ok (Qba N p t) λ r=>TA (m+3) r.2:=by
 rw[Qba]
 have k2:∀ (t':Ir) (x8:Bool),TA (m+1) t'->Ok (bif x8 then (bnd (Qab N t' ((p.Words.length:Nat):Int)) λ y9=>bnd (Xb p.Words y9.1) λ p10=>some (p10,y9.2)) else bnd (Qab N t' (if 6<((p.Words.length:Nat):Int) then 6 else ((p.Words.length:Nat):Int))) λ y11=>bnd (Xb p.Words (wI ((wI (((p.Words.length:Nat):Int)-1))-y11.1))) λ p12=>some (p12,y11.2)) λ r=>TA (m+3) r.2:= by
  intro t' x8 h'
  refine Wq (λ _=>Uy (nxp h' (by omega) (by omega) (by omega)) λ y hy=>Ok.get hy.1 hy.2.1 λ _ _=>Wg (hy.2.2.le (by omega))) λ _=>?_
  refine Uy (nxp h' (by omega) (by split<;>omega) (by split<;>omega)) λ y hy=>?_
  have h1:y.1<((p.Words.length:Nat):Int):=by
   have:=hy.2.1
   split at this<;>omega
  have h0:=hy.1
  rw[Xe (n:=((p.Words.length:Nat):Int)-1) (by omega) (by omega),Xe (n:=((p.Words.length:Nat):Int)-1-y.1) (by omega) (by omega)]
  exact Ok.get (by omega) (by omega) λ _ _=>Wg (hy.2.2.le (by omega))
 refine Uy (nxp h (by omega) (by omega) (by omega)) λ y hy=>Wq (λ _=>Uy (nxp hy.2.2 (by omega) (by omega) (by omega)) λ z hz=>Ok.get hz.1 hz.2.1 λ _ _=>Wg (hz.2.2.le (by omega))) λ _=>Wq (λ _=>?_) λ _=>?_
 ·exact Uy (nxp hy.2.2 (by omega) (by omega) (by omega)) λ z hz=>Ok.get hz.1 hz.2.1 λ _ _=>Uy (nxp hz.2.2 (by omega) (by omega) (by omega)) λ u hu=>Wg (hu.2.2.le (by omega))
 ·refine Ox (λ x8=>k2 _ x8 hy.2.2) λ j2 h2=>Uw (h2 _) (Ox (λ x7=>h2 _) λ j h=>Uw (h _) (h _))
theorem XgH {p:IL} {t:Ir} {m:Int} (hw:1<=p.Words.length) (hw2:p.Words.length<=1000) (h:TA m t) (hm:m+30<=1000000):Ok (QbN N p t) λ r=>TA (m+20) r.2:=by
 rw[QbN]
 refine Uy (nxp h (by omega) (by omega) (by omega)) λ y1 h1=>Ok.get h1.1 h1.2.1 λ p2 _=>Wq (λ _=>?_) λ _=>?_
 ·refine Uy (nxp h1.2.2 (by omega) (by omega) (by omega)) λ y3 h3=>?_
  have e:=XT h3.1 (by have:=h3.2.1;omega)
  refine Ug (by rw[e];exact h3.1) ?_
  have hs:1<=Ka .i64 1 (wU y3.1)/\Ka .i64 1 (wU y3.1)<=1000:=by
   rw[e]
   have a:=h3.1
   have b:=h3.2.1
   have c:y3.1=0\/y3.1=1\/y3.1=2\/y3.1=3:=by omega
   rcases c with c | c | c | c<;>rw[c]<;>decide
  exact Uy (nxp h3.2.2 (by omega) (by omega) (by omega)) λ y4 h4=>Wg (h4.2.2.le (by omega))
 ·refine Ox (λ x5=>Wq (λ _=>?_) λ _=>Wq (λ _=>?_) λ _=>?_) λ j h=>Uw (h _) (h _)
  ·exact Uy (nxp h1.2.2 (by omega) (by omega) (by omega)) λ y6 h6=>Uy (nxp h6.2.2 (by omega) (by omega) (by omega)) λ y7 h7=>Uw (Uy (nxp h7.2.2 (by omega) (by omega) (by omega)) λ y8 h8=>Wg (h8.2.2.le (by omega))) (Wg (h7.2.2.le (by omega)))
  ·exact Uy (nxp h1.2.2 (by omega) (by omega) (by omega)) λ y9 h9=>Wg (h9.2.2.le (by omega))
  ·refine Uy (Vd hw hw2 h1.2.2 (by omega)) λ y10 h10=>Uy (nxp h10 (by omega) (by omega) (by omega)) λ y11 h11=>Uy (nxp h11.2.2 (by omega) (by omega) (by omega)) λ y12 h12=>?_
   have k:∀ (l:List Int) (at_ c:Int),TA (m+12) ⟨l,at_⟩->Ok (bif (p2==10) then (bnd (Qba N p (Ir.mk l at_)) λ y19 =>
    some ((I4.mk p2 y10.1 y19.1 c),y19.2))
   else some ((I4.mk p2 y10.1 (wU y11.1) c),(Ir.mk l at_))) λ r=>TA (m+20) r.2:=λ l at_ c ht =>
    Uw (Uy (Vd hw hw2 ht (by omega)) λ y hy=>Wg (hy.le (by omega))) (Wg (ht.le (by omega)))
   refine IS (Uw (Uy (Vd hw hw2 h12.2.2 (by omega)) λ y hy=>k _ _ _ (hy.le (by omega))) (Uy (nxp h12.2.2 (by omega) (by omega) (by omega)) λ y13 h13=>Uw (Uy (Vd hw hw2 h13.2.2 (by omega)) λ y hy=>k _ _ _ (hy.le (by omega))) (k _ _ _ (h13.2.2.le (by omega)))))
structure PB (k:Nat) (p:IL):Prop where
 env:EB p.Env
 wor:WB k p.World
 ty:Vy p
 w1:1<=p.Words.length
 w2:p.Words.length<=k+1
theorem Xnb (a b:UX) (op v e:Int):Ok (Qdr N a b op v e) λ _=>True:=by
 rw[Qdr]
 have k2:∀ x y:Bool,Ok (bif (op==19) then (bif (e==0) then some (UH.mk x y v)
  else some (UH.mk x y 0))
  else some (UH.mk x y 0)) λ _=>True:=λ x y=>Uw (Uw (Wg trivial) (Wg trivial)) (Wg trivial)
 refine Ox (λ x=>Ox (λ y=>k2 x y) λ j h=>Uw (h _) (h _)) λ j h=>Uw (h _) (Uw (h _) (h _))
theorem Xoa (hN:NB N) {k:Nat} {p:IL} (hp:PB k p) (hk:k+1<=900) {d:I4} (td:JN d):Ok (Qcv N p d) λ r=>PB (k+1) r.1:=by
 have ty:=λ r (e:Qcv N p d=some r)=>Qjl (N:=N) hp.ty td r e
 have main:Ok (Qcv N p d) λ r=>EB r.1.Env/\WB (k+1) r.1.World/\1<=r.1.Words.length/\r.1.Words.length<=k+1+1:=by
  have w1:=hp.w1
  have w2:=hp.w2
  have up:=hp.wor.up hk
  rw[Qcv]
  refine Wq (λ _=>?_) λ _=>?_
  ·refine Uy (XaP hN hp.env) λ y1 h1=>IS (Uw (Uy (XaQ hN hp.wor hp.ty.2.1) λ y2 h2=>Wg ⟨h1,h2.up hk,w1,IX w2⟩) (Wg ⟨hp.env,up,w1,IX w2⟩))
  ·refine WL (XjF hN hp.env _ _ _ _) λ y26 e26 h26=>Uy (Xnb _ _ _ _ _) λ y27 _=>Uy (XeJ hN hp.wor hk hp.ty.2.1 d.Op td.1 td.2.1 td.2.2 y27) λ y28 h28=>?_
   have k2:∀ w:Wm,WB (k+1) w->Ok (α:=IL×Int×Int) (bif (y26.2.2==0) then (bif (y26.2.1 != 0) then (grd (p.Words.length*8<=140737488355328) <| grd ((p.Words.length+1)*8<=140737488355328) <| some ((IL.mk y26.1 w (p.Words++[y26.2.1])),y26.2.1,y26.2.2)) else some ((IL.mk y26.1 w p.Words),y26.2.1,y26.2.2)) else some ((IL.mk p.Env w p.Words),y26.2.1,y26.2.2)) λ r=>EB r.1.Env/\WB (k+1) r.1.World/\1<=r.1.Words.length/\r.1.Words.length<=k+1+1:= by
    intro w hw
    refine Uw (Uw (Ug (by omega) (Ug (by omega) (Wg ⟨h26,hw,?_,?_⟩))) (Wg ⟨h26,hw,w1,by simp only;omega⟩)) (Wg ⟨hp.env,hw,w1,by simp only;omega⟩)
    ·show 1<=(p.Words++[_]).length;rw[Wr];omega
    ·show (p.Words++[_]).length<=_;rw[Wr];simp;omega
   exact IS (Uw (k2 y28.1 h28) (k2 p.World up))
 obtain ⟨r,e,h⟩:=main
 exact ⟨r,e,h.1,h.2.1,(ty r e).1,h.2.2.1,h.2.2.2⟩
end
end Go.Sx
namespace Go.Sx
section
variable {N:Nat}
theorem XhI {t:Ir} {m:Int} (h:TA m t) (hm:m+5<=1000000):Ok (QeX N t) λ r=>TA (m+2) r.2:=by
 rw[QeX]
 exact Uy (nxp h (by omega) (by omega) (by omega)) λ y hy=>Ok.get hy.1 hy.2.1 λ _ _=>Uy (nxp hy.2.2 (by omega) (by omega) (by omega)) λ z hz=>Ok.get hz.1 hz.2.1 λ _ _=>Wg (hz.2.2.le (by omega))
theorem XjL (c:Ut):Ok (QfT N c) λ r=>EB r.1:=by
 rw[QfT,Qgt,Zg,Xa]
 refine WL (Q:=λ r:Wz×Int=>HB r.1) ?_ λ y _ hy=>Wg ⟨hy,Zx,XbK,XbK,by simp,by simp⟩
 refine Wq (λ _=>Wg ZN) λ hv=>?_
 have hv:Yq c=true:=by simpa using hv
 have hvc:=XH.1 hv
 have hm:=JP hv (i:=0) (by omega) (by omega)
 have e:=Xe (n:=c.Pages*c.PageWords) (by omega) (by omega)
 refine Ug (by rw[e];omega) (Ug (by omega) (Wg ⟨?_,?_⟩))
 ·show (List.replicate _ _).length<=_;rw[Uc,e];omega
 ·show (List.replicate _ _).length<=_;rw[Uc];omega
theorem XjM (c:Ut):Ok (QfS N c) λ r=>WB 0 r.1:=by
 rw[QfS,Zg,Xa]
 have z:∀ c:Ut,WB 0 ⟨c,[],zL,zT,zT,[],[]⟩:=λ c=>⟨by omega,by simp,λ x hx=>by simp at hx,Zx,by simp[zT],by simp[zT],by simp,by simp⟩
 exact Uw (Wg (z _)) (Wg (z _))
theorem XjN {t:Ir} {m:Int} (h:TA m t) (hm:m+5<=1000000):Ok (QbX N t) λ r=>PB 0 r.1/\TA (m+3) r.2:=by
 have main:Ok (QbX N t) λ r=>EB r.1.Env/\WB 0 r.1.World/\1<=r.1.Words.length/\r.1.Words.length<=1/\TA (m+3) r.2:=by
  rw[QbX]
  refine Uy (XhI h hm) λ y1 h1=>Uy (XjL _) λ y2 h2=>Uy (XjM _) λ y3 h3=>Uy (nxp h1 (by omega) (by omega) (by omega)) λ y4 h4=>Wg ⟨⟨h2.heap,⟨h2.loc.1,by simp,h2.loc.2.2⟩,h2.glo,h2.wea,h2.pins,h2.roots⟩,⟨h3.kk,h3.things,h3.fields,⟨h3.loc.1,by simp,h3.loc.2.2⟩,h3.gloK,h3.weaK,h3.marksK,h3.rootsK⟩,by simp,by simp,h4.2.2.le (by omega)⟩
 obtain ⟨r,e,h1,h2,h3,h4,h5⟩:=main
 exact ⟨r,e,⟨h1,h2,QhY r e,h3,h4⟩,h5⟩
theorem XgI (hN:NB N):∀ (n:Nat) (i:Int) (t:Ir) (p:IL) (k:Nat),0<=i->i<=60->(60-i).toNat<n->(k:Int)=i->PB k p->TA (10+20*i) t ->
 Ok (Qe2 N 60 n i t.L t.at_ p.Env.Heap.Conf.PageWords p.Env.Heap.Conf.Pages p.Env.Heap.Words p.Env.Heap.Pages p.Env.Heap.Space p.Env.Heap.Bump p.Env.Locals.Slots p.Env.Locals.Scopes p.Env.Locals.Issued p.Env.Globals.Entries p.Env.Weaks.Entries p.Env.Pins p.Env.Roots p.World.Conf.PageWords p.World.Conf.Pages p.World.Things p.World.Locals.Slots p.World.Locals.Scopes p.World.Locals.Issued p.World.Globals.Entries p.World.Weaks.Entries p.World.Marks p.World.Roots p.Words) λ r=>∃ (p':IL) (k':Nat),k'<=60/\PB k' p'/\r=(p'.Env.Heap.Conf.PageWords,p'.Env.Heap.Conf.Pages,p'.Env.Heap.Words,p'.Env.Heap.Pages,p'.Env.Heap.Space,p'.Env.Heap.Bump,p'.Env.Locals.Slots,p'.Env.Locals.Scopes,p'.Env.Locals.Issued,p'.Env.Globals.Entries,p'.Env.Weaks.Entries,p'.Env.Pins,p'.Env.Roots,p'.World.Conf.PageWords,p'.World.Conf.Pages,p'.World.Things,p'.World.Locals.Slots,p'.World.Locals.Scopes,p'.World.Locals.Issued,p'.World.Globals.Entries,p'.World.Weaks.Entries,p'.World.Marks,p'.World.Roots,p'.Words)
 | 0,i,t,p,k,_,_,hn,_,_,_=>by omega
 | n+1,i,t,p,k,h0,hi,hn,hk,hp,ht=>by
  have stop:Ok (some (p.Env.Heap.Conf.PageWords,p.Env.Heap.Conf.Pages,p.Env.Heap.Words,p.Env.Heap.Pages,p.Env.Heap.Space,p.Env.Heap.Bump,p.Env.Locals.Slots,p.Env.Locals.Scopes,p.Env.Locals.Issued,p.Env.Globals.Entries,p.Env.Weaks.Entries,p.Env.Pins,p.Env.Roots,p.World.Conf.PageWords,p.World.Conf.Pages,p.World.Things,p.World.Locals.Slots,p.World.Locals.Scopes,p.World.Locals.Issued,p.World.Globals.Entries,p.World.Weaks.Entries,p.World.Marks,p.World.Roots,p.Words)) λ r=>∃ (p':IL) (k':Nat),k'<=60/\PB k' p'/\r=(p'.Env.Heap.Conf.PageWords,p'.Env.Heap.Conf.Pages,p'.Env.Heap.Words,p'.Env.Heap.Pages,p'.Env.Heap.Space,p'.Env.Heap.Bump,p'.Env.Locals.Slots,p'.Env.Locals.Scopes,p'.Env.Locals.Issued,p'.Env.Globals.Entries,p'.Env.Weaks.Entries,p'.Env.Pins,p'.Env.Roots,p'.World.Conf.PageWords,p'.World.Conf.Pages,p'.World.Things,p'.World.Locals.Slots,p'.World.Locals.Scopes,p'.World.Locals.Issued,p'.World.Globals.Entries,p'.World.Weaks.Entries,p'.World.Marks,p'.World.Roots,p'.Words) :=
   Wg ⟨p,k,by omega,hp,rfl⟩
  rw[Qe2]
  refine Wq (λ hc=>?_) λ _=>stop
  have hc:i<60:=Wu hc
  rw[Qf6,Xa]
  refine Wq (λ _=>?_) λ _=>stop
  have w1:=hp.w1
  have w2:=hp.w2
  have dty:=λ r (e:QbN N p t=some r)=>QgX (N:=N) hp.ty r e
  rw[Xe (n:=i+1) (by omega) (by omega)]
  refine WL (XgH (p:=p) (t:=t) w1 (by omega) ht (by omega)) λ y e hy=>?_
  refine Uy (Xoa hN hp (by omega) (dty y e)) λ z hz=>?_
  exact XgI hN n (i+1) y.2 z.1 (k+1) (by omega) (by omega) (by omega) (by omega) hz (hy.le (by omega))
theorem XgJ (hN:NB N) (l:List Int):Ok (QfZ N l 60) λ p=>∃ k,k<=60/\PB k p:=by
 have hN':=hN
 unfold NB at hN'
 rw[QfZ]
 refine Uy (XjN (m:=0) ⟨by simp,by simp⟩ (by omega)) λ y hy=>Uy (XgI hN N 0 y.2 y.1 0 (by omega) (by omega) (by omega) rfl hy.1 (hy.2.le (by omega))) λ z hz=>Wg ?_
 obtain ⟨p',k',h1,h2,rfl⟩:=hz
 exact ⟨k',h1,h2⟩
theorem XjO {k:Nat} {w:Wm} (hw:WB k w) (hk:k+1<=900) {t:Ir} (ht:TA 100000 t):Ok (Qfq N w t) λ r=>WB (k+1) r.1/\TA 100010 r.2:=by
 have up:=hw.up hk
 have b1:=hw.rootsK
 have b2:=hw.things
 have b3:=hw.marksK
 have b4:=hw.weaK
 rw[Qfq]
 refine Uy (nxp ht (by omega) (by omega) (by omega)) λ y1 h1=>Wq (λ _=>?_) λ _=>Wq (λ _=>Wq (λ hg=>?_) λ _=>Wg ⟨up,h1.2.2.le (by omega)⟩) λ _=>Wq (λ _=>?_) λ _=>Wq (λ _=>?_) λ _=>Wq (λ _=>?_) λ _=>Wq (λ hg=>?_) λ _=>Wg ⟨up,h1.2.2.le (by omega)⟩
 ·refine Ug (by omega) (Uy (nxp h1.2.2 (by omega) (by omega) (by omega)) λ y2 h2=>Ug (by omega) (Wg ⟨⟨hk,up.things,hw.fields,hw.loc,up.gloK,up.weaK,up.marksK,?_⟩,h2.2.2.le (by omega)⟩))
  show (w.Roots++[_]).length<=_;rw[Wr];simp;omega
 ·have hg:0<(w.Things.length:Int):=Wu hg
  refine Ug (by omega) (Uy (nxp h1.2.2 (by omega) (by omega) (by omega)) λ y3 h3=>Uy (nxp h3.2.2 (by omega) (by omega) (by omega)) λ y4 h4=>Ok.get h3.1 h3.2.1 λ p hp=>Wg ⟨⟨hk,?_,λ x hx=>?_,hw.loc,up.gloK,up.weaK,up.marksK,up.rootsK⟩,h4.2.2.le (by omega)⟩)
  ·show (w.Things.set _ _).length<=_;rw[Wv];omega
  ·rcases UB hx with h | h
   ·exact hw.fields x h
   ·rw[h];exact hw.fields p (YN hp)
 ·refine Ug (by omega) (Uy (nxp h1.2.2 (by omega) (by omega) (by omega)) λ y2 h2=>Uy (nxp h2.2.2 (by omega) (by omega) (by omega)) λ y3 h3=>Uy (nxp h3.2.2 (by omega) (by omega) (by omega)) λ y4 h4=>Ug (by omega) (Wg ⟨⟨hk,up.things,hw.fields,hw.loc,up.gloK,up.weaK,?_,up.rootsK⟩,h4.2.2.le (by omega)⟩))
  show (w.Marks++[_]).length<=_;rw[Wr];simp;omega
 ·refine Ug (by omega) (Uy (nxp h1.2.2 (by omega) (by omega) (by omega)) λ y2 h2=>Ug (by omega) (Wg ⟨⟨hk,up.things,hw.fields,hw.loc,up.gloK,?_,up.marksK,up.rootsK⟩,h2.2.2.le (by omega)⟩))
  show (w.Weaks.Entries++[_]).length<=_;rw[Wr];simp;omega
 ·exact Uy (nxp h1.2.2 (by omega) (by omega) (by omega)) λ y2 h2=>Wg ⟨⟨hk,up.things,hw.fields,hw.loc,up.gloK,up.weaK,up.marksK,up.rootsK⟩,h2.2.2.le (by omega)⟩
 ·have hg:0<(w.Things.length:Int):=Wu hg
  have e:=Xe (n:=((w.Things.length:Nat):Int)-1) (by omega) (by omega)
  refine Ug (by rw[e];omega) (Wg ⟨⟨hk,?_,λ x hx=>hw.fields x (Ue hx),hw.loc,up.gloK,up.weaK,up.marksK,up.rootsK⟩,h1.2.2.le (by omega)⟩)
  show (w.Things.take _).length<=_;rw[WO];omega
theorem XeK {w:Wm} (hl:w.Things.length<=140737488355328):∀ (n:Nat) (i:Int),0<=i->i<=w.Things.length->(w.Things.length-i).toNat<n->Ok (Qch N w n i) λ e=>match e with | .ret b=>b=false | .nxt _=>∀ j,i<=j->∀ x,Xb w.Things j=some x->x.Fields.length<=300
 | 0,i,_,_,hn=>by omega
 | n+1,i,h0,hi,hn=>by
  rw[Qch]
  refine Wq (λ hc=>?_) λ hc=>Wg λ j hj x hx=>?_
  rotate_left
  ·have:=WI hc
   rw[Xcz (by omega)] at hx;cases hx
  have hc:i<w.Things.length:=Wu hc
  rw[Xe (n:=i+1) (by omega) (by omega)]
  refine Ok.get h0 hc λ p hp=>Wq (λ _=>Wg rfl) λ hf=>?_
  have hf:=WI hf
  refine (XeK hl n (i+1) (by omega) (by omega) (by omega)).mono λ e he=>?_
  cases e with
  | ret b=>exact he
  | nxt u =>
   intro j hj x hx
   by_cases hij:j=i
   ·subst hij
    obtain rfl:p=x:=Ww (hp.symm.trans hx)
    omega
   ·exact he j (by omega) x hx
theorem XjP {w:Wm} (hl:w.Things.length<=140737488355328) (hN:w.Things.length<N):Ok (QeH N w) λ b=>b=true->WB 100 w:=by
 rw[QeH]
 refine I7 (XeK hl N 0 (by omega) (by omega) (by omega)) (λ b q=>Wg λ e=>?_) λ u q=>?_
 ·have q:b=false:=q
  rw[q] at e;cases e
 ·refine Wq (λ g1=>Wq (λ g2=>Wq (λ g3=>Wq (λ g4=>Wq (λ g5=>Wq (λ g6=>Wq (λ g7=>Wg λ g8=>?_) λ _=>Wg λ e=>by cases e) λ _=>Wg λ e=>by cases e) λ _=>Wg λ e=>by cases e) λ _=>Wg λ e=>by cases e) λ _=>Wg λ e=>by cases e) λ _=>Wg λ e=>by cases e) λ _=>Wg λ e=>by cases e
  have g1:=Wu g1
  have g2:=Wu g2
  have g3:=Wu g3
  have g4:=Wu g4
  have g5:=Wu g5
  have g6:=Wu g6
  have g7:=Wu g7
  have g8:=Wu g8
  refine ⟨by omega,by omega,λ x hx=>?_,⟨by omega,by omega,by omega⟩,by omega,by omega,by omega,by omega⟩
  obtain ⟨j,hj,e⟩:=WX hx
  have:=q (j:Int) (by omega) x (by rw[Xd,Wc hj,e])
  omega
end
end Go.Sx
namespace Go.Sx
theorem XgK {α:Type} {l:List α} {F:Nat->Int->Option (Ex Int Unit)} {p:α->Bool} (hl:l.length<=1000000)
 (hstep:∀ (n k:Nat) (x:α),l[k]? = some x->F (n+1) (k:Int)=bif p x then some (.ret (k:Int)) else F n ((k+1:Nat):Int))
 (hstop:∀ n:Nat,F (n+1) (l.length:Int)=some (.nxt ())):∀ (n k:Nat),k<=l.length->l.length-k<n->F n (k:Int)=some (match (l.drop k).findIdx? p with | some j=>.ret ((k+j:Nat):Int) | none=>.nxt ())
 | 0,k,_,hn=>by omega
 | n+1,k,hk,hn=>by
  by_cases h:k<l.length
  ·rw[hstep n k _ (Wc h),WA h,Oa]
   cases hp:p l[k]
   ·rw[Wa,XgK hl hstep hstop n (k+1) (by omega) (by omega),Wh (by simp)]
    cases (l.drop (k+1)).findIdx? p with
    | none=>rfl
    | some j=>simp only[Im];rw[show k+1+j=k+(j+1) by omega]
   ·rw[We,Wn rfl];simp
  ·obtain rfl:k=l.length:=by omega
   rw[hstop,WZ (WQ _)]
   rfl
def Xaa {α:Type} (p:α->Bool) (l:List α):Int:=match l.findIdx? p with | some j=>(j:Int) | none=>-1
theorem JV {α:Type} {l:List α} {F:Nat->Int->Option (Ex Int Unit)} {p:α->Bool} {N:Nat} (hl:l.length<=1000000) (hN:1000000<N)
 (hstep:∀ (n k:Nat) (x:α),l[k]? = some x->F (n+1) (k:Int)=bif p x then some (.ret (k:Int)) else F n ((k+1:Nat):Int))
 (hstop:∀ n:Nat,F (n+1) (l.length:Int)=some (.nxt ())):(bnd (F N 0) λ e=>exK e (λ r=>some r) λ _=>some (-1))=some (Xaa p l):=by
 have h:=XgK hl hstep hstop N 0 (by omega) (by omega)
 rw[show ((0:Nat):Int)=0 from rfl,Un] at h
 rw[h,Xa,Xaa]
 cases l.findIdx? p with
 | none=>simp only[XN]
 | some j=>simp only[X8,UM]
theorem Jc {α:Type} (p:α->Bool) (l:List α):decide (Xaa p l>=0)=l.any p:=by
 unfold Xaa
 cases h:l.findIdx? p with
 | none =>
  rw[List.findIdx?_eq_none_iff] at h
  rw[show l.any p=false by rw[List.any_eq_false];intro x hx;rw[h x hx];simp]
  rfl
 | some j =>
  obtain ⟨hj,hp,_⟩:=UW.1 h
  rw[show l.any p=true by rw[Oo];exact ⟨_,W6 hj,hp⟩]
  exact Wo (by show ((j:Nat):Int)>=0;omega)
section
variable {N:Nat}
theorem Xly (e:WP):Qfw N e=some (!VY e):=by
 rw[Qfw]
 unfold VY
 cases decide (e.Gen<1)<;>cases decide (e.Gen>4294967295)<;>cases e.Live<;>cases (e.Ref != 0)<;>rfl
theorem Xab {α:Type} (p:α->Bool) (l:List α):(!l.any λ x=>!p x)=l.all p:=by
 rw[List.not_any_eq_all_not]
 congr 1
 funext x
 simp
theorem JW {t:WC} (hl:TB t) (hN:1000000<N):QcZ N t=some (YO t.Entries):=by
 unfold TB at hl
 rw[QcZ,Qaz,QaF]
 rw[JV (p:=λ e=>!VY e) hl hN (λ n k x e=>by
  have hk:=Xo e
  rw[Qal,Xw hk,We,Xd,e,Xa,Xly,Xa,Xp (by omega)]) (λ n=>by rw[Qal,Xr,Wa])]
 rw[Xa,Xa,Jc,Xab,YO,show decide (((t.Entries.length:Nat):Int)<=64)=decide (t.Entries.length<=64) from decide_eq_decide.2 (by omega)]
 cases t.Entries.all VY<;>cases decide (t.Entries.length<=64)<;>rfl
theorem Xav {t:WC} (hl:t.Entries.length<=1000000):∀ (n k:Nat) (v:List Int),k<=t.Entries.length->t.Entries.length-k<n->v.length<=k ->
 Qdz N t n (k:Int) v=some (v++XE (t.Entries.drop k))
 | 0,k,v,_,hn,_=>by omega
 | n+1,k,v,hk,hn,hlv=>by
  rw[Qdz]
  by_cases h:k<t.Entries.length
  ·rw[Xw h,We,Xd,Wc h,Xa,Xp (by omega),WA h,XE]
   cases hL:t.Entries[k].Live
   ·rw[Wa,Xav hl n (k+1) v (by omega) (by omega) (by omega),Iz (by rw[hL];simp)]
    rfl
   ·rw[We,Xi (by omega),Xav hl n (k+1) _ (by omega) (by omega) (by rw[Wr];simp;omega),IA (by rw[hL])]
    simp[XE]
  ·obtain rfl:k=t.Entries.length:=by omega
   rw[Xr,Wa,WZ (WQ _)]
   simp[XE]
theorem Xaw {t:WC} (hl:TB t) (hN:1000000<N):QeI N t=some (bif YO t.Entries then XE t.Entries else []):=by
 rw[QeI,JW hl hN,Xa]
 cases hv:YO t.Entries
 ·rfl
 ·have h:=Xav (N:=N) (t:=t) hl N 0 [] (by omega) (by unfold TB at hl;omega) (by simp)
  rw[show ((0:Nat):Int)=0 from rfl,Un,Uu] at h
  rw[Wx,Wa,h,Xa];rfl
theorem XbU {t:WC} (hl:TB t) (hN:1000000<N) (i g:Int):Qf1 N t i g=some (YI t.Entries i g):=by
 have hl':=hl
 unfold TB at hl
 rw[Qf1,QeV,JW hl' hN,Xa,YI]
 cases hv:YO t.Entries
 ·rw[WS,We,Xa];rfl
 ·simp only[Wx,Wa,Xmn,Bool.true_eq_false,if_false]
  by_cases h0:i<0
  ·rw[Wn h0,Wn (.inl h0),Xa];rfl
  ·rw[Wh h0]
   by_cases h1:i>=((t.Entries.length:Nat):Int)
   ·rw[Wn h1,Wn (.inr (.inl h1)),Xa];rfl
   ·rw[Wh h1]
    by_cases h2:g<1
    ·rw[Wn h2,Wn (.inr (.inr h2)),Xa];rfl
    ·have hlt:i.toNat<t.Entries.length:=by omega
     rw[Wh h2,Wh (by omega),XM (by omega) (by omega),Xa,Wc hlt]
     simp only[Xa]
     by_cases h3:g>t.Entries[i.toNat].Gen
     ·rw[Wn h3,Wn h3,Xa];rfl
     ·rw[Wh h3,Wh h3]
      by_cases h4:g<t.Entries[i.toNat].Gen
      ·rw[Wn h4,Wn h4,Xa];rfl
      ·rw[Wh h4,Wh h4]
       cases t.Entries[i.toNat].Live
       ·rw[WS,We,Xa];rfl
       ·rw[Wx,Wa,Xa];rfl
theorem XhJ (x:Int):Qfv N x=some (!(!decide (x<0)&&!decide (x>4095))):=by
 rw[Qfv,show decide (x>=4096)=decide (x>4095) from decide_eq_decide.2 (by omega)]
 cases decide (x<0)<;>cases decide (x>4095)<;>rfl
theorem XcN {a:Ws}:∀ (n:Nat) (s i:Int),QaC N ⟨a⟩ n s i=Qak N a n s i
 | 0,s,i=>by rw[QaC,Qak]
 | n+1,s,i=>by
  rw[QaC,Qak]
  have e:∀ s i,QaC N ⟨a⟩ n s i=Qak N a n s i:=XcN n
  simp only[e]
theorem XbV {a:Ws}:∀ (n:Nat) (s i:Int),QaK N ⟨a⟩ n s i=Qam N a n s i
 | 0,s,i=>by rw[QaK,Qam]
 | n+1,s,i=>by
  rw[QaK,Qam]
  have e:∀ s i,QaK N ⟨a⟩ n s i=Qam N a n s i:=XbV n
  have c:∀ p:UR,(p.Live==(p.Ref==0))=(!(p.Live==(p.Ref != 0))):=λ p=>by
   show (p.Live==(p.Ref==0))=(!(p.Live==!(p.Ref==0)))
   cases p.Live<;>cases (p.Ref==0)<;>rfl
  simp only[e,c]
theorem XhK {a:Ws} (hl:LBp a) (hne:neB a.Slots.length a.Scopes=true) {k:Nat} {p:UV} (hp:a.Scopes[k]? = some p):Qc5 N ⟨a⟩ (k:Int)=some ((a.Slots.drop p.From.toNat).take ((toL a k).toNat-p.From.toNat)):=by
 have hf:=JR hne hp
 have hk:=Xo hp
 have hl2:=hl.2.1
 have hle:(IP.mk a).Locals.Slots.length=a.Slots.length:=rfl
 rw[Qc5,Xp (by omega),toL]
 by_cases h:k+1<a.Scopes.length
 ·have e2:=Wc h
  have hf2:=JR hne e2
  have:=hf.2.2.2.2.2 _ e2
  rw[Xw h,We,Xd,hp,Xa,Xd,e2,Xa,Xi (by omega)]
 ·rw[show decide (((k+1:Nat):Int)<((a.Scopes.length:Nat):Int))=false from Wl (by omega),Wa,Xd,hp,Xa,Xi (by omega),WK (by omega)]
  congr 1
  rw[UZ]
  rw[Uo];simp
theorem XbW (l:List UR) (hl:l.length<=1000000):∀ (n k c:Nat),k<=l.length->l.length-k<n->c<=k->Qbg N l n (c:Int) (k:Int)=some (((c+(l.drop k).countP (·.Live):Nat):Int))
 | 0,k,c,_,hn,_=>by omega
 | n+1,k,c,hk,hn,hc=>by
  rw[Qbg]
  by_cases h:k<l.length
  ·rw[Xw h,We,Xd,Wc h,Xa,Xp (by omega),Xp (by omega),WA h,I6]
   cases hL:l[k].Live
   ·rw[Wa,XbW l hl n (k+1) c (by omega) (by omega) (by omega)];simp
   ·rw[We,XbW l hl n (k+1) (c+1) (by omega) (by omega) (by omega)];simp;omega
  ·obtain rfl:k=l.length:=by omega
   rw[Xr,Wa,WZ (WQ _)];simp
theorem XeL {a:Ws} (hl:LBp a) (hN:1000000<N) (hne:neB a.Slots.length a.Scopes=true) {k:Nat} {p:UV} (hp:a.Scopes[k]? = some p):Qcz N ⟨a⟩ (k:Int)=some ((ZZ a.Slots p.From.toNat (toL a k).toNat:Nat):Int):=by
 have hl1:=hl.1
 rw[Qcz,XhK hl hne hp,Xa]
 have hlen:((a.Slots.drop p.From.toNat).take ((toL a k).toNat-p.From.toNat)).length<=1000000:=by rw[WO,Uo];omega
 have h:=XbW (N:=N) _ hlen N 0 0 (by omega) (by omega) (by omega)
 rw[show ((0:Nat):Int)=0 from rfl,Un,UM] at h
 rw[h,Xa];rfl
theorem Jd {a:Ws} (hl:LBp a) (hN:1000000<N):Qco N a=some (YY a):=by
 have hl':=hl
 obtain ⟨hl1,hl2,hl3⟩:=hl
 rw[Qco,Qa5,Qbo]
 rw[JV (p:=λ x=>!(!decide (x<0)&&!decide (x>4095))) hl3 hN (λ n k x e=>by
  have hk:=Xo e
  rw[Qax,Xw hk,We,Xd,e,Xa,XhJ,Xa,Xp (by omega)]) (λ n=>by rw[Qax,Xr,Wa])]
 have h2:=K4 (l:=a.Slots) (F:=λ n s i=>Qam N a n s i) (q:=stQ a.Issued) (nxp:=λ _ p=>p.Stamp) (I:=λ s=>0<=s) (λ n s k p hs e=>by
  have hk:=Xo e
  show Qam N a (n+1) s (k:Int)=_
  rw[Qam,Xw hk,We,Xd,e,Xa,Xp (by omega)]
  unfold stQ
  cases g1:decide (p.Stamp<=s)
  ·cases g2:decide (p.Stamp>((a.Issued.length:Nat):Int))
   ·have g1:=WI g1
    have g2:=WI g2
    rw[Wa,Wa,Xe (by omega) (by omega),XM (by omega) (by omega),Xa]
    have ge:a.Issued[(p.Stamp-1).toNat]'(by omega)=a.Issued.getD (p.Stamp-1).toNat 0:=by
     rw[Wk,Wc (by omega)];rfl
    rw[ge]
    cases (a.Issued.getD (p.Stamp-1).toNat 0 != (k:Int))<;>cases (p.Live==(p.Ref != 0))<;>rfl
   ·rfl
  ·rfl) (λ n s=>by show Qam N a (n+1) s _=_;rw[Qam,Xr,Wa]) (λ s k p hs e hq=>by
   unfold stQ at hq
   simp only[WG,Uv,Um] at hq
   have:=hq.1
   omega) N 0 0 (by omega) (by omega) (by omega)
 have h3:=K4 (l:=a.Scopes) (F:=λ n s i=>Qak N a n s i) (q:=neQ a.Slots.length) (nxp:=λ _ p=>p.From) (I:=λ _=>True) (λ n s k p hs e=>by
  have hk:=Xo e
  show Qak N a (n+1) s (k:Int)=_
  rw[Qak,Xw hk,We,Xd,e,Xa,Xp (by omega)]
  unfold neQ
  cases ((k:Int)==0)<;>cases (p.From != 0)<;>cases p.Base<;>cases decide (p.From<s)<;>cases decide (p.From>((a.Slots.length:Nat):Int))<;>cases decide (p.Cap<0)<;>cases decide (p.Cap>64)<;>rfl) (λ n s=>by show Qak N a (n+1) s _=_;rw[Qak,Xr,Wa]) (λ _ _ _ _ _ _=>trivial) N 0 0 trivial (by omega) (by omega)
 rw[Un] at h2 h3
 have e2:Qam N a N 0 0=some (bif stB a.Issued a.Slots then .nxt () else .ret false):=h2
 have e3:Qak N a N 0 0=some (bif neB a.Slots.length a.Scopes then .nxt () else .ret false):=h3
 have en:QcJ N ⟨a⟩=some (!decide (((a.Scopes.length:Nat):Int)>64)&&((!(((a.Scopes.length:Nat):Int)==0)||!decide (((a.Slots.length:Nat):Int)>0))&&neB a.Slots.length a.Scopes)):=by
  rw[QcJ,XY,XcN,e3,Xa]
  cases neB a.Slots.length a.Scopes<;>cases decide (((a.Scopes.length:Nat):Int)>64)<;>cases (((a.Scopes.length:Nat):Int)==0)<;>cases decide (((a.Slots.length:Nat):Int)>0)<;>simp only[We,Wa,X8,XN]<;>rfl
 have es:Qcw N ⟨a⟩=some (stB a.Issued a.Slots):=by
  rw[Qcw,XbV,e2,Xa]
  cases stB a.Issued a.Slots<;>simp only[We,Wa,X8,XN]
 rw[Xa,Xa,Jc,en,Xa,es,Xa,YY,Xlt]
 have ea:(a.Issued.any λ x=>!(!decide (x<0)&&!decide (x>4095))) = !(a.Issued.all λ p=>!decide (p<0)&&!decide (p>4095)):=by
  rw[← Xab,Bool.not_not]
 rw[ea]
 cases decide (((a.Issued.length:Nat):Int)>4096)
 rotate_left
 ·rfl
 cases (a.Issued.all λ p=>!decide (p<0)&&!decide (p>4095))
 ·cases decide (((a.Scopes.length:Nat):Int)>64)<;>cases (!(((a.Scopes.length:Nat):Int)==0)||!decide (((a.Slots.length:Nat):Int)>0))<;>rfl
 cases decide (((a.Scopes.length:Nat):Int)>64)
 rotate_left
 ·rfl
 cases (!(((a.Scopes.length:Nat):Int)==0)||!decide (((a.Slots.length:Nat):Int)>0))
 ·rfl
 cases hne:neB a.Slots.length a.Scopes
 ·cases stB a.Issued a.Slots<;>rfl
 cases stB a.Issued a.Slots
 ·rfl
 simp only[Wa,Wx,WS,WN,Bool.and_true]
 have h4:=ZV (l:=a.Scopes) (F:=QcS N a) (q:=XjB a ()) (λ n k p e=>by
  have hk:=Xo e
  rw[QcS,Xw hk,We,Xd,e,Xa,XeL hl' hN hne e,Xa,Xp (by omega)]
  unfold XjB
  cases decide (((ZZ a.Slots p.From.toNat (toL a k).toNat:Nat):Int)>p.Cap)<;>rfl) (λ n=>by rw[QcS,Xr,Wa]) (n:=N) (by omega)
 rw[h4,Xa]
 show exK (bif Xfv a then Ex.nxt () else Ex.ret false) _ _=_
 cases Xfv a
 ·rw[Wa,X8]
 ·rw[We,XN]
theorem Xax {a:Ws} (hl:a.Slots.length<=1000000):∀ (n k:Nat) (v:List Int),k<=a.Slots.length->a.Slots.length-k<n->v.length<=k ->
 Qdy N a n (k:Int) v=some (v++Yc (a.Slots.drop k))
 | 0,k,v,_,hn,_=>by omega
 | n+1,k,v,hk,hn,hlv=>by
  rw[Qdy]
  by_cases h:k<a.Slots.length
  ·rw[Xw h,We,Xd,Wc h,Xa,Xp (by omega),WA h,Yc]
   cases hL:a.Slots[k].Live
   ·rw[Wa,Xax hl n (k+1) v (by omega) (by omega) (by omega),Iz (by rw[hL];simp)]
    rfl
   ·rw[We,Xi (by omega),Xax hl n (k+1) _ (by omega) (by omega) (by rw[Wr];simp;omega),IA (by rw[hL])]
    simp[Yc]
  ·obtain rfl:k=a.Slots.length:=by omega
   rw[Xr,Wa,WZ (WQ _)]
   simp[Yc]
theorem XcO {a:Ws} (hl:LBp a) (hN:1000000<N):Qgb N a=some (bif YY a then Yc a.Slots else []):=by
 rw[Qgb,Jd hl hN,Xa]
 cases hv:YY a
 ·rfl
 ·have h:=Xax (N:=N) (a:=a) hl.1 N 0 [] (by omega) (by have:=hl.1;omega) (by simp)
  rw[show ((0:Nat):Int)=0 from rfl,Un,Uu] at h
  rw[Wx,Wa,h,Xa];rfl
theorem XeM {a:Ws} (hl:LBp a) (hN:1000000<N) (i g:Int):Qgw N a i g=some (Y9 a i g):=by
 rw[← Xa4 hl hN,Qgw,QdQ,Jd hl hN,ZX hl hN]
end
end Go.Sx
namespace Go.Sx
theorem Xlz {m:Int} (h0:0<=m) (h1:2*m+1<=18446744073709551615):bOr .u64 (m*2) 1=m*2+1:=by
 obtain ⟨n,rfl⟩:=UU h0
 have hb:IntKind.u64.bits=64:=rfl
 show IntKind.u64.wrap ((BitVec.ofInt IntKind.u64.bits ((n:Int)*2) ||| BitVec.ofInt IntKind.u64.bits 1).toNat:Int)=_
 rw[hb]
 have e1:BitVec.ofInt 64 ((n:Int)*2)=BitVec.ofNat 64 (n*2):=by
  rw[show (n:Int)*2=((n*2:Nat):Int) by omega];exact BitVec.ofInt_natCast 64 (n*2)
 have e2:BitVec.ofInt 64 (1:Int)=BitVec.ofNat 64 1:=by decide
 have hn:n*2 % 2 ^ 64=n*2:=Ot (by omega)
 have h3:=Nat.shiftLeft_add_eq_or_of_lt (i:=1) (b:=1) (by decide) n
 rw[Nat.shiftLeft_eq,Nat.pow_one] at h3
 rw[e1,e2,BitVec.toNat_or,IQ,IQ,hn,show 1 % 2 ^ 64=1 from rfl,← h3]
 show wU _=_
 rw[XT (by omega) (by omega)]
 omega
section
variable {N:Nat}
theorem XgL {a:Int} (h0:0<=a) (h1:a<=64):∀ (n k:Nat),(k:Int)<=a->(a-k).toNat<n->Qe3 N a n ((2:Int) ^ k-1) (k:Int)=some ((2:Int) ^ a.toNat-1)
 | 0,k,_,hn=>by omega
 | n+1,k,hk,hn=>by
  rw[Qe3]
  have e:(if 64<(if a<0 then 0 else a) then 64 else (if a<0 then 0 else a))=a:=by
   rw[Wh (show ¬ a<0 by omega),Wh (by omega)]
  rw[e]
  by_cases h:(k:Int)<a
  ·have hp:(1:Int)<=2 ^ k:=Int.pow_pos (n:=(2:Int)) (m:=k) (by decide)
   have hq:(2:Int) ^ k<=2 ^ 63:=by
    have:2 ^ k<=2 ^ 63:=IW (by omega) (by omega)
    exact_mod_cast this
   have s1:Ka .u64 ((2:Int) ^ k-1) 1=wU (((2:Int) ^ k-1)*2):=rfl
   rw[Wo h,We,s1,XT (by omega) (by omega),Xlz (by omega) (by omega),Xp (by omega)]
   have e2:((2:Int) ^ k-1)*2+1=2 ^ (k+1)-1:=by rw[Int.pow_succ];omega
   rw[e2]
   exact XgL h0 h1 n (k+1) (by omega) (by omega)
  ·rw[Wl h,Wa,show k=a.toNat by omega]
theorem Kg {a:Int} (h0:0<=a) (h1:a<=64) (hN:1000<N):Qbv N a=some ((2:Int) ^ a.toNat-1):=by
 have:=XgL (N:=N) h0 h1 N 0 (by omega) (by omega)
 rw[Qbv]
 rw[show ((2:Int) ^ 0-1)=0 from rfl,show ((0:Nat):Int)=0 from rfl] at this
 rw[this,Xa]
theorem Ju (hN:1000<N) (d:WE):Qc6 N d=some (XW d):=by
 rw[Qc6,XW]
 by_cases h1:d.Kind<0
 ·rw[Wo h1,We,Wl (by omega),UC]
 rw[Wl h1,Wa]
 by_cases h2:d.Kind>3
 ·rw[Wo h2,We,Wl (by omega),UC]
 rw[Wl h2,Wa]
 by_cases h3:d.Length<0
 ·rw[Wo h3,We,Wl (by omega),UC]
 rw[Wl h3,Wa]
 by_cases h4:d.Length>255
 ·rw[Wo h4,We,Wl (p:=0<=d.Kind/\d.Kind<=3/\0<=d.Length/\d.Length<=255) (by omega),UC]
 rw[Wl h4,Wa,Wo (p:=0<=d.Kind/\d.Kind<=3/\0<=d.Length/\d.Length<=255) (by omega),WN]
 by_cases h5:d.Kind=1
 ·rw[Wn h5,XA h5,We,XY]
  by_cases h6:d.Length<=32
  ·rw[Wo h6,We,Kg (by omega) (by omega) hN,Xa,WN,Xeh]
   exact congrArg some (decide_eq_decide.2 (by omega))
  ·rw[Wl h6,Wa,UC]
 ·rw[Wh h5,Xc h5,Wa]
  simp only[BEq.rfl,WN]
  rfl
theorem XcP (hN:1000<N) (d:WE):QfJ N d=some (ZE d):=by
 rw[QfJ,Ju hN,Xa,ZE]
 cases h:XW d with
 | false=>rfl
 | true =>
  have:=Yf h
  rw[Wx,Wa,Xe (n:=d.Length+1) (by omega) (by omega)]
  rfl
theorem XeN (hN:1000<N) (d:WE) (i:Int):QcT N d i=some (Z5 d i):=by
 rw[QcT,Ju hN,Xa,Z5]
 cases h:XW d with
 | false=>rfl
 | true =>
  have hb:=Yf h
  rw[Wx,Wa,WN]
  by_cases h1:i<0
  ·rw[Wo h1,We,Wl (by omega),UC]
  rw[Wl h1,Wa]
  by_cases h2:i>=d.Length
  ·rw[Wo h2,We,Wl (by omega),UC]
  rw[Wl h2,Wa,Wo (p:=0<=i/\i<d.Length) (by omega),WN,XT (n:=i) (by omega) (by omega)]
  by_cases h3:d.Kind=2
  ·rw[XA h3,We,Wo h3,Bool.true_or]
  rw[Xc h3,Wa,Wl h3,IZ]
  by_cases h4:d.Kind=1
  ·rw[XA h4,We,Wo h4,WN,Xi (by omega)]
  ·rw[Xc h4,Wa,Wl h4,UC]
theorem Xac (hN:1000<N) (d:WE) (hv:XW d=true):∀ (n:Nat) (i:Int) (v:List Int),0<=i->i<=d.Length+1->(d.Length+1-i).toNat<n->v.length+(d.Length+1-i).toNat<=1000->QbD N d (d.Length+1) n i v=some (v++Yl d (d.Length-i).toNat i)
 | 0,i,v,_,_,hn,_=>by omega
 | n+1,i,v,h0,h1,hn,hl=>by
  have hb:=Yf hv
  rw[QbD]
  by_cases h:i<d.Length+1
  ·rw[Wo h,We,XeN hN,Xa,Xe (n:=i+1) (by omega) (by omega)]
   by_cases h2:i<d.Length
   ·obtain ⟨k,hk⟩:∃ k,(d.Length-i).toNat=k+1:=⟨(d.Length-i).toNat-1,by omega⟩
    have hk2:(d.Length-(i+1)).toNat=k:=by omega
    rw[hk,Yl]
    cases hp:Z5 d i
    ·rw[Wa,Xac hN d hv n (i+1) v (by omega) (by omega) (by omega) (by omega),hk2];simp
    ·rw[We,Xi (by omega),Xac hN d hv n (i+1) _ (by omega) (by omega) (by omega) (by rw[Wr];simp only[WM,Ub];omega),hk2];simp
   ·have hp:Z5 d i=false:=by
     unfold Z5
     rw[Wl (p:=0<=i/\i<d.Length) (by omega)];simp
    rw[hp,Wa,Xac hN d hv n (i+1) v (by omega) (by omega) (by omega) (by omega),show (d.Length-i).toNat=0 by omega,show (d.Length-(i+1)).toNat=0 by omega]
    rfl
  ·rw[Wl h,Wa,show (d.Length-i).toNat=0 by omega]
   simp[Yl]
theorem XcQ (hN:1000<N) (d:WE) (hv:XW d=true):Qbz N d=some (Z8 d):=by
 have hb:=Yf hv
 have hs:ZE d=d.Length+1:=by unfold ZE;rw[hv];rfl
 rw[Qbz,XcP hN,Xa,hs,Xac hN d hv N 0 [] (by omega) (by omega) (by omega) (by simp only[Ub];omega),Xa,Z8,hv]
 simp
theorem XcR (d:WE) (l0:List Int):∀ (l:List Int) (k:Nat),l=l0.drop k->KD d k l=(Yl d l.length k).map λ i=>l0.getD i.toNat 0
 | [],k,_=>by simp[KD,Yl]
 | f::fs,k,h=>by
  have hk:k<l0.length:=by
   apply Nat.lt_of_not_le
   intro hle
   rw[WZ hle] at h;cases h
  rw[WA hk] at h
  obtain ⟨h1,h2⟩:=List.cons.inj h
  have ih:=XcR d l0 fs (k+1) h2
  rw[KD,WM,Yl,IV,ih]
  have hg:l0.getD k 0=f:=by rw[Wk,Wc hk,h1];rfl
  have e:((k+1:Nat):Int)=(k:Int)+1:=by omega
  rw[← e]
  split
  ·simp only[WV,UO,Ih,Uu,WD,hg]
  ·simp
theorem XcS {x:W5} (hv:XW x.Header=true) (hl:(x.Fields.length:Int)=x.Header.Length):K7 x=(Z8 x.Header).map λ i=>x.Fields.getD i.toNat 0:=by
 unfold K7 Z8
 rw[hv,XcR x.Header x.Fields x.Fields 0 (by simp),show x.Header.Length.toNat=x.Fields.length by omega]
 rfl
variable {w:Wm} {k:Nat}
theorem XbX (hw:WB k w) (hN:1000000<N) {l:List Int} (hl:l.length<=1000000):QbV N w l=some (X3 w.Things.length l):=by
 have hk:=hw.kk
 have ht:=hw.things
 rw[QbV,QaO,QaR]
 rw[JV (p:=λ x=>decide (x>(w.Things.length:Int))) hl hN (λ n j x e=>by
  have hk:=Xo e
  rw[Qap,Xw hk,We,Xd,e,Xa,Qdc,Xa,Xp (by omega),XT (by omega) (by omega)]) (λ n=>by rw[Qap,Xr,Wa])]
 rw[Xa,Xa,Jc,X3,← Xab]
 simp only[Bool.not_not]
theorem XhL (hw:WB k w) (hN:1000000<N) {x:W5} (hx:x.Fields.length<=1000):Qc7 N w x=some (KE w.Things.length x):=by
 rw[Qc7,Ju (by omega),Xa,KE]
 cases hv:XW x.Header
 ·rfl
 rw[Wx,Wa,WN]
 cases (x.Header.Kind==0)
 rotate_left
 ·rfl
 rw[Wa,WS,WN]
 by_cases hl:(x.Fields.length:Int)=x.Header.Length
 rotate_left
 ·rw[Xm hl];rfl
 have hpl:=XcH x.Header
 rw[Xk hl,Wa,WS,WN,XcQ (by omega) _ hv,Xa,Qa1,Qbh]
 rw[JV (l:=Z8 x.Header) (p:=λ i:Int=>decide (x.Fields.getD i.toNat 0>(w.Things.length:Int))) (by omega) hN (λ n j i e=>by
  have hk:=Xo e
  have hr:=XcG (WU e)
  rw[Qau,Xw hk,We,Xd,e,Xa,Qc0,XM hr.1 (by omega),Xa,XbX hw hN (by simp),Xa,Xa,Xp (by omega)]
  have ge:x.Fields[i.toNat]'(by omega)=x.Fields.getD i.toNat 0:=by rw[Wk,Wc (by omega)];rfl
  rw[ge,X3,List.all_cons,List.all_nil,Bool.and_true,Bool.not_not]) (λ n=>by rw[Qau,Xr,Wa])]
 rw[Xa,Xa,Jc,XcS hv hl,X3,List.all_map,← Xab]
 congr 3
 funext i
 simp
theorem XbY (hm:w.Marks.length<=1000000) (hN:1000000<N) (id:Int):Qbi N w id=some (XZ w.Marks id):=by
 rw[Qbi,QaA]
 rw[JV (p:=λ m:Uz=>m.Id==id) hm hN (λ n j x e=>by
  have hk:=Xo e
  rw[Qaj,Xw hk,We,Xd,e,Xa,QdN,Xa,Xp (by omega)]) (λ n=>by rw[Qaj,Xr,Wa])]
 rw[Xa];rfl
end
end Go.Sx
namespace Go.Sx
section
variable {N:Nat} {w:Wm} {k:Nat}
theorem XhM (hw:WB k w) (hN:1000000<N) (tw:Xv w):Qc8 N w=some (JS w.Things.length w.Marks&&!decide (((w.Marks.length:Nat):Int)>64)):=by
 have hm:=hw.marks
 have h3:=ZV (l:=w.Marks) (F:=Qbb N w) (q:=XcL w.Things.length w.Marks ()) (λ n k p e=>by
  have hk:=Xo e
  have tp:=(tw.2.2.2.2.1 p (WU e)).1.1
  have e0:(p.Id==0)=decide (p.Id<1):=by
   by_cases h:p.Id=0
   ·rw[XA h,Wo (by omega)]
   ·rw[Xc h,Wl (by omega)]
  rw[Qbb,Xw hk,We,Xd,e,Xa,XbX hw hN (by simp),Xa,XbY (by omega) hN,Xa,Xp (by omega),e0,X3,List.all_cons,List.all_nil,Bool.and_true]
  unfold XcL
  cases decide (p.Id<1)<;>cases decide (p.Id>(w.Things.length:Int))<;>cases (XZ w.Marks p.Id != (k:Int))<;>cases decide (p.Count<1)<;>cases decide (p.Count>1000)<;>rfl) (λ n=>by rw[Qbb,Xr,Wa]) (n:=N) (by omega)
 rw[Qc8,h3,Xa]
 show exK (bif JS w.Things.length w.Marks then Ex.nxt () else Ex.ret false) _ _=_
 have e:decide (((w.Marks.length:Nat):Int)<=64) = !decide (((w.Marks.length:Nat):Int)>64):=by
  by_cases h:((w.Marks.length:Nat):Int)>64
  ·rw[Wo h,Wl (by omega)];rfl
  ·rw[Wl h,Wo (by omega)];rfl
 cases JS w.Things.length w.Marks
 ·rw[Wa,X8];rfl
 ·rw[We,XN,e];rfl
theorem XdD {l:List Int} (hl:l.length<=1000000) (hN:1000000<N):Qa3 N l 0=some (!l.all λ p=>!(p==0)):=by
 rw[Qa3,Qb9]
 rw[JV (p:=λ x:Int=>(0==x)) hl hN (λ n j x e=>by
  have hk:=Xo e
  rw[QaN,Xw hk,We,Xd,e,Xa,Xp (by omega)]) (λ n=>by rw[QaN,Xr,Wa])]
 rw[Xa,Jc,← Xab,Bool.not_not]
 congr 2
 funext x
 rw[Bool.not_not]
 by_cases h:x=0
 ·subst h;rfl
 ·rw[Xc h,Xc (λ e=>h e.symm)]
def Xay:List (List Int)->Nat
 | []=>0
 | l::ls=>l.length+Xay ls
theorem XcT (ls:List (List Int)) (hl:ls.length<=1000):∀ (n k s:Nat),k<=ls.length->ls.length-k<n->s+Xay (ls.drop k)<=10000000->QaG N ls n (s:Int) (k:Int)=some (((s+Xay (ls.drop k):Nat):Int))
 | 0,k,s,_,hn,_=>by omega
 | n+1,k,s,hk,hn,hs=>by
  rw[QaG]
  by_cases h:k<ls.length
  ·rw[WA h,Xay] at hs ⊢
   rw[Xw h,We,Xd,Wc h,Xa,Xe (n:=(s:Int)+((ls[k].length:Nat):Int)) (by omega) (by omega),Wl (by omega),Wa,Xp (by omega)]
   have:=XcT ls hl n (k+1) (s+ls[k].length) (by omega) (by omega) (by omega)
   rw[show (s:Int)+((ls[k].length:Nat):Int)=((s+ls[k].length:Nat):Int) by omega,this,Oe]
  ·obtain rfl:k=ls.length:=by omega
   rw[Xr,Wa,WZ (WQ _)];simp[Xay]
theorem XcU (ls:List (List Int)) (hl:ls.length<=1000):∀ (n k:Nat) (v:List Int),k<=ls.length->ls.length-k<n->v.length+Xay (ls.drop k)<=10000000->QaH N ls n (k:Int) v=some (v++(ls.drop k).flatten)
 | 0,k,v,_,hn,_=>by omega
 | n+1,k,v,hk,hn,hs=>by
  rw[QaH]
  by_cases h:k<ls.length
  ·rw[WA h,Xay] at hs
   rw[WA h,Xw h,We,Xd,Wc h,Xa,Xi (by omega),Xp (by omega),XcU ls hl n (k+1) _ (by omega) (by omega) (by rw[Wr];omega),List.flatten_cons,UA]
  ·obtain rfl:k=ls.length:=by omega
   rw[Xr,Wa,WZ (WQ _)];simp
theorem XcV (ls:List (List Int)) (hl:ls.length<=1000) (hs:Xay ls<=10000000) (hN:1000000<N):QaD N ls=some ls.flatten:=by
 have h1:=XcT (N:=N) ls hl N 0 0 (by omega) (by omega) (by rw[Un];omega)
 have h2:=XcU (N:=N) ls hl N 0 [] (by omega) (by omega) (by rw[Un];simp;omega)
 rw[Un] at h1 h2
 rw[show ((0:Nat):Int)=0 from rfl,UM] at h1
 rw[show ((0:Nat):Int)=0 from rfl,Uu] at h2
 have hg:Qa2 N ((Xay ls:Nat):Int)=some []:=by
  rw[Qa2,Wl (by omega),Wa,Xe (n:=(0:Int)) (by omega) (by omega),Int.sub_zero]
  have e:=Xe (n:=((Xay ls:Nat):Int)) (by omega) (by omega)
  by_cases h:(wI ((Xay ls:Nat):Int))>0
  ·rw[Wo h,We,Xi ⟨rfl,rfl⟩,Xi (by rw[e];omega),Xi (by rw[e];omega),Xi (by rw[e];omega),List.take_zero]
  ·rw[Wl h,Wa]
 rw[QaD,h1,Xa,hg,Xa,h2,Xa]
theorem VD (n:Nat) (a b:List Int):X3 n (a++b)=(X3 n a&&X3 n b):=by
 unfold X3;rw[List.all_append]
theorem Xad (hw:WB k w) (hN:1000000<N) (tw:Xv w):QdZ N w=some (XK w):=by
 have hk:=hw.kk
 have ht:=hw.things
 have hm:=hw.marks
 have hr:=hw.roots
 have ec:QbP N w.Conf=some (Yq w.Conf):=by
  rw[← Zg N w.Conf,QbP,Qav]
 rw[QdZ,ec,Xa,XK]
 cases Yq w.Conf
 ·rfl
 rw[Wx,Wa,Jd hw.loc hN,Xa,WN]
 cases hv1:YY w.Locals
 ·rfl
 rw[Wx,Wa,JW hw.glo hN,Xa,WN]
 cases hv2:YO w.Globals.Entries
 ·rfl
 rw[Wx,Wa,JW hw.wea hN,Xa,WN]
 cases hv3:YO w.Weaks.Entries
 ·rfl
 have g64:=Zy hv2
 have s1:=Ja hv1
 have s3:=Zy hv3
 rw[Wx,Wa,WN,Xaw hw.glo hN,Xa,hv2,We,XdD (by omega) hN,Xa]
 cases ((XE w.Globals.Entries).all λ p=>!(p==0))
 ·cases decide (((w.Marks.length:Nat):Int)>64)<;>cases w.Things.all (KE w.Things.length)<;>rfl
 rw[Wx,Wa,WN]
 have h1:=ZV (l:=w.Things) (F:=QcU N w) (q:=λ _=>KE w.Things.length) (λ n k p e=>by
  have hk:=Xo e
  have hpf:=hw.fields p (WU e)
  rw[QcU,Xw hk,We,Xd,e,Xa,XhL hw hN hpf,Xa,Xp (by omega)]
  cases KE w.Things.length p<;>rfl) (λ n=>by rw[QcU,Xr,Wa]) (n:=N) (by omega)
 rw[Zi] at h1
 rw[h1,Xa]
 cases w.Things.all (KE w.Things.length)
 ·rw[Wa,X8];cases decide (((w.Marks.length:Nat):Int)>64)<;>rfl
 rw[We,XN,XcO hw.loc hN,Xa,hv1,We,Xa,Xaw hw.wea hN,Xa,hv3,We,XcV _ (by simp) (by simp only[Xay];omega) hN,Xa,WN]
 have ef:[w.Roots,Yc w.Locals.Slots,XE w.Globals.Entries,XE w.Weaks.Entries].flatten=w.Roots++(Yc w.Locals.Slots++(XE w.Globals.Entries++XE w.Weaks.Entries)):=by simp
 rw[ef,XbX hw hN (by simp only[Wr];omega),Xa,VD,VD,VD,XhM hw hN tw,Xa]
 cases decide (((w.Marks.length:Nat):Int)>64)<;>cases JS w.Things.length w.Marks<;>cases X3 w.Things.length w.Roots<;>cases X3 w.Things.length (Yc w.Locals.Slots)<;>cases X3 w.Things.length (XE w.Globals.Entries)<;>cases X3 w.Things.length (XE w.Weaks.Entries)<;>rfl
end
end Go.Sx
namespace Go.Sx
section
variable {N:Nat}
theorem Xob:Xb [(2:Int),16,32] 0=some 2:=by unfold Xb;rfl
theorem Xoc:Xb [(2:Int),16,32] 1=some 16:=by unfold Xb;rfl
theorem Xod:Xb [(2:Int),16,32] 2=some 32:=by unfold Xb;rfl
theorem XhN (hN:1000000<N) {v:Int} (h0:0<=v) (h1:v<=18446744073709551615):Qgo N v [2,16,32]=some (if v / 1125899906842624=0 then ([v % 4,v / 4 % 65536,v / 262144 % 4294967296],0) else ([],2)):=by
 obtain ⟨m,rfl⟩:∃ m,N=m+4:=⟨N-4,by omega⟩
 have l3:([(2:Int),16,32].length:Nat)=3:=rfl
 have i1:wI (0+1)=1:=Xe (by omega) (by omega)
 have i2:wI (1+1)=2:=Xe (by omega) (by omega)
 have i3:wI (2+1)=3:=Xe (by omega) (by omega)
 have j1:wI (64-2)=62:=Xe (by omega) (by omega)
 have j2:wI (62-16)=46:=Xe (by omega) (by omega)
 have j3:wI (46-32)=14:=Xe (by omega) (by omega)
 have e1:QbQ (m+4) v [2,16,32] (m+4) 64 0=some (.nxt ()):=by
  rw[QbQ,l3,Xob]
  simp only[Xa,i1,j1]
  rw[QbQ,l3,Xoc]
  simp only[Xa,i2,j2]
  rw[QbQ,l3,Xod]
  simp only[Xa,i3,j3]
  rw[QbQ,l3]
  rfl
 have o1:Qbv (m+4) 2=some 3:=Kg (by omega) (by omega) (by omega)
 have o2:Qbv (m+4) 16=some 65535:=Kg (by omega) (by omega) (by omega)
 have o3:Qbv (m+4) 32=some 4294967295:=Kg (by omega) (by omega) (by omega)
 have s1:YD .u64 v 2=v / 4:=JM v 2 (by omega) h0
 have s2:YD .u64 (v / 4) 16=v / 4 / 65536:=JM (v / 4) 16 (by omega) (by omega)
 have s3:YD .u64 (v / 4 / 65536) 32=v / 4 / 65536 / 4294967296:=JM (v / 4 / 65536) 32 (by omega) (by omega)
 have a1:Y0 .u64 v 3=v % 4:=Kr v 2 (by omega) h0 h1
 have a2:Y0 .u64 (v / 4) 65535=v / 4 % 65536:=Kr (v / 4) 16 (by omega) (by omega) (by omega)
 have a3:Y0 .u64 (v / 4 / 65536) 4294967295=v / 4 / 65536 % 4294967296:=Kr (v / 4 / 65536) 32 (by omega) (by omega) (by omega)
 have g:∀ (p:Prop) [Decidable p] (x:Option (Int×List Int)),p->grd p x=x:=λ p _ x h=>Xi h x
 have e2:QbR (m+4) [2,16,32] (m+4) v 0 []=some (v / 4 / 65536 / 4294967296,[v % 4,v / 4 % 65536,v / 4 / 65536 % 4294967296]):=by
  rw[QbR,l3,Xob]
  rw[Wo (by omega),We,Xa,o1,Xa,Xi (by simp),Xi (by omega),s1,a1,i1]
  rw[QbR,l3,Xoc]
  rw[Wo (by omega),We,Xa,o2,Xa,Xi (by simp),Xi (by omega),s2,a2,i2]
  rw[QbR,l3,Xod]
  rw[Wo (by omega),We,Xa,o3,Xa,Xi (by simp),Xi (by omega),s3,a3,i3]
  rw[QbR,l3]
  rw[Wl (by omega),Wa]
  rfl
 rw[Qgo,e1,Xa,XN,e2,Xa]
 have q1:v / 4 / 65536=v / 262144:=by omega
 have q2:v / 262144 / 4294967296=v / 1125899906842624:=by omega
 rw[q1,q2]
 by_cases h:v / 1125899906842624=0
 ·rw[Wn h,h];rfl
 ·rw[Wh h,Xm h,We]
theorem XdE (hN:1000000<N) {v:Int} (hv:tU v):Qbm N v=some (Zs v):=by
 obtain ⟨h0,h1⟩:=hv
 rw[Qbm,Zs]
 by_cases hz:v=0
 ·subst hz;rfl
 rw[Xc hz,Wa,Wh hz,XhN hN h0 h1,Xa]
 by_cases h:v / 1125899906842624=0
 ·have g0:Xb [v % 4,v / 4 % 65536,v / 262144 % 4294967296] 0=some (v % 4):=by unfold Xb;rfl
  have g1:Xb [v % 4,v / 4 % 65536,v / 262144 % 4294967296] 1=some (v / 4 % 65536):=by unfold Xb;rfl
  have g2:Xb [v % 4,v / 4 % 65536,v / 262144 % 4294967296] 2=some (v / 262144 % 4294967296):=by unfold Xb;rfl
  rw[Wn h]
  simp only
  rw[show ((0:Int) != 0)=false from rfl,Wa,g0,Xa,g1,Xa,g2,Xa,Xe (n:=v % 4) (by omega) (by omega),Xe (n:=v / 4 % 65536) (by omega) (by omega),Xe (n:=v / 262144 % 4294967296) (by omega) (by omega)]
  have q:v / 262144 % 4294967296=v / 262144:=by omega
  have o2:Qbv N 16=some 65535:=Kg (by omega) (by omega) (by omega)
  have o3:Qbv N 32=some 4294967295:=Kg (by omega) (by omega) (by omega)
  rw[q,Qet,Wl (show ¬ v / 4 % 65536<0 by omega),Wl (show ¬ v % 4>3 by omega),o2,Xa,o3,Xa]
  simp only[Wa]
  rw[XT (n:=v / 4 % 65536) (by omega) (by omega),XT (n:=v / 262144) (by omega) (by omega),Wo (show v / 4 % 65536<=65535 by omega),Wo (show v / 262144<=4294967295 by omega),We]
  by_cases c1:v % 4<1
  ·rw[Wo c1,We,Xa,WS,We,Wh (by omega)]
  rw[Wl c1,Wa]
  by_cases c2:v / 262144<1
  ·rw[Wo c2,We,Xa,WS,We,Wh (by omega)]
  rw[Wl c2,Wa,Xa,Wx,Wa,Wn (by omega)]
 ·rw[Wh h,Wh (by omega)];rfl
variable {w:Wm} {k:Nat}
theorem Z0 (hw:WB k w) (hN:1000000<N) {v:Int} (tv:tU v):Qac N w v=some (XP w v):=by
 rw[Qac,XdE hN tv,Xa,XP]
 by_cases hz:v=0
 ·rw[Wn hz,hz];rfl
 rw[Wh hz]
 have h5:(Zs v).2≠5:=by
  unfold Zs
  rw[Wh hz]
  split
  ·show (0:Int)≠5;decide
  ·show (6:Int)≠5;decide
 rw[Xc h5,Wa]
 by_cases he:(Zs v).2=0
 ·rw[Xk he,Wa,Wh (by simpa using he)]
  by_cases h1:(Zs v).1.Tag=1
  ·rw[Wn h1,XA h1,We,XeM hw.loc hN,Xa]
  rw[Wh h1,Xc h1,Wa]
  by_cases h2:(Zs v).1.Tag=2
  ·rw[Wn h2,XA h2,We,XbU hw.glo hN,Xa]
  rw[Wh h2,Xc h2,Wa,XbU hw.wea hN,Xa]
 ·rw[Xm he,We,Wn he]
def XjQ (w:Wm) (v:Int):Int×Int:=if XK w then XP w v else (0,19)
theorem XdF (hw:WB k w) (hN:1000000<N) (tw:Xv w) {v:Int} (tv:tU v):Qaf N w v=some (XjQ w v):=by
 rw[Qaf,Xad hw hN tw,Xa,XjQ]
 cases XK w
 ·rfl
 ·rw[Wx,Wa,Z0 hw hN tv,Xa];rfl
end
end Go.Sx
namespace Go.Sx
section
variable {N:Nat} {w:Wm} {k:Nat}
theorem XdG (hl:w.Things.length<=1000):∀ (n j:Nat) (v:List W5),j<=w.Things.length->w.Things.length-j<n->v.length=j->QcH N w n (j:Int) v=some (v++w.Things.drop j)
 | 0,j,v,_,hn,_=>by omega
 | n+1,j,v,hj,hn,hv=>by
  rw[QcH]
  by_cases h:j<w.Things.length
  ·rw[Xw h,We,Xd,Wc h,Xa,Xa,Xi (by omega),Xp (by omega),XdG hl n (j+1) _ (by omega) (by omega) (by rw[Wr];simp;omega),WA h,UA]
   rfl
  ·obtain rfl:j=w.Things.length:=by omega
   rw[Xr,Wa,WZ (WQ _),IE]
theorem XdH (y:List W5) (hl:w.Marks.length<=1000):∀ (n j:Nat) (v:List Uz),j<=w.Marks.length->w.Marks.length-j<n->v.length=j->QcI N w y n (j:Int) v=some (v++w.Marks.drop j)
 | 0,j,v,_,hn,_=>by omega
 | n+1,j,v,hj,hn,hv=>by
  rw[QcI]
  by_cases h:j<w.Marks.length
  ·rw[Xw h,We,Xd,Wc h,Xa,Xa,Xa,Xi (by omega),Xp (by omega),XdH y hl n (j+1) _ (by omega) (by omega) (by rw[Wr];simp;omega),WA h,UA]
   rfl
  ·obtain rfl:j=w.Marks.length:=by omega
   rw[Xr,Wa,WZ (WQ _),IE]
theorem XlA (hw:WB k w) (hN:1000000<N):QeK N w=some w:=by
 have hk:=hw.kk
 have ht:=hw.things
 have hm:=hw.marks
 have h1:=XdG (N:=N) (w:=w) (by omega) N 0 [] (by omega) (by omega) rfl
 have h2:=λ y=>XdH (N:=N) (w:=w) y hm N 0 [] (by omega) (by omega) rfl
 rw[show ((0:Nat):Int)=0 from rfl,Un,Uu] at h1
 simp only[show ((0:Nat):Int)=0 from rfl,Un,Uu] at h2
 rw[QeK,h1,Xa,h2,Xa]
end
def Wd (w:Wm):Prop:=(∃ k,k<=200/\WB k w)/\Xv w
theorem QkR {N:Nat} (hN:NB N) {raw:Wm} (hr:raw.Things.length<N) (hr2:raw.Things.length<=140737488355328) (tr:Xv raw) (tape odd:List Int):Ok (Qf0 N raw tape odd) λ l=>l.length<=3/\∀ w∈l,Wd w:=by
 rw[Qf0]
 refine WL (XgJ hN tape) λ y1 e1 h1=>?_
 obtain ⟨k,hk,hp⟩:=h1
 refine WL (XjO hp.wor (by omega) (t:=⟨odd,0⟩) ⟨by simp,by simp⟩) λ y2 e2 h2=>?_
 have t2:=Qko (N:=N) hp.ty.2.1 y2 e2
 have p1:Wd y1.World:=⟨⟨k,by omega,hp.wor⟩,hp.ty.2.1⟩
 have p2:Wd y2.1:=⟨⟨k+1,by omega,h2.1⟩,t2⟩
 refine WL (XjP hr2 hr) λ b _ hb=>Wq (λ hb1=>Wg ⟨by simp,λ w hw=>?_⟩) λ _=>Wg ⟨by simp,λ w hw=>?_⟩
 ·simp only[UN,Oq,or_false] at hw
  rcases hw with rfl | rfl | rfl
  ·exact p1
  ·exact p2
  ·exact ⟨⟨100,by omega,hb hb1⟩,tr⟩
 ·simp only[UN,Oq,or_false] at hw
  rcases hw with rfl | rfl
  ·exact p1
  ·exact p2
end Go.Sx
namespace Go.Sx
theorem Xae {α:Type} {l:List α} {F:Nat->Int->Option (Ex Bool Unit)}
 (hstep:∀ (n:Nat) (k:Nat) (p:α),l[k]? = some p->F (n+1) (k:Int)=F n ((k+1:Nat):Int)) (hstop:∀ (n:Nat),F (n+1) (l.length:Int)=some (.nxt ())):∀ (n k:Nat),k<=l.length->l.length-k<n->F n (k:Int)=some (.nxt ())
 | 0,k,_,hn=>by omega
 | n+1,k,hk,hn=>by
  by_cases h:k<l.length
  ·rw[hstep n k _ (Wc h)]
   exact Xae hstep hstop n (k+1) (by omega) (by omega)
  ·obtain rfl:k=l.length:=by omega
   exact hstop n
theorem ZU {α:Type} {l:List α} {F:Nat->Int->Option (Ex Bool Unit)} {n:Nat} (hn:l.length<n)
 (hstep:∀ (n:Nat) (k:Nat) (p:α),l[k]? = some p->F (n+1) (k:Int)=F n ((k+1:Nat):Int)) (hstop:∀ (n:Nat),F (n+1) (l.length:Int)=some (.nxt ())):F n 0=some (.nxt ()) :=
 Xae hstep hstop n 0 (by omega) (by omega)
theorem Zm (a:Int):(a != a)=false:=by simp
theorem exN (raw:Wm):∃ N,NB N/\raw.Things.length<N:=⟨10000001+raw.Things.length,by unfold NB;omega,by omega⟩
section
variable {N:Nat} {w:Wm} {k:Nat}
theorem XjR (h1:w.Things.length<=1000) (h2:w.Marks.length<=1000) (hN:1000000<N):QeK N w=some w:=by
 have h1:=XdG (N:=N) (w:=w) h1 N 0 [] (by omega) (by omega) rfl
 have h2:=λ y=>XdH (N:=N) (w:=w) y h2 N 0 [] (by omega) (by omega) rfl
 rw[show ((0:Nat):Int)=0 from rfl,Un,Uu] at h1
 simp only[show ((0:Nat):Int)=0 from rfl,Un,Uu] at h2
 rw[QeK,h1,Xa,h2,Xa]
theorem XeO:∀ (n:Nat) (i:Int) (v:List W5),Qej N w n i v=QcH N w n i v
 | 0,_,_=>rfl
 | n+1,i,v=>by rw[Qej,QcH];simp only[XeO n]
theorem XeP (y:List W5):∀ (n:Nat) (i:Int) (v:List Uz),Qek N w y n i v=QcI N w y n i v
 | 0,_,_=>rfl
 | n+1,i,v=>by rw[Qek,QcI];simp only[XeP y n]
theorem XjS (hw:WB k w) (hN:1000000<N):QfM N w=some w:=by
 rw[← XlA hw hN,QfM,QeK,XeO]
 simp only[XeP]
structure SB (w:Wm):Prop where
 things:w.Things.length<=1000
 marks:w.Marks.length<=1000
 fields:∀ x∈w.Things,x.Fields.length<=1000
 loc:LBp w.Locals
 glo:TB w.Globals
 wea:TB w.Weaks
 roots:w.Roots.length<=1000
theorem WB.sb (hw:WB k w):SB w:=⟨by have:=hw.kk;have:=hw.things;omega,hw.marks,hw.fields,hw.loc,hw.glo,hw.wea,hw.roots⟩
theorem XjT {l:List Int} (hl:l.length<=1000000) (hN:1000000<N):Qgd N l l=some true:=by
 rw[Qgd,Zm,Wa,ZU (l:=l) (F:=QdA N l l) (n:=N) (by omega) (λ n k p e=>?_) (λ n=>?_),Xa,XN]
 ·have hk:=Xo e
  rw[QdA,Wo (by omega),We,Xd,e,Xa,Xa,Zm,Wa,Xp (by omega)]
 ·rw[QdA,Wl (by omega),Wa]
theorem Xnc {a:Ws} (hl:LBp a) (hN:1000000<N):QgE N a a=some true:=by
 unfold LBp at hl
 rw[QgE,Zm,Wa,Zm,Wa,Zm,Wa,ZU (l:=a.Slots) (F:=QdB N a a) (n:=N) (by omega) (λ n k p e=>?_) (λ n=>?_),Xa,XN,ZU (l:=a.Scopes) (F:=QdC N a a) (n:=N) (by omega) (λ n k p e=>?_) (λ n=>?_),Xa,XN,ZU (l:=a.Issued) (F:=QdD N a a) (n:=N) (by omega) (λ n k p e=>?_) (λ n=>?_),Xa,XN]
 ·have hk:=Xo e
  rw[QdD,Wo (by omega),We,Xd,e,Xa,Xa,Zm,Wa,Xp (by omega)]
 ·rw[QdD,Wl (by omega),Wa]
 ·have hk:=Xo e
  rw[QdC,Wo (by omega),We,Xd,e,Xa,Xa,Xp (by omega)]
  simp only[beq_self_eq_true,Oz,Wx,Wa]
 ·rw[QdC,Wl (by omega),Wa]
 ·have hk:=Xo e
  rw[QdB,Wo (by omega),We,Xd,e,Xa,Xa,Xp (by omega)]
  simp only[beq_self_eq_true,Oz,Wx,Wa]
 ·rw[QdB,Wl (by omega),Wa]
theorem XjU {a:WC} (hl:TB a) (hN:1000000<N):Qge N a a=some true:=by
 unfold TB at hl
 rw[Qge,Zm,Wa,ZU (l:=a.Entries) (F:=QdE N a a) (n:=N) (by omega) (λ n k p e=>?_) (λ n=>?_),Xa,XN]
 ·have hk:=Xo e
  rw[QdE,Wo (by omega),We,Xd,e,Xa,Xa,Xp (by omega)]
  simp only[beq_self_eq_true,Oz,Wx,Wa]
 ·rw[QdE,Wl (by omega),Wa]
theorem Xnd {x:Wm} (h:SB x) (hN:1000000<N):QgF N x x=some true:=by
 have h1:=h.things
 have h2:=h.marks
 have h3:=h.roots
 rw[QgF]
 simp only[beq_self_eq_true,Oz,Wx,Wa,Zm]
 rw[Xnc h.loc hN,Xa,XjU h.glo hN]
 simp only[Wx,Wa,Xa]
 rw[XjU h.wea hN,Xa,XjT (by omega) hN]
 simp only[Wx,Wa,Xa]
 rw[ZU (l:=x.Things) (F:=QdF N x x) (n:=N) (by omega) (λ n k p e=>?_) (λ n=>?_),Xa,XN,ZU (l:=x.Marks) (F:=QdG N x x) (n:=N) (by omega) (λ n k p e=>?_) (λ n=>?_),Xa,XN]
 ·have hk:=Xo e
  rw[QdG,Wo (by omega),We,Xd,e,Xa,Xa,Xp (by omega)]
  simp only[beq_self_eq_true,Oz,Wx,Wa]
 ·rw[QdG,Wl (by omega),Wa]
 ·have hk:=Xo e
  have hf:=h.fields p (WU e)
  rw[QdF,Wo (by omega),We,Xd,e,Xa,Xa,Xp (by omega)]
  simp only[beq_self_eq_true,Oz,Wx,Wa]
  rw[Xa,Xa,XjT (by omega) hN,Xa]
  simp only[Wx,Wa]
 ·rw[QdF,Wl (by omega),Wa]
theorem XfJ (m:Nat):QgR (m+60)=some true:=by kernel_rfl
end
end Go.Sx
namespace Go.Sx
def Zt (N:Nat) (a0:Wm) (x:Int):List Int:=match a0.Things[(x-1).toNat]? with
 | some t=>(match Qbz N t.Header with
  | some ps=>ps.map λ i=>t.Fields.getD i.toNat 0
  | none=>[])
 | none=>[]
inductive OZ (k:Int->List Int) (l:List Int):Int->Prop
 | root {x:Int}:x∈l->x≠0->OZ k l x
 | step {x y:Int}:OZ k l x->y∈k x->y≠0->OZ k l y
structure OS (k:Int->List Int) (l:List Int) (n:Nat) (out:List Bool):Prop where
 len:out.length=n
 sound:∀ i:Nat,out[i]? = some true->OZ k l ((i:Int)+1)
 root:∀ x∈l,x≠0->out[(x-1).toNat]? = some true
 closed:∀ i:Nat,out[i]? = some true->∀ c∈k ((i:Int)+1),c≠0->out[(c-1).toNat]? = some true
theorem OS.all {k:Int->List Int} {l:List Int} {n:Nat} {out:List Bool} (h:OS k l n out) (hl:∀ x∈l,0<=x) (hk:∀ x,∀ c∈k x,0<=c):∀ {x:Int},OZ k l x->1<=x/\out[(x-1).toNat]? = some true:=by
 intro x hx
 induction hx with
 | root h1 h2=>exact ⟨by have:=hl _ h1;omega,h.root _ h1 h2⟩
 | @step x y h1 h2 h3 ih=>exact ⟨by have:=hk _ _ h2;omega,h.closed _ ih.2 _ (by have:=ih.1;rw[show (((x-1).toNat:Nat):Int)+1=x by omega];exact h2) h3⟩
theorem OS.unique {k:Int->List Int} {l:List Int} {n:Nat} {a b:List Bool} (h:OS k l n a) (g:OS k l n b) (hl:∀ x∈l,0<=x) (hk:∀ x,∀ c∈k x,0<=c):a=b:=by
 have key:∀ {a b:List Bool},OS k l n a->OS k l n b->∀ i:Nat,a[i]? = some true->b[i]? = some true:=λ h g i hi=>by
  have:=(g.all hl hk (h.sound i hi)).2
  rwa[show ((i:Int)+1-1).toNat=i by omega] at this
 apply Og
 intro i
 by_cases hi:i<n
 ·have h1:=Wc (show i<a.length by rw[h.len];exact hi)
  have h2:=Wc (show i<b.length by rw[g.len];exact hi)
  cases ha:a[i]'(by rw[h.len];exact hi) with
  | true=>rw[ha] at h1;rw[h1,key h g i h1]
  | false =>
   cases hb:b[i]'(by rw[g.len];exact hi) with
   | true=>rw[hb] at h2;have:=key g h i h2;rw[h1,ha] at this;cases this
   | false=>rw[h1,h2,ha,hb]
 ·rw[WK (by rw[h.len];omega),WK (by rw[g.len];omega)]
structure OV (N:Nat) (a0:Wm) (l:List Int):Prop where
 len:l.length<=140737488355328
 roots:∀ x∈l,0<=x/\x<=a0.Things.length
 thing:∀ t∈a0.Things,∃ ps:List Int,Qbz N t.Header=some ps/\QcX N t=some (ps.map λ i=>t.Fields.getD i.toNat 0)/\ps.length<=140737488355328/\∀ i∈ps,0<=i/\i<t.Fields.length/\0<=t.Fields.getD i.toNat 0/\t.Fields.getD i.toNat 0<=a0.Things.length
theorem XcW {N:Nat} {a0:Wm} {l:List Int} (h:Xcy N a0 l=true):OV N a0 l:=by
 unfold Xcy at h
 simp only[WG,Ur,decide_eq_true_eq] at h
 refine ⟨h.1.1,h.1.2,λ t ht=>?_⟩
 have:=h.2 t ht
 cases h1:Qbz N t.Header with
 | none=>rw[h1] at this;cases this
 | some ps =>
  cases h2:QcX N t with
  | none=>rw[h1,h2] at this;cases this
  | some ks =>
   rw[h1,h2] at this
   simp only[WG,Ur,decide_eq_true_eq,beq_iff_eq] at this
   exact ⟨ps,rfl,by rw[this.2],this.1.1,λ i hi=>by have:=this.1.2 i hi;exact ⟨this.1.1.1,this.1.1.2,this.1.2,this.2⟩⟩
section
variable {N:Nat} {a0:Wm} {l:List Int}
theorem OV.kid (h:OV N a0 l) {x:Int} {c:Int} (hc:c∈Zt N a0 x):0<=c/\c<=a0.Things.length:=by
 unfold Zt at hc
 cases ht:a0.Things[(x-1).toNat]? with
 | none=>rw[ht] at hc;cases hc
 | some t =>
  obtain ⟨ps,h1,_,_,h3⟩:=h.thing t (WU ht)
  rw[ht] at hc
  simp only[h1] at hc
  obtain ⟨i,hi,rfl⟩:=W8.1 hc
  exact ⟨(h3 i hi).2.2.1,(h3 i hi).2.2.2⟩
theorem OV.kids (h:OV N a0 l) {x:Int} {t:W5} (ht:a0.Things[(x-1).toNat]? = some t):QcX N t=some (Zt N a0 x):=by
 obtain ⟨ps,h1,h2,_,_⟩:=h.thing t (WU ht)
 rw[h2,Zt,ht]
 simp only[h1]
theorem XbZ {v:List Bool} {j i:Nat} (hj:j<v.length):(v.set j true)[i]? = some true↔i=j\/v[i]? = some true:=by
 rw[Iq]
 split
 ·rename_i e;subst e;simp[hj]
 ·rename_i e;exact ⟨.inr,λ h=>h.resolve_left (Ne.symm e)⟩
theorem Xa6 (hd:OV N a0 l) (hn:a0.Things.length<=140737488355328):∀ (f i:Nat) (v:List Bool) (q:List Int) (r:List Bool),Qar N a0 f (i:Int) v q=some r->i<=q.length->v.length=a0.Things.length->(∀ x∈l,x∈q)->(∀ x∈q,0<=x/\x<=a0.Things.length/\(x≠0->OZ (Zt N a0) l x)) ->
 (∀ (j:Nat) x,j<i->q[j]? = some x->x≠0->v[(x-1).toNat]? = some true)->(∀ j:Nat,v[j]? = some true->OZ (Zt N a0) l ((j:Int)+1)/\∀ c∈Zt N a0 ((j:Int)+1),c∈q)->OS (Zt N a0) l a0.Things.length r
 | 0,i,v,q,r,h,_,_,_,_,_,_=>by cases h
 | f+1,i,v,q,r,h,hi,hv,hlq,hq,hdone,htrue=>by
  rw[Qar] at h
  by_cases hql:q.length<=140737488355328
  rotate_left
  ·unfold grd at h;rw[Wh hql] at h;cases h
  rw[Xi hql] at h
  by_cases hlt:i<q.length
  ·have e:=Wc hlt
   have hx:=hq _ (W6 hlt)
   generalize q[i]=x at e hx
   rw[Wo (by omega),We,Xd,e] at h
   simp only[Xa] at h
   have hw:wI ((i:Int)+1)=((i+1:Nat):Int):=by rw[Xe (by omega) (by omega)];omega
   rw[hw] at h
   by_cases h0:x=0
   ·subst h0
    rw[show ((0:Int)==0)=true from rfl,We] at h
    refine Xa6 hd hn f (i+1) v q r h (by omega) hv hlq hq (λ j y hj hy hy0=>?_) htrue
    rcases Uk j i with h1 | h1
    ·exact hdone j y h1 hy hy0
    ·obtain rfl:j=i:=by omega
     rw[e] at hy;exact absurd (Ww hy).symm hy0
   ·rw[show (x==0)=false by simpa using h0,Wa,XT (by omega) (by omega)] at h
    have hj:(x-1).toNat<v.length:=by omega
    rw[XM (by omega) (by omega),Xa] at h
    cases hb:v[(x-1).toNat] with
    | true =>
     rw[hb,We] at h
     refine Xa6 hd hn f (i+1) v q r h (by omega) hv hlq hq (λ j y hj' hy hy0=>?_) htrue
     rcases Uk j i with h1 | h1
     ·exact hdone j y h1 hy hy0
     ·obtain rfl:j=i:=by omega
      rw[e] at hy;obtain rfl:=Ww hy
      rw[Wc hj,hb]
    | false =>
     rw[hb,Wa] at h
     have ht:=Wc (show (x-1).toNat<a0.Things.length by omega)
     rw[XM (l:=a0.Things) (by omega) (by omega)] at h
     simp only[Xa] at h
     rw[hd.kids ht,Xa] at h
     by_cases hg:(q.length+(Zt N a0 x).length)*8<=140737488355328
     rotate_left
     ·unfold grd at h;rw[Wh hg] at h;cases h
     rw[Xi hg] at h
     have hR:OZ (Zt N a0) l x:=hx.2.2 h0
     refine Xa6 hd hn f (i+1) _ _ r h (by rw[Wr];omega) (by rw[Wv];exact hv) (λ y hy=>Uf _ (hlq y hy)) (λ y hy=>?_) (λ j y hj' hy hy0=>?_) (λ j hjt=>?_)
     ·rcases WH.1 hy with hy | hy
      ·exact hq y hy
      ·exact ⟨(hd.kid hy).1,(hd.kid hy).2,λ hy0=>.step hR hy hy0⟩
     ·rw[XbZ hj]
      rcases Uk j i with h1 | h1
      ·rw[Ux (by omega)] at hy
       exact .inr (hdone j y h1 hy hy0)
      ·obtain rfl:j=i:=by omega
       rw[Ux hlt,e] at hy
       exact .inl (by rw[Ww hy])
     ·rw[XbZ hj] at hjt
      rcases hjt with rfl | hjt
      ·have ex:(((x-1).toNat:Nat):Int)+1=x:=by omega
       rw[ex]
       exact ⟨hR,λ c hc=>Uj _ hc⟩
      ·exact ⟨(htrue j hjt).1,λ c hc=>Uf _ ((htrue j hjt).2 c hc)⟩
  ·rw[Wl (by omega),Wa] at h
   obtain rfl:=Ww h
   have hall:∀ x∈q,x≠0->v[(x-1).toNat]? = some true:=λ x hx h0=>by
    obtain ⟨j,hj,rfl⟩:=WX hx
    exact hdone j _ (by omega) (Wc hj) h0
   exact ⟨hv,λ j hj=>(htrue j hj).1,λ x hx h0=>hall x (hlq x hx) h0,λ j hj c hc h0=>hall c ((htrue j hj).2 c hc) h0⟩
theorem XfK (hd:OV N a0 l) (hn:a0.Things.length<=140737488355328) {r:List Bool} (h:Qar N a0 N 0 (List.replicate a0.Things.length false) l=some r):OS (Zt N a0) l a0.Things.length r :=
 Xa6 hd hn N 0 _ l r h (Ix _) (by simp) (λ x hx=>hx) (λ x hx=>⟨(hd.roots x hx).1,(hd.roots x hx).2,.root hx⟩) (λ j x hj=>by omega) (λ j hj=>by rw[List.getElem?_replicate] at hj;split at hj<;>cases hj)
def KS (out:List Bool):Nat:=out.countP (!·)
theorem Xb0:∀ {out:List Bool} {j:Nat},out[j]? = some false->KS (out.set j true)+1=KS out
 | [],j,h=>by simp at h
 | b::out,0,h=>by
  simp only[IJ,Wb] at h
  subst h
  simp[KS]
 | b::out,j+1,h=>by
  have:=Xb0 (out:=out) (j:=j) (by simpa using h)
  unfold KS at this ⊢
  rw[List.set_cons_succ,I6,I6]
  omega
structure OJ (N:Nat) (a0:Wm) (l:List Int) (out:List Bool) (F todo:List Int):Prop where
 len:out.length=a0.Things.length
 nodup:F.Nodup
 cnt:KS out+F.length<=a0.Things.length
 mem:∀ x,x∈F\/x∈todo->1<=x/\x<=a0.Things.length/\out[(x-1).toNat]? = some true
 sound:∀ i:Nat,out[i]? = some true->OZ (Zt N a0) l ((i:Int)+1)
 closed:∀ i:Nat,out[i]? = some true->((i:Int)+1)∈F\/((i:Int)+1)∈todo\/∀ c∈Zt N a0 ((i:Int)+1),c≠0->out[(c-1).toNat]? = some true
def Vs (out:List Bool) (x:Int):Bool:=x != 0&&!(out.getD (x-1).toNat false)
def Jv (out:List Bool) (x:Int):List Bool:=if Vs out x then out.set (x-1).toNat true else out
def XaU (out:List Bool) (F:List Int) (x:Int):List Int:=if Vs out x then F++[x] else F
theorem Xaz {out:List Bool} {x:Int} (h0:0<=x) (h1:x<=out.length) {i:Nat}:(Jv out x)[i]? = some true↔out[i]? = some true\/(x≠0/\i=(x-1).toNat):=by
 unfold Jv Vs
 by_cases hx:x=0
 ·subst hx;simp
 have hj:(x-1).toNat<out.length:=by omega
 have hx':(x != 0)=true:=by simpa using hx
 rw[hx',WN,Wk,Wc hj,Ul]
 cases hb:out[(x-1).toNat] with
 | true =>
  simp only[Wx,Ie,if_false]
  exact ⟨.inl,λ h=>h.elim id λ h=>by rw[h.2,Wc hj,hb]⟩
 | false =>
  simp only[WS,if_true,XbZ hj]
  exact ⟨λ h=>h.elim (λ h=>.inr ⟨hx,h⟩) .inl,λ h=>h.elim .inr λ h=>.inl h.2⟩
theorem XcX {out:List Bool} {F:List Int} {x:Int} (h0:0<=x) (h1:x<=out.length):KS (Jv out x)+(XaU out F x).length=KS out+F.length:=by
 unfold Jv XaU
 cases hn:Vs out x with
 | false=>rfl
 | true =>
  simp only[if_true,Wr,WM,Ub]
  unfold Vs at hn
  simp only[WG,bne_iff_ne,ne_eq,Uv] at hn
  have hj:(x-1).toNat<out.length:=by omega
  have:out[(x-1).toNat]? = some false:=by
   rw[Wk] at hn
   rw[Wc hj] at hn ⊢
   simpa using hn.2
  have:=Xb0 this
  omega
theorem OJ.see {out:List Bool} {F todo:List Int} (h:OJ N a0 l out F todo) {x:Int} (h0:0<=x) (h1:x<=a0.Things.length) (hr:x≠0->OZ (Zt N a0) l x):OJ N a0 l (Jv out x) (XaU out F x) todo:=by
 have hT:=@Xaz out x h0 (by rw[h.len];exact h1)
 have hF:∀ y,y∈XaU out F x↔y∈F\/(Vs out x=true/\y=x):=λ y=>by
  unfold XaU
  split
  ·rename_i hn;simp[hn]
  ·rename_i hn;simp[hn]
 refine ⟨?_,?_,by rw[XcX h0 (by rw[h.len];exact h1)];exact h.cnt,λ y hy=>?_,λ i hi=>?_,λ i hi=>?_⟩
 ·unfold Jv;split
  ·rw[Wv];exact h.len
  ·exact h.len
 ·unfold XaU;split
  ·rename_i hn
   refine IC.2 ⟨h.nodup,by simp,λ a ha b hb=>?_⟩
   simp only[UT] at hb
   subst hb
   rintro rfl
   have:=(h.mem a (.inl ha)).2.2
   unfold Vs at hn
   rw[Wk,this] at hn
   simp at hn
  ·exact h.nodup
 ·rw[hF] at hy
  rcases hy with (hy | ⟨hn,rfl⟩) | hy
  ·have:=h.mem y (.inl hy);exact ⟨this.1,this.2.1,hT.2 (.inl this.2.2)⟩
  ·have hy0:y≠0:=by unfold Vs at hn;simp at hn;exact hn.1
   exact ⟨by omega,h1,hT.2 (.inr ⟨hy0,rfl⟩)⟩
  ·have:=h.mem y (.inr hy);exact ⟨this.1,this.2.1,hT.2 (.inl this.2.2)⟩
 ·rcases hT.1 hi with hi | ⟨hx,rfl⟩
  ·exact h.sound i hi
  ·rw[show (((x-1).toNat:Nat):Int)+1=x by omega];exact hr hx
 ·have old:∀ i:Nat,out[i]? = some true->((i:Int)+1)∈XaU out F x\/((i:Int)+1)∈todo\/∀ c∈Zt N a0 ((i:Int)+1),c≠0->(Jv out x)[(c-1).toNat]? = some true:=λ i hi=>by
   rcases h.closed i hi with h2 | h2 | h2
   ·exact .inl ((hF _).2 (.inl h2))
   ·exact .inr (.inl h2)
   ·exact .inr (.inr λ c hc h0=>hT.2 (.inl (h2 c hc h0)))
  by_cases ho:out[i]? = some true
  ·exact old i ho
  ·rcases hT.1 hi with hi | ⟨hx,rfl⟩
   ·exact absurd hi ho
   ·refine .inl ((hF _).2 (.inr ⟨?_,by omega⟩))
    unfold Vs
    have hj:(x-1).toNat<out.length:=by rw[h.len];omega
    rw[Wk,Wc hj,Ul]
    rw[Wc hj] at ho
    cases hb:out[(x-1).toNat] with
    | true=>rw[hb] at ho;exact absurd rfl ho
    | false=>simp[hx]
theorem OJ.start:OJ N a0 l (List.replicate a0.Things.length false) [] []:=by
 have no:∀ i:Nat,¬ (List.replicate a0.Things.length false)[i]? = some true:=λ i h=>by rw[List.getElem?_replicate] at h;split at h<;>cases h
 exact ⟨by simp,Is,by unfold KS;rw[List.countP_replicate];simp,λ x h=>(by rcases h with h | h<;>cases h),λ i h=>absurd h (no i),λ i h=>absurd h (no i)⟩
theorem OJ.wave {out:List Bool} {F xs:List Int} (h:OJ N a0 l out F []) (hp:xs.Perm F):OJ N a0 l out [] xs:=by
 refine ⟨h.len,Is,by have:=h.cnt;simp;omega,λ x hx=>h.mem x (.inl ?_),h.sound,λ i hi=>?_⟩
 ·rcases hx with hx | hx
  ·cases hx
  ·exact hp.mem_iff.1 hx
 ·rcases h.closed i hi with h2 | h2 | h2
  ·exact .inr (.inl (hp.mem_iff.2 h2))
  ·cases h2
  ·exact .inr (.inr h2)
theorem OJ.next {out:List Bool} {F:List Int} {x:Int} {todo:List Int} (h:OJ N a0 l out F (x::todo)) (hk:∀ c∈Zt N a0 x,c≠0->out[(c-1).toNat]? = some true):OJ N a0 l out F todo:=by
 refine ⟨h.len,h.nodup,h.cnt,λ y hy=>h.mem y (hy.elim .inl λ hy=>.inr (Ud _ hy)),h.sound,λ i hi=>?_⟩
 rcases h.closed i hi with h2 | h2 | h2
 ·exact .inl h2
 ·rcases UN.1 h2 with h3 | h3
  ·exact .inr (.inr (by rw[h3];exact hk))
  ·exact .inr (.inl h3)
 ·exact .inr (.inr h2)
theorem OJ.fin {out:List Bool} (h:OJ N a0 l out [] []) (hr:∀ x∈l,x≠0->out[(x-1).toNat]? = some true):OS (Zt N a0) l a0.Things.length out:=by
 refine ⟨h.len,h.sound,hr,λ i hi=>?_⟩
 rcases h.closed i hi with h2 | h2 | h2
 ·cases h2
 ·cases h2
 ·exact h2
theorem Je {out:List Bool} {x:Int} (h0:0<=x) (h1:x<=out.length) {i:Nat} (h:out[i]? = some true):(Jv out x)[i]? = some true:=(Xaz h0 h1).2 (.inl h)
theorem Xb1 {out:List Bool} {x:Int} (h0:0<=x) (h1:x<=out.length) (hx:x≠0):(Jv out x)[(x-1).toNat]? = some true:=(Xaz h0 h1).2 (.inr ⟨hx,rfl⟩)
end
end Go.Sx
namespace Go.Sx
section
variable {α:Type} {l:List α} {k:Nat} (f:α->α)
theorem XfL (h:k<l.length):((l.take k).map f++l.drop k)[k]? = some l[k]:=by
 rw[US (by simp;omega),Wt,WO,OC (by omega),Ou,Iv,I8,Wc h]
theorem XdI (h:k<l.length) (e:f l[k]=l[k]):(l.take k).map f++l.drop k=(l.take (k+1)).map f++l.drop (k+1):=by
 rw[WA h,UY h,IV,WV,UO,UA,e];rfl
theorem XfM (h:k<l.length):((l.take k).map f++l.drop k).set k (f l[k])=(l.take (k+1)).map f++l.drop (k+1):=by
 rw[List.set_append_right _ _ (by simp;omega),Wt,WO,OC (by omega),Ou,WA h,List.set_cons_zero,UY h,IV,WV,UO,UA];rfl
theorem XfN:(l.take l.length).map f++l.drop l.length=l.map f:=by simp
end
def KO (w:Wm):List Int:=w.Roots++Yc w.Locals.Slots++XE w.Globals.Entries++w.Marks.map (·.Id)
def VE (seen:List Bool) (r:Int):Int:=if (r != 0&&!(seen.getD (r-1).toNat false))=true then 0 else r
def Vk (seen:List Bool) (e:WP):WP:=if e.Live=true then ⟨e.Gen,VE seen e.Ref,e.Live⟩ else e
section
variable {N:Nat} {w:Wm} {k:Nat}
theorem XcY (hm:w.Marks.length<=1000):∀ (n j:Nat) (v:List Int),j<=w.Marks.length->w.Marks.length-j<n->v.length<=10000+j->QbY N w n (j:Int) v=some (v++(w.Marks.drop j).map (·.Id))
 | 0,j,_,_,hn,_=>by omega
 | n+1,j,v,hj,hn,hv=>by
  rw[QbY]
  by_cases h:j<w.Marks.length
  ·rw[Xw h,We,Xd,Wc h,Xa,Xi (by omega),Xp (by omega),XcY hm n (j+1) _ (by omega) (by omega) (by rw[Wr];simp;omega),WA h,WV,UA];rfl
  ·obtain rfl:j=w.Marks.length:=by omega
   rw[Xr,Wa,WZ (WQ _)];simp
theorem XhO (hw:WB k w) (hN:1000000<N) (hf:WF w):Qem N w=some (KO w):=by
 have h1:=hw.roots
 have h2:=Ja hf.loc
 have h3:=Zy hf.glo
 have h4:=XcY (N:=N) hw.marks N 0 (w.Roots++Yc w.Locals.Slots++XE w.Globals.Entries) (by omega) (by have:=hw.marks;omega) (by rw[Wr,Wr];omega)
 rw[show ((0:Nat):Int)=0 from rfl,Un] at h4
 rw[Qem,Xi (by omega),KC hw.loc hN,Xa,hf.loc,We,Xi (by omega),YP hw.glo hN,Xa,hf.glo,We,Xi (by omega),h4,Xa];rfl
theorem Xb2 (hw:WB k w) (hf:WF w):(KO w).length<=10000:=by
 have h1:=hw.roots
 have h2:=Ja hf.loc
 have h3:=Zy hf.glo
 have h4:=hf.m64
 unfold KO
 simp only[Wr,Wt]
 omega
theorem XjV {l:List UR} (h:tL Yk l) {x:Int} (hx:x∈Yc l):tU x:=by
 unfold Yc at hx
 obtain ⟨p,hp,rfl⟩:=W8.1 hx
 exact h p (Uq.1 hp).1
theorem XeQ {l:List WP} (h:tL XF l) {x:Int} (hx:x∈XE l):tU x:=by
 unfold XE at hx
 obtain ⟨p,hp,rfl⟩:=W8.1 hx
 exact h p (Uq.1 hp).1
theorem XhP {d:WE} {x:Int} (h:x∈Z8 d):0<=x/\x<d.Length:=by
 unfold Z8 at h
 split at h
 ·have:=Jp h;omega
 ·cases h
theorem Xne (hw:WB k w) (hN:1000000<N) (hf:WF w) (tw:Xv w):Xcy N w (KO w)=true:=by
 have hn:=Xb2 hw hf
 obtain ⟨t1,t2,t3,_,t5,t6⟩:=tw
 unfold Xcy
 simp only[WG,Ur,decide_eq_true_eq]
 refine ⟨⟨by omega,λ x hx=>?_⟩,λ t ht=>?_⟩
 ·unfold KO at hx
  simp only[WH] at hx
  rcases hx with ((hx | hx) | hx) | hx
  ·exact ⟨(t6 x hx).1,hf.roots x hx⟩
  ·exact ⟨(XjV t2 hx).1,hf.rloc x hx⟩
  ·exact ⟨(XeQ t3 hx).1,hf.rglo x hx⟩
  ·obtain ⟨m,hm,rfl⟩:=W8.1 hx
   obtain ⟨j,hj,rfl⟩:=WX hm
   have:=hf.mk_ (Wc hj)
   omega
 ·obtain ⟨f1,f2,f3,f4⟩:=hf.thing t ht
  have ff:=hw.fields t ht
  have e:=XcS f1 f3
  rw[XcQ (by omega) t.Header f1,V5 (by omega) hN,e]
  simp only[WG,Ur,decide_eq_true_eq,beq_self_eq_true,and_true]
  have hl:(Z8 t.Header).length<=1000:=by
   have:=K8 t.Header 0 t.Fields
   have e2:(K7 t).length=(Z8 t.Header).length:=by rw[e,Wt]
   unfold K7 at e2
   omega
  refine ⟨by omega,λ i hi=>?_⟩
  have hm:=XhP hi
  have hmem:t.Fields.getD i.toNat 0∈K7 t:=by rw[e];exact W8.2 ⟨i,hi,rfl⟩
  have h0:0<=t.Fields.getD i.toNat 0:=by
   rw[Wk,Wc (by omega),Ul]
   exact ((t1 t ht).2 _ (W6 _)).1
  exact ⟨⟨⟨hm.1,by omega⟩,h0⟩,f4 _ hmem⟩
theorem Ve {l:List Int} (hd:OV N w l) (hw:WB k w) (hN:1000000<N):∀ (f i:Nat) (v:List Bool) (q:List Int),i<=q.length->v.length=w.Things.length->(∀ x∈q,0<=x/\x<=w.Things.length)->q.length+1000*KS v<=2000000->(q.length-i)+1001*KS v<f->Ok (Qar N w f (i:Int) v q) λ r=>r.length=w.Things.length
 | 0,_,_,_,_,_,_,_,h=>by omega
 | f+1,i,v,q,hi,hv,hq,hb,hm=>by
  have hk:=hw.kk
  have ht:=hw.things
  rw[Qar,Xi (by omega)]
  by_cases hlt:i<q.length
  ·have e:=Wc hlt
   have hx:=hq _ (W6 hlt)
   generalize q[i]=x at e hx
   rw[Wo (by omega),We,Xd,e]
   simp only[Xa]
   rw[Xp (by omega)]
   refine Wq (λ _=>Ve hd hw hN f (i+1) v q (by omega) hv hq hb (by omega)) λ h0=>?_
   have h0:x≠0:=by simpa using h0
   rw[XT (by omega) (by omega)]
   have hj:(x-1).toNat<v.length:=by omega
   rw[XM (by omega) (by omega),Xa]
   refine Wq (λ _=>Ve hd hw hN f (i+1) v q (by omega) hv hq hb (by omega)) λ hb0=>?_
   have hc:=Xb0 (out:=v) (j:=(x-1).toNat) (by rw[Wc hj,hb0])
   have hg:=Wc (show (x-1).toNat<w.Things.length by omega)
   rw[XM (l:=w.Things) (by omega) (by omega)]
   simp only[Xa]
   have hks:=hd.kids hg
   have hkl:(Zt N w x).length<=1000:=by
    have hff:=hw.fields _ (WU hg)
    rw[V5 (by omega) hN] at hks
    rw[← Ww hks]
    have:=K8 w.Things[(x-1).toNat].Header 0 w.Things[(x-1).toNat].Fields
    unfold K7;omega
   rw[hks,Xa,Xi (by omega)]
   refine Ve hd hw hN f (i+1) _ _ (by rw[Wr];omega) (by rw[Wv];exact hv) (λ y hy=>?_) (by rw[Wr];omega) (by rw[Wr];omega)
   rcases WH.1 hy with hy | hy
   ·exact hq y hy
   ·exact hd.kid hy
  ·rw[Wl (by omega),Wa]
   exact Wg hv
theorem XgM (l:List Bool):KS l<=l.length:=List.countP_le_length
theorem XfO (hw:WB k w) (hN:NB N) (tw:Xv w):∃ r,Qe9 N w=some r/\Qdq N w=some r/\r.length<=1000/\(XK w=true->r.length=w.Things.length):=by
 have hk:=hw.kk
 have ht:=hw.things
 unfold NB at hN
 rw[Qe9,Qdq,Xad hw (by omega) tw,Vb hw (by omega),Xa,Xa]
 cases hv:XK w
 ·exact ⟨[],rfl,rfl,by simp,λ h=>by cases h⟩
 have hf:=Yi hv
 have h2:=Ja hf.loc
 have h3:=Zy hf.glo
 have h1:=hw.roots
 have hR:=Xne hw (show 1000000<N by omega) hf tw
 have hd:=XcW hR
 have hsl:=Xb2 hw hf
 obtain ⟨r,er,hr⟩:=Ve hd hw (show 1000000<N by omega) N 0 (List.replicate w.Things.length false) (KO w) (by omega) (by simp) hd.roots (by have:=XgM (List.replicate w.Things.length false);rw[Uc] at this;omega) (by have:=XgM (List.replicate w.Things.length false);rw[Uc] at this;omega)
 rw[show ((0:Nat):Int)=0 from rfl] at er
 have e4:QaD N [w.Roots,Yc w.Locals.Slots,XE w.Globals.Entries]=some (w.Roots++Yc w.Locals.Slots++XE w.Globals.Entries):=by
  rw[XcV _ (by simp) (by simp[Xay];omega) (by omega)]
  simp
 refine ⟨r,?_,?_,by omega,λ _=>hr⟩
 ·rw[Wx,Wa,XcO hw.loc (by omega),Xaw hw.glo (by omega),hf.loc,hf.glo,We,We,Xa,Xa,e4,Xa]
  show grd (Xcy N w (KO w)=true) (bnd (Qar N w N 0 _ (KO w)) _)=_
  rw[Xi hR,er,Xa]
 ·rw[Wx,Wa,Xi (by omega),XhO hw (by omega) hf,Xa,WD,er,Xa]
theorem XgN {seen:List Bool} (hl:w.Weaks.Entries.length<=1000000) (hr:∀ e∈w.Weaks.Entries,e.Live=true->0<=e.Ref/\e.Ref<=seen.length) (hs:seen.length<=1000000):∀ (n j:Nat),j<=w.Weaks.Entries.length->w.Weaks.Entries.length-j<n->Qa6 N seen w n (j:Int) ((w.Weaks.Entries.take j).map (Vk seen)++w.Weaks.Entries.drop j)=some (w.Weaks.Entries.map (Vk seen))
 | 0,j,_,hn=>by omega
 | n+1,j,hj,hn=>by
  rw[Qa6]
  by_cases h:j<w.Weaks.Entries.length
  ·have hre:=hr _ (W6 h)
   have e1:=XfM (Vk seen) h
   have e2:=XdI (Vk seen) h
   rw[Xw h,We,Xd,XfL _ h]
   simp only[Xa,WD,Xp (show j<=140737488355328 by omega)]
   have ih:=XgN hl hr hs n (j+1) (by omega) (by omega)
   generalize w.Weaks.Entries[j]=p at hre e1 e2
   cases hL:p.Live with
   | false=>rw[Wa,e2 (by rw[Vk,Wh (by rw[hL];simp)])];exact ih
   | true =>
    have hre:=hre hL
    rw[We]
    by_cases h0:p.Ref=0
    ·rw[Xk h0,Wa,e2 (by rw[Vk,Wn hL,VE,Wh (by simp[h0])])];exact ih
    ·have hj:(p.Ref-1).toNat<seen.length:=by omega
     have hg:seen.getD (p.Ref-1).toNat false=seen[(p.Ref-1).toNat]:=by rw[Wk,Wc hj];rfl
     rw[Xm h0,We,XT (by omega) (by omega),XM (by omega) (by omega),Xa]
     cases hb:seen[(p.Ref-1).toNat] with
     | true=>rw[Wx,Wa,e2 (by rw[Vk,Wn hL,VE,Wh (by rw[hg,hb];simp)])];exact ih
     | false =>
      rw[WS,We]
      rw[Vk,Wn hL,VE,Wn (by rw[hg,hb];simp[h0]),hL] at e1
      rw[e1];exact ih
  ·obtain rfl:j=w.Weaks.Entries.length:=by omega
   rw[Xr,Wa,XfN]
theorem XgO {seen:List Bool} {l:List Int} (hl:l.length<=1000000) (hr:∀ r∈l,0<=r/\r<=seen.length) (hs:seen.length<=1000000):∀ (n j:Nat),j<=l.length->l.length-j<n->Qaw N w seen n (j:Int) ((l.take j).map (VE seen)++l.drop j)=some (l.map (VE seen))
 | 0,j,_,hn=>by omega
 | n+1,j,hj,hn=>by
  have hlen:((l.take j).map (VE seen)++l.drop j).length=l.length:=by simp;omega
  rw[Qaw,Xi (by omega),hlen]
  by_cases h:j<l.length
  ·have hre:=hr _ (W6 h)
   have e1:=XfM (VE seen) h
   have e2:=XdI (VE seen) h
   rw[Xw h,We,Xd,XfL _ h]
   simp only[Xa,WD,Xp (show j<=140737488355328 by omega)]
   have ih:=XgO hl hr hs n (j+1) (by omega) (by omega)
   generalize l[j]=p at hre e1 e2
   by_cases h0:p=0
   ·rw[Xk h0,Wa,e2 (by rw[VE,Wh (by simp[h0])])];exact ih
   ·have hj:(p-1).toNat<seen.length:=by omega
    have hg:seen.getD (p-1).toNat false=seen[(p-1).toNat]:=by rw[Wk,Wc hj];rfl
    rw[Xm h0,We,XT (by omega) (by omega),XM (by omega) (by omega),Xa]
    cases hb:seen[(p-1).toNat] with
    | true=>rw[Wx,Wa,e2 (by rw[VE,Wh (by rw[hg,hb];simp)])];exact ih
    | false =>
     rw[WS,We]
     rw[VE,Wn (by rw[hg,hb];simp[h0])] at e1
     rw[e1];exact ih
  ·obtain rfl:j=l.length:=by omega
   rw[Xr,Wa,XfN]
theorem XcZ (a b:List WP):XE (a++b)=XE a++XE b:=by unfold XE;rw[List.filter_append,IV]
theorem XgP {seen:List Bool} {l:List WP} (hl:l.length<=1000000):∀ (n j:Nat),j<=l.length->l.length-j<n->QaS N ((XE l).map (VE seen)) n ((XE (l.take j)).length:Int) (j:Int) ((l.take j).map (Vk seen)++l.drop j)=some (l.map (Vk seen))
 | 0,j,_,hn=>by omega
 | n+1,j,hj,hn=>by
  have hlen:((l.take j).map (Vk seen)++l.drop j).length=l.length:=by simp;omega
  rw[QaS,Xi (by omega),hlen]
  by_cases h:j<l.length
  ·have e1:=XfM (Vk seen) h
   have e2:=XdI (Vk seen) h
   have e3:XE (l.take (j+1))=XE (l.take j)++XE [l[j]]:=by rw[UY h,XcZ]
   have e4:XE l=XE (l.take j)++XE [l[j]]++XE (l.drop (j+1)):=by rw[← e3,← XcZ,List.take_append_drop]
   have h5:=J6 (l.take j)
   have h6:(l.take j).length<=1000000:=by simp;omega
   rw[Xw h,We,Xd,XfL _ h]
   simp only[Xa,WD,Xp (show j<=140737488355328 by omega),Xp (show (XE (l.take j)).length<=140737488355328 by omega)]
   have ih:=XgP (seen:=seen) hl n (j+1) (by omega) (by omega)
   rw[e3] at ih
   generalize l[j]=p at e1 e2 e4 ih
   cases hL:p.Live with
   | false =>
    have e5:XE [p]=[]:=by simp[XE,hL]
    rw[e5,IE] at ih
    rw[Wa,e2 (by rw[Vk,Wh (by rw[hL];simp)])];exact ih
   | true =>
    have e5:XE [p]=[p.Ref]:=by simp[XE,hL]
    have e6:((XE l).map (VE seen))[(XE (l.take j)).length]? = some (VE seen p.Ref):=by
     rw[e4,e5,UA,IV,US (by simp),Wt,Ou];rfl
    rw[Vk,Wn hL] at e1
    rw[e5,Wr] at ih
    rw[We,Xd,e6,Xa,← hL,e1];exact ih
  ·obtain rfl:j=l.length:=by omega
   rw[Xr,Wa,XfN]
theorem Xpv {l:List W5} {j:Nat} (h:j<l.length):l.set j (W5.mk l[j].Header l[j].Fields)=l:=by
 show l.set j l[j]=l
 exact List.set_getElem_self h
theorem XgQ (hl:w.Things.length<=1000):∀ (n j:Nat),j<=w.Things.length->w.Things.length-j<n->Qd9 N w w.Things n (j:Int) w.Things=some w.Things
 | 0,j,_,hn=>by omega
 | n+1,j,hj,hn=>by
  rw[Qd9]
  by_cases h:j<w.Things.length
  ·rw[Xw h,We,Xd,Wc h]
   simp only[Xa,QaJ,WD]
   rw[Xp (by omega),Xpv h]
   exact XgQ hl n (j+1) (by omega) (by omega)
  ·obtain rfl:j=w.Things.length:=by omega
   rw[Xr,Wa]
theorem XgR (hw:WB k w) (hN:1000000<N):Qaq N w=some w:=by
 have hk:=hw.kk
 have ht:=hw.things
 have h1:=XgQ (N:=N) (w:=w) (by omega) N 0 (by omega) (by omega)
 rw[show ((0:Nat):Int)=0 from rfl] at h1
 rw[Qaq,QaE,Xa,Xi (by omega),h1,Xa,QeA,Qda,Qda,QaM,QaJ,QaI,QaB,QbS,Qat,Qat]
 simp only[Xa]
theorem JX (hw:WB k w) (hN:NB N) (tw:Xv w) (hv:XK w=true):∃ t,QcV N w=some (⟨w.Conf,w.Things,w.Locals,w.Globals,t,w.Marks,w.Roots⟩,0)/\QbI N w=some (⟨w.Conf,w.Things,w.Locals,w.Globals,t,w.Marks,w.Roots⟩,0):=by
 have hk:=hw.kk
 have ht:=hw.things
 obtain ⟨seen,es,er,hsl,hsv⟩:=XfO hw hN tw
 unfold NB at hN
 have hwl:=hw.weaK
 rw[QcV,QbI,Xad hw (by omega) tw,Vb hw (by omega),Xa,Xa,hv]
 have hf:=Yi hv
 have hsv:=hsv hv
 have h64:=Zy hf.wea
 obtain ⟨_,_,_,t4,_,_⟩:=tw
 have hrT:∀ r∈XE w.Weaks.Entries,0<=r/\r<=seen.length:=λ r hr=>⟨(XeQ t4 hr).1,by have:=hf.rwea r hr;omega⟩
 have g1:=XgN (N:=N) (w:=w) (seen:=seen) (by omega) (λ e he hL=>hrT _ (XcM he hL)) (by omega) N 0 (by omega) (by omega)
 have g2:=XgO (N:=N) (w:=w) (seen:=seen) (l:=XE w.Weaks.Entries) (by omega) hrT (by omega) N 0 (by omega) (by omega)
 have g3:=XgP (N:=N) (seen:=seen) (l:=w.Weaks.Entries) (by omega) N 0 (by omega) (by omega)
 simp only[show ((0:Nat):Int)=0 from rfl,List.take_zero,UO,Un,Uu] at g1 g2 g3
 rw[show ((XE []).length:Int)=0 from rfl] at g3
 refine ⟨⟨w.Weaks.Entries.map (Vk seen)⟩,?_,?_⟩
 ·rw[Wx,Wa,es,Xa,XgR hw (by omega),Xa,Xi (by omega),g1,Xa]
 ·rw[Wx,Wa,er,Xa,YP hw.wea (by omega),Xa,hf.wea,We,g2,Xa,Qcr,ZW hw.wea (by omega),Xa,hf.wea,Wx,Wa,YP hw.wea (by omega),Xa,hf.wea,We,Xi (by omega),Wt,Zm,Wa,Xi (by omega),g3,Xa,Xa]
end
end Go.Sx
namespace Go.Sx
section
variable {N:Nat} {a:Ws} {t:WC}
theorem Vf (a:Ws):Qd0 N a=some a:=by
 rw[Qd0,QaI,Xa,QaB,Xa,QbS,Xa]
theorem VF (t:WC):QfK N t=some t:=by
 rw[QfK,Qat,Xa]
theorem Vt {α:Type} {p q:α->Bool}:∀ {l:List α},(∀ x∈l,p x=q x)->l.findIdx? p=l.findIdx? q
 | [],_=>rfl
 | x::l,h=>by
  rw[Oa,Oa,h x (by simp),Vt λ y hy=>h y (Ud _ hy)]
theorem XjW {l:List WP} (hv:YO l=true):(l.findIdx? λ e=>!(e.Live||(e.Gen==4294967295)))=XaO l:=by
 unfold XaO
 refine Vt λ e he=>?_
 have hg:=VZ hv he
 cases e.Live
 ·rw[IZ,WS,WN]
  by_cases h:e.Gen=4294967295
  ·rw[XA h,Wl (by omega)];rfl
  ·rw[Xc h,Wo (by omega)];rfl
 ·rfl
theorem Xb3 (hl:TB t) (hN:1000000<N) (id:Int):Qfd N t id=some (YB t id):=by
 have hl':=hl
 unfold TB at hl
 rw[Qfd,JW hl' hN,Xa,YB]
 cases hv:YO t.Entries
 ·rfl
 rw[Wx,Wa,Wh (by simp),QgC,Xa,XY]
 have h64:=K5 hv
 rw[XjW hv]
 cases hf:XaO t.Entries with
 | some k =>
  obtain ⟨hk,hp,_⟩:=UW.1 hf
  have hg:=VZ hv (W6 hk)
  have hG:t.Entries[k].Gen<4294967295:=by
   have:(!t.Entries[k].Live&&decide (t.Entries[k].Gen<4294967295))=true:=by simpa using hp
   rw[WG] at this
   exact Wu this.2
  have gd:t.Entries.getD k ⟨0,0,false⟩=t.Entries[k]:=by rw[Wk,Wc hk];rfl
  simp only[Option.isSome_some,Ul,Wx,Wa,VF,Xa,XY,Xd,Wc hk,WD,Ov,gd]
  rw[Xe (by omega) (by omega)]
 | none =>
  simp only[Option.isSome_none,Option.getD_none,WS,We]
  by_cases h:t.Entries.length=64
  ·rw[Wn h,Wo (by omega),We];rfl
  rw[Wh h,Wl (by omega),Wa]
  simp only[VF,Xa,XY]
  rw[Xi (by omega),Xd,US (WQ _),Ou]
  simp only[IJ,Xa,WD,Ov]
  rw[Xe (by omega) (by omega),List.set_append_right _ _ (WQ _),Ou]
  rfl
theorem XeR (hl:LBp a) (hN:1000000<N) (id:Int):Qbx N a id=some (Zj a id):=by
 obtain ⟨hl1,hl2,hl3⟩:=hl
 rw[Qbx,Jd ⟨hl1,hl2,hl3⟩ hN,Xa,Zj]
 cases hv:YY a
 ·rfl
 rw[Wx,Wa,Wh (by simp)]
 have hf:=Zw.1 hv
 by_cases h1:id=0
 ·subst h1;rfl
 rw[Wh h1,show (id==0)=false by simpa using h1,Wa,Xe (by omega) (by omega)]
 by_cases h2:a.Scopes.length=0
 ·rw[Wn h2,h2];rfl
 rw[Wh h2,Wl (by omega),Wa]
 have e:=Wc (show a.Scopes.length-1<a.Scopes.length by omega)
 have e2:KJ a=a.Scopes[a.Scopes.length-1]:=by unfold KJ;rw[Wk,e];rfl
 have ec:((a.Scopes.length:Nat):Int)-1=((a.Scopes.length-1:Nat):Int):=by omega
 have htl:toL a (a.Scopes.length-1)=(a.Slots.length:Int):=by
  unfold toL
  rw[show a.Scopes.length-1+1=a.Scopes.length by omega,WK (WQ _)]
 rw[ec,XeL ⟨hl1,hl2,hl3⟩ hN hf.ne e,Xa,Xd,e,Xa,htl,WD,← e2]
 by_cases h3:(KJ a).Cap<=((ZZ a.Slots (KJ a).From.toNat a.Slots.length:Nat):Int)
 ·rw[Wn h3,Wo (show ((ZZ a.Slots (KJ a).From.toNat a.Slots.length:Nat):Int)>=_ from h3),We];rfl
 rw[Wh h3,Wl (show ¬ ((ZZ a.Slots (KJ a).From.toNat a.Slots.length:Nat):Int)>=_ from h3),Wa]
 have h4096:=hf.iss
 by_cases h4:a.Issued.length=4096
 ·rw[Wn h4,Wo (by omega),We];rfl
 rw[Wh h4,Wl (by omega),Wa,Vf,Xa,Xi (by omega),Xi (by omega),Xi (by omega),Xi (by omega),Xe (by omega) (by omega)]
theorem Xc0 (hl:LBp a) (hN:1000000<N) (c:Int):Qfr N a c=some (Jr a c):=by
 have hl2:=hl.2.1
 have hl1:=hl.1
 rw[Qfr,Qg4,Jd hl hN,Xa,Jr]
 cases hv:YY a
 ·rw[WS,We,Xa,Wn (.inl rfl)];rfl
 have hf:=Zw.1 hv
 rw[Wx,Wa]
 by_cases h1:c<0
 ·rw[Wo h1,We,Xa,Wn (.inr (.inl h1))];rfl
 by_cases h2:c>64
 ·rw[Wl h1,Wa,Wo h2,We,Xa,Wn (.inr (.inr h2))];rfl
 rw[Wl h1,Wa,Wl h2,Wa,XY,WS,We,Wh (by rintro (h | h | h);cases h;exact h1 h;exact h2 h)]
 by_cases h3:a.Scopes.length=0
 ·rw[Wn h3,h3];rw[show (((0:Nat):Int)==0)=true from rfl,We,Xa];rfl
 rw[Wh h3,show (((a.Scopes.length:Nat):Int)==0)=false by simpa using h3,Wa]
 have h64:=hf.sc
 by_cases h4:a.Scopes.length=64
 ·rw[Wn h4,Wo (by omega),We,Xa];rfl
 rw[Wh h4,Wl (by omega),Wa,Vf,Xa,Xi (by omega),Xi (by omega),Xa]
theorem XeS (hl:LBp a) (hN:1000000<N):Qf2 N a=some (ZC a):=by
 obtain ⟨hl1,hl2,hl3⟩:=hl
 rw[Qf2,Jd ⟨hl1,hl2,hl3⟩ hN,Xa,ZC]
 cases hv:YY a
 ·rfl
 rw[Wx,Wa,Wh (by simp)]
 by_cases h2:a.Scopes.length=0
 ·rw[Wn h2,h2];rfl
 have ht:=XbI hv h2
 have hg:=V1 h2 hl2
 rw[Wh h2]
 have hw:wI (((a.Scopes.length:Nat):Int)-1)=((a.Scopes.length:Nat):Int)-1:=Xe (by omega) (by omega)
 rw[hg,Xa,hw,Wl (by omega),Wa]
 cases hB:(KJ a).Base
 ·rw[Wa,QgD,Vf,Xa,← hw,hg,Xa,hw,Xi (by omega),Xi (by omega),Xa]
  rw[show (((a.Scopes.length:Nat):Int)-1).toNat=a.Scopes.length-1 by omega]
  rfl
 ·rw[We];rfl
theorem XjX (c:Ut) (w:Int):∃ x,QgS N c w=some x/\decide (x>=0)=(Zh c w != -1):=by
 have hpv:QbP N c=some (Yq c):=by
  have:=Zg N c
  rw[Qav] at this
  rw[QbP,this]
 rw[QgS,hpv,Xa]
 unfold Zh
 cases hc:Yq c
 ·exact ⟨-1,rfl,by simp⟩
 have h:=XH.1 hc
 rw[Wx,Wa]
 by_cases h1:w<1
 ·rw[Wo h1,We,Wh (by omega)];exact ⟨-1,rfl,rfl⟩
 rw[Wl h1,Wa,Wn ⟨rfl,by omega⟩,Xe (n:=4*c.PageWords) (by omega) (by omega)]
 by_cases h4:w>4*c.PageWords
 ·rw[Wo h4,We,Wh (by omega),Wh (by omega),Wh (by omega),Wh (by omega),Wh (by omega)];exact ⟨-1,rfl,rfl⟩
 rw[Wl h4,Wa,QfN,hpv,Xa,hc,Wx,Wa,Xa]
 have ed:c.PageWords.tdiv 4=c.PageWords / 4:=ID (by omega)
 rw[ed,Xe (n:=c.PageWords / 4) (by omega) (by omega)]
 by_cases h5:w<=c.PageWords / 4
 ·rw[Wo h5,We,Wn h5];exact ⟨0,rfl,rfl⟩
 rw[Wl h5,Wa,Wh h5,Xi (by omega)]
 refine ⟨_,rfl,?_⟩
 rw[Xe (n:=w+c.PageWords) (by omega) (by omega),Xe (n:=w+c.PageWords-1) (by omega) (by omega)]
 have hq:(w+c.PageWords-1).tdiv c.PageWords=(w+c.PageWords-1) / c.PageWords:=ID (by omega)
 have h0:0<=(w+c.PageWords-1) / c.PageWords:=Int.ediv_nonneg (by omega) (by omega)
 have h9:(w+c.PageWords-1) / c.PageWords<=1000:=by
  have:=Int.ediv_le_self (a:=w+c.PageWords-1) c.PageWords (by omega)
  omega
 rw[hq,Xe (by omega) (by omega),Wo (by omega)]
 split
 ·rfl
 split
 ·rfl
 split
 ·rfl
 split
 ·rfl
 omega
theorem XjY (hN:1000<N) (c:Ut) (d:WE):Qgc N c d=some (V8 c d):=by
 obtain ⟨x,h1,h2⟩:=XjX (N:=N) c (ZE d)
 rw[Qgc,Ju hN,Xa,V8,XcP hN,Xa,h1,Xa,h2]
 cases XW d<;>cases (d.Kind != 0)<;>rfl
end
end Go.Sx
namespace Go.Sx
section
variable {N:Nat} {w:Wm} {k:Nat}
theorem Vg (hw:WB k w) (hN:1000000<N) (hv:XK w=true) (tw:Xv w) {a b c:Int} {f:Bool} (ta:tU a) :
 ∃ id hd,QaW N ⟨w,a,b,c,f⟩=some (id,hd,(Xh w a).2)/\((Xh w a).2=0->id=(Xh w a).1/\hd=(thg w (Xh w a).1).Header):=by
 rw[QaW]
 show ∃ id hd,(bnd (Qac N w a) _=_/\_)
 rw[Z0 hw hN ta,Xa]
 by_cases he:(XP w a).2=0
 ·rw[Xk he,Wa]
  by_cases h0:(XP w a).1=0
  ·rw[XA h0,We]
   have e:Xh w a=(0,5):=by unfold Xh;rw[Wn ⟨he,h0⟩]
   rw[e]
   exact ⟨_,_,rfl,λ h=>by cases h⟩
  ·rw[Xc h0,Wa]
   have e:Xh w a=XP w a:=by unfold Xh;rw[Wh λ h=>h0 h.2]
   have he2:(Xh w a).2=0:=by rw[e];exact he
   obtain ⟨i1,i2,_⟩:=Ks hw hv tw ta he2
   rw[e] at i1 i2
   rw[(Ys hw i1 i2).1,Xa,e,he]
   exact ⟨_,_,rfl,λ _=>⟨rfl,rfl⟩⟩
 ·rw[Xm he,We]
  have e:Xh w a=XP w a:=by unfold Xh;rw[Wh λ h=>he h.1]
  rw[e]
  exact ⟨_,_,rfl,λ h=>absurd h he⟩
theorem Vh {l:Ws} (hl:LBp l) (hN:1000000<N) (id:Int):QbM N l id=some (YQ l id):=by
 rw[QbM,YQ]
 by_cases h:id=0
 ·rw[Wn h,h];rfl
 ·rw[Wh h,Xc h,Wa,XeR hl hN,Xa]
theorem XaA (hw:WB k w) (hN:1000000<N) (op:Int) (h3:op=1\/op=2\/op=3) {a b c:Int} (ta:tU a) (tb:tU b) (f:Bool):QbW N ⟨w,a,b,c,f⟩ op=some (Zl w op a b f):=by
 have hm:=hw.marks
 unfold tU at ta tb
 have main:∀ (x2:Bool) (x3:Int),(x2=decide (okW op a b))->(okW op a b->(WE.mk op (wI (if 2147483647<a then 2147483647 else a)) x3)=hdW op a b) ->
  (bnd (QbM N w.Locals 1) λ y4 =>
  bif (decide (((w.Marks.length:Nat):Int)>0)) then some (15:Int)
  else bif (!x2) then some 1
  else bnd (Qgc N w.Conf (WE.mk op (wI (if 2147483647<a then 2147483647 else a)) x3)) λ y5 =>
  bif (!y5) then some 1
  else bif (y4 != 0) then some y4
  else bif f then some 3
  else some 0)=some (Zl w op a b f):=by
  intro x2 x3 hx hh
  subst hx
  rw[Vh hw.loc hN,Xa,Zl]
  by_cases h0:w.Marks.length>0
  ·rw[Wo (show ((w.Marks.length:Nat):Int)>0 by omega),We,Wn h0]
  rw[Wl (show ¬ ((w.Marks.length:Nat):Int)>0 by omega),Wa,Wh h0]
  by_cases h1:okW op a b
  ·rw[Wo h1,Wx,Wa,hh h1,XjY (by omega),Xa,Wh (by simpa using h1)]
   cases hA:V8 w.Conf (hdW op a b)
   ·rfl
   ·rw[Wx,Wa,Wh (by simp)]
    by_cases hL:YQ w.Locals 1=0
    ·rw[Xk hL,Wa,Wh (by simpa using hL)]
     cases f<;>rfl
    ·rw[Xm hL,We,Wn hL]
  ·rw[Wl h1,WS,We,Wn h1]
 have hlen:a<=2147483647->wI (if 2147483647<a then 2147483647 else a)=a:=λ h=>by rw[Wh (by omega),Xe (by omega) (by omega)]
 rw[QbW]
 simp only[XY]
 by_cases h1:op=1
 ·rw[XA h1,We]
  have hx:decide (okW op a b)=(bif decide (a<=2147483647) then decide (b<=4294967295) else false):=by
   unfold okW
   by_cases ha:a<=2147483647
   ·rw[Wo ha,We]
    exact decide_eq_decide.2 ⟨λ h=>h.2 h1,λ h=>⟨ha,λ _=>h⟩⟩
   ·rw[Wl ha,Wa]
    exact Wl λ h=>ha h.1
  have hh:okW op a b->(WE.mk op (wI (if 2147483647<a then 2147483647 else a)) (wW (if 4294967295<b then 4294967295 else b)))=hdW op a b:=λ h=>by
   have hb:=h.2 h1
   rw[hlen h.1,hdW,Wn h1,Wh (show ¬ 4294967295<b by omega),Xjb (by omega) (by omega)]
  by_cases ha:a<=2147483647
  ·rw[Wo ha,We]
   refine main _ _ ?_ hh
   rw[hx,Wo ha,We]
  ·rw[Wl ha,Wa]
   refine main _ _ ?_ hh
   rw[hx,Wl ha,Wa]
 ·rw[Xc h1,Wa]
  refine main _ _ ?_ λ h=>?_
  ·exact decide_eq_decide.2 ⟨λ h=>⟨h,λ e=>absurd e h1⟩,λ h=>h.1⟩
  ·rw[hlen h.1,hdW,Wh h1]
theorem XaB (hw:WB k w) (hN:1000000<N) (hv:XK w=true) (tw:Xv w) (p:Bool) {a b c:Int} {f:Bool} (ta:tU a) (tb:tU b) :
 ∃ x e,Qbw N ⟨w,a,b,c,f⟩ p=some (x,e)/\e=(if (Xh w a).2≠0 then (Xh w a).2 else if b>=(thg w (Xh w a).1).Header.Length then 2 else if Z5 (thg w (Xh w a).1).Header b≠p then 4 else 0) /\
  (e=0->(Xh w a).2=0/\x=thg w (Xh w a).1/\b<(thg w (Xh w a).1).Header.Length):=by
 obtain ⟨id,hd,h1,h2⟩:=Vg (N:=N) (b:=b) (c:=c) (f:=f) hw hN hv tw ta
 rw[Qbw,h1,Xa]
 show ∃ x e,(bif ((Xh w a).2 != 0) then _ else _)=_/\_
 by_cases he:(Xh w a).2=0
 rotate_left
 ·rw[Xm he,We,Wn he]
  exact ⟨_,_,rfl,rfl,λ h=>absurd h he⟩
 obtain ⟨rfl,rfl⟩:=h2 he
 obtain ⟨i1,i2,_⟩:=Ks hw hv tw ta he
 obtain ⟨g1,g2⟩:=Ys hw i1 i2
 obtain ⟨v1,v2,v3,v4⟩:=(Yi hv).thing _ g2
 have vb:=Yf v1
 unfold tU at tb
 rw[Xk he,Wa,Wh (by simpa using he)]
 show ∃ x e,(bif decide (b>=wU (thg w (Xh w a).1).Header.Length) then _ else _)=_/\_
 rw[XT (n:=(thg w (Xh w a).1).Header.Length) (by omega) (by omega)]
 by_cases h3:b>=(thg w (Xh w a).1).Header.Length
 ·rw[Wo h3,We,Wn h3]
  exact ⟨_,_,rfl,rfl,λ h=>by cases h⟩
 rw[Wl h3,Wa,Wh h3]
 show ∃ x e,(bnd (QcT N (thg w (Xh w a).1).Header (wI b)) _)=_/\_
 rw[Xe (n:=b) (by omega) (by omega),XeN (by omega),Xa]
 by_cases h4:Z5 (thg w (Xh w a).1).Header b=p
 ·rw[show (Z5 (thg w (Xh w a).1).Header b==p)=true by simpa using h4,Wx,Wa,Wh (by simpa using h4)]
  show ∃ x e,(bnd (Xb w.Things (wU ((Xh w a).1-1))) _)=_/\_
  rw[g1,Xa]
  exact ⟨_,_,rfl,rfl,λ _=>⟨he,rfl,by omega⟩⟩
 ·rw[show (Z5 (thg w (Xh w a).1).Header b==p)=false by simpa using h4,WS,We,Wn h4]
  exact ⟨_,_,rfl,rfl,λ h=>by cases h⟩
theorem Xb4 (hw:WB k w) (hN:1000000<N) (hv:XK w=true) (tw:Xv w) {t:WC} (ht:TB t) {a b c:Int} {f:Bool} (ta:tU a) :
 Qbf N ⟨w,a,b,c,f⟩ t=some (if (Xh w a).2≠0 then (Xh w a).2 else (YB t (Xh w a).1).2.2.2):=by
 obtain ⟨id,hd,h1,h2⟩:=Vg (N:=N) (b:=b) (c:=c) (f:=f) hw hN hv tw ta
 rw[Qbf,h1,Xa]
 show (bif ((Xh w a).2==0) then _ else _)=_
 by_cases he:(Xh w a).2=0
 ·obtain ⟨rfl,rfl⟩:=h2 he
  rw[XA he,We,Wh (by simpa using he),Xb3 ht hN,Xa]
 ·rw[Xc he,Wa,Wn he]
theorem JY (hw:WB k w) (hN:1000000<N) (tag:Int) {a b c:Int} {f:Bool} (ta:tU a) :
 Qby N ⟨w,a,b,c,f⟩ tag=some (if a=0 then 5 else if (XP w a).2≠0 then (XP w a).2 else if (Zs a).1.Tag≠tag then 4 else 0):=by
 rw[Qby]
 show (bif (a==0) then _ else bnd (Qac N w a) _)=_
 by_cases h0:a=0
 ·rw[XA h0,We,Wn h0]
 rw[Xc h0,Wa,Wh h0,Z0 hw hN ta,Xa]
 by_cases h1:(XP w a).2=0
 rotate_left
 ·rw[Xm h1,We,Wn h1]
 rw[Xk h1,Wa,Wh (by simpa using h1)]
 show (bnd (Qbm N a) _)=_
 rw[XdE hN ta,Xa]
 by_cases h:(Zs a).1.Tag=tag
 ·rw[Xk h,Wa,Wh (by simpa using h)]
 ·rw[Xm h,We,Wn h]
theorem XjZ (hv:XK w=true):w.Marks.length<=64:=by
 unfold XK at hv
 simp only[WG,Uv,Um] at hv
 obtain ⟨_,_,_,_,h,_⟩:=hv
 omega
theorem XlB (hw:WB k w) (hN:1000000<N) (hv:XK w=true) (tw:Xv w) {a b c:Int} {f:Bool} (ta:tU a):Qdd N ⟨w,a,b,c,f⟩=some (JU w 19 a f):=by
 obtain ⟨id,hd,h1,h2⟩:=Vg (N:=N) (b:=b) (c:=c) (f:=f) hw hN hv tw ta
 have hwf:=Yi hv
 have hm:=hw.marks
 rw[Qdd,h1,Xa,JU]
 show (bif ((Xh w a).2 != 0) then _ else _)=_
 by_cases he:(Xh w a).2=0
 rotate_left
 ·rw[Xm he,We,Wn he]
 obtain ⟨rfl,rfl⟩:=h2 he
 rw[Xk he,Wa,Wh (by simpa using he)]
 show (bnd (Qbi N w (Xh w a).1) _)=_
 rw[XbY (by omega) hN,Xa,Wh (show ¬ (19:Int)=20 by omega)]
 by_cases h3:0<=XZ w.Marks (Xh w a).1
 ·obtain ⟨m1,m2,m3⟩:=Kt h3
  have hmem:(w.Marks[(XZ w.Marks (Xh w a).1).toNat]?)=some (Vr w.Marks (XZ w.Marks (Xh w a).1)):=by
   rw[← Xd,IM h3];exact m2
  have hc:=hwf.mk_ hmem
  rw[Xc (show ¬ XZ w.Marks (Xh w a).1 = -1 by omega),Wa,Xm (show ¬ XZ w.Marks (Xh w a).1 = -1 by omega),We]
  show (bnd (Xb w.Marks (XZ w.Marks (Xh w a).1)) _)=_
  rw[m2,Xa,Wh (show ¬ (XZ w.Marks (Xh w a).1<0/\w.Marks.length=64) by omega)]
  by_cases h4:(Vr w.Marks (XZ w.Marks (Xh w a).1)).Count=1000
  ·rw[Wo (by omega),We,Wn ⟨h3,h4⟩]
  ·rw[Wl (by omega),Wa,Wh (λ h=>h4 h.2)]
   show (bif f then _ else _)=_
   cases f<;>rfl
 ·have hm1:XZ w.Marks (Xh w a).1 = -1:=by
   unfold XZ at h3 ⊢
   split at h3
   ·omega
   ·rfl
  rw[XA hm1,We,Wh (λ h=>h3 h.1),Xk hm1,Wa]
  show (bif decide (((w.Marks.length:Nat):Int)>=64) then _ else bif f then _ else _)=_
  have h64:=XjZ hv
  by_cases h4:w.Marks.length=64
  ·rw[Wo (by omega),We,Wn ⟨by omega,h4⟩]
  ·rw[Wl (by omega),Wa,Wh (λ h=>h4 h.2)]
   cases f<;>rfl
theorem XlC (hw:WB k w) (hN:1000000<N) (hv:XK w=true) (tw:Xv w) {a b c:Int} {f:Bool} (ta:tU a):Qd8 N ⟨w,a,b,c,f⟩=some (JU w 20 a f):=by
 obtain ⟨id,hd,h1,h2⟩:=Vg (N:=N) (b:=b) (c:=c) (f:=f) hw hN hv tw ta
 have hm:=hw.marks
 rw[Qd8,h1,Xa,JU]
 show (bif ((Xh w a).2==0) then _ else _)=_
 by_cases he:(Xh w a).2=0
 rotate_left
 ·rw[Xc he,Wa,Wn he]
 obtain ⟨rfl,rfl⟩:=h2 he
 rw[XA he,We,Wh (by simpa using he),Wn rfl]
 show (bnd (Qbi N w (Xh w a).1) _)=_
 rw[XbY (by omega) hN,Xa]
 by_cases h3:0<=XZ w.Marks (Xh w a).1
 ·rw[Xc (by omega),Wa,Wh (by omega)]
  show some (Xh w a).2=_
  rw[he]
 ·have hm1:XZ w.Marks (Xh w a).1 = -1:=by
   unfold XZ at h3 ⊢
   split at h3
   ·omega
   ·rfl
  rw[XA hm1,We,Wn (by omega)]
end
end Go.Sx
namespace Go.Sx
section
variable {N:Nat} {w:Wm} {k:Nat}
theorem XaR (hw:WB k w) (hN:1000000<N) (hv:XK w=true) (tw:Xv w) (op:Int) (p:Bool) (hp:p=Jb op) (h8:op≠8) (h9:op≠9) {a b c:Int} {f:Bool} (ta:tU a) (tb:tU b) :
 ∃ x,Qbw N ⟨w,a,b,c,f⟩ p=some (x,YZ w op a b c):=by
 obtain ⟨x,e,h1,h2,h3⟩:=XaB (N:=N) (c:=c) (f:=f) hw hN hv tw p ta tb
 refine ⟨x,?_⟩
 rw[h1,h2,YZ,← hp,Wh h8,Wh h9]
theorem XlD (hw:WB k w) (hN:1000000<N) (tw:Xv w) (op:Int) {a b c:Int} (ta:tU a) (tb:tU b) (tc:tU c) (f:Bool):Qai N w op a b c f=some (Yz w op a b c f):=by
 rw[Qai,Xad hw hN tw,Xa,Yz]
 cases hv:XK w
 ·rfl
 rw[Wx,Wa,Wh (by simp)]
 by_cases h1:op=1
 ·subst h1
  show Qfx N ⟨w,a,b,c,f⟩=some (Zl w 1 a b f)
  rw[Qfx,XaA hw hN 1 (by omega) ta tb f,Xa]
 by_cases h2:op=2
 ·subst h2
  show Qfy N ⟨w,a,b,c,f⟩=some (Zl w 2 a b f)
  rw[Qfy,XaA hw hN 2 (by omega) ta tb f,Xa]
 by_cases h3:op=3
 ·subst h3
  show Qfz N ⟨w,a,b,c,f⟩=some (Zl w 3 a b f)
  rw[Qfz,XaA hw hN 3 (by omega) ta tb f,Xa]
 by_cases h4:op=4
 ·subst h4
  show QcG N ⟨w,a,b,c,f⟩=some (ZL w 4 a b)
  obtain ⟨id,hd,h1,_⟩:=Vg (N:=N) (b:=b) (c:=c) (f:=f) hw hN hv tw ta
  rw[QcG,h1,Xa];rfl
 by_cases h5:op=5
 ·subst h5
  show QcG N ⟨w,a,b,c,f⟩=some (ZL w 5 a b)
  obtain ⟨id,hd,h1,_⟩:=Vg (N:=N) (b:=b) (c:=c) (f:=f) hw hN hv tw ta
  rw[QcG,h1,Xa];rfl
 by_cases h6:op=6
 ·subst h6
  show QcF N ⟨w,a,b,c,f⟩=some (YZ w 6 a b c)
  obtain ⟨x,h1⟩:=XaR (N:=N) (c:=c) (f:=f) hw hN hv tw 6 false rfl (by omega) (by omega) ta tb
  rw[QcF,h1,Xa]
 by_cases h7:op=7
 ·subst h7
  show QcF N ⟨w,a,b,c,f⟩=some (YZ w 7 a b c)
  obtain ⟨x,h1⟩:=XaR (N:=N) (c:=c) (f:=f) hw hN hv tw 7 false rfl (by omega) (by omega) ta tb
  rw[QcF,h1,Xa]
 by_cases h8:op=8
 ·subst h8
  show Qc9 N ⟨w,a,b,c,f⟩=some (YZ w 8 a b c)
  obtain ⟨x,e,h1,h2,h3⟩:=XaB (N:=N) (c:=c) (f:=f) hw hN hv tw true ta tb
  rw[Qc9,h1,Xa]
  show (bif (e != 0) then some e else bnd (Xb x.Fields b) _)=_
  by_cases he:e=0
  ·obtain ⟨g1,rfl,g3⟩:=h3 he
   obtain ⟨i1,i2,_⟩:=Ks hw hv tw ta g1
   obtain ⟨q1,q2⟩:=Ys hw i1 i2
   obtain ⟨v1,v2,v3,v4⟩:=(Yi hv).thing _ q2
   unfold tU at tb
   rw[he] at h2
   have h4:Z5 (thg w (Xh w a).1).Header b=true:=by
    rw[Wh (by simpa using g1),Wh (by omega)] at h2
    by_cases h5:Z5 (thg w (Xh w a).1).Header b=true
    ·exact h5
    ·rw[Wn h5] at h2;cases h2
   rw[Xk he,Wa,XM (by omega) (by omega),Xa]
   show (bnd (QbM N w.Locals _) _)=_
   rw[Vh hw.loc hN,Xa,YZ,Wh (by simpa using g1),Wh (by omega),Wh (by rw[h4];simp[Jb]),Wn rfl,Wk,Wc (by omega)]
   rfl
  ·rw[Xm he,We,YZ]
   rw[h2] at he ⊢
   congr 1
   split
   ·rfl
   split
   ·rfl
   split
   ·rename_i hh1 hh2 hh3
    rw[show Jb 8=true from rfl,Wn hh3]
   ·rename_i hh1 hh2 hh3
    rw[Wh hh1,Wh hh2,Wh hh3] at he
    exact absurd rfl he
 by_cases h9:op=9
 ·subst h9
  show QfA N ⟨w,a,b,c,f⟩=some (YZ w 9 a b c)
  obtain ⟨x,e,h1,h2,h3⟩:=XaB (N:=N) (c:=c) (f:=f) hw hN hv tw true ta tb
  rw[QfA,h1,Xa]
  show (bif (e==0) then bnd (Qac N w c) _ else some e)=_
  by_cases he:e=0
  ·obtain ⟨g1,rfl,g3⟩:=h3 he
   rw[he] at h2
   have h4:Z5 (thg w (Xh w a).1).Header b=true:=by
    rw[Wh (by simpa using g1),Wh (by omega)] at h2
    by_cases h5:Z5 (thg w (Xh w a).1).Header b=true
    ·exact h5
    ·rw[Wn h5] at h2;cases h2
   rw[XA he,We,Z0 hw hN tc,Xa,YZ,Wh (by simpa using g1),Wh (by omega),Wh (by rw[h4];simp[Jb]),Wh (by omega),Wn rfl]
  ·rw[Xc he,Wa,YZ]
   rw[h2] at he ⊢
   congr 1
   split
   ·rfl
   split
   ·rfl
   split
   ·rename_i hh1 hh2 hh3
    rw[show Jb 9=true from rfl,Wn hh3]
   ·rename_i hh1 hh2 hh3
    rw[Wh hh1,Wh hh2,Wh hh3] at he
    exact absurd rfl he
 by_cases h10:op=10
 ·subst h10
  show QfB N ⟨w,a,b,c,f⟩=some (ZL w 10 a b)
  rw[QfB,ZL,Wh (by omega)]
  show (bnd (Qac N w a) λ y1=>bif (y1.2==0) then (bnd (Qac N w b) λ y2=>some y2.2) else some y1.2)=_
  rw[Z0 hw hN ta,Xa,Z0 hw hN tb,Xa]
  by_cases h1:(XP w a).2=0
  ·rw[XA h1,We,Wh (by simpa using h1),Wn rfl]
  ·rw[Xc h1,Wa,Wn h1]
 by_cases h11:op=11
 ·subst h11
  show QfC N ⟨w,a,b,c,f⟩=some (ZL w 11 a b)
  rw[QfC,ZL,Wh (by omega)]
  show (bnd (Qac N w a) λ y1=>bif (y1.2==0) then (bnd (QbM N w.Locals y1.1) λ y2=>some y2) else some y1.2)=_
  rw[Z0 hw hN ta,Xa,Vh hw.loc hN,Xa]
  by_cases h1:(XP w a).2=0
  ·rw[XA h1,We,Wh (by simpa using h1),Wh (by omega)]
  ·rw[Xc h1,Wa,Wn h1]
 by_cases h13:op=13
 ·subst h13
  show QfD N ⟨w,a,b,c,f⟩=some (JT w 13 a)
  rw[QfD]
  show (bnd (Qbf N ⟨w,a,b,c,f⟩ w.Globals) _)=_
  rw[Xb4 hw hN hv tw hw.glo ta,Xa,JT];rfl
 by_cases h15:op=15
 ·subst h15
  show Qe4 N ⟨w,a,b,c,f⟩=some (JT w 15 a)
  rw[Qe4]
  show (bnd (Qbf N ⟨w,a,b,c,f⟩ w.Weaks) _)=_
  rw[Xb4 hw hN hv tw hw.wea ta,Xa,JT];rfl
 by_cases h12:op=12
 ·subst h12
  show Qe5 N ⟨w,a,b,c,f⟩=some (Zz w 12 a)
  rw[Qe5,JY hw hN 1 ta,Xa,Zz];rfl
 by_cases h14:op=14
 ·subst h14
  show Qe6 N ⟨w,a,b,c,f⟩=some (Zz w 14 a)
  rw[Qe6,JY hw hN 2 ta,Xa,Zz];rfl
 by_cases h16:op=16
 ·subst h16
  show Qe7 N ⟨w,a,b,c,f⟩=some (Zz w 16 a)
  rw[Qe7,JY hw hN 3 ta,Xa,Zz];rfl
 by_cases h17:op=17
 ·subst h17
  show Qeu N ⟨w,a,b,c,f⟩=some (Kf w 17 a)
  rw[Qeu,Kf,Wn rfl]
  show (bif decide (a>64) then _ else bnd (Qfr N w.Locals (wI a)) _)=_
  by_cases h1:a>64
  ·rw[Wo h1,We,Wn h1]
  ·unfold tU at ta
   rw[Wl h1,Wa,Wh h1,Xe (n:=a) (by omega) (by omega),Xc0 hw.loc hN,Xa]
 by_cases h18:op=18
 ·subst h18
  show QeJ N ⟨w,a,b,c,f⟩=some (Kf w 18 a)
  rw[QeJ,Kf,Wh (by omega)]
  show (bnd (Qac N w a) λ y1=>bif (y1.2 != 0) then some y1.2 else bnd (Qf2 N w.Locals) λ y2=>bif (y2.2 != 0) then some y2.2 else bnd (QbM N y2.1 y1.1) λ y3=>some y3)=_
  rw[Z0 hw hN ta,Xa]
  by_cases h1:(XP w a).2=0
  rotate_left
  ·rw[Xm h1,We,Wn h1]
  rw[Xk h1,Wa,Wh (by simpa using h1),XeS hw.loc hN,Xa]
  by_cases h2:(ZC w.Locals).2=0
  rotate_left
  ·rw[Xm h2,We,Wn h2]
  rw[Xk h2,Wa,Wh (by simpa using h2),Vh (V4 hw.loc) hN,Xa]
 by_cases h19:op=19
 ·subst h19
  show Qdd N ⟨w,a,b,c,f⟩=some (JU w 19 a f)
  exact XlB hw hN hv tw ta
 by_cases h20:op=20
 ·subst h20
  show Qd8 N ⟨w,a,b,c,f⟩=some (JU w 20 a f)
  exact XlC hw hN hv tw ta
 rw[Xc h1,Wa,Xc h2,Wa,Xc h3,Wa,Xc h4,Wa,Xc h5,Wa,Xc h6,Wa,Xc h7,Wa,Xc h8,Wa,Xc h9,Wa,Xc h10,Wa,Xc h11,Wa,Xc h13,Wa,Xc h15,Wa,Xc h12,Wa,Xc h14,Wa,Xc h16,Wa,Xc h17,Wa,Xc h18,Wa,Xc h19,Wa,Xc h20,Wa]
 rw[Wh (by omega),Wh (by omega),Wh (by omega),Wh (by omega),Wh (by omega),Wh (by omega),Wh (by omega)]
end
end Go.Sx
namespace Go.Sx
abbrev W0:Wm:=Wm.mk (Ut.mk 0 0) [] (Ws.mk [] [] []) (WC.mk []) (WC.mk []) [] []
theorem XfP {x y:Int} {k:Nat} (hk:k<=63) (h0:0<=x) (h1:x<2 ^ k) (h2:0<=y) (h3:x+y*2 ^ k<=18446744073709551615):bOr .u64 x (y*2 ^ k)=x+y*2 ^ k:=by
 obtain ⟨m,rfl⟩:=UU h0
 obtain ⟨n,rfl⟩:=UU h2
 have e0:((2:Int) ^ k)=((2 ^ k:Nat):Int):=by simp
 rw[e0] at h1 h3 ⊢
 rw[← OB] at h3 ⊢
 have hm:m<2 ^ k:=by omega
 have hb:IntKind.u64.bits=64:=rfl
 show IntKind.u64.wrap ((BitVec.ofInt IntKind.u64.bits m ||| BitVec.ofInt IntKind.u64.bits ((n*2 ^ k:Nat):Int)).toNat:Int)=_
 rw[hb]
 have e1:BitVec.ofInt 64 (m:Int)=BitVec.ofNat 64 m:=by simp
 have e2:BitVec.ofInt 64 ((n*2 ^ k:Nat):Int)=BitVec.ofNat 64 (n*2 ^ k):=by rw[BitVec.ofInt_natCast]
 rw[e1,e2,BitVec.toNat_or,IQ,IQ,Ot (by omega),Ot (by omega)]
 have e3:m ||| n*2 ^ k=m+n*2 ^ k:=by
  have:=Nat.two_pow_add_eq_or_of_lt hm n
  rw[OF,Nat.or_comm,← this,Nat.add_comm,OF]
 rw[e3]
 show wU _=_
 rw[XT (by omega) (by omega)]
 omega
theorem Xb5 (a:Int) (k:Nat) (hk:k<=64):Ka .u64 a k=wU (a*2 ^ k):=by
 have e1:IntKind.bits .u64=64:=rfl
 show IntKind.wrap .u64 (a*2 ^ min (k:Int).toNat (IntKind.bits .u64))=_
 rw[e1,WD,OC hk];rfl
theorem XeT {a:Int} {k:Nat} (hk:k<=63) (h0:0<=a) (h1:a<2 ^ k):XaV .u64 a (2 ^ k-1)=0:=by
 obtain ⟨n,rfl⟩:=UU h0
 have hb:IntKind.u64.bits=64:=rfl
 have hp:2 ^ k<=2 ^ 63:=IW (by omega) hk
 have hk2:(2:Int) ^ k-1=((2 ^ k-1:Nat):Int):=by
  have h1:=Nat.one_le_two_pow (n:=k)
  have h2:(2:Int) ^ k=((2 ^ k:Nat):Int):=by simp
  rw[h2];omega
 have hn:n<2 ^ k:=by
  have h2:(2:Int) ^ k=((2 ^ k:Nat):Int):=by simp
  rw[h2] at h1;omega
 show IntKind.u64.wrap ((BitVec.ofInt IntKind.u64.bits n &&& ~~~ BitVec.ofInt IntKind.u64.bits (2 ^ k-1)).toNat:Int)=_
 rw[hb,hk2]
 have e1:BitVec.ofInt 64 (n:Int)=BitVec.ofNat 64 n:=by simp
 have e2:BitVec.ofInt 64 ((2 ^ k-1:Nat):Int)=BitVec.ofNat 64 (2 ^ k-1):=by rw[BitVec.ofInt_natCast]
 rw[e1,e2]
 have e3:BitVec.ofNat 64 n &&& ~~~ BitVec.ofNat 64 (2 ^ k-1)=0#64:=by
  apply BitVec.eq_of_getLsbD_eq
  intro i hi
  rw[BitVec.getLsbD_and,BitVec.getLsbD_not,BitVec.getLsbD_ofNat,BitVec.getLsbD_ofNat,BitVec.getLsbD_zero]
  by_cases h:i<k
  ·rw[Nat.testBit_two_pow_sub_one];simp[h,hi]
  ·rw[Nat.testBit_lt_two_pow (I9 hn (IW (by omega) (by omega)))];simp
 rw[e3];rfl
section
variable {N:Nat} {w:Wm} {k:Nat} {a b c:Int}
theorem XdJ (hN:1000000<N) {v:Int} {m:Nat} (hm:m<=63) (h0:0<=v) (h1:v<2 ^ m):Qfe N v m=some true:=by
 rw[Qfe,Kg (by omega) (by omega) (by omega),Xa,WD,XeT hm h0 h1];rfl
theorem XeU (hN:1000000<N) {t i s:Int} (t1:1<=t) (t2:t<=3) (i1:0<=i) (i2:i<=65535) (s1:1<=s) (s2:s<=4294967295):Qas N ⟨t,i,s⟩=some (t+i*4+s*262144,0)/\QaP N ⟨t,i,s⟩=some (t+i*4+s*262144,0):=by
 have g2:∀ x:Int,Ka .u64 x 2=wU (x*4):=λ x=>Xb5 x 2 (by omega)
 have g18:∀ x:Int,Ka .u64 x 18=wU (x*262144):=λ x=>Xb5 x 18 (by omega)
 have g0:∀ x:Int,Ka .u64 x 0=wU (x*1):=λ x=>Xb5 x 0 (by omega)
 have et:=XT (n:=t) (by omega) (by omega)
 have ei:=XT (n:=i) (by omega) (by omega)
 have es:=XT (n:=s) (by omega) (by omega)
 have ei4:=XT (n:=i*4) (by omega) (by omega)
 have es4:=XT (n:=s*262144) (by omega) (by omega)
 constructor
 ·have o16:Qbv N 16=some 65535:=Kg (a:=16) (by omega) (by omega) (by omega)
  have o32:Qbv N 32=some 4294967295:=Kg (a:=32) (by omega) (by omega) (by omega)
  have hv:Qet N ⟨t,i,s⟩=some true:=by
   rw[Qet,o16,o32]
   simp only[Xa,ei,es]
   rw[Wl (by omega),Wl (by omega),Wl (by omega),Wl (by omega),Wo i2,Wo s2];rfl
  obtain ⟨n,rfl⟩:∃ n,N=n+4:=⟨N-4,by omega⟩
  have h1:Qf3 (n+4) [IB.mk 2 t,IB.mk 16 i,IB.mk 32 s] (n+4) 64 0=some (.nxt ()):=by kernel_rfl
  have f1:Qfe (n+4) t 2=some true:=XdJ (m:=2) hN (by omega) (by omega) (by omega)
  have f2:Qfe (n+4) i 16=some true:=XdJ (m:=16) hN (by omega) (by omega) (by omega)
  have f3:Qfe (n+4) s 32=some true:=XdJ (m:=32) hN (by omega) (by omega) (by omega)
  have b1:bOr .u64 0 (wU (t*1))=t:=by
   rw[Int.mul_one,et]
   have:=XfP (x:=0) (y:=t) (k:=0) (by omega) (by omega) (by omega) (by omega) (by omega)
   simpa using this
  have b2:bOr .u64 t (i*4)=t+i*4:=XfP (k:=2) (by omega) (by omega) (by omega) (by omega) (by omega)
  have b3:bOr .u64 (t+i*4) (s*262144)=t+i*4+s*262144:=XfP (k:=18) (by omega) (by omega) (by omega) (by omega) (by omega)
  have h2:Qcx (n+4) [IB.mk 2 t,IB.mk 16 i,IB.mk 32 s] (n+4) 0 0 0=some (.nxt (t+i*4+s*262144)):=by
   have l0:Xb [IB.mk 2 t,IB.mk 16 i,IB.mk 32 s] 0=some (IB.mk 2 t):=Xd _ 0
   have l1:Xb [IB.mk 2 t,IB.mk 16 i,IB.mk 32 s] 1=some (IB.mk 16 i):=Xd _ 1
   have l2:Xb [IB.mk 2 t,IB.mk 16 i,IB.mk 32 s] 2=some (IB.mk 32 s):=Xd _ 2
   rw[Qcx,Wo (by simp),We,l0,Xa,f1,Xa,Wx,Wa,Xi (by omega),g0,b1,show wI (0+2)=2 from rfl,show wI (0+1)=1 from rfl]
   rw[Qcx,Wo (by simp),We,l1,Xa,f2,Xa,Wx,Wa,Xi (by omega),g2,ei4,b2,show wI (2+16)=18 from rfl,show wI (1+1)=2 from rfl]
   rw[Qcx,Wo (by simp),We,l2,Xa,f3,Xa,Wx,Wa,Xi (by omega),g18,es4,b3,show wI (18+32)=50 from rfl,show wI (2+1)=3 from rfl]
   rw[Qcx,Wl (by simp),Wa]
  rw[Qas,hv,Xa,Wx,Wa]
  simp only[et,ei,es]
  rw[Qht,h1,Xa,XN,h2,Xa,XN,Xa]
 ·rw[QaP,QfF]
  simp only[et,ei,es,g2,g18,ei4,es4]
  rw[Wo (show t>=1 by omega),Wo t2,Wo (show i>=0 by omega),Wo i2,Wo (show s>=1 by omega),Wo s2]
  simp only[We,Xa,Wx,Wa]
  rw[XT (n:=t+i*4) (by omega) (by omega),XT (by omega) (by omega)]
theorem XhQ {l:Ws} {id:Int} (h:(Zj l id).2.2.2=0):YY l=true/\0<=(Zj l id).2.1/\(Zj l id).2.1<=65535/\1<=(Zj l id).2.2.1/\(Zj l id).2.2.1<=4294967295:=by
 unfold Zj at h ⊢
 cases hv:YY l
 ·rw[hv,Wn rfl] at h;cases h
 have hf:=Zw.1 hv
 have h1:=hf.slots
 have h2:=hf.iss
 rw[hv,Wh (by simp)] at h
 rw[Wh (by simp)]
 split at h
 ·cases h
 rename_i g1
 rw[Wh g1]
 split at h
 ·cases h
 rename_i g2
 rw[Wh g2]
 split at h
 ·cases h
 rename_i g3
 rw[Wh g3]
 split at h
 ·cases h
 rename_i g4
 rw[Wh g4]
 refine ⟨rfl,?_,?_,?_,?_⟩<;>simp only<;>omega
theorem Jw {w:Wm} {id:Int} (hl:LBp w.Locals) (hN:1000000<N) (h:YQ w.Locals id=0):∃ (l:Ws) (v:Int),Qbc N w id=some (⟨w.Conf,w.Things,l,w.Globals,w.Weaks,w.Marks,w.Roots⟩,v) /\
 ∀ {β:Type} (J:Int->Int->List UR->List UV->List Int->Option β),(jn J λ j=>bif (id==0) then j 0 0 w.Locals.Slots w.Locals.Scopes w.Locals.Issued else bnd (Qbx N w.Locals id) λ y=>bif (y.2.2.2 != 0) then j 0 y.2.2.2 w.Locals.Slots w.Locals.Scopes w.Locals.Issued else bnd (Qas N (UI.mk 1 y.2.1 y.2.2.1)) λ e=>j e.1 e.2 y.1.Slots y.1.Scopes y.1.Issued)=J v 0 l.Slots l.Scopes l.Issued:=by
 by_cases h0:id=0
 ·subst h0
  exact ⟨w.Locals,0,rfl,λ J=>by rw[XY];rfl⟩
 ·rw[YQ,Wh h0] at h
  have hk:=XhQ h
  obtain ⟨e1,e2⟩:=XeU hN (t:=1) (by omega) (by omega) hk.2.1 hk.2.2.1 hk.2.2.2.1 hk.2.2.2.2
  refine ⟨(Zj w.Locals id).1,1+(Zj w.Locals id).2.1*4+(Zj w.Locals id).2.2.1*262144,?_,λ J=>?_⟩
  ·rw[Qbc,Xc h0,Wa,V2 hl hN,Xa,e2,Xa]
  ·rw[XY,Xc h0,Wa,XeR hl hN,Xa,Xk h,Wa,e1,Xa]
theorem XhR {t:WC} {id:Int} (h:(YB t id).2.2.2=0):0<=(YB t id).2.1/\(YB t id).2.1<=65535/\1<=(YB t id).2.2.1/\(YB t id).2.2.1<=4294967295:=by
 unfold YB at h ⊢
 cases hv:YO t.Entries
 ·rw[hv,Wn rfl] at h;cases h
 have h64:=K5 hv
 rw[hv,Wh (by simp)] at h
 rw[Wh (by simp)]
 cases hf:XaO t.Entries with
 | some k =>
  obtain ⟨hk,hp,_⟩:=UW.1 hf
  have hg:=VZ hv (W6 hk)
  have hG:t.Entries[k].Gen<4294967295:=by
   have:(!t.Entries[k].Live&&decide (t.Entries[k].Gen<4294967295))=true:=by simpa using hp
   rw[WG] at this
   exact Wu this.2
  have gd:t.Entries.getD k ⟨0,0,false⟩=t.Entries[k]:=by rw[Wk,Wc hk];rfl
  simp only[gd]
  omega
 | none =>
  rw[hf] at h
  simp only at h ⊢
  split at h
  ·cases h
  ·rename_i g
   rw[Wh g]
   simp only
   omega
theorem Xb6 {t:WC} {id:Int} (hl:TB t) (hN:1000000<N) (h:(YB t id).2.2.2=0) (g:Int) (g1:1<=g) (g2:g<=3):∃ v,QaP N (UI.mk g (YB t id).2.1 (YB t id).2.2.1)=some (v,0)/\Qas N (UI.mk g (YB t id).2.1 (YB t id).2.2.1)=some (v,0) /\
 ∀ {β:Type} (J:Int->Int->List WP->Option β),(jn J λ j=>bnd (Qfd N t id) λ y=>bif (y.2.2.2 != 0) then j 0 y.2.2.2 t.Entries else bnd (Qas N (UI.mk g y.2.1 y.2.2.1)) λ e=>j e.1 e.2 y.1.Entries)=J v 0 (YB t id).1.Entries:=by
 have hk:=XhR h
 obtain ⟨e1,e2⟩:=XeU hN g1 g2 hk.1 hk.2.1 hk.2.2.1 hk.2.2.2
 exact ⟨_,e2,e1,λ J=>by rw[XY,Xb3 hl hN,Xa,Xk h,Wa,e1,Xa]⟩
theorem Xj0 {l:Ws} (hl:LBp l) (hN:1000000<N) (i g:Int):Qdb N l i g=some (VC l i g):=by
 rw[Qdb,XeM hl hN,Xa,VC]
 by_cases h:(Y9 l i g).2=0
 ·obtain ⟨_,h0,p,hp,hg,_,_⟩:=Xaq h
  have hlt:=Xo hp
  rw[h,show ((0:Int) != 0)=false from rfl,Wa,Wh (by simp),Vf,Xa,XM h0 (by omega),Xa,XM h0 (by rw[Wv];omega),Xa]
  rw[Wc hlt] at hp
  simp only[IR,Ov,Ww hp,hg]
 ·rw[show ((Y9 l i g).2 != 0)=true by simpa using h,We,Wn h];rfl
theorem XeV {t:WC} (hl:TB t) (hN:1000000<N) (i g:Int):Qbn N t i g=some (KR t i g):=by
 have hc:∃ x,QeV N t i g=some x/\x=(YI t.Entries i g).2:=by
  refine ⟨_,?_,rfl⟩
  have:=XbU hl hN i g
  rw[Qf1] at this
  cases e:QeV N t i g with
  | none=>rw[e,Xbs] at this;cases this
  | some x =>
   rw[e,Xa] at this
   by_cases hx:x=0
   ·subst hx
    rw[show ((0:Int) != 0)=false from rfl,Wa] at this
    cases e2:Xb t.Entries i with
    | none=>rw[e2,Xbs] at this;cases this
    | some p=>rw[e2,Xa] at this;rw[← Ww this]
   ·rw[Xm hx,We] at this
    rw[← Ww this]
 obtain ⟨x,e,rfl⟩:=hc
 rw[Qbn,e,Xa,KR]
 by_cases h:(YI t.Entries i g).2=0
 ·obtain ⟨_,h0,p,hp,hg,_,_⟩:=Xar h
  have hlt:=Xo hp
  rw[h,show ((0:Int) != 0)=false from rfl,Wa,Wh (by simp),VF,Xa,XM h0 (by omega),Xa,XM h0 (by rw[Wv];omega),Xa]
  rw[Wc hlt] at hp
  simp only[IR,Ov,Ww hp,hg]
 ·rw[show ((YI t.Entries i g).2 != 0)=true by simpa using h,We,Wn h];rfl
end
end Go.Sx
namespace Go.Sx
structure CC (N k:Nat) (w:Wm) (a b c:Int):Prop where
 hN:1000000<N
 hB:NB N
 hw:WB k w
 tw:Xv w
 ta:tU a
 tb:tU b
 tc:tU c
section
variable {N:Nat} {w:Wm} {k:Nat} {a b c:Int} {ft:UH}
theorem XB {op a b c:Int} {f:Bool} (h:Yz w op a b c f=0):XK w=true:=by
 cases hv:XK w
 ·unfold Yz at h;rw[hv,Wn rfl] at h;cases h
 ·rfl
theorem CC.gv (h:CC N k w a b c) (op:Int) (f:Bool):Qai N w op a b c f=some (Yz w op a b c f):=XlD h.hw h.hN h.tw op h.ta h.tb h.tc f
theorem CC.rv (h:CC N k w a b c) (op:Int) (f:Bool):Qex N w op a b c f=some (Yz w op a b c f):=XjI h.hw h.hN h.tw op h.ta h.tb h.tc f
theorem CC.gr (h:CC N k w a b c) (hv:XK w=true):Qaf N w a=some (XP w a):=by rw[XdF h.hw h.hN h.tw h.ta,XjQ,Wn hv]
theorem CC.rr (h:CC N k w a b c) (hv:XK w=true):Qay N w a=some (XP w a):=ZT h.hw h.hN hv h.ta
theorem CC.r0 (h:CC N k w a b c) (hv:XK w=true):0<=(XP w a).1/\(XP w a).1<=w.Things.length:=⟨(XgF h.hw hv h.tw h.ta).1,XgE (Yi hv) a⟩
theorem CC.cp (h:CC N k w a b c):Qaq N w=some w:=XgR h.hw h.hN
theorem YG (hw:WB k w) {id:Int} (h:0<=id/\id<=w.Things.length) {β:Type} (X:Unit->Option β):(jn X λ j=>bif (id != 0) then (bnd (Xb w.Things (wU (id-1))) λ _=>j ()) else j ())=X ():=by
 rw[XY]
 by_cases h0:id=0
 ·rw[Xk h0,Wa]
 ·rw[Xm h0,We,(Ys hw (by omega) h.2).1,Xa]
theorem CC.th (h:CC N k w a b c) (hv:XK w=true) (ht:(Xh w a).2=0):1<=(XP w a).1/\(XP w a).1<=w.Things.length/\Xh w a=XP w a:=by
 obtain ⟨t1,t2,t3⟩:=Ks h.hw hv h.tw h.ta ht
 rw[t3] at t1 t2
 exact ⟨t1,t2,t3⟩
theorem CC.pl (h:CC N k w a b c) {op:Int} {f:Bool} (ho:op=4\/op=5\/op=10\/op=11) (hz:Yz w op a b c f=0):ZL w op a b=0:=by
 rw[Yz,XB hz,Wh (by simp),Wh (by omega),Wh (by omega),Wh (by omega),Wh (by omega),Wh (by omega),Wh (by omega),Wn ho] at hz
 exact hz
theorem CC.len (h:CC N k w a b c) {op:Int} {f:Bool} (ho:op=4\/op=5) (hz:Yz w op a b c f=0):1<=(XP w a).1/\(XP w a).1<=w.Things.length:=by
 have h1:=h.pl (by omega) hz
 unfold ZL at h1
 rw[Wn ho] at h1
 have:=h.th (XB hz) h1
 exact ⟨this.1,this.2.1⟩
theorem CC.fld (h:CC N k w a b c) {op:Int} {f:Bool} (ho:op=6\/op=7\/op=8\/op=9) (hz:Yz w op a b c f=0):(1<=(XP w a).1/\(XP w a).1<=w.Things.length)/\(0<=b/\b<(thg w (XP w a).1).Fields.length)/\wI b=b/\(op=8->YQ w.Locals ((thg w (XP w a).1).Fields.getD b.toNat 0)=0)/\(op=9->(XP w c).2=0):=by
 have hv:=XB hz
 have wf:=Yi hv
 rw[Yz,hv,Wh (by simp),Wh (by omega),Wn ho] at hz
 unfold YZ at hz
 by_cases h1:(Xh w a).2=0
 rotate_left
 ·rw[Wn h1] at hz;exact absurd hz h1
 rw[Wh (by simpa using h1)] at hz
 obtain ⟨t1,t2,t3⟩:=h.th hv h1
 rw[t3] at hz
 obtain ⟨g1,g2⟩:=Ys h.hw t1 t2
 obtain ⟨v1,v2,v3,v4⟩:=wf.thing _ g2
 have vb:=Yf v1
 by_cases h2:b>=(thg w (XP w a).1).Header.Length
 ·rw[Wn h2] at hz;cases hz
 rw[Wh h2] at hz
 split at hz
 ·cases hz
 have:=h.tb.1
 refine ⟨⟨t1,t2⟩,⟨this,by omega⟩,Xe (by omega) (by omega),λ h8=>?_,λ h9=>?_⟩
 ·rw[Wn h8] at hz;exact hz
 ·rw[Wh (by omega),Wn h9] at hz;exact hz
theorem q4 (h:CC N k w a b c):Qed N w a b c ft=Qaa N w 4 a b c ft:=by
 rw[Qed,Qaa,h.gv,h.rv,Xa,Xa]
 by_cases hz:Yz w 4 a b c ft.Failed=0
 rotate_left
 ·rw[Xm hz,We,We]
 have hv:=XB hz
 have g:=h.len (.inl rfl) hz
 rw[Xk hz,Wa,Wa,h.gr hv,Xa,h.cp,Xa,Xm (by omega),We]
 simp only[XY,gt_iff_lt,Int.reduceLT,decide_true,decide_false,We,Wa,Int.reduceBEq,Int.reduceBNe]
 rw[h.rr hv,Xa]
theorem q5 (h:CC N k w a b c):Qee N w a b c ft=Qaa N w 5 a b c ft:=by
 rw[Qee,Qaa,h.gv,h.rv,Xa,Xa]
 by_cases hz:Yz w 5 a b c ft.Failed=0
 rotate_left
 ·rw[Xm hz,We,We]
 have hv:=XB hz
 have g:=h.len (.inr rfl) hz
 rw[Xk hz,Wa,Wa,h.gr hv,Xa,h.cp,Xa,Xm (by omega),We]
 simp only[XY,gt_iff_lt,Int.reduceLT,decide_true,decide_false,We,Wa,Int.reduceBEq,Int.reduceBNe]
 rw[h.rr hv,Xa]
theorem q6 (h:CC N k w a b c):Qef N w a b c ft=Qaa N w 6 a b c ft:=by
 rw[Qef,Qaa,h.gv,h.rv,Xa,Xa]
 by_cases hz:Yz w 6 a b c ft.Failed=0
 rotate_left
 ·rw[Xm hz,We,We]
 have hv:=XB hz
 have g:=(h.fld (.inl rfl) hz).1
 rw[Xk hz,Wa,Wa,h.gr hv,Xa,h.cp,Xa,Xm (by omega),We]
 simp only[XY,gt_iff_lt,Int.reduceLT,decide_true,decide_false,We,Wa,Int.reduceBEq,Int.reduceBNe]
 rw[h.rr hv,Xa]
theorem Xj1 (hw:WB k w) {id v:Int} (h1:1<=id) (h2:id<=w.Things.length) (i0:0<=b/\b<(thg w id).Fields.length) (hb:wI b=b):QdS N w id (wI b) v=some (Wm.mk w.Conf (w.Things.set (wU (id-1)).toNat (W5.mk (thg w id).Header ((thg w id).Fields.set b.toNat v))) w.Locals w.Globals w.Weaks w.Marks w.Roots):=by
 have hk:=hw.kk
 have ht:=hw.things
 obtain ⟨g1,g2⟩:=Ys hw h1 h2
 have hf:=hw.fields _ g2
 rw[QdS,Xi (by omega),g1,Xa,Xi (by omega),hb,XM i0.1 i0.2,Xa,Xa]
theorem q7 (h:CC N k w a b c):Qeg N w a b c ft=Qaa N w 7 a b c ft:=by
 rw[Qeg,Qaa,h.gv,h.rv,Xa,Xa]
 by_cases hz:Yz w 7 a b c ft.Failed=0
 rotate_left
 ·rw[Xm hz,We,We]
 have hv:=XB hz
 obtain ⟨g,gb,gi,_⟩:=h.fld (.inr (.inl rfl)) hz
 rw[Xk hz,Wa,Wa,h.gr hv,Xa,Xm (by omega),We]
 simp only[XY,gt_iff_lt,Int.reduceLT,decide_true,decide_false,We,Wa,Int.reduceBEq,Int.reduceBNe]
 rw[h.rr hv,Xa,Xj1 h.hw g.1 g.2 gb gi,Xa,(Ys h.hw g.1 g.2).1,Xa,XM gb.1 gb.2,Xa]
theorem q9 (h:CC N k w a b c):Qei N w a b c ft=Qaa N w 9 a b c ft:=by
 rw[Qei,Qaa,h.gv,h.rv,Xa,Xa]
 by_cases hz:Yz w 9 a b c ft.Failed=0
 rotate_left
 ·rw[Xm hz,We,We]
 have hv:=XB hz
 obtain ⟨g,gb,gi,_,g9⟩:=h.fld (.inr (.inr (.inr rfl))) hz
 have gc:Qaf N w c=some (XP w c):=by rw[XdF h.hw h.hN h.tw h.tc,XjQ,Wn hv]
 rw[Xk hz,Wa,Wa,h.gr hv,Xa,Xm (by omega),We]
 simp only[XY,gt_iff_lt,Int.reduceLT,decide_true,decide_false,We,Wa,Int.reduceBEq,Int.reduceBNe]
 rw[h.rr hv,Xa,ZT h.hw h.hN hv h.tc,Xa,Xj1 h.hw g.1 g.2 gb gi,Xa,(Ys h.hw g.1 g.2).1,Xa,XM gb.1 gb.2,Xa,gc,Xa,Xk (g9 rfl),Wa]
theorem q8 (h:CC N k w a b c):Qeh N w a b c ft=Qaa N w 8 a b c ft:=by
 rw[Qeh,Qaa,h.gv,h.rv,Xa,Xa]
 by_cases hz:Yz w 8 a b c ft.Failed=0
 rotate_left
 ·rw[Xm hz,We,We]
 have hv:=XB hz
 obtain ⟨g,gb,gi,g8,_⟩:=h.fld (.inr (.inr (.inl rfl))) hz
 have g8:=g8 rfl
 have ge:Xb (thg w (XP w a).1).Fields b=some ((thg w (XP w a).1).Fields.getD b.toNat 0):=by
  rw[XM gb.1 gb.2,Wk,Wc (by omega)];rfl
 obtain ⟨l,v,e1,e2⟩:=Jw (N:=N) h.hw.loc h.hN g8
 rw[Xk hz,Wa,Wa,h.gr hv,Xa,h.cp,Xa,Xm (by omega),We,(Ys h.hw g.1 g.2).1,Xa,ge,Xa,e2]
 simp only[XY,gt_iff_lt,Int.reduceLT,decide_true,decide_false,We,Wa,Int.reduceBEq,Int.reduceBNe]
 rw[h.rr hv,Xa,(Ys h.hw g.1 g.2).1,Xa,ge,Xa,e1,Xa]
theorem q10 (h:CC N k w a b c):Qde N w a b c ft=Qaa N w 10 a b c ft:=by
 rw[Qde,Qaa,h.gv,h.rv,Xa,Xa]
 by_cases hz:Yz w 10 a b c ft.Failed=0
 rotate_left
 ·rw[Xm hz,We,We]
 have hv:=XB hz
 have gb:Qaf N w b=some (XP w b):=by rw[XdF h.hw h.hN h.tw h.tb,XjQ,Wn hv]
 rw[Xk hz,Wa,Wa,h.gr hv,Xa,h.cp,Xa,YG h.hw (h.r0 hv)]
 simp only[XY,gt_iff_lt,Int.reduceLT,decide_true,decide_false,We,Wa,Int.reduceBEq,Int.reduceBNe]
 rw[gb,Xa,h.rr hv,Xa,ZT h.hw h.hN hv h.tb,Xa]
 by_cases e:(XP w a).1=(XP w b).1
 ·rw[XA e,XA e.symm]
 ·rw[Xc e,Xc (λ h=>e h.symm)]
theorem q11 (h:CC N k w a b c):Qdf N w a b c ft=Qaa N w 11 a b c ft:=by
 rw[Qdf,Qaa,h.gv,h.rv,Xa,Xa]
 by_cases hz:Yz w 11 a b c ft.Failed=0
 rotate_left
 ·rw[Xm hz,We,We]
 have hv:=XB hz
 have g8:YQ w.Locals (XP w a).1=0:=by
  have:=h.pl (by omega) hz
  unfold ZL at this
  rw[Wh (by omega)] at this
  split at this
  ·rename_i x;exact absurd this x
  ·exact this
 obtain ⟨l,v,e1,e2⟩:=Jw (N:=N) h.hw.loc h.hN g8
 rw[Xk hz,Wa,Wa,h.gr hv,Xa,h.cp,Xa,YG h.hw (h.r0 hv),e2]
 simp only[XY,gt_iff_lt,Int.reduceLT,decide_true,decide_false,We,Wa,Int.reduceBEq,Int.reduceBNe]
 rw[h.rr hv,Xa,e1,Xa]
theorem CC.las (h:CC N k w a b c) {op:Int} {f:Bool} (ho:op=13\/op=15) (hz:Yz w op a b c f=0):(YB (if op=15 then w.Weaks else w.Globals) (XP w a).1).2.2.2=0:=by
 have hv:=XB hz
 rw[Yz,hv,Wh (by simp),Wh (by omega),Wh (by omega),Wh (by omega),Wn ho] at hz
 unfold JT at hz
 by_cases h1:(Xh w a).2=0
 rotate_left
 ·rw[Wn h1] at hz;exact absurd hz h1
 rw[Wh (by simpa using h1),(h.th hv h1).2.2] at hz
 exact hz
theorem q13 (h:CC N k w a b c):Qdh N w a b c ft=Qaa N w 13 a b c ft:=by
 rw[Qdh,Qaa,h.gv,h.rv,Xa,Xa]
 by_cases hz:Yz w 13 a b c ft.Failed=0
 rotate_left
 ·rw[Xm hz,We,We]
 have hv:=XB hz
 have g:=h.las (.inl rfl) hz
 rw[Wh (by omega)] at g
 obtain ⟨v,e1,_,e2⟩:=Xb6 (N:=N) h.hw.glo h.hN g 2 (by omega) (by omega)
 rw[Xk hz,Wa,Wa,h.gr hv,Xa,h.cp,Xa,YG h.hw (h.r0 hv),e2]
 simp only[XY,gt_iff_lt,Int.reduceLT,decide_true,decide_false,We,Wa,Int.reduceBEq,Int.reduceBNe]
 rw[h.rr hv,Xa,Qb6]
 simp only[XY,Int.reduceBEq,Wa]
 rw[KN h.hw.glo h.hN,Xa,e1,Xa,Xa]
theorem q15 (h:CC N k w a b c):Qdj N w a b c ft=Qaa N w 15 a b c ft:=by
 rw[Qdj,Qaa,h.gv,h.rv,Xa,Xa]
 by_cases hz:Yz w 15 a b c ft.Failed=0
 rotate_left
 ·rw[Xm hz,We,We]
 have hv:=XB hz
 have g:=h.las (.inr rfl) hz
 rw[Wn rfl] at g
 obtain ⟨v,e1,e0,_⟩:=Xb6 (N:=N) h.hw.wea h.hN g 3 (by omega) (by omega)
 rw[Xk hz,Wa,Wa,h.gr hv,Xa,h.cp,Xa,YG h.hw (h.r0 hv)]
 simp only[XY,gt_iff_lt,Int.reduceLT,decide_true,decide_false,We,Wa,Int.reduceBEq,Int.reduceBNe]
 rw[Xb3 h.hw.wea h.hN,Xa,Xk g,Wa,e0,Xa,Xk rfl,Wa,h.rr hv,Xa,Qb6]
 simp only[XY,Int.reduceBEq,We]
 rw[KN h.hw.wea h.hN,Xa,e1,Xa,Xa]
theorem q17 (h:CC N k w a b c):Qdl N w a b c ft=Qaa N w 17 a b c ft:=by
 rw[Qdl,Qaa,h.gv,h.rv,Xa,Xa]
 by_cases hz:Yz w 17 a b c ft.Failed=0
 rotate_left
 ·rw[Xm hz,We,We]
 have hv:=XB hz
 have hz2:=hz
 rw[Yz,hv,Wh (by simp),Wh (by omega),Wh (by omega),Wh (by omega),Wh (by omega),Wn (.inl rfl),Kf,Wn rfl] at hz2
 split at hz2
 ·cases hz2
 have ha:=h.ta.1
 have hwa:wI a=a:=Xe (by omega) (by omega)
 rw[Xk hz,Wa,Wa,h.gr hv,Xa,h.cp,Xa,YG h.hw (h.r0 hv)]
 simp only[XY,gt_iff_lt,Int.reduceLT,decide_true,decide_false,We,Wa,Int.reduceBEq,Int.reduceBNe]
 rw[hwa,Xc0 h.hw.loc h.hN,V3 h.hw.loc h.hN,Xa,Xa,Xk hz2,Wa]
theorem q18 (h:CC N k w a b c):Qdm N w a b c ft=Qaa N w 18 a b c ft:=by
 rw[Qdm,Qaa,h.gv,h.rv,Xa,Xa]
 by_cases hz:Yz w 18 a b c ft.Failed=0
 rotate_left
 ·rw[Xm hz,We,We]
 have hv:=XB hz
 have hz2:=hz
 rw[Yz,hv,Wh (by simp),Wh (by omega),Wh (by omega),Wh (by omega),Wh (by omega),Wn (.inr rfl),Kf,Wh (by omega)] at hz2
 split at hz2
 ·rename_i x;exact absurd hz2 x
 split at hz2
 ·rename_i x;exact absurd hz2 x
 rename_i _ hp
 have hp:(ZC w.Locals).2=0:=Classical.not_not.1 hp
 obtain ⟨l,v,e1,e2⟩:=Jw (N:=N) (w:=⟨w.Conf,w.Things,(ZC w.Locals).1,w.Globals,w.Weaks,w.Marks,w.Roots⟩) (V4 h.hw.loc) h.hN hz2
 rw[Xk hz,Wa,Wa,h.gr hv,Xa,h.cp,Xa,XY,YG h.hw (h.r0 hv),XeS h.hw.loc h.hN,Xa,XA hp,We,e2]
 simp only[XY,gt_iff_lt,Int.reduceLT,decide_true,decide_false,We,Wa,Int.reduceBEq,Int.reduceBNe]
 rw[h.rr hv,Xa,Xa5 h.hw.loc h.hN,Xa,e1,Xa]
end
end Go.Sx
namespace Go.Sx
section
variable {N:Nat} {w:Wm} {k:Nat} {a b c:Int} {ft:UH}
theorem Xb7 (h:CC N k w a b c) {op:Int} {f:Bool} (ho:op=12\/op=14\/op=16) (hz:Yz w op a b c f=0):(bnd (Qbm N a) λ y9 =>
 bif (y9.2 != 0) then (bif (y9.2 != 0) then some (W0,0,y9.2)
  else some (w,0,0))
 else bif (y9.1.Tag==1) then (bnd (Qdb N w.Locals y9.1.Index y9.1.Stamp) λ y10 =>
  bif (y10.2 != 0) then some (W0,0,y10.2)
  else some ((Wm.mk w.Conf w.Things y10.1 w.Globals w.Weaks w.Marks w.Roots),0,0))
 else bif (y9.1.Tag==2) then (bnd (Qbn N w.Globals y9.1.Index y9.1.Stamp) λ y11 =>
  bif (y11.2 != 0) then some (W0,0,y11.2)
  else some ((Wm.mk w.Conf w.Things w.Locals y11.1 w.Weaks w.Marks w.Roots),0,0))
 else bnd (Qbn N w.Weaks y9.1.Index y9.1.Stamp) λ y12 =>
 bif (y12.2 != 0) then some (W0,0,y12.2)
 else some ((Wm.mk w.Conf w.Things w.Locals w.Globals y12.1 w.Marks w.Roots),0,0))=bnd (Qcs N w a) λ y=>some (y,(0:Int),(0:Int)):=by
 have hv:=XB hz
 rw[Yz,hv,Wh (by simp),Wh (by omega),Wh (by omega),Wn ho,Zz] at hz
 split at hz
 ·cases hz
 rename_i ha
 split at hz
 ·rename_i x;exact absurd hz x
 rename_i hr
 have hr:(XP w a).2=0:=Classical.not_not.1 hr
 unfold XP at hr
 rw[Wh ha] at hr
 by_cases hd:(Zs a).2=0
 rotate_left
 ·rw[Wn hd] at hr;exact absurd hr hd
 rw[Wh (by simpa using hd)] at hr
 rw[XdE h.hN h.ta,Xa,Qcs,XfB h.ta,Xa,Xk hd,Wa]
 by_cases h1:(Zs a).1.Tag=1
 ·rw[Wn h1] at hr
  rw[XA h1,We,We,Xj0 h.hw.loc h.hN,XdA h.hw.loc h.hN,Xa,Xa,Xk (by rw[VC,Wh (by simpa using hr)]),Wa,Xa]
 rw[Wh h1] at hr
 rw[Xc h1,Wa,Wa]
 by_cases h2:(Zs a).1.Tag=2
 ·rw[Wn h2] at hr
  rw[XA h2,We,We,XeV h.hw.glo h.hN,J7 h.hw.glo h.hN,Xa,Xa,Xk (by rw[KR,Wh (by simpa using hr)]),Wa,Xa]
 rw[Wh h2] at hr
 rw[Xc h2,Wa,Wa,XeV h.hw.wea h.hN,J7 h.hw.wea h.hN,Xa,Xa,Xk (by rw[KR,Wh (by simpa using hr)]),Wa,Xa]
theorem q12 (h:CC N k w a b c):Qdg N w a b c ft=Qaa N w 12 a b c ft:=by
 rw[Qdg,Qaa,h.gv,h.rv,Xa,Xa]
 by_cases hz:Yz w 12 a b c ft.Failed=0
 rotate_left
 ·rw[Xm hz,We,We]
 have hv:=XB hz
 rw[Xk hz,Wa,Wa,h.gr hv,Xa,h.cp,Xa,YG h.hw (h.r0 hv),Xb7 h (.inl rfl) hz]
 simp only[XY,gt_iff_lt,Int.reduceLT,decide_true,decide_false,We,Wa,Int.reduceBEq,Int.reduceBNe]
 rw[h.rr hv,Xa]
theorem q14 (h:CC N k w a b c):Qdi N w a b c ft=Qaa N w 14 a b c ft:=by
 rw[Qdi,Qaa,h.gv,h.rv,Xa,Xa]
 by_cases hz:Yz w 14 a b c ft.Failed=0
 rotate_left
 ·rw[Xm hz,We,We]
 have hv:=XB hz
 rw[Xk hz,Wa,Wa,h.gr hv,Xa,h.cp,Xa,YG h.hw (h.r0 hv),Xb7 h (.inr (.inl rfl)) hz]
 simp only[XY,gt_iff_lt,Int.reduceLT,decide_true,decide_false,We,Wa,Int.reduceBEq,Int.reduceBNe]
 rw[h.rr hv,Xa]
theorem q16 (h:CC N k w a b c):Qdk N w a b c ft=Qaa N w 16 a b c ft:=by
 rw[Qdk,Qaa,h.gv,h.rv,Xa,Xa]
 by_cases hz:Yz w 16 a b c ft.Failed=0
 rotate_left
 ·rw[Xm hz,We,We]
 have hv:=XB hz
 rw[Xk hz,Wa,Wa,h.gr hv,Xa,h.cp,Xa,YG h.hw (h.r0 hv),Xb7 h (.inr (.inr rfl)) hz]
 simp only[XY,gt_iff_lt,Int.reduceLT,decide_true,decide_false,We,Wa,Int.reduceBEq,Int.reduceBNe]
 rw[h.rr hv,Xa]
theorem XfQ {l:Ws} (h:YQ l 1=0) (id:Int):YQ l id=0:=by
 unfold YQ Zj at h ⊢
 rw[Wh (by omega)] at h
 split at h
 ·cases h
 rename_i g1
 rw[Wh (by omega)] at h
 by_cases h0:id=0
 ·rw[Wn h0]
 rw[Wh h0,Wh g1,Wh h0]
 split at h
 ·cases h
 rename_i g2
 rw[Wh g2]
 split at h
 ·cases h
 rename_i g3
 rw[Wh g3]
 split at h
 ·cases h
 rename_i g4
 rw[Wh g4]
theorem Jf (h:CC N k w a b c) {op:Int} {f:Bool} (ho:op=1\/op=2\/op=3) (hz:Yz w op a b c f=0) (y:Wm) (hl:y.Locals=w.Locals) (ht:y.Things.length<=900) (m:Int) (hm:m=if op=1 then wW b else 0) :
 (grd (0<=(wI a)/\(wI a).toNat*8<=140737488355328) <|
  grd ((y.Things.length+1)*48<=140737488355328) <|
  grd ((y.Things.length+1)<=140737488355328) <|
  jn (λ (x23:Int) (x24:Int) (x25:List UR) (x26:List UV) (x27:List Int) =>
   bif (x24 != 0) then some (W0,0,x24)
   else some ((Wm.mk y.Conf (y.Things++[(W5.mk (WE.mk op (wI a) m) (List.replicate (wI a).toNat 0))]) (Ws.mk x25 x26 x27) y.Globals y.Weaks y.Marks y.Roots),x23,0)) λ j1 =>
  bif ((wU (((y.Things.length+1):Nat):Int))==0) then j1 0 0 y.Locals.Slots y.Locals.Scopes y.Locals.Issued
  else bnd (Qbx N y.Locals (wU (((y.Things.length+1):Nat):Int))) λ y21 =>
  bif (y21.2.2.2 != 0) then j1 0 y21.2.2.2 y.Locals.Slots y.Locals.Scopes y.Locals.Issued
  else bnd (Qas N (UI.mk 1 y21.2.1 y21.2.2.1)) λ y22 =>
  j1 y22.1 y22.2 y21.1.Slots y21.1.Scopes y21.1.Issued)=(bnd (Qbp N op a b) λ y17 =>
   grd (y.Things.length*48<=140737488355328) <|
   grd (0<=y17.1.Length/\y17.1.Length.toNat*8<=140737488355328) <|
   grd ((y.Things.length+1)*48<=140737488355328) <|
   grd ((y.Things.length+1)<=140737488355328) <|
   bnd (Qbc N (Wm.mk (Ut.mk y.Conf.PageWords y.Conf.Pages) (y.Things++[(W5.mk y17.1 (List.replicate y17.1.Length.toNat 0))]) (Ws.mk y.Locals.Slots y.Locals.Scopes y.Locals.Issued) (WC.mk y.Globals.Entries) (WC.mk y.Weaks.Entries) y.Marks y.Roots) (wU (((y.Things.length+1):Nat):Int))) λ y18 =>
   some (y18.1,y18.2,(0:Int))):=by
 have hv:=XB hz
 rw[Yz,hv,Wh (by simp),Wn ho,Zl] at hz
 split at hz
 ·cases hz
 split at hz
 ·cases hz
 rename_i _ h2
 have h2:okW op a b:=Classical.not_not.1 h2
 split at hz
 ·cases hz
 split at hz
 ·rename_i x;exact absurd hz x
 rename_i hlw
 have hlw:=XfQ (Classical.not_not.1 hlw) (wU (((y.Things.length+1):Nat):Int))
 rw[← hl] at hlw
 have hly:LBp y.Locals:=by rw[hl];exact h.hw.loc
 obtain ⟨d,hd,hd2⟩:=XbS (N:=N) op h.ta h.tb
 have hdd:=hd2 h2
 have ha:=h.ta.1
 have hb:=h.tb.1
 have h21:=h2.1
 have hwa:wI a=a:=Xe (by omega) (by omega)
 have hmm:m=if op=1 then b else 0:=by
  rw[hm]
  split
  ·rename_i e;exact Xjb (by omega) (h2.2 e)
  ·rfl
 obtain ⟨l,v,e1,e2⟩:=Jw (N:=N) (w:=⟨y.Conf,y.Things++[(W5.mk d (List.replicate d.Length.toNat 0))],y.Locals,y.Globals,y.Weaks,y.Marks,y.Roots⟩) hly h.hN hlw
 have e3:(WE.mk op (wI a) m)=d:=by rw[hdd,hdW,hwa,hmm]
 have e4:d.Length=a:=by rw[hdd];rfl
 rw[hd,Xa,e3,hwa,Xi (by omega),Xi (by omega),Xi (by omega),Xi (by omega),Xi (by simp only;omega),Xi (by omega),Xi (by omega)]
 simp only[e4] at e1 e2 ⊢
 rw[e2,e1,Xa]
 rfl
theorem q1 (h:CC N k w a b c):Qea N w a b c ft=Qaa N w 1 a b c ft:=by
 rw[Qea,Qaa,h.gv,h.rv,Xa,Xa]
 by_cases hz:Yz w 1 a b c ft.Failed=0
 rotate_left
 ·rw[Xm hz,We,We]
 have hv:=XB hz
 have hk:=h.hw.kk
 have ht:=h.hw.things
 obtain ⟨t,e1,e2⟩:=JX h.hw h.hB h.tw hv
 rw[Xk hz,Wa,Wa,h.gr hv,Xa,h.cp,Xa,YG h.hw (h.r0 hv)]
 conv=>rhs;simp only[XY,gt_iff_lt,Int.reduceLT,decide_true,decide_false,We,Wa,Int.reduceBEq,Int.reduceBNe]
 cases ft.Collected
 ·exact Jf h (.inl rfl) hz w rfl (by omega) _ rfl
 ·rw[We,We,e1,e2,Xa,Xa,Xk rfl,Wa]
  exact Jf h (.inl rfl) hz ⟨w.Conf,w.Things,w.Locals,w.Globals,t,w.Marks,w.Roots⟩ rfl (by simp only;omega) _ rfl
theorem q2 (h:CC N k w a b c):Qeb N w a b c ft=Qaa N w 2 a b c ft:=by
 rw[Qeb,Qaa,h.gv,h.rv,Xa,Xa]
 by_cases hz:Yz w 2 a b c ft.Failed=0
 rotate_left
 ·rw[Xm hz,We,We]
 have hv:=XB hz
 have hk:=h.hw.kk
 have ht:=h.hw.things
 obtain ⟨t,e1,e2⟩:=JX h.hw h.hB h.tw hv
 rw[Xk hz,Wa,Wa,h.gr hv,Xa,h.cp,Xa,YG h.hw (h.r0 hv)]
 conv=>rhs;simp only[XY,gt_iff_lt,Int.reduceLT,decide_true,decide_false,We,Wa,Int.reduceBEq,Int.reduceBNe]
 cases ft.Collected
 ·exact Jf h (.inr (.inl rfl)) hz w rfl (by omega) _ rfl
 ·rw[We,We,e1,e2,Xa,Xa,Xk rfl,Wa]
  exact Jf h (.inr (.inl rfl)) hz ⟨w.Conf,w.Things,w.Locals,w.Globals,t,w.Marks,w.Roots⟩ rfl (by simp only;omega) _ rfl
theorem q3 (h:CC N k w a b c):Qec N w a b c ft=Qaa N w 3 a b c ft:=by
 rw[Qec,Qaa,h.gv,h.rv,Xa,Xa]
 by_cases hz:Yz w 3 a b c ft.Failed=0
 rotate_left
 ·rw[Xm hz,We,We]
 have hv:=XB hz
 have hk:=h.hw.kk
 have ht:=h.hw.things
 obtain ⟨t,e1,e2⟩:=JX h.hw h.hB h.tw hv
 rw[Xk hz,Wa,Wa,h.gr hv,Xa,h.cp,Xa,YG h.hw (h.r0 hv)]
 conv=>rhs;simp only[XY,gt_iff_lt,Int.reduceLT,decide_true,decide_false,We,Wa,Int.reduceBEq,Int.reduceBNe]
 cases ft.Collected
 ·exact Jf h (.inr (.inr rfl)) hz w rfl (by omega) _ rfl
 ·rw[We,We,e1,e2,Xa,Xa,Xk rfl,Wa]
  exact Jf h (.inr (.inr rfl)) hz ⟨w.Conf,w.Things,w.Locals,w.Globals,t,w.Marks,w.Roots⟩ rfl (by simp only;omega) _ rfl
theorem XeW {l:List Uz} (hl:l.length<=1000000) (hN:1000000<N) (id:Int):Qan N l id=some (XZ l id):=by
 have h:=JV (l:=l) (F:=Qah N l id) (p:=λ m=>m.Id==id) hl hN (λ n k p e=>by
  have hk:=Xo e
  rw[Qah,Xw hk,We,Xd,e,Xa,QfO,Xa,Xp (by omega)]) (λ n=>by rw[Qah,Xr,Wa])
 rw[Qan,h];rfl
theorem XlE {l:List Uz} (hl:l.length<=1000000) (hN:1000000<N):Qao N l=some (Xaa (λ m=>m.Count==0) l):=by
 have h:=JV (l:=l) (F:=Qad N l) (p:=λ m=>m.Count==0) hl hN (λ n k p e=>by
  have hk:=Xo e
  rw[Qad,Xw hk,We,Xd,e,Xa,QcW,Xa,Xp (by omega)]) (λ n=>by rw[Qad,Xr,Wa])
 rw[Qao,h]
theorem XeX {y:Wm}:∀ (n i j:Nat) (v:List Uz),i<=j->j<=v.length->v.length<=2000->(∀ m∈v.drop j,m.Count≠0)->v.length-j<n->Ok (QbE N y n (i:Int) (j:Int) v) λ r=>r.1=((i+(v.length-j):Nat):Int)/\r.2.length=v.length/\r.2.take (i+(v.length-j))=v.take i++v.drop j
 | 0,_,_,_,_,_,_,_,h=>by omega
 | n+1,i,j,v,hi,hj,hl,hc,hn=>by
  rw[QbE,Xi (by omega)]
  by_cases h:j<v.length
  ·have hcj:=hc v[j] (by rw[WA h];exact List.mem_cons_self)
   have e1:(v.set i v[j]).drop (j+1)=v.drop (j+1):=by rw[List.drop_set_of_lt (by omega)]
   have e2:(v.set i v[j]).take (i+1)=v.take i++[v[j]]:=by
    rw[UY (by rw[Wv];omega),IR,List.take_set_of_le (WQ _)]
   rw[Xw h,We,Xd,Wc h,Xa,QcW,Xa,Xc hcj,WS,We,Xd,Wc (show i<v.length by omega),Xa,Xp (by omega),Xp (by omega),WD]
   have ih:=XeX (y:=y) n (i+1) (j+1) (v.set i v[j]) (by omega) (by rw[Wv];omega) (by rw[Wv];omega) (by rw[e1];exact λ m hm=>hc m (by rw[WA h];exact Ud _ hm)) (by rw[Wv];omega)
   refine ih.mono λ r hr=>?_
   rw[Wv,e1,e2,UA] at hr
   obtain ⟨r1,r2,r3⟩:=hr
   rw[show i+1+(v.length-(j+1))=i+(v.length-j) by omega] at r1 r3
   refine ⟨r1,r2,?_⟩
   rw[r3,WA h];rfl
  ·obtain rfl:j=v.length:=by omega
   rw[Xr,Wa]
   refine Wg ⟨by simp,rfl,by simp⟩
theorem CC.pin (h:CC N k w a b c) {op:Int} {f:Bool} (ho:op=19\/op=20) (hz:Yz w op a b c f=0):(1<=(XP w a).1/\(XP w a).1<=w.Things.length)/\(op=20->0<=XZ w.Marks (XP w a).1):=by
 have hv:=XB hz
 rw[Yz,hv,Wh (by simp),Wh (by omega),Wh (by omega),Wh (by omega),Wh (by omega),Wh (by omega),Wn ho,JU] at hz
 by_cases h1:(Xh w a).2=0
 rotate_left
 ·rw[Wn h1] at hz;exact absurd hz h1
 have g:=h.th hv h1
 refine ⟨⟨g.1,g.2.1⟩,λ h20=>?_⟩
 rw[Wh (by simpa using h1),Wn h20,g.2.2] at hz
 by_cases h2:XZ w.Marks (XP w a).1<0
 ·rw[Wn h2] at hz;cases hz
 ·omega
theorem q19 (h:CC N k w a b c):Qdn N w a b c ft=Qaa N w 19 a b c ft:=by
 rw[Qdn,Qaa,h.gv,h.rv,Xa,Xa]
 by_cases hz:Yz w 19 a b c ft.Failed=0
 rotate_left
 ·rw[Xm hz,We,We]
 have hv:=XB hz
 have g:=(h.pin (.inl rfl) hz).1
 have h64:=(Yi hv).m64
 have hN:=h.hN
 rw[Xk hz,Wa,Wa,h.gr hv,Xa,h.cp,Xa,Xm (by omega),We,(Ys h.hw g.1 g.2).1,Xa,XeW (by omega) hN,Xa,XY]
 simp only[XY,gt_iff_lt,Int.reduceLT,decide_true,decide_false,We,Wa,Int.reduceBEq,Int.reduceBNe]
 rw[h.rr hv,Xa,QdM,QeY,V6 (by omega) hN,Xa,Xa,Xi (p:=w.Marks.length*24<=140737488355328) (by omega)]
 simp only[Int.reduceBEq,Wa]
 by_cases hm:XZ w.Marks (XP w a).1<0
 ·rw[Wo hm,Wl (by omega),We,Wa,Xi (by omega),Xi (by omega),Xi (by omega),Xa,Xd,US (WQ _),Ou,IJ,Xa,WD,List.set_append_right _ _ (WQ _),Ou,List.set_cons_zero]
  rfl
 ·obtain ⟨m1,m2,m3⟩:=Kt (show 0<=XZ w.Marks (XP w a).1 by omega)
  rw[Wl hm,Wo (by omega),We,Wa,m2,Xa,Xa,Xa,XM (by omega) (by rw[Wv];exact m1),Xa,Xa,IR]
theorem q20 (h:CC N k w a b c):Qdo N w a b c ft=Qaa N w 20 a b c ft:=by
 rw[Qdo,Qaa,h.gv,h.rv,Xa,Xa]
 by_cases hz:Yz w 20 a b c ft.Failed=0
 rotate_left
 ·rw[Xm hz,We,We]
 have hv:=XB hz
 obtain ⟨g,g20⟩:=h.pin (.inr rfl) hz
 have wf:=Yi hv
 have h64:=wf.m64
 have hN:=h.hN
 have m0:=g20 rfl
 obtain ⟨m1,m2,m3⟩:=Kt m0
 rw[Xk hz,Wa,Wa,h.gr hv,Xa,h.cp,Xa,Xm (by omega),We,(Ys h.hw g.1 g.2).1,Xa,XeW (by omega) hN,Xa,XY]
 simp only[XY,gt_iff_lt,Int.reduceLT,decide_true,decide_false,We,Wa,Int.reduceBEq,Int.reduceBNe]
 rw[h.rr hv,Xa,QdM,QeY,V6 (by omega) hN,Xa,Xa,Xi (p:=w.Marks.length*24<=140737488355328) (by omega)]
 simp only[Int.reduceBEq,We]
 obtain ⟨j,hj⟩:∃ j:Nat,XZ w.Marks (XP w a).1=j:=⟨_,(IM m0).symm⟩
 rw[hj] at m1 m2 ⊢
 have hjl:j<w.Marks.length:=by omega
 rw[Wl (by omega),Wa,m2,Xa,Xa,Xa]
 have hm2:w.Marks[j]? = some (Vr w.Marks j):=by rw[Xd] at m2;exact m2
 have hmk:=wf.mk_ hm2
 generalize Vr w.Marks (j:Int)=p at hm2 hmk
 have hw1:wI (p.Count-1)=p.Count-1:=Xe (by omega) (by omega)
 rw[XM (by omega) (by rw[Wv];omega),Xa,hw1]
 simp only[WD,IR]
 have hq:∀ (i:Nat) m,(w.Marks.set j ⟨p.Id,p.Count-1,p.Base⟩)[i]? = some m->(m.Count==0)=(decide (i=j)&&decide (p.Count=1)):=λ i m hi=>by
  rw[Iq] at hi
  by_cases e:j=i
  ·subst e
   rw[Wn rfl,Wn hjl] at hi
   obtain rfl:=Ww hi
   rw[Wo rfl,WN]
   show decide (p.Count-1=0)=_
   exact decide_eq_decide.2 (by omega)
  ·rw[Wh e] at hi
   have:=wf.mk_ hi
   rw[Xc (by omega),Wl (λ h=>e h.symm),UC]
 rw[XlE (by rw[Wv];omega) hN,Xa]
 generalize hQ:w.Marks.set j ⟨p.Id,p.Count-1,p.Base⟩=q at hq
 have hql:q.length=w.Marks.length:=by rw[← hQ,Wv]
 by_cases h1:p.Count=1
 ·have hf:q.findIdx? (λ m=>m.Count==0)=some j:=by
   refine UW.2 ⟨by omega,?_,λ i hi=>?_⟩
   ·rw[hq j _ (Wc (by omega)),Wo rfl,Wo h1];rfl
   ·rw[hq i _ (Wc (by omega)),Wl (by omega)];simp
  have hfi:Xaa (λ m:Uz=>m.Count==0) q=(j:Int):=by unfold Xaa;rw[hf]
  rw[hfi,Xc (show ¬ (j:Int) = -1 by omega),Wa,XA (show p.Count-1=0 by omega),We,Xp (by omega)]
  obtain ⟨r,er,r1,r2,r3⟩:=XeX (N:=N) (y:=w) N j (j+1) q (by omega) (by omega) (by omega) (λ m hm=>by
   obtain ⟨i,hi,rfl⟩:=WX hm
   rw[Uo] at hi
   rw[List.getElem_drop]
   have:=hq (j+1+i) _ (Wc (by omega))
   rw[Wl (by omega),UC] at this
   simpa using this) (by omega)
  have hr1:r.1.toNat=j+(q.length-(j+1)):=by rw[r1,WD]
  rw[er,Xa,Xi (by rw[r1,r2];omega),Xi (by rw[r1];omega),Xi (by omega),Xi (by omega),Xi (by omega)]
  have k1:((r.2.take r.1.toNat++List.replicate (r.2.length-r.1.toNat) (Uz.mk 0 0 0))++r.2.drop (r.1.toNat+(r.2.length-r.1.toNat))).take r.1.toNat=q.take j++q.drop (j+1):=by
   rw[UA,List.take_append_of_le_length (by rw[WO];omega),List.take_take,Io,hr1,r3]
  have k2:((q.take j++(q.drop (j+1)).take (w.Marks.length-(j+1)))++q.drop (j+(w.Marks.length-(j+1)))).take (j+(w.Marks.length-(j+1)))=q.take j++q.drop (j+1):=by
   have e:(q.drop (j+1)).take (w.Marks.length-(j+1))=q.drop (j+1):=UZ (by rw[Uo];omega)
   rw[e,List.take_append_of_le_length (by rw[Wr,WO,Uo];omega),UZ (by rw[Wr,WO,Uo];omega)]
  rw[k1,WD,k2,Xa]
 ·have hf:q.findIdx? (λ m=>m.Count==0)=none:=by
   refine List.findIdx?_eq_none_iff.2 λ m hm=>?_
   obtain ⟨i,hi,rfl⟩:=WX hm
   rw[hq i _ (Wc hi),Wl h1,Bool.and_false]
  have hfi:Xaa (λ m:Uz=>m.Count==0) q = -1:=by unfold Xaa;rw[hf]
  rw[hfi,XA rfl,We,Xc (show ¬ p.Count-1=0 by omega),Wa,Xa]
theorem qz (h:CC N k w a b c) {op:Int} (ho:op<1\/20<op):Qe8 N w op a b c ft=Qaa N w op a b c ft:=by
 rw[Qe8,Qaa,h.gv,h.rv,Xa,Xa]
 by_cases hz:Yz w op a b c ft.Failed=0
 ·have hv:=XB hz
  rw[Yz,hv,Wh (by simp),Wh (by omega),Wh (by omega),Wh (by omega),Wh (by omega),Wh (by omega),Wh (by omega),Wh (by omega)] at hz
  cases hz
 ·rw[Xm hz,We,We]
theorem cif {β:Type} {p:Prop} {x y:Int} {X Y Z:β} (h1:x=y->X=Z) (h2:x≠y->Y=Z):(bif (x==y) then X else Y)=Z:=by
 by_cases h:x=y
 ·rw[XA h,We];exact h1 h
 ·rw[Xc h,Wa];exact h2 h
theorem Xj2 (h:CC N k w a b c) (op:Int):QfL N w op a b c ft=Qaa N w op a b c ft:=by
 rw[QfL]
 refine cif (p:=True) (λ e=>e▸q1 h) λ h1=>cif (p:=True) (λ e=>e▸q2 h) λ h2=>cif (p:=True) (λ e=>e▸q3 h) λ h3=>cif (p:=True) (λ e=>e▸q4 h) λ h4=>cif (p:=True) (λ e=>e▸q5 h) λ h5=>cif (p:=True) (λ e=>e▸q6 h) λ h6=>cif (p:=True) (λ e=>e▸q7 h) λ h7=>cif (p:=True) (λ e=>e▸q8 h) λ h8=>cif (p:=True) (λ e=>e▸q9 h) λ h9=>cif (p:=True) (λ e=>e▸q10 h) λ h10=>?_
 refine cif (p:=True) (λ e=>e▸q11 h) λ h11=>cif (p:=True) (λ e=>e▸q12 h) λ h12=>cif (p:=True) (λ e=>e▸q13 h) λ h13=>cif (p:=True) (λ e=>e▸q14 h) λ h14=>cif (p:=True) (λ e=>e▸q15 h) λ h15=>cif (p:=True) (λ e=>e▸q16 h) λ h16=>cif (p:=True) (λ e=>e▸q17 h) λ h17=>cif (p:=True) (λ e=>e▸q18 h) λ h18=>cif (p:=True) (λ e=>e▸q19 h) λ h19=>cif (p:=True) (λ e=>e▸q20 h) λ h20=>?_
 exact qz h (by omega)
end
end Go.Sx
