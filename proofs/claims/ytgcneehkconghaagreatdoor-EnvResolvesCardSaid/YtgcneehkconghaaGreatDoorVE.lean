import Derived.KernelRfl
import Derived.Test.YtgcneehkconghaaGreatDoorVD
set_option linter.all false
namespace Go.Sx
section
variable {N:Nat}
theorem Zg (h:U8):Ok (Qbv N h) λ _=>True:=by
 rw[Qbv]
 refine WG (Q:=λ _=>True) ?_ λ b _ _=>Wo (λ _=>Wg trivial) λ _=>Wg trivial
 rw[QfT]
 exact Wo (λ _=>Wo (λ _=>Wo (λ _=>Wo (λ _=>Wo (λ _=>Wg trivial) λ _=>Wg trivial) λ _=>Wg trivial) λ _=>Wg trivial) λ _=>Wg trivial) λ _=>Wg trivial
theorem Xap (a:Int):Ok (QbN N a) λ _=>True:=by
 rw[QbN]
 exact Wo (λ _=>Wg trivial) λ _=>WG (Zg _) λ _ _ _=>Wo (λ _=>Wg trivial) λ _=>Wo (λ _=>Wg trivial) λ _=>Wg trivial
theorem Xnr {l:List UN} (r:Int) (hl:l.length<=1000000):∀ (n:Nat) (k:Int),0<=k->k<=l.length->(l.length-k).toNat<n->Ok (QdN N l r n k) λ e=>∀ i,e=.ret i->0<=i/\i<l.length/\∃ p∈l,p.Ref=r
 | 0,k,_,_,hn=>by omega
 | n+1,k,h0,hk,hn=>by
  rw[QdN]
  refine Wo (λ hc=>?_) λ _=>Wg λ i e=>by cases e
  have hc:k<l.length:=Wr hc
  rw[Xc (n:=k+1) (by omega) (by omega)]
  refine Ok.get h0 hc λ p hp=>Wo (λ h=>Wg λ i e=>?_) λ _=>Xnr r hl n (k+1) (by omega) (by omega) (by omega)
  cases e
  exact ⟨h0,hc,p,Yp hp,by simpa using h⟩
theorem XbS {l:List UN} (r:Int) (hl:l.length<=1000000) (hN:1000000<N):Ok (QeM N l r) λ i=>i = -1\/(0<=i/\i<l.length/\∃ p∈l,p.Ref=r):=by
 rw[QeM]
 exact IS (Xnr r hl N 0 (by omega) (by omega) (by omega)) (λ i q=>Wg (.inr (q i rfl))) λ _ _=>Wg (.inl rfl)
theorem Xa8 {h:Wn} (hp:UH h) {a:Int} (ha:I7 h a):QeN N h a=some (pgi h.Conf a)/\0<=pgi h.Conf a/\pgi h.Conf a<h.Pages.length:=by
 have hv:=Xi.1 hp.conf
 obtain ⟨_,q0,q1,_⟩:=JH hp.conf ha.rng
 have:=hp.pages
 refine ⟨?_,q0,by omega⟩
 rw[QeN,VO,Xa,hp.conf,Wk (by simp),Wm ha.rng]
 rfl
theorem Xe1 {h:Wn} {pins:List UN} (hN:NB N) (hp:UH h) (y:List Int×Int) (hy:Oc N h y.1) (hl:pins.length<=64) (hb:HB h):∀ (n:Nat) (k:Int) (v:List Int),0<=k->k<=pins.length->(pins.length-k).toNat<n->v.length=h.Pages.length->Ok (Qby N h pins y n k v) λ e=>match e with | .ret b=>b=false | .nxt v=>v.length=h.Pages.length/\∀ i,k<=i->∀ p,Xb pins i=some p->I7 h p.Ref
 | 0,k,v,_,_,hn,_=>by omega
 | n+1,k,v,h0,hk,hn,hv=>by
  have hN':=hN
  unfold NB at hN'
  have hyl:=hy.len
  rw[Qby]
  refine Wo (λ hc=>?_) λ hc=>Wg ⟨hv,λ i hi p hp=>?_⟩
  rotate_left
  ·have:=WH hc
   rw[XhU (by omega)] at hp;cases hp
  have hc:k<pins.length:=Wr hc
  rw[Xc (n:=k+1) (by omega) (by omega)]
  have a1:0<=k+1:=by omega
  have a2:k+1<=pins.length:=by omega
  have a3:(pins.length-(k+1)).toNat<n:=by omega
  refine Ok.get h0 hc λ p hp1=>?_
  have same:∀ q,Xb pins k=some q->q=p:=λ q hq=>WP (hq.symm.trans hp1)
  rw[Zk p.Ref (by omega) (by omega),Xa]
  refine Wo (λ _=>Wg rfl) λ hh=>?_
  have hm:p.Ref∈y.1:=Vf (by simpa using hh)
  have hat:=hy.obj.at_ _ hm
  refine Ok.get h0 hc λ q hq=>?_
  obtain rfl:=same q hq
  refine WG (XbS _ (by omega) (by omega)) λ _ _ _=>Wo (λ _=>Wg rfl) λ _=>Ok.get h0 hc λ _ _=>Wo (λ _=>Wg rfl) λ _=>Ok.get h0 hc λ _ _=>Wo (λ _=>Wg rfl) λ _=>Ok.get h0 hc λ q hq=>?_
  obtain rfl:=same q hq
  obtain ⟨e,q0,q1⟩:=Xa8 (N:=N) hp hat
  rw[e,Xa]
  refine Ok.get q0 (by omega) λ _ _=>Ok.get h0 hc λ _ _=>Ok.get q0 (by omega) λ _ _=>?_
  refine (Xe1 hN hp y hy hl hb n (k+1) _ a1 a2 a3 (by rw[Wx];exact hv)).mono λ e he=>?_
  cases e with
  | ret b=>exact he
  | nxt v =>
   refine ⟨he.1,λ i hi p' hp'=>?_⟩
   by_cases hik:i=k
   ·subst hik
    obtain rfl:=same p' hp'
    exact hat
   ·exact he.2 i (by omega) p' hp'
theorem Xe2 {h:Wn} (hb:HB h) (v:List Int) (hv:v.length=h.Pages.length):∀ (n:Nat) (k:Int),0<=k->k<=h.Pages.length->(h.Pages.length-k).toNat<n->Ok (Qb7 N h v n k) λ e=>∀ b,e=.ret b->b=false
 | 0,k,_,_,hn=>by omega
 | n+1,k,h0,hk,hn=>by
  have:=hb.2
  rw[Qb7]
  refine Wo (λ hc=>?_) λ _=>Wg λ b e=>by cases e
  have hc:k<h.Pages.length:=Wr hc
  rw[Xc (n:=k+1) (by omega) (by omega)]
  exact Ok.get h0 hc λ _ _=>Ok.get h0 (by omega) λ _ _=>Wo (λ _=>Wg λ b e=>by cases e;rfl) λ _=>Xe2 hb v hv n (k+1) (by omega) (by omega) (by omega)
structure Oz (N:Nat) (h:Wn) (pins:List UN):Prop where
 good:Ot N h
 len:pins.length<=64
 at_:∀ p∈pins,I7 h p.Ref
theorem JL (hN:NB N) {h:Wn} (hb:HB h) {pins:List UN} (hl:pins.length<=1000000):Ok (QbV N h pins) λ b=>b=true->Oz N h pins:=by
 have hN':=hN
 unfold NB at hN'
 have hb2:=hb.2
 rw[QbV]
 refine WG (Kf hN hb) λ b _ hg=>Wo (λ _=>Wg λ e=>by cases e) λ hb1=>?_
 have hg:=hg (by simpa using hb1)
 refine Wo (λ _=>Wg λ e=>by cases e) λ h64=>?_
 have h64:=WH h64
 refine WG (Zt hN hb) λ y _ hy=>WS (by omega) ?_
 refine IS (Xe1 hN hg.prop y hy.1 (by omega) hb N 0 _ (by omega) (by omega) (by omega) (by rw[WC];omega)) (λ b q=>Wg λ e=>?_) λ v q=>?_
 ·have q:b=false:=q
  rw[q] at e;cases e
 refine IS (Xe2 hb v q.1 N 0 (by omega) (by omega) (by omega)) (λ b q=>Wg λ e=>?_) λ _ _=>Wg λ _=>⟨hg,by omega,λ p hp=>?_⟩
 ·rw[q b rfl] at e;cases e
 ·obtain ⟨i,hi,e⟩:=W3 hp
  exact q.2 (i:Int) (by omega) p (by rw[Xd,Wd hi,e])
theorem Xe3 {h:Wn} (hb:HB h) (hp:UH h) {a:Int} (ha:I7 h a) (d:Int):Ok (Qb4 N h a d) HB:=by
 have hb2:=hb.2
 obtain ⟨e,q0,q1⟩:=Xa8 (N:=N) hp ha
 rw[Qb4,Xe (by omega),e,Xa]
 exact Ok.get q0 q1 λ _ _=>Ok.get q0 q1 λ _ _=>Wg ⟨hb.1,by show (h.Pages.set _ _).length<=_;rw[Wx];exact hb2⟩
theorem Xf3 (hN:NB N) {h:Wn} (hb:HB h) {pins:List UN} (hl:pins.length<=1000000) (a:Int):Ok (Qbi N h pins a) λ r=>HB r.1/\r.2.1.length<=1000000:=by
 have hN':=hN
 unfold NB at hN'
 have zero:HB zH/\([]:List UN).length<=1000000:=⟨ZL,by simp⟩
 rw[Qbi]
 refine WG (JL hN hb hl) λ b _ hm=>Wo (λ _=>Wg zero) λ hb1=>?_
 have hm:=hm (by simpa using hb1)
 refine Wo (λ _=>Wg zero) λ _=>WG (XbS _ hl (by omega)) λ i _ hi=>Wo (λ _=>Wg zero) λ h0=>?_
 have h0:=WH h0
 obtain ⟨i0,i1,p,hpm,hpr⟩:0<=i/\i<pins.length/\∃ p∈pins,p.Ref=a:=by
  rcases hi with h | h
  ·omega
  ·exact h
 have hat:=hm.at_ p hpm
 rw[hpr] at hat
 have hc:=Xe3 (N:=N) hb hm.good.prop hat (-1)
 refine WS (by omega) (Ok.get i0 i1 λ _ _=>Ok.get i0 i1 λ _ _=>Ok.get i0 (by rw[Wx];exact i1) λ _ _=>?_)
 rw[Xc (n:=i+1) (by omega) (by omega)]
 refine Wo (λ _=>WS (by omega) (WS (by omega) (WS (by omega) (WG hc λ y _ hy=>Wg ⟨hy,?_⟩)))) λ _=>WG hc λ y _ hy=>Wg ⟨hy,?_⟩
 ·simp only[Wz,Wq,Wx,WO];omega
 ·show (pins.set _ _).length<=_;rw[Wx];exact hl
theorem XbT {h:Wn} (hb:HB h) (a:Int):∀ (n:Nat) (c k:Int),0<=k->k<=h.Pages.length->(h.Pages.length-k).toNat<n->Ok (QbO N h a n c k) λ _=>True
 | 0,c,k,_,_,hn=>by omega
 | n+1,c,k,h0,hk,hn=>by
  have:=hb.2
  rw[QbO]
  refine Wo (λ hc=>?_) λ _=>Wg trivial
  have hc:k<h.Pages.length:=Wr hc
  rw[Xc (n:=k+1) (by omega) (by omega)]
  have next:=λ c'=>XbT hb a n c' (k+1) (by omega) (by omega) (by omega)
  exact Ok.get h0 hc λ _ _=>Wo (λ _=>Ok.get h0 hc λ _ _=>Wo (λ _=>next _) λ _=>next _) λ _=>next _
theorem Jl (hN:NB N) {h:Wn} (hb:HB h) (a:Int):Ok (Qc3 N h a) λ _=>True:=by
 have hN':=hN
 unfold NB at hN'
 have hb2:=hb.2
 rw[Qc3]
 refine WG (Kf hN hb) λ b _ hg=>Wo (λ _=>Wg trivial) λ hb1=>?_
 refine WG (XaK hN hb a) λ b _ ho=>Wo (λ _=>Wg trivial) λ hb1=>?_
 obtain ⟨hp,hat⟩:=ho (by simpa using hb1)
 obtain ⟨e,q0,q1⟩:=Xa8 (N:=N) hp hat
 refine WG (XbT hb a N 0 0 (by omega) (by omega) (by omega)) λ c _ _=>?_
 rw[e,Xa]
 exact Ok.get q0 q1 λ _ _=>Wo (λ _=>Wo (λ _=>Wg trivial) λ _=>Wg trivial) λ _=>Wg trivial
theorem Xh1 (hN:NB N) {h:Wn} (hb:HB h) {pins:List UN} (hl:pins.length<=1000000) (a:Int):Ok (Qc4 N h pins a) λ r=>HB r.1/\r.2.1.length<=1000000:=by
 have hN':=hN
 unfold NB at hN'
 have zero:HB zH/\([]:List UN).length<=1000000:=⟨ZL,by simp⟩
 rw[Qc4]
 refine WG (JL hN hb hl) λ b _ hm=>Wo (λ _=>Wg zero) λ hb1=>?_
 have hm:=hm (by simpa using hb1)
 refine Wo (λ _=>Wg zero) λ _=>WG (XaK hN hb a) λ b _ ho=>Wo (λ _=>Wg zero) λ hb1=>?_
 obtain ⟨hp,hat⟩:=ho (by simpa using hb1)
 have hc:=Xe3 (N:=N) hb hm.good.prop hat 1
 have h64:=hm.len
 refine WG (XbS _ hl (by omega)) λ i _ hi=>?_
 have rest:Ok (α:=Wn×List UN×Int×Int) (grd (pins.length*16<=140737488355328) <|
  jn (λ (x11:List UN) =>
   bnd (Qb4 N h a 1) λ y12 =>
   some (y12,x11,(wU (a+1)),0)) λ j2 =>
  bif (decide (i>=0)) then (bnd (Xb pins i) λ p9 =>
   bnd (Xb pins i) λ p10 =>
   j2 (pins.set i.toNat (UN.mk p10.Ref (wI (p9.Count+1)))))
  else grd ((pins.length+1)*16<=140737488355328) <|
  j2 (pins++[(UN.mk a 1)])) λ r=>HB r.1/\r.2.1.length<=1000000:=by
  refine WS (by omega) (Is (Wo (λ h0=>?_) λ _=>WS (by omega) (WG hc λ y _ hy=>Wg ⟨hy,?_⟩)))
  ·have h0:0<=i:=Wr h0
   have i1:i<pins.length:=by rcases hi with h | h;omega;exact h.2.1
   exact Ok.get h0 i1 λ _ _=>Ok.get h0 i1 λ _ _=>WG hc λ y _ hy=>Wg ⟨hy,by show (pins.set _ _).length<=_;rw[Wx];exact hl⟩
  ·show (pins++[_]).length<=_;rw[Wq];simp;omega
 refine Is (Wo (λ h0=>?_) λ _=>Wo (λ _=>Wo (λ _=>Wg zero) λ _=>WG (Jl hN hb a) λ _ _ _=>Wo (λ _=>Wg zero) λ _=>rest) λ _=>WG (Jl hN hb a) λ _ _ _=>Wo (λ _=>Wg zero) λ _=>rest)
 have h0:0<=i:=Wr h0
 have i1:i<pins.length:=by rcases hi with h | h;omega;exact h.2.1
 exact Ok.get h0 i1 λ _ _=>Wo (λ _=>Wg zero) λ _=>Wo (λ _=>Wo (λ _=>Wg zero) λ _=>WG (Jl hN hb a) λ _ _ _=>Wo (λ _=>Wg zero) λ _=>rest) λ _=>WG (Jl hN hb a) λ _ _ _=>Wo (λ _=>Wg zero) λ _=>rest
end
end Go.Sx
namespace Go.Sx
section
variable {N:Nat}
theorem Xg6 (hN:NB N) (c:WT) (d:Wy):Ok (Qb8 N c d) λ b=>b=true->Xx d=true/\d.Kind≠0/\Xz c (XF d)≠-1:=by
 have hN':=hN
 unfold NB at hN'
 rw[Qb8,YZ,Xa]
 refine Wo (λ hv=>Wo (λ hk=>?_) λ _=>Wg λ e=>by cases e) λ _=>Wg λ e=>by cases e
 rw[Yf,Xa,Zr (by omega),Xa]
 exact Wg λ e=>⟨hv,by simpa using hk,by simpa using e⟩
theorem Xe4 (hN:NB N) {h:Wn} (hb:HB h) (hp:UH h) (n:Int):Ok (Qdn N h n) λ r=>HB r.1:=by
 have hN':=hN
 unfold NB at hN'
 have hb2:=hb.2
 have setP:∀ (ps:List Wv) (i:Nat) (p:Wv) (s b:Int),ps.length<=100000->HB ⟨h.Conf,h.Words,ps.set i p,s,b⟩:=λ ps i p s b hl=>⟨hb.1,by show (ps.set i p).length<=_;rw[Wx];exact hl⟩
 rw[Qdn]
 refine WS (by omega) ?_
 rw[XbF,Xa]
 refine WG (JG (by omega) (by omega)) λ u _ _=>?_
 have fresh:Ok (α:=Wn×Int×Bool) (bnd (QbA N h.Pages 1) λ y5 =>
  bif (decide (y5<0)) then some ((Wn.mk (WT.mk 0 0) [] [] 0 0),0,false)
  else bif (decide (u>=Y8 h.Conf)) then some ((Wn.mk (WT.mk 0 0) [] [] 0 0),0,false)
  else bnd (QbB N h.Pages y5 h.Space) λ y6 =>
  bnd (Xb y6.1 y5) λ p11 =>
  bnd (Xb y6.1 y5) λ p12 =>
  bnd (Xb y6.1 y5) λ p13 =>
  some ((Wn.mk h.Conf h.Words (y6.1.set y5.toNat (Wv.mk p13.Kind p13.Space (wI (p12.Used+n)) p13.Pins)) h.Space y5),(wU (wI ((wI (4096+(wI (y5*h.Conf.PageWords))))+p11.Used))),true)) λ r=>HB r.1:=by
  refine WG (Y9 1 (by omega) (by omega)) λ j _ hj=>Wo (λ _=>Wg ZL) λ hj0=>Wo (λ _=>Wg ZL) λ _=>?_
  have hr:RunOK h.Pages j 1:=by
   rcases hj with rfl | hj
   ·cases hj0
   ·exact hj
  have hsp:=hp.space
  refine WG (XeM j h.Space (by omega) (by omega)) λ y _ hy=>?_
  obtain ⟨q0,q1,q2,q3⟩:=hy.1 (hy.2.2 hr (by omega) (by omega))
  have hjl:j<y.1.length:=by omega
  exact Ok.get q0 hjl λ _ _=>Ok.get q0 hjl λ _ _=>Ok.get q0 hjl λ _ _=>Wg (setP _ _ _ _ _ (by omega))
 refine Is (Wo (λ _=>fresh) λ h0=>?_)
 have h0:=WH h0
 have hbu:=hp.bump
 have h1:h.Bump<h.Pages.length:=by rcases hbu with h | h;omega;exact h.2.1
 have h0:0<=h.Bump:=by omega
 exact Ok.get h0 h1 λ _ _=>Wo (λ _=>fresh) λ _=>Ok.get h0 h1 λ _ _=>Wo (λ _=>fresh) λ _=>Wo (λ _=>fresh) λ _=>Ok.get h0 h1 λ _ _=>Ok.get h0 h1 λ _ _=>Ok.get h0 h1 λ _ _=>Wg (setP _ _ _ _ _ hb2)
theorem Xe5 (hN:NB N) {h:Wn} (hb:HB h) (hp:UH h) (w k:Int):Ok (QdS N h w k) λ r=>HB r.1:=by
 have hN':=hN
 unfold NB at hN'
 have hb2:=hb.2
 rw[QdS]
 refine WG (Y9 k (by omega) (by omega)) λ j _ hj=>Wo (λ _=>Wg ZL) λ hj0=>WG (JG (by omega) (by omega)) λ u _ _=>?_
 rw[XbF,Xa]
 refine Wo (λ _=>Wg ZL) λ _=>WG (XjN h.Conf j h.Space w (by omega) (by omega)) λ y _ hy=>Wg ⟨hb.1,?_⟩
 show y.1.length<=_
 by_cases he:y.2=0
 ·have:=(hy.1 he).2.2.2.1;omega
 ·rw[hy.2 he];simp
theorem XdJ (hN:NB N) {h:Wn} (hb:HB h) (d:Wy):Ok (QbM N h d) λ r=>HB r.1:=by
 have hN':=hN
 unfold NB at hN'
 rw[QbM]
 refine WG (Yl (N:=N) (by omega) hb.1 hb.2) λ b _ hp=>Wo (λ _=>Wg ZL) λ hb1=>?_
 have hp:=hp (by simpa using hb1)
 refine WG (Xg6 hN _ _) λ b _ _=>Wo (λ _=>Wg ZL) λ _=>?_
 rw[Yf,Xa,Zr (by omega),Xa]
 refine WG (Xe4 hN hb hp _) λ y5 _ h5=>Is (Wo (λ _=>WG (Xe5 hN hb hp _ _) λ y6 _ h6=>?_) λ _=>?_)
 ·exact Wo (λ _=>Wg ZL) λ _=>WG (XgR hN (h:=y6.1) h6 _ d) λ y15 _ h15=>Wg h15
 ·exact Wo (λ _=>Wg ZL) λ _=>WG (XgR hN (h:=y5.1) h5 _ d) λ y15 _ h15=>Wg h15
end
structure EB (x:W6):Prop where
 heap:HB x.Heap
 loc:LBp x.Locals
 glo:TB x.Globals
 wea:TB x.Weaks
 pins:x.Pins.length<=1000000
 roots:x.Roots.length<=100000
def zE:W6:=⟨zH,zL,zT,zT,[],[]⟩
theorem XbU:EB zE:=⟨ZL,Zp,XbP,XbP,by simp[zE],by simp[zE]⟩
section
variable {N:Nat} {x:W6}
theorem ZV {a:Ww} (h:LBp a):(bif Y4 a then Yq a.Slots else []).length<=4096:=by
 cases hv:Y4 a
 ·simp
 ·have hf:=Z4.1 hv
  have:=hf.slots
  have:=hf.iss
  have:=XcS a.Slots
  simp only[Wc];omega
theorem YI (l:List Ub):(bif YS l then X0 l else []).length<=64:=by
 cases hv:YS l
 ·simp
 ·have:=VU hv
  have:=Xan l
  simp only[Wc];omega
structure EV (N:Nat) (x:W6):Prop where
 mat:Oz N x.Heap x.Pins
 loc:Y4 x.Locals=true
 glo:YS x.Globals.Entries=true
 wea:YS x.Weaks.Entries=true
theorem Kq (hN:NB N) (hx:EB x):Ok (QcH N x) λ b=>b=true->EV N x:=by
 have hN':=hN
 unfold NB at hN'
 have hr:=hx.roots
 rw[QcH]
 refine WG (JL hN hx.heap hx.pins) λ b _ hm=>Wo (λ _=>Wg λ e=>by cases e) λ hb1=>?_
 have hm:=hm (by simpa using hb1)
 rw[ZF hx.loc (by omega),Xa]
 refine Wo (λ _=>Wg λ e=>by cases e) λ h1=>?_
 rw[ZE hx.glo (by omega),Xa]
 refine Wo (λ _=>Wg λ e=>by cases e) λ h2=>?_
 rw[ZE hx.wea (by omega),Xa]
 refine Wo (λ _=>Wg λ e=>by cases e) λ h3=>?_
 rw[YH hx.glo (by omega),Xa]
 have l1:=ZV hx.loc
 have l2:=YI x.Globals.Entries
 have l3:=YI x.Weaks.Entries
 rw[Zk _ (by omega) (by omega),Xa]
 refine Wo (λ _=>Wg λ e=>by cases e) λ _=>WS (by omega) ?_
 rw[Kx hx.loc (by omega),Xa]
 refine WS (by omega) (WS (by omega) ?_)
 rw[YH hx.wea (by omega),Xa]
 refine WS (by omega) (WG (K2 hN hx.heap (by simp only[Wq];omega)) λ b _ _=>Wg λ _=>⟨hm,by simpa using h1,by simpa using h2,by simpa using h3⟩)
theorem XbV (hp:x.Pins.length<=1000000):∀ (n:Nat) (k:Int) (v:List Int),0<=k->k<=x.Pins.length->(x.Pins.length-k).toNat<n->v.length<=1000000+k->Ok (QaT N x n k v) λ r=>(r.length:Int)=v.length+(x.Pins.length-k)
 | 0,k,v,_,_,hn,_=>by omega
 | n+1,k,v,h0,hk,hn,hv=>by
  rw[QaT]
  refine Wo (λ hc=>?_) λ hc=>Wg (by have:=WH hc;omega)
  have hc:k<x.Pins.length:=Wr hc
  rw[Xc (n:=k+1) (by omega) (by omega)]
  refine Ok.get h0 hc λ p _=>WS (by omega) ?_
  refine (XbV hp n (k+1) _ (by omega) (by omega) (by omega) (by rw[Wq];simp;omega)).mono λ r hr=>?_
  rw[hr,Wq];simp;omega
theorem XbW (hN:NB N) (hx:EB x):Ok (Qd3 N x) λ r=>r.length=x.Roots.length+(bif Y4 x.Locals then Yq x.Locals.Slots else []).length+(bif YS x.Globals.Entries then X0 x.Globals.Entries else []).length+x.Pins.length:=by
 have hN':=hN
 unfold NB at hN'
 have hr:=hx.roots
 have hp:=hx.pins
 have l1:=ZV hx.loc
 have l2:=YI x.Globals.Entries
 rw[Qd3]
 refine WS (by omega) ?_
 rw[Kx hx.loc (by omega),Xa]
 refine WS (by omega) ?_
 rw[YH hx.glo (by omega),Xa]
 refine WS (by omega) (WG (XbV hp N 0 _ (by omega) (by omega) (by omega) (by simp only[Wq];omega)) λ r _ hr=>Wg ?_)
 simp only[Wq] at hr
 omega
theorem Xg7 (y4:Wn×List Int×List Int×Us×Int) (y5 y6:List Int) (y7:Ww×Int) (y8 y9:WI×Int) (hp:x.Pins.length<=1000000) (hr:x.Roots.length<=100000) (h5:y5.length<=4096) (h6:y6.length<=64) (h4:y4.2.1.length=x.Roots.length+y5.length+y6.length+x.Pins.length):∀ (n:Nat) (k:Int) (v:List UN),0<=k->k<=x.Pins.length->(x.Pins.length-k).toNat<n->(v.length:Int)=k->Ok (QaL N x y4 y5 y6 y7 y8 y9 n k v) λ r=>r.length=x.Pins.length
 | 0,k,v,_,_,hn,_=>by omega
 | n+1,k,v,h0,hk,hn,hv=>by
  rw[QaL]
  refine Wo (λ hc=>?_) λ hc=>Wg (by have:=WH hc;omega)
  have hc:k<x.Pins.length:=Wr hc
  rw[Xc (n:=k+1) (by omega) (by omega),Xc (n:=((x.Roots.length:Nat):Int)+((y5.length:Nat):Int)) (by omega) (by omega),Xc (n:=((x.Roots.length:Nat):Int)+((y5.length:Nat):Int)+((y6.length:Nat):Int)) (by omega) (by omega),Xc (n:=((x.Roots.length:Nat):Int)+((y5.length:Nat):Int)+((y6.length:Nat):Int)+k) (by omega) (by omega)]
  refine Ok.get (by omega) (by omega) λ _ _=>Ok.get h0 hc λ p _=>WS (by omega) ?_
  exact Xg7 y4 y5 y6 y7 y8 y9 hp hr h5 h6 h4 n (k+1) _ (by omega) (by omega) (by omega) (by rw[Wq];simp;omega)
theorem JM (hN:NB N) (hx:EB x):Ok (Qa2 N x) λ r=>EB r.1:=by
 have hN':=hN
 unfold NB at hN'
 have hr:=hx.roots
 have hp:=hx.pins
 rw[Qa2]
 refine WG (Kq hN hx) λ b _ hv=>Wo (λ _=>Wg XbU) λ hb1=>?_
 have hv:=hv (by simpa using hb1)
 have h64:=hv.mat.len
 have l1:=ZV hx.loc
 have l2:=YI x.Globals.Entries
 have l3:=YI x.Weaks.Entries
 refine WG (XbW hN hx) λ y2 _ h2=>?_
 rw[hv.loc,hv.glo] at h2
 rw[hv.loc] at l1
 rw[hv.glo] at l2
 rw[YH hx.wea (by omega),Xa]
 rw[hv.wea] at l3 ⊢
 simp only[Wc] at h2 l1 l2 l3 ⊢
 refine WG (Xf1 hN hx.heap (by omega) (by omega)) λ y4 _ h4=>Wo (λ _=>Wg XbU) λ he=>?_
 obtain ⟨g1,g2⟩:=h4.len (by simpa using he)
 rw[Kx hx.loc (by omega),Xa,YH hx.glo (by omega),Xa,hv.loc,hv.glo]
 simp only[Wc]
 have e1:=Xc (n:=((x.Roots.length:Nat):Int)+(((Yq x.Locals.Slots).length:Nat):Int)) (by omega) (by omega)
 have e2:=Xc (n:=((x.Roots.length:Nat):Int)+(((Yq x.Locals.Slots).length:Nat):Int)+(((X0 x.Globals.Entries).length:Nat):Int)) (by omega) (by omega)
 refine WS (by omega) (WS (by omega) (WS (by omega) (WS (by rw[e1];omega) ?_)))
 refine WG (Xj3 hx.loc (by omega) (by rw[Wz,WO];omega)) λ y7 _ h7=>WS (by rw[e1,e2];omega) ?_
 refine WG (XeZ hx.glo (by omega) (by rw[Wz,WO];omega)) λ y8 _ h8=>?_
 refine WG (XeZ hx.wea (by omega) (by omega)) λ y9 _ h9=>?_
 refine WG (Xg7 y4 (Yq x.Locals.Slots) (X0 x.Globals.Entries) y7 y8 y9 hp hr l1 l2 (by omega) N 0 [] (by omega) (by omega) (by omega) rfl) λ y14 _ h14=>Wg ⟨h4.hb,h7,h8,h9,?_,?_⟩
 ·show y14.length<=_;omega
 ·show (y4.2.1.take _).length<=_
  rw[Wz];omega
theorem XcW (hN:NB N) (hx:EB x) (d:Wy):Ok (Qb2 N x d) λ r=>EB r.1:=by
 rw[Qb2]
 refine WG (Kq hN hx) λ b _ hv=>Wo (λ _=>Wg XbU) λ hb1=>?_
 refine WG (XdJ hN hx.heap d) λ y2 _ h2=>Is (Wo (λ _=>WG (JM hN hx) λ y3 _ h3=>Wo (λ _=>Wg XbU) λ _=>WG (XdJ hN h3.heap d) λ y4 _ h4=>?_) λ _=>?_)
 ·exact Wo (λ _=>Wg XbU) λ _=>Wg ⟨h4,h3.loc,h3.glo,h3.wea,h3.pins,h3.roots⟩
 ·exact Wo (λ _=>Wg XbU) λ _=>Wg ⟨h2,hx.loc,hx.glo,hx.wea,hx.pins,hx.roots⟩
theorem YL (hN:NB N) (hx:EB x) (v:Int):Ok (QaD N x v) λ r=>True:=by
 have hN':=hN
 unfold NB at hN'
 rw[QaD]
 refine WG (Kq hN hx) λ b _ hv=>Wo (λ _=>Wg trivial) λ hb1=>Wo (λ _=>Wg trivial) λ _=>?_
 refine WG (Xap v) λ y _ _=>Wo (λ _=>Wg trivial) λ _=>Wo (λ _=>?_) λ _=>Wo (λ _=>?_) λ _=>?_
 ·rw[VW hx.loc (by omega),Xa];exact Wg trivial
 ·rw[Jj hx.glo (by omega),Xa];exact Wg trivial
 ·rw[Jj hx.wea (by omega),Xa];exact Wg trivial
end
end Go.Sx
namespace Go.Sx
theorem I6 {β κ:Type} {P:β->Prop} {k:κ->Option β} {f:(κ->Option β)->Option β} (h:∀ x,Ok (k x) P) (g:∀ j:κ->Option β,(∀ x,Ok (j x) P)->Ok (f j) P):Ok (Sx.jn k f) P:=by rw[XV];exact g k h
theorem Ua {β:Type} {P:β->Prop} {b:Bool} {x y:Option β} (h1:Ok x P) (h2:Ok y P):Ok (bif b then x else y) P:=by cases b;exact h2;exact h1
theorem Ud {α β:Type} {P:β->Prop} {o:Option α} {Q:α->Prop} {f:α->Option β} (h:Ok o Q) (k:∀ y,Q y->Ok (f y) P):Ok (Sx.bnd o f) P:=WG h λ y _ hq=>k y hq
theorem Ok.t {α:Type} {o:Option α} {P:α->Prop} (h:Ok o P):Ok o λ _=>True:=h.mono λ _ _=>trivial
section
variable {N:Nat} {x:W6}
abbrev EP (r:W6×Int×Int):Prop:=EB r.1
theorem Xh2 (e:Int):Ok (Qac N e) EP:=by rw[Qac];exact Wg XbU
theorem Xq (e:Int):Ok (bnd (Qac N e) λ y=>some (y.1,y.2.1,y.2.2)) EP:=Ud (Xh2 e) λ y hy=>Wg hy
theorem Xj4 (a b c:Int):Ok (Qb1 N a b c) λ _=>True:=by
 rw[Qb1]
 exact Ua (Ua (Wg trivial) (Wg trivial)) (Wg trivial)
theorem J4 (hN:NB N) (hx:EB x) (a:Int):Ok (Qb3 N x a) EP:=by
 have hN':=hN
 unfold NB at hN'
 rw[Qb3]
 refine Ua (Wg hx) ?_
 rw[VV hx.loc (by omega),Xa]
 exact Ua (Xq _) (Ud (Zg _) λ y _=>Wg ⟨hx.heap,Xg0 hx.loc a,hx.glo,hx.wea,hx.pins,hx.roots⟩)
theorem Xf4 (hN:NB N) (hx:EB x) (a b c:Int):Ok (QcP N x a b c) EP:=by
 have hN':=hN
 unfold NB at hN'
 rw[QcP]
 refine Ua (Xq _) (Ud (Xj4 _ _ _) λ y _=>Is (Ua (Xq _) (Ud (Xg6 hN _ _) λ z _=>Ua (Xq _) ?_)))
 rw[VV hx.loc (by omega),Xa]
 exact Ua (Xq _) (Ud (XcW hN hx _) λ y7 h7=>Ua (Xq _) (Ud (J4 hN h7 _) λ y9 h9=>Wg h9))
theorem J5 (hN:NB N) (hx:EB x) (a:Int):Ok (QcI N x a) λ _=>True:=by
 rw[QcI]
 exact Ud (YL hN hx a) λ y _=>Ua (Ua (Wg trivial) (Wg trivial)) (Wg trivial)
theorem XcX (hN:NB N) (hx:EB x) (a b:Int) (c:Bool):Ok (QcJ N x a b c) λ _=>True:=by
 rw[QcJ]
 refine Ud (J5 hN hx a) λ y _=>Ua (Wg trivial) (Ud (Vr hN hx.heap _) λ z _=>Ua (Wg trivial) ?_)
 rw[J0,Xa]
 exact Ua (Wg trivial) (Wg trivial)
theorem Xh3 (hN:NB N) (hx:EB x) (a b c d:Int):Ok (Qdp N x a b c d) EP:=by
 rw[Qdp]
 have sf:∀ i j v:Int,Ok (α:=W6×Int×Int) (bnd (Qbm N x.Heap i j v) λ y12=>some ((W6.mk y12.1 x.Locals x.Globals x.Weaks x.Pins x.Roots),0,0)) EP:=λ i j v =>
  Ud (XeO hN hx.heap i j v) λ y hy=>Wg ⟨hy,hx.loc,hx.glo,hx.wea,hx.pins,hx.roots⟩
 refine Is (Ua (Ud (XcX hN hx _ _ _) λ y _=>?_) (Ud (XcX hN hx _ _ _) λ y _=>?_))<;>
 exact Ua (Xq _) (Ud (XbH hN hx.heap _ _) λ z _=>Ua (Wg hx) (Ua (Ud (J4 hN hx _) λ y8 h8=>Wg h8) (Is (Ua (Ud (YL hN hx _) λ y9 _=>Ua (Xq _) (sf _ _ _)) (sf _ _ _)))))
theorem Xh4 (hN:NB N) (hx:EB x) (a b c:Int):Ok (Qdq N x a b c) EP:=by
 rw[Qdq]
 refine I6 (λ b1=>Ua (Ud (J5 hN hx _) λ y _=>Ua (Xq _) (Ud (Vr hN hx.heap _) λ z _=>Ua (Wg hx) (Wg hx))) (Ua (Ud (YL hN hx _) λ y _=>Ua (Xq _) (Ud (YL hN hx _) λ z _=>Ua (Xq _) (Ua (Wg hx) (Wg hx)))) (Ud (YL hN hx _) λ y _=>Ua (Xq _) (Ud (J4 hN hx _) λ z hz=>Wg hz)))) λ j hj=>Ua (hj _) (hj _)
theorem Xe6 (hN:NB N) (hx:EB x) (a b:Int):Ok (Qcu N x a b) EP:=by
 have hN':=hN
 unfold NB at hN'
 rw[Qcu]
 refine Ud (J5 hN hx _) λ y _=>Ua (Xq _) (Is (Ua ?_ ?_))
 ·show Ok (bnd (Qce N ⟨x.Weaks.Entries⟩ y.1) _) EP;rw[KJ (t:=⟨x.Weaks.Entries⟩) hx.wea (by omega),Xa]
  have h:=Xg4 (t:=⟨x.Weaks.Entries⟩) hx.wea y.1
  exact Ua (Xq _) (Is (Ua (Ud (Zg _) λ z _=>Wg ⟨hx.heap,hx.loc,hx.glo,h,hx.pins,hx.roots⟩) (Ud (Zg _) λ z _=>Wg ⟨hx.heap,hx.loc,h,hx.wea,hx.pins,hx.roots⟩)))
 ·show Ok (bnd (Qce N ⟨x.Globals.Entries⟩ y.1) _) EP;rw[KJ (t:=⟨x.Globals.Entries⟩) hx.glo (by omega),Xa]
  have h:=Xg4 (t:=⟨x.Globals.Entries⟩) hx.glo y.1
  exact Ua (Xq _) (Is (Ua (Ud (Zg _) λ z _=>Wg ⟨hx.heap,hx.loc,hx.glo,h,hx.pins,hx.roots⟩) (Ud (Zg _) λ z _=>Wg ⟨hx.heap,hx.loc,h,hx.wea,hx.pins,hx.roots⟩)))
theorem Xf5 (hN:NB N) (hx:EB x) (a b:Int):Ok (QcQ N x a b) EP:=by
 have hN':=hN
 unfold NB at hN'
 rw[QcQ]
 refine Ua (Xq _) (Ud (YL hN hx _) λ y _=>Ua (Xq _) (Ud (Xap _) λ z _=>I6 (λ _=>Ua ?_ (Ua ?_ ?_)) λ j2 h2=>I6 (λ _=>Xq _) λ j1 h1=>?_))
 ·rw[XdI hx.loc (by omega),Xa];exact Wg ⟨hx.heap,Xg1 hx.loc _ _,hx.glo,hx.wea,hx.pins,hx.roots⟩
 ·rw[J1 hx.glo (by omega),Xa];exact Wg ⟨hx.heap,hx.loc,Xg5 hx.glo _ _,hx.wea,hx.pins,hx.roots⟩
 ·rw[J1 hx.wea (by omega),Xa];exact Wg ⟨hx.heap,hx.loc,hx.glo,Xg5 hx.wea _ _,hx.pins,hx.roots⟩
 ·repeat' first
   | exact h1 _
   | exact h2 _
   | refine Ua ?_ ?_
theorem Xf6 (hN:NB N) (hx:EB x) (a b:Int):Ok (QcR N x a b) EP:=by
 have hN':=hN
 unfold NB at hN'
 rw[QcR]
 refine Ua (Ua (Xq _) ?_) (Ud (YL hN hx _) λ y _=>Ua (Xq _) ?_)
 ·rw[VX hx.loc (by omega),Xa]
  exact Ua (Xq _) (Wg ⟨hx.heap,XeY hx.loc _,hx.glo,hx.wea,hx.pins,hx.roots⟩)
 ·rw[Xa6 hx.loc (by omega),Xa]
  exact Ua (Xq _) (Ud (J4 hN (x:=⟨x.Heap,(ZG x.Locals).1,x.Globals,x.Weaks,x.Pins,x.Roots⟩) ⟨hx.heap,Xa7 hx.loc,hx.glo,hx.wea,hx.pins,hx.roots⟩ _) λ z hz=>Wg hz)
theorem Xj5 (hN:NB N) (hx:EB x) (a b:Int):Ok (QdK N x a b) EP:=by
 rw[QdK]
 refine Ud (J5 hN hx _) λ y _=>Ua (Xq _) (Ua (Ud (Xf3 hN hx.heap hx.pins _) λ z hz=>Ua (Xq _) (Wg ⟨hz.1,hx.loc,hx.glo,hx.wea,hz.2,hx.roots⟩)) (Ud (Xh1 hN hx.heap hx.pins _) λ z hz=>Ua (Xq _) (Wg ⟨hz.1,hx.loc,hx.glo,hx.wea,hz.2,hx.roots⟩)))
theorem Xj6 (hN:NB N) (hx:EB x) (op a b c:Int):Ok (QdL N x op a b c) EP:=by
 rw[QdL]
 have thr:∀ {o:Option (W6×Int×Int)},Ok o EP->Ok (bnd o λ y=>some (y.1,y.2.1,y.2.2)) EP:=λ h=>Ud h λ y hy=>Wg hy
 refine Ud (Kq hN hx) λ b1 _=>Ua (Xq _) ?_
 refine I6 (λ x1=>Ua (thr (Xf4 hN hx _ _ _)) ?_) λ j2 h2=>?_
 ·refine I6 (λ x1=>Ua (thr (Xh3 hN hx _ _ _ _)) ?_) λ j h=>?_
  ·refine I6 (λ x1=>Ua (thr (Xh4 hN hx _ _ _)) ?_) λ j h=>?_
   ·refine I6 (λ x1=>Ua (thr (Xe6 hN hx _ _)) ?_) λ j h=>?_
    ·refine I6 (λ x1=>Ua (thr (Xf5 hN hx _ _)) ?_) λ j h=>?_
     ·refine I6 (λ x1=>Ua (thr (Xf6 hN hx _ _)) ?_) λ j h=>?_
      ·refine I6 (λ x1=>Ua (thr (Xj5 hN hx _ _)) (Xq _)) λ j h=>Ua (h _) (h _)
      ·exact Ua (h _) (h _)
     ·exact Ua (h _) (I6 (λ x1=>h _) λ j h=>Ua (h _) (h _))
    ·exact Ua (h _) (h _)
   ·exact Ua (h _) (I6 (λ x1=>h _) λ j h=>Ua (h _) (I6 (λ x1=>h _) λ j h=>Ua (h _) (h _)))
  ·exact Ua (h _) (I6 (λ x1=>h _) λ j h=>Ua (h _) (I6 (λ x1=>h _) λ j h=>Ua (h _) (h _)))
 ·exact Ua (h2 _) (I6 (λ x1=>h2 _) λ j h=>Ua (h _) (h _))
end
end Go.Sx
namespace Go.Sx
structure WB (k:Nat) (w:WM):Prop where
 kk:k<=900
 things:w.Things.length<=k
 fields:∀ x∈w.Things,x.Fields.length<=1000
 loc:LBp w.Locals
 gloK:w.Globals.Entries.length<=1000+k
 weaK:w.Weaks.Entries.length<=1000+k
 marksK:w.Marks.length<=100+k
 rootsK:w.Roots.length<=100+k
theorem WB.glo {k:Nat} {w:WM} (h:WB k w):TB w.Globals:=by have:=h.kk;have:=h.gloK;unfold TB;omega
theorem WB.wea {k:Nat} {w:WM} (h:WB k w):TB w.Weaks:=by have:=h.kk;have:=h.weaK;unfold TB;omega
theorem WB.marks {k:Nat} {w:WM} (h:WB k w):w.Marks.length<=1000:=by have:=h.kk;have:=h.marksK;omega
theorem WB.roots {k:Nat} {w:WM} (h:WB k w):w.Roots.length<=1000:=by have:=h.kk;have:=h.rootsK;omega
def Jq (d:Wy):Nat->List Int->List Int
 | _,[]=>[]
 | k,f::fs=>if KD d k then f::Jq d (k+1) fs else Jq d (k+1) fs
def XbX (x:Il):List Int:=Jq x.Header 0 x.Fields
theorem Xaq (d:Wy):∀ (k:Nat) (l:List Int),(Jq d k l).length<=l.length
 | k,[]=>by simp[Jq]
 | k,f::fs=>by
  have:=Xaq d (k+1) fs
  unfold Jq
  split<;>simp<;>omega
def Zh (n:Nat) (l:List Int):Bool:=l.all λ p=>!decide (p>(n:Int))
def YM (l:List IA) (id:Int):Int:=match l.findIdx? (λ m=>m.Id==id) with | some k=>(k:Int) | none=>-1
def XbY (n:Nat) (x:Il):Bool:=Xx x.Header&&(!(x.Header.Kind==0)&&(!(((x.Fields.length:Nat):Int) != x.Header.Length)&&Zh n (XbX x)))
def Xg8 (n:Nat) (l:List IA) (_:Unit) (i:Nat) (m:IA):Bool:=!decide (m.Id<1)&&(!decide (m.Id>(n:Int))&&(!(YM l m.Id != (i:Int))&&(!decide (m.Count<1)&&!decide (m.Count>1000))))
def XdK (n:Nat) (l:List IA):Bool:=Zf (Xg8 n l) (λ s _=>s) () 0 l
def Ys (w:WM):Bool:=XZ w.Conf&&(Y4 w.Locals&&(YS w.Globals.Entries&&(YS w.Weaks.Entries&&(!decide (((w.Marks.length:Nat):Int)>64)&&(w.Things.all (XbY w.Things.length)&&(((X0 w.Globals.Entries).all λ p=>!(p==0))&&(XdK w.Things.length w.Marks&&(Zh w.Things.length w.Roots&&(Zh w.Things.length (Yq w.Locals.Slots)&&(Zh w.Things.length (X0 w.Globals.Entries)&&Zh w.Things.length (X0 w.Weaks.Entries)))))))))))
section
variable {N:Nat} {w:WM}
theorem K4 (ht:w.Things.length<=1000) {l:List Int} (hl:l.length<=1000000) (hN:1000000<N):QcO N w l=some (Zh w.Things.length l):=by
 have h:=KG (l:=l) (F:=QcN N w l) (q:=λ _ p=>!decide (p>(w.Things.length:Int))) (λ n k p e=>by
  have hk:=Xy e
  rw[QcN,XE hk,Wc,Xd,e,Xa,Xh (by omega),Xv (by omega) (by omega)]
  cases decide (p>(w.Things.length:Int))<;>rfl) (λ n=>by rw[QcN,Xs,Wa]) (n:=N) (by omega)
 rw[Zv] at h
 rw[QcO,h,Xa,Zh]
 cases l.all λ p=>!decide (p>(w.Things.length:Int))
 ·rw[Wa,XC]
 ·rw[Wc,Xr]
theorem XbZ {x:Il} (hl:x.Fields.length<=1000000):∀ (n k:Nat) (v:List Int),k<=x.Fields.length->x.Fields.length-k<n->v.length<=k->Qdx N x n (k:Int) v=some (v++Jq x.Header k (x.Fields.drop k))
 | 0,k,v,_,hn,_=>by omega
 | n+1,k,v,hk,hn,hlv=>by
  rw[Qdx]
  by_cases h:k<x.Fields.length
  ·rw[XE h,Wc,J0,Xa,Xh (by omega),Wu h,Jq]
   cases hp:KD x.Header (k:Int)
   ·rw[Wa,Wk (by simp),XbZ hl n (k+1) v (by omega) (by omega) (by omega)]
   ·rw[Wc,Wm rfl,Xd,Wd h,Xa,Xe (by omega),XbZ hl n (k+1) _ (by omega) (by omega) (by rw[Wq];simp;omega)]
    simp
  ·obtain rfl:k=x.Fields.length:=by omega
   rw[Xs,Wa,WL (Uf _)]
   simp[Jq]
theorem Xe7 {x:Il} (hl:x.Fields.length<=1000000) (hN:1000000<N):QfB N x=some (XbX x):=by
 have h:=XbZ (N:=N) (x:=x) hl N 0 [] (by omega) (by omega) (by simp)
 rw[show ((0:Nat):Int)=0 from rfl,WX,Uw] at h
 rw[QfB,h,Xa];rfl
theorem Xg9 (id:Int) (hl:w.Marks.length<=1000000):∀ (n k:Nat),k<=w.Marks.length->w.Marks.length-k<n->Qeb N w id n (k:Int)=some (match (w.Marks.drop k).findIdx? (λ m=>m.Id==id) with | some j=>.ret ((k+j:Nat):Int) | none=>.nxt ())
 | 0,k,_,hn=>by omega
 | n+1,k,hk,hn=>by
  rw[Qeb]
  by_cases h:k<w.Marks.length
  ·rw[XE h,Wc,Xd,Wd h,Xa,Xh (by omega),Wu h,List.findIdx?_cons]
   cases hm:(w.Marks[k].Id==id)
   ·rw[Wa,Xg9 id hl n (k+1) (by omega) (by omega),Wk (by simp)]
    cases (w.Marks.drop (k+1)).findIdx? (λ m=>m.Id==id) with
    | none=>rfl
    | some j=>simp only[Im];rw[show k+1+j=k+(j+1) by omega]
   ·rw[Wc,Wm rfl];simp
  ·obtain rfl:k=w.Marks.length:=by omega
   rw[Xs,Wa,WL (Uf _)]
   rfl
theorem XdL (hl:w.Marks.length<=1000000) (hN:1000000<N) (id:Int):QeR N w id=some (YM w.Marks id):=by
 have h:=Xg9 (N:=N) id hl N 0 (by omega) (by omega)
 rw[show ((0:Nat):Int)=0 from rfl,WX] at h
 rw[QeR,h,Xa,YM]
 cases w.Marks.findIdx? (λ m=>m.Id==id) with
 | none=>simp only[Xr]
 | some j=>simp only[XC,Ux]
theorem Xe8 {a:Ww} (h:Y4 a=true):(Yq a.Slots).length<=4096:=by
 have hf:=Z4.1 h
 have:=hf.slots
 have:=hf.iss
 have:=XcS a.Slots
 omega
theorem VY {l:List Ub} (h:YS l=true):(X0 l).length<=64:=by
 have:=VU h
 have:=Xan l
 omega
theorem Xa9 {k:Nat} (hw:WB k w) (hN:1000000<N):QdP N w=some (Ys w):=by
 have hk:=hw.kk
 have ht:=hw.things
 have hm:=hw.marks
 have hr:=hw.roots
 rw[QdP,Yy,Xa,Ys]
 cases XZ w.Conf
 ·rfl
 rw[Ws,Wa,ZF hw.loc hN,Xa,WR]
 cases hv1:Y4 w.Locals
 ·rfl
 rw[Ws,Wa,ZE hw.glo hN,Xa,WR]
 cases hv2:YS w.Globals.Entries
 ·rfl
 rw[Ws,Wa,ZE hw.wea hN,Xa,WR]
 cases hv3:YS w.Weaks.Entries
 ·rfl
 rw[Ws,Wa,WR]
 cases decide (((w.Marks.length:Nat):Int)>64)
 rotate_left
 ·rfl
 rw[Wa,WU,WR]
 have h1:=KG (l:=w.Things) (F:=Qdd N w) (q:=λ _=>XbY w.Things.length) (λ n k p e=>by
  have hk:=Xy e
  have hpf:=hw.fields p (Uh e)
  have hrl:=Xaq p.Header 0 p.Fields
  rw[Qdd,XE hk,Wc,Xd,e,Xa,YZ,Xa,Xe7 (by omega) hN,Xa,K4 (by omega) (by unfold XbX;omega) hN,Xa,Xh (by omega)]
  unfold XbY
  cases Xx p.Header<;>cases (p.Header.Kind==0)<;>cases (((p.Fields.length:Nat):Int) != p.Header.Length)<;>cases Zh w.Things.length (XbX p)<;>rfl) (λ n=>by rw[Qdd,Xs,Wa]) (n:=N) (by omega)
 rw[Zv] at h1
 rw[h1,Xa]
 cases w.Things.all (XbY w.Things.length)
 ·rw[Wa,XC];rfl
 rw[Wc,Xr,YH hw.glo hN,Xa,hv2,Wc,WR]
 have g64:=VY hv2
 have h2:=KG (l:=X0 w.Globals.Entries) (F:=Qde N w (X0 w.Globals.Entries)) (q:=λ _ p=>!(p==0)) (λ n k p e=>by
  have hk:=Xy e
  rw[Qde,Xe (by omega),XE hk,Wc,Xd,e,Xa,Xh (by omega)]
  cases (p==0)<;>rfl) (λ n=>by rw[Qde,Xe (by omega),Xs,Wa]) (n:=N) (by omega)
 rw[Zv] at h2
 rw[h2,Xa]
 cases (X0 w.Globals.Entries).all λ p=>!(p==0)
 ·rw[Wa,XC];rfl
 rw[Wc,Xr,WR]
 have h3:=KG (l:=w.Marks) (F:=Qdf N w (X0 w.Globals.Entries)) (q:=Xg8 w.Things.length w.Marks ()) (λ n k p e=>by
  have hk:=Xy e
  rw[Qdf,XE hk,Wc,Xd,e,Xa,XdL (by omega) hN,Xa,Xh (by omega),Xv (by omega) (by omega)]
  unfold Xg8
  cases decide (p.Id<1)<;>cases decide (p.Id>(w.Things.length:Int))<;>cases (YM w.Marks p.Id != (k:Int))<;>cases decide (p.Count<1)<;>cases decide (p.Count>1000)<;>rfl) (λ n=>by rw[Qdf,Xs,Wa]) (n:=N) (by omega)
 rw[h3,Xa]
 show exK (bif XdK w.Things.length w.Marks then Ex.nxt () else Ex.ret false) _ _=_
 cases XdK w.Things.length w.Marks
 ·rw[Wa,XC];rfl
 rw[Wc,Xr,K4 (by omega) (by omega) hN,Xa,WR]
 cases Zh w.Things.length w.Roots
 ·rfl
 have s1:=Xe8 hv1
 rw[Wc,Kx hw.loc hN,Xa,hv1,Wc,K4 (by omega) (by omega) hN,Xa,WR]
 cases Zh w.Things.length (Yq w.Locals.Slots)
 ·rfl
 rw[Wc,K4 (by omega) (by omega) hN,Xa,WR]
 cases Zh w.Things.length (X0 w.Globals.Entries)
 ·rfl
 have s3:=VY hv3
 rw[Wc,YH hw.wea hN,Xa,hv3,Wc,K4 (by omega) (by omega) hN,Xa,WR]
end
end Go.Sx
namespace Go.Sx
def ZH (v:Int):U8×Int :=
 if v=0 then (⟨0,0,0⟩,5) else if 1<=v % 4/\1<=v / 262144/\v / 262144<=4294967295 then (⟨v % 4,v / 4 % 65536,v / 262144⟩,0) else (⟨0,0,0⟩,6)
theorem Xf7 {N:Nat} {v:Int} (hv:tU v):QbN N v=some (ZH v):=by
 obtain ⟨h0,h1⟩:=hv
 rw[QbN,ZH]
 by_cases hz:v=0
 ·subst hz;rfl
 rw[show (v==0)=false by simpa using hz,Wa,Wk hz]
 have a1:Yv .u64 v 3=v % 4:=Yu v 2 (by omega) h0 h1
 have a2:X5 .u64 v 2=v / 4:=YF v 2 (by omega) h0
 have a3:Yv .u64 (v / 4) 65535=v / 4 % 65536:=Yu (v / 4) 16 (by omega) (by omega) (by omega)
 have a4:X5 .u64 v 18=v / 262144:=YF v 18 (by omega) h0
 rw[a2,a1,a3,a4,Xc (n:=v % 4) (by omega) (by omega),Xc (n:=v / 4 % 65536) (by omega) (by omega),Xc (n:=v / 262144) (by omega) (by omega),Qbv,QfT]
 have s1:∀ x:Int,ZM .u64 x 2=wU (x*4):=λ _=>rfl
 have s2:∀ x:Int,ZM .u64 x 18=wU (x*262144):=λ _=>rfl
 rw[Wh (show v / 4 % 65536>=0 by omega),Wh (show v / 4 % 65536<=65535 by omega),Wh (show v % 4<=3 by omega)]
 simp only[Wc]
 by_cases g1:v % 4>=1
 ·rw[Wh g1,Wc]
  by_cases g2:v / 262144>=1
  ·rw[Wh g2,Wc,Xa]
   by_cases g3:v / 262144<=4294967295
   ·rw[Wh g3,Ws,Wa,Xa,Wm ⟨g1,g2,g3⟩]
    have e:wU (wU (wU (v % 4)+ZM .u64 (wU (v / 4 % 65536)) 2)+ZM .u64 (wU (v / 262144)) 18)=v:=by
     rw[s1,s2,Xv (n:=v % 4) (by omega) (by omega),Xv (n:=v / 4 % 65536) (by omega) (by omega),Xv (n:=v / 262144) (by omega) (by omega),Xv (n:=v / 4 % 65536*4) (by omega) (by omega),Xv (n:=v / 262144*262144) (by omega) (by omega),Xv (n:=v % 4+v / 4 % 65536*4) (by omega) (by omega),Xv (by omega) (by omega)]
     omega
    simp only[e]
    rw[show ((0:Int) != 0)=false from rfl,Wa,show (v != v)=false by simp,Wa]
   ·rw[Wj g3,WU,Wc,Xa,Wk (λ h=>g3 h.2.2)];rfl
  ·rw[Wj g2,Wa,Xa,WU,Wc,Xa,Wk (λ h=>g2 h.2.1)];rfl
 ·rw[Wj g1,Wa,Xa,WU,Wc,Xa,Wk (λ h=>g1 h.1)];rfl
def Za (w:WM) (v:Int):Int×Int :=
 if v=0 then (0,0) else if (ZH v).2≠0 then (0,(ZH v).2) else
 if (ZH v).1.Tag=1 then Zl w.Locals (ZH v).1.Index (ZH v).1.Stamp else
 if (ZH v).1.Tag=2 then Y2 w.Globals.Entries (ZH v).1.Index (ZH v).1.Stamp else Y2 w.Weaks.Entries (ZH v).1.Index (ZH v).1.Stamp
def XD (w:WM) (a:Int):Int×Int:=if (Za w a).2=0/\(Za w a).1=0 then (0,5) else Za w a
structure WF (w:WM):Prop where
 conf:XZ w.Conf=true
 loc:Y4 w.Locals=true
 glo:YS w.Globals.Entries=true
 wea:YS w.Weaks.Entries=true
 m64:w.Marks.length<=64
 thing:∀ x∈w.Things,Xx x.Header=true/\x.Header.Kind≠0/\(x.Fields.length:Int)=x.Header.Length/\∀ r∈XbX x,r<=w.Things.length
 mark:XdK w.Things.length w.Marks=true
 roots:∀ r∈w.Roots,r<=w.Things.length
 rloc:∀ r∈Yq w.Locals.Slots,r<=w.Things.length
 rglo:∀ r∈X0 w.Globals.Entries,r<=w.Things.length
 rwea:∀ r∈X0 w.Weaks.Entries,r<=w.Things.length
theorem Ky {n:Nat} {l:List Int}:Zh n l=true↔∀ r∈l,r<=n:=by
 unfold Zh
 simp only[Uc,Uv,Ue]
 exact ⟨λ h r hr=>by have:=h r hr;omega,λ h r hr=>by have:=h r hr;omega⟩
theorem Kr {w:WM} (h:Ys w=true):WF w:=by
 unfold Ys at h
 simp only[WE,Uv,Ue] at h
 obtain ⟨h1,h2,h3,h4,h5,h6,h7,h8,h9,h10,h11,h12⟩:=h
 refine ⟨h1,h2,h3,h4,by omega,λ x hx=>?_,h8,Ky.1 h9,Ky.1 h10,Ky.1 h11,Ky.1 h12⟩
 have:=(Uc.1 h6) x hx
 unfold XbY at this
 simp only[WE,Uv,bne_eq_false_iff_eq,IF] at this
 exact ⟨this.1,this.2.1,this.2.2.1,Ky.1 this.2.2.2⟩
theorem WF.mk_ {w:WM} (h:WF w) {k:Nat} {m:IA} (hm:w.Marks[k]? = some m):1<=m.Id/\m.Id<=w.Things.length/\1<=m.Count/\m.Count<=1000:=by
 have:=(KH w.Marks () 0).1 h.mark k m hm
 unfold Xg8 at this
 simp only[WE,Uv,Ue] at this
 obtain ⟨h1,h2,_,h3,h4⟩:=this
 omega
theorem Xh5 {l:List UX} {p:UX} (hp:p∈l) (hL:p.Live=true):p.Ref∈Yq l:=by
 unfold Yq;exact UY.2 ⟨p,UV.2 ⟨hp,hL⟩,rfl⟩
theorem Xh6 {l:List Ub} {p:Ub} (hp:p∈l) (hL:p.Live=true):p.Ref∈X0 l:=by
 unfold X0;exact UY.2 ⟨p,UV.2 ⟨hp,hL⟩,rfl⟩
theorem Xf8 (a:Ww) (i g:Int):(Zl a i g).2=0\/(Zl a i g).1=0:=by
 unfold Zl
 split
 ·exact .inr rfl
 split
 ·exact .inr rfl
 split
 ·exact .inr rfl
 split
 ·exact .inr rfl
 split
 ·exact .inr rfl
 split
 ·exact .inr rfl
 split
 ·exact .inl rfl
 ·exact .inr rfl
theorem Xf9 (l:List Ub) (i g:Int):(Y2 l i g).2=0\/(Y2 l i g).1=0:=by
 unfold Y2
 split
 ·exact .inr rfl
 split
 ·exact .inr rfl
 split
 ·exact .inr rfl
 split
 ·exact .inr rfl
 split
 ·exact .inr rfl
 split
 ·exact .inl rfl
 ·exact .inr rfl
theorem Xmn {w:WM} (h:WF w) (v:Int):(Za w v).1<=w.Things.length:=by
 have g:∀ i g,(Zl w.Locals i g).1<=w.Things.length:=by
  intro i g
  by_cases he:(Zl w.Locals i g).2=0
  ·obtain ⟨_,_,p,hp,_,hL,e⟩:=XcT he
   rw[e];exact h.rloc _ (Xh5 (Uh hp) hL)
  ·have:=(Xf8 w.Locals i g).resolve_left he
   omega
 have t:∀ (t:WI),(∀ r∈X0 t.Entries,r<=w.Things.length)->∀ i g,(Y2 t.Entries i g).1<=w.Things.length:=by
  intro t ht i g
  by_cases he:(Y2 t.Entries i g).2=0
  ·obtain ⟨_,_,p,hp,_,hL,e⟩:=XcU he
   rw[e];exact ht _ (Xh6 (Uh hp) hL)
  ·have:=(Xf9 t.Entries i g).resolve_left he
   omega
 unfold Za
 split
 ·simp
 split
 ·simp
 split
 ·exact g _ _
 split
 ·exact t _ h.rglo _ _
 ·exact t _ h.rwea _ _
section
variable {N:Nat} {w:WM} {k:Nat}
theorem KO (hw:WB k w) (hN:1000000<N) (hv:Ys w=true) {v:Int} (tv:tU v):QaE N w v=some (Za w v):=by
 rw[QaE,Xa9 hw hN,Xa,hv,Ws,Wa,Za]
 by_cases hz:v=0
 ·rw[Wm hz,hz];rfl
 rw[Wk hz,show (v==0)=false by simpa using hz,Wa,Xf7 tv,Xa]
 by_cases he:(ZH v).2=0
 ·rw[he,show ((0:Int) != 0)=false from rfl,Wa,Wk (by simp)]
  by_cases h1:(ZH v).1.Tag=1
  ·rw[Wm h1,h1,show ((1:Int)==1)=true from rfl,Wc,VW hw.loc hN,Xa]
  rw[Wk h1,show ((ZH v).1.Tag==1)=false by simpa using h1,Wa]
  by_cases h2:(ZH v).1.Tag=2
  ·rw[Wm h2,h2,show ((2:Int)==2)=true from rfl,Wc,Jj hw.glo hN,Xa]
  rw[Wk h2,show ((ZH v).1.Tag==2)=false by simpa using h2,Wa,Jj hw.wea hN,Xa]
 ·rw[show ((ZH v).2 != 0)=true by simpa using he,Wc,Wm he]
theorem VZ (hw:WB k w) (hN:1000000<N) (hv:Ys w=true) {v:Int} (tv:tU v):QdU N w v=some (XD w v):=by
 rw[QdU,KO hw hN hv tv,Xa,XD]
 by_cases he:(Za w v).2=0
 ·rw[he,show ((0:Int)==0)=true from rfl,Wc]
  by_cases h1:(Za w v).1=0
  ·rw[h1,Wm ⟨rfl,rfl⟩];rfl
  ·rw[show ((Za w v).1==0)=false by simpa using h1,Wa,Wk (λ h=>h1 h.2)]
   rw[← he]
 ·rw[show ((Za w v).2==0)=false by simpa using he,Wa,Wk (λ h=>he h.1)]
end
end Go.Sx
namespace Go.Sx
def zTh:Il:=⟨⟨0,0,0⟩,[]⟩
def thg (w:WM) (id:Int):Il:=w.Things.getD (id-1).toNat zTh
def KP (a:Ww) (id:Int):Int:=if id=0 then 0 else (Vu a id).2.2.2
def okW (op a b:Int):Prop:=a<=2147483647/\(op=1->b<=4294967295)
instance (op a b:Int):Decidable (okW op a b):=by unfold okW;infer_instance
def hdW (op a b:Int):Wy:=⟨op,a,if op=1 then b else 0⟩
def XcY (c:WT) (d:Wy):Bool:=Xx d&&(d.Kind != 0&&Xz c (XF d) != -1)
def V0 (w:WM) (op a b:Int) (failed:Bool):Int :=
 if w.Marks.length>0 then 15 else if ¬ okW op a b then 1 else if XcY w.Conf (hdW op a b)=false then 1 else
 if KP w.Locals 1≠0 then KP w.Locals 1 else if failed then 3 else 0
def XaO (op:Int):Bool:=op==8||op==9
def Xba (w:WM) (op a b c:Int):Int :=
 if (XD w a).2≠0 then (XD w a).2 else if b>=(thg w (XD w a).1).Header.Length then 2 else
 if KD (thg w (XD w a).1).Header b≠XaO op then 4 else
 if op=8 then KP w.Locals ((thg w (XD w a).1).Fields.getD b.toNat 0) else if op=9 then (Za w c).2 else 0
def Xb0 (w:WM) (op a:Int):Int :=
 if a=0 then 5 else if (Za w a).2≠0 then (Za w a).2 else
 if (ZH a).1.Tag≠(if op=16 then 3 else if op=14 then 2 else 1) then 4 else 0
def Xga (w:WM) (op a:Int):Int :=
 if (XD w a).2≠0 then (XD w a).2 else (JJ (if op=15 then w.Weaks else w.Globals) (XD w a).1).2.2.2
def XdM (w:WM) (op a:Int):Int :=
 if op=17 then (if a>64 then 1 else (Jk w.Locals a).2) else
 if (Za w a).2≠0 then (Za w a).2 else if (ZG w.Locals).2≠0 then (ZG w.Locals).2 else KP (ZG w.Locals).1 (Za w a).1
def XcZ (l:List IA) (i:Int):IA:=l.getD i.toNat ⟨0,0,0⟩
def Xha (w:WM) (op a:Int) (failed:Bool):Int :=
 if (XD w a).2≠0 then (XD w a).2 else
 if op=20 then (if YM w.Marks (XD w a).1<0 then 12 else 0) else
 if 0<=YM w.Marks (XD w a).1/\(XcZ w.Marks (YM w.Marks (XD w a).1)).Count=1000 then 18 else
 if YM w.Marks (XD w a).1<0/\w.Marks.length=64 then 18 else if failed then 18 else 0
def Xb1 (w:WM) (op a b:Int):Int :=
 if op=4\/op=5 then (XD w a).2 else if (Za w a).2≠0 then (Za w a).2 else
 if op=10 then (Za w b).2 else KP w.Locals (Za w a).1
def Xj7 (w:WM) (op a b c:Int) (failed:Bool):Int :=
 if Ys w=false then 19 else
 if op=1\/op=2\/op=3 then V0 w op a b failed else
 if op=6\/op=7\/op=8\/op=9 then Xba w op a b c else
 if op=12\/op=14\/op=16 then Xb0 w op a else
 if op=13\/op=15 then Xga w op a else
 if op=17\/op=18 then XdM w op a else
 if op=19\/op=20 then Xha w op a failed else
 if op=4\/op=5\/op=10\/op=11 then Xb1 w op a b else 1
theorem XQ {a b:Int} (h:¬ a=b):(a==b)=false:=by simpa using h
theorem Yh {a b:Int} (h:a=b):(a==b)=true:=by simpa using h
theorem Zi {a b:Int} (h:a=b):(a != b)=false:=by simpa using h
theorem Zb {a b:Int} (h:¬ a=b):(a != b)=true:=by simpa using h
section
variable {N:Nat} {w:WM} {k:Nat}
theorem Xmo (hw:WB k w) (hv:Ys w=true) (tw:XS w) {v:Int} (tv:tU v):tU (Za w v).1:=by
 have:=QeW (N:=1000001) tw tv
 exact this _ (KO (N:=1000001) hw (by omega) hv tv)
theorem Xc0 (hw:WB k w) (hv:Ys w=true) (tw:XS w) {v:Int} (tv:tU v) (h:(XD w v).2=0):1<=(XD w v).1/\(XD w v).1<=w.Things.length/\XD w v=Za w v:=by
 have h1:=Xmo hw hv tw tv
 have h2:=Xmn (Kr hv) v
 unfold XD at h ⊢
 by_cases hc:(Za w v).2=0/\(Za w v).1=0
 ·rw[Wm hc] at h;cases h
 ·rw[Wk hc] at h ⊢
  have h3:(Za w v).1≠0:=λ e=>hc ⟨h,e⟩
  unfold tU at h1
  exact ⟨by omega,h2,rfl⟩
theorem KK (hw:WB k w) {id:Int} (h1:1<=id) (h2:id<=w.Things.length):Xb w.Things (wU (id-1))=some (thg w id)/\thg w id∈w.Things:=by
 have hk:=hw.kk
 have ht:=hw.things
 have e:=Wd (show (id-1).toNat<w.Things.length by omega)
 have e2:thg w id=w.Things[(id-1).toNat]'(by omega):=by unfold thg;rw[Wp,e];rfl
 rw[Xv (by omega) (by omega),Yc (by omega) (by omega),e2]
 exact ⟨rfl,WV _⟩
theorem Jm (hl:LBp w.Locals) (hN:1000000<N) (id:Int):QcK N w.Locals id=some (KP w.Locals id):=by
 rw[QcK,KP]
 by_cases h:id=0
 ·rw[Wm h,h];rfl
 ·rw[Wk h,XQ h,Wa,VV hl hN,Xa]
theorem Xe9 {a:Ww} (hl:LBp a) (hN:1000000<N) (id:Int):QcK N a id=some (KP a id):=Jm (w:=⟨⟨0,0⟩,[],a,zT,zT,[],[]⟩) hl hN id
theorem Xfa (op:Int) {a b:Int} (ta:tU a) (tb:tU b):∃ d,Qb1 N op a b=some (d,decide (okW op a b))/\(okW op a b->d=hdW op a b):=by
 unfold tU at ta tb
 have hmask:a<=2147483647->wI (Yv .u64 a 2147483647)=a:=λ h=>by
  have:Yv .u64 a 2147483647=a % 2147483648:=Yu a 31 (by omega) ta.1 ta.2
  rw[this,Xc (by omega) (by omega)];omega
 rw[Qb1]
 by_cases h1:op=1
 ·rw[Yh h1,Wc]
  by_cases h2:a<=2147483647
  ·rw[Wh h2,Wc]
   refine ⟨⟨op,wI (Yv .u64 a 2147483647),wW b⟩,?_,λ h=>?_⟩
   ·exact congrArg (λ x=>some (_,x)) (decide_eq_decide.2 ⟨λ h=>⟨h2,λ _=>h⟩,λ h=>h.2 h1⟩)
   ·rw[hmask h2,Xnn (by omega) (by have:=h.2 h1;omega),hdW,Wm h1]
  ·rw[Wj h2,Wa]
   refine ⟨⟨op,wI (Yv .u64 a 2147483647),wW b⟩,?_,λ h=>absurd h.1 h2⟩
   rw[Wj (show ¬ okW op a b from λ h=>h2 h.1)]
 ·rw[XQ h1,Wa]
  refine ⟨⟨op,wI (Yv .u64 a 2147483647),0⟩,?_,λ h=>?_⟩
  ·exact congrArg (λ x=>some (_,x)) (decide_eq_decide.2 ⟨λ h=>⟨h,λ e=>absurd e h1⟩,λ h=>h.1⟩)
  ·rw[hmask h.1,hdW,Wk h1]
theorem Xmp (hN:10<=N) (c:WT) (d:Wy):Qb8 N c d=some (XcY c d):=by
 rw[Qb8,YZ,Xa,XcY,Yf,Xa,Zr hN,Xa]
 cases Xx d<;>cases (d.Kind != 0)<;>rfl
theorem Xgb (hw:WB k w) (hN:1000000<N) (op:Int) {a b:Int} (ta:tU a) (tb:tU b) (f:Bool):QeZ N w op a b f=some (V0 w op a b f):=by
 have hm:=hw.marks
 obtain ⟨d,hd,hd2⟩:=Xfa (N:=N) op ta tb
 rw[QeZ,V0]
 by_cases h0:w.Marks.length>0
 ·rw[Wh (show ((w.Marks.length:Nat):Int)>0 by omega),Wc,Wm h0]
 rw[Wj (show ¬ ((w.Marks.length:Nat):Int)>0 by omega),Wa,Wk h0,hd,Xa]
 by_cases h1:okW op a b
 ·rw[Wh h1,Ws,Wa,Wk (by simpa using h1),Xmp (by omega),Xa,hd2 h1]
  cases hA:XcY w.Conf (hdW op a b)
  ·rfl
  ·rw[Ws,Wa,Wk (by simp),Jm hw.loc hN,Xa]
   by_cases hL:KP w.Locals 1=0
   ·rw[Zi hL,Wa,Wk (by simpa using hL)]
    cases f<;>rfl
   ·rw[Zb hL,Wc,Wm hL]
 ·rw[Wj h1,WU,Wc,Wm h1]
theorem Xh7 (hw:WB k w) (hN:1000000<N) (hv:Ys w=true) (tw:XS w) (op:Int) {a b c:Int} (ta:tU a) (tb:tU b) (tc:tU c):Qfp N w op a b c=some (Xba w op a b c):=by
 rw[Qfp,VZ hw hN hv ta,Xa,Xba]
 by_cases he:(XD w a).2=0
 rotate_left
 ·rw[Zb he,Wc,Wm he]
 obtain ⟨i1,i2,_⟩:=Xc0 hw hv tw ta he
 obtain ⟨g1,g2⟩:=KK hw i1 i2
 obtain ⟨v1,v2,v3,v4⟩:=(Kr hv).thing _ g2
 have vb:=XH v1
 unfold tU at tb
 rw[Zi he,Wa,Wk (by simpa using he),g1,Xa,Xv (n:=(thg w (XD w a).1).Header.Length) (by omega) (by omega)]
 by_cases h1:b>=(thg w (XD w a).1).Header.Length
 ·rw[Wh h1,Wc,Wm h1]
 rw[Wj h1,Wa,Wk h1,Xc (n:=b) (by omega) (by omega)]
 have key:∀ x:Bool,x=XaO op->(bnd (QbU N (thg w (XD w a).1).Header b) λ y4 =>
  bif (!(y4==x)) then some 4
  else bif (op==8) then (bnd (Xb (thg w (XD w a).1).Fields b) λ p5 =>
   bnd (QcK N w.Locals p5) λ y6 =>
   some y6)
  else bif (op==9) then (bnd (QaE N w c) λ y7 =>
   some y7.2)
  else some (XD w a).2)=some (if KD (thg w (XD w a).1).Header b≠XaO op then 4 else
 if op=8 then KP w.Locals ((thg w (XD w a).1).Fields.getD b.toNat 0) else if op=9 then (Za w c).2 else 0):=by
  intro x hx
  subst hx
  rw[J0,Xa]
  by_cases h2:KD (thg w (XD w a).1).Header b=XaO op
  ·rw[show (KD (thg w (XD w a).1).Header b==XaO op)=true by simpa using h2,Ws,Wa,Wk (by simpa using h2)]
   by_cases h3:op=8
   ·rw[Yh h3,Wc,Wm h3,Yc (by omega) (by omega),Xa,Jm hw.loc hN,Xa,Wp,Wd (by omega)];rfl
   rw[XQ h3,Wa,Wk h3]
   by_cases h4:op=9
   ·rw[Yh h4,Wc,Wm h4,KO hw hN hv tc,Xa]
   ·rw[XQ h4,Wa,Wk h4,he]
  ·rw[show (KD (thg w (XD w a).1).Header b==XaO op)=false by simpa using h2,WU,Wc,Wm h2]
 rw[XV]
 cases h8:(op==8)
 ·have:=key (op==9) (by unfold XaO;rw[h8,Ih])
  rw[h8] at this
  exact this
 ·have:=key true (by unfold XaO;rw[h8,Bool.true_or])
  rw[h8] at this
  exact this
theorem Xgc (hw:WB k w) (hN:1000000<N) (hv:Ys w=true) (op:Int) {a:Int} (ta:tU a):Qe0 N w op a=some (Xb0 w op a):=by
 rw[Qe0,Xb0]
 by_cases h0:a=0
 ·rw[Yh h0,Wc,Wm h0]
 rw[XQ h0,Wa,Wk h0,KO hw hN hv ta,Xa]
 by_cases h1:(Za w a).2=0
 rotate_left
 ·rw[Zb h1,Wc,Wm h1]
 rw[Zi h1,Wa,Wk (by simpa using h1),Xf7 ta,Xa,XV]
 have fin:∀ t:Int,(bif ((ZH a).1.Tag != t) then some (4:Int) else some 0)=some (if (ZH a).1.Tag≠t then 4 else 0):=by
  intro t
  by_cases h:(ZH a).1.Tag=t
  ·rw[Zi h,Wa,Wk (by simpa using h)]
  ·rw[Zb h,Wc,Wm h]
 by_cases h2:op=16
 ·rw[Wm h2,Yh h2,← fin]
  cases (op==14)<;>rfl
 ·rw[Wk h2,XQ h2]
  by_cases h3:op=14
  ·rw[Wm h3,Yh h3,Wc];exact fin 2
  ·rw[Wk h3,XQ h3,Wa];exact fin 1
theorem Xj8 (hw:WB k w) (hN:1000000<N) (hv:Ys w=true) (op:Int) {a:Int} (ta:tU a):QfU N w op a=some (Xga w op a):=by
 rw[QfU,VZ hw hN hv ta,Xa,Xga]
 by_cases h1:(XD w a).2=0
 rotate_left
 ·rw[Zb h1,Wc,Wm h1]
 rw[Zi h1,Wa,Wk (by simpa using h1),XV]
 by_cases h2:op=15
 ·rw[Wm h2,Yh h2,Wc]
  show bnd (Qce N w.Weaks (XD w a).1) _=_
  rw[KJ hw.wea hN,Xa]
 ·rw[Wk h2,XQ h2,Wa]
  show bnd (Qce N w.Globals (XD w a).1) _=_
  rw[KJ hw.glo hN,Xa]
theorem Xh8 (hw:WB k w) (hN:1000000<N) (hv:Ys w=true) (op:Int) {a:Int} (ta:tU a):Qfq N w op a=some (XdM w op a):=by
 rw[Qfq,XdM]
 by_cases h0:op=17
 ·rw[Yh h0,Wc,Wm h0]
  by_cases h1:a>64
  ·rw[Wh h1,Wc,Wm h1]
  ·unfold tU at ta
   rw[Wj h1,Wa,Wk h1,Xc (n:=a) (by omega) (by omega),VX hw.loc hN,Xa]
 rw[XQ h0,Wa,Wk h0,KO hw hN hv ta,Xa]
 by_cases h1:(Za w a).2=0
 rotate_left
 ·rw[Zb h1,Wc,Wm h1]
 rw[Zi h1,Wa,Wk (by simpa using h1),Xa6 hw.loc hN,Xa]
 by_cases h2:(ZG w.Locals).2=0
 rotate_left
 ·rw[Zb h2,Wc,Wm h2]
 rw[Zi h2,Wa,Wk (by simpa using h2),Xe9 (Xa7 hw.loc) hN,Xa]
theorem Xar {l:List IA} {id:Int} (h:0<=YM l id):YM l id<l.length/\Xb l (YM l id)=some (XcZ l (YM l id))/\(XcZ l (YM l id)).Id=id:=by
 unfold YM at h ⊢
 cases e:l.findIdx? (λ m=>m.Id==id) with
 | none=>rw[e] at h;simp at h
 | some j =>
  have h2:=List.findIdx?_eq_some_iff_getElem.1 e
  obtain ⟨hj,hp,_⟩:=h2
  simp only
  refine ⟨by omega,?_,?_⟩
  ·rw[Xd,XcZ,Wp,IC,Wd hj];rfl
  ·rw[XcZ,Wp,IC,Wd hj]
   simpa using hp
theorem Xh9 (hw:WB k w) (hN:1000000<N) (hv:Ys w=true) (op:Int) {a:Int} (ta:tU a) (f:Bool):Qga N w op a f=some (Xha w op a f):=by
 have hm:=hw.marks
 rw[Qga,VZ hw hN hv ta,Xa,Xha]
 by_cases h1:(XD w a).2=0
 rotate_left
 ·rw[Zb h1,Wc,Wm h1]
 rw[Zi h1,Wa,Wk (by simpa using h1),XdL (by omega) hN,Xa]
 by_cases h2:op=20
 ·rw[Yh h2,Wc,Wm h2]
  by_cases h3:YM w.Marks (XD w a).1<0
  ·rw[Wh h3,Wc,Wm h3]
  ·rw[Wj h3,Wa,Wk h3]
 rw[XQ h2,Wa,Wk h2]
 by_cases h3:0<=YM w.Marks (XD w a).1
 ·obtain ⟨m1,m2,m3⟩:=Xar h3
  rw[Wh (show YM w.Marks (XD w a).1>=0 from h3),Wc,m2,Xa,Wj (show ¬ YM w.Marks (XD w a).1<0 by omega),Wa]
  rw[Wk (show ¬ (YM w.Marks (XD w a).1<0/\w.Marks.length=64) by omega)]
  by_cases h4:(XcZ w.Marks (YM w.Marks (XD w a).1)).Count=1000
  ·rw[Yh h4,Wc,Wm ⟨h3,h4⟩]
  ·rw[XQ h4,Wa,Wk (λ h=>h4 h.2)]
   cases f<;>rfl
 ·rw[Wj (show ¬ YM w.Marks (XD w a).1>=0 from h3),Wa,Wh (show YM w.Marks (XD w a).1<0 by omega),Wc,Wk (λ h=>h3 h.1)]
  by_cases h4:w.Marks.length=64
  ·rw[h4,Wm ⟨by omega,rfl⟩];rfl
  ·rw[XQ (show ¬ ((w.Marks.length:Nat):Int)=64 by omega),Wa,Wk (λ h=>h4 h.2)]
   cases f<;>rfl
theorem Xj9 (hw:WB k w) (hN:1000000<N) (hv:Ys w=true) (op:Int) {a b:Int} (ta:tU a) (tb:tU b):QfV N w op a b=some (Xb1 w op a b):=by
 rw[QfV,Xb1,XV,VZ hw hN hv ta,Xa]
 by_cases h4:op=4
 ·rw[Yh h4,Wc,Wm (.inl h4)]
 rw[XQ h4,Wa]
 by_cases h5:op=5
 ·rw[Yh h5,Wc,Wm (.inr h5)]
 rw[XQ h5,Wa,Wk (by omega),KO hw hN hv ta,Xa]
 by_cases h1:(Za w a).2=0
 rotate_left
 ·rw[Zb h1,Wc,Wm h1]
 rw[Zi h1,Wa,Wk (by simpa using h1)]
 by_cases h10:op=10
 ·rw[Yh h10,Wc,Wm h10,KO hw hN hv tb,Xa]
 ·rw[XQ h10,Wa,Wk h10,Jm hw.loc hN,Xa]
end
end Go.Sx
namespace Go.Sx
theorem Xns {β:Type} (K:Bool->β) (c1 c2:Bool):(jn K λ j=>bif c1 then j true else j c2)=K (c1||c2):=by
 rw[XV];cases c1<;>rfl
theorem b2 (op a b:Int):(op==a||op==b)=decide (op=a\/op=b):=by rw[Bool.decide_or];rfl
theorem bd (op a:Int) (p:Prop) [Decidable p]:(op==a||decide p)=decide (op=a\/p):=by rw[Bool.decide_or];rfl
theorem Xnt {β:Type} {p:Prop} [Decidable p] (x y:β):(bif decide p then x else y)=if p then x else y:=by
 by_cases h:p
 ·rw[Wh h,Wm h];rfl
 ·rw[Wj h,Wk h];rfl
theorem Xmq {β:Type} (o:Option β):(bnd o λ y=>some y)=o:=by
 cases o
 ·exact Xal _
 ·exact Xa _ _
theorem Xmr {β:Type} {p:Prop} [Decidable p] (x y:β):(if p then some x else some y)=some (if p then x else y):=by split<;>rfl
section
variable {N:Nat} {w:WM} {k:Nat}
theorem Xod (hw:WB k w) (hN:1000000<N) (tw:XS w) (op:Int) {a b c:Int} (ta:tU a) (tb:tU b) (tc:tU c) (f:Bool):Qe1 N w op a b c f=some (Xj7 w op a b c f):=by
 rw[Qe1,Xa9 hw hN,Xa,Xj7]
 cases hv:Ys w
 ·rfl
 rw[Ws,Wa,Wk (by simp)]
 simp only[Xns,Xmq,Xgb hw hN op ta tb f,Xh7 hw hN hv tw op ta tb tc,Xgc hw hN hv op ta,Xj8 hw hN hv op ta,Xh8 hw hN hv op ta,Xh9 hw hN hv op ta f,Xj9 hw hN hv op ta tb,b2,bd,Xnt,Xmr]
end
end Go.Sx
namespace Go.Sx
theorem Xas (d:Wy):∀ (k:Nat) (l:List Int),∀ r∈Jq d k l,r∈l
 | k,[],r,h=>by simp[Jq] at h
 | k,f::fs,r,h=>by
  unfold Jq at h
  split at h
  ·rcases UB.1 h with h | h
   ·exact h▸IM
   ·exact Ug _ (Xas d (k+1) fs r h)
  ·exact Ug _ (Xas d (k+1) fs r h)
def zWo:WM:=⟨⟨0,0⟩,[],zL,zT,zT,[],[]⟩
theorem Xka {k:Nat} (hk:k<=900):WB k zWo:=⟨hk,by simp[zWo],λ x hx=>by simp[zWo] at hx,Zp,by simp[zWo,zT],by simp[zWo,zT],by simp[zWo],by simp[zWo]⟩
section
variable {N:Nat} {w:WM} {k:Nat}
theorem Xb2 (hm:w.Marks.length<=1000):∀ (n:Nat) (i:Int) (v:List Int),0<=i->i<=w.Marks.length->(w.Marks.length-i).toNat<n->v.length<=100000+i->(∀ x∈v,0<=x/\x<=w.Things.length)->(∀ m∈w.Marks,0<=m.Id/\m.Id<=w.Things.length)->Ok (Qdv N w n i v) λ r=>r.length<=v.length+(w.Marks.length-i)/\∀ x∈r,0<=x/\x<=w.Things.length
 | 0,i,v,_,_,hn,_,_,_=>by omega
 | n+1,i,v,h0,hi,hn,hv,hx,hmm=>by
  rw[Qdv]
  refine Wo (λ hc=>?_) λ hc=>Wg ⟨by omega,hx⟩
  have hc:i<w.Marks.length:=Wr hc
  rw[Xc (n:=i+1) (by omega) (by omega)]
  refine Ok.get h0 hc λ p hp=>WS (by omega) ?_
  have hpm:=Yp hp
  refine (Xb2 hm n (i+1) _ (by omega) (by omega) (by omega) (by rw[Wq];simp;omega) (λ x hx'=>?_) hmm).mono λ r hr=>⟨?_,hr.2⟩
  ·rcases WJ.1 hx' with h | h
   ·exact hx x h
   ·rw[UM.1 h];exact hmm p hpm
  ·have:=hr.1
   rw[Wq] at this
   simp at this
   omega
theorem Xgd (hN:NB N) (hw:WB k w) (hv:Ys w=true) (tw:XS w):Ok (Qfo N w) λ r=>r.length<=10000/\∀ x∈r,0<=x/\x<=w.Things.length:=by
 have hN':=hN
 unfold NB at hN'
 have hr:=hw.roots
 have hm:=hw.marks
 have wf:=Kr hv
 obtain ⟨t1,t2,t3,t4,t5,t6⟩:=tw
 have l1:=Xe8 wf.loc
 have l2:=VY wf.glo
 rw[Qfo]
 refine WS (by omega) ?_
 rw[Kx hw.loc (by omega),Xa,wf.loc,Wc]
 refine WS (by omega) ?_
 rw[YH hw.glo (by omega),Xa,wf.glo,Wc]
 refine WS (by omega) (WG (Xb2 hm N 0 _ (by omega) (by omega) (by omega) (by simp only[Wq];omega) (λ x hx=>?_) λ m hmm=>?_) λ r _ h=>Wg ⟨?_,h.2⟩)
 ·simp only[WJ] at hx
  rcases hx with (h | h) | h
  ·exact ⟨(t6 x h).1,wf.roots x h⟩
  ·refine ⟨?_,wf.rloc x h⟩
   unfold Yq at h
   obtain ⟨p,hp,rfl⟩:=UY.1 h
   exact (t2 p (UV.1 hp).1).1
  ·refine ⟨?_,wf.rglo x h⟩
   unfold X0 at h
   obtain ⟨p,hp,rfl⟩:=UY.1 h
   exact (t3 p (UV.1 hp).1).1
 ·obtain ⟨i,hi,e⟩:=W3 hmm
  have:=wf.mk_ (k:=i) (m:=m) (by rw[Wd hi,e])
  omega
 ·have:=h.1
  simp only[Wq] at this
  omega
theorem V1 (hN:NB N) (hw:WB k w) (hv:Ys w=true) (tw:XS w) (M:Nat) (hM:M<=2000000):∀ (n:Nat) (i:Int) (v:List Bool) (q:List Int),0<=i->i<=q.length->(M-i).toNat<n->v.length=w.Things.length->(∀ x∈q,0<=x/\x<=w.Things.length)->q.length+1000*v.countP (λ b=>!b)<=M->Ok (QbL N w n i v q) λ r=>r.length=w.Things.length
 | 0,i,v,q,_,_,hn,_,_,_=>by omega
 | n+1,i,v,q,h0,hi,hn,hl,hq,hm=>by
  have hN':=hN
  unfold NB at hN'
  have hk:=hw.kk
  have ht:=hw.things
  rw[QbL]
  refine WS (by omega) (Wo (λ hc=>?_) λ _=>Wg hl)
  have hc:i<q.length:=Wr hc
  rw[Xc (n:=i+1) (by omega) (by omega)]
  refine Ok.get h0 hc λ p hp=>?_
  have same:∀ p',Xb q i=some p'->p'=p:=λ p' h=>WP (h.symm.trans hp)
  have hpq:=hq p (Yp hp)
  refine Wo (λ _=>V1 hN hw hv tw M hM n (i+1) v q (by omega) (by omega) (by omega) hl hq hm) λ hz=>?_
  have hz:¬ p=0:=by simpa using hz
  refine Ok.get h0 hc λ p2 hp2=>?_
  obtain rfl:=same p2 hp2
  rw[Xv (n:=p2-1) (by omega) (by omega)]
  refine Ok.get (by omega) (by omega) λ b hb=>Wo (λ _=>V1 hN hw hv tw M hM n (i+1) v q (by omega) (by omega) (by omega) hl hq hm) λ hbf=>?_
  refine Ok.get h0 hc λ p3 hp3=>?_
  obtain rfl:=same p3 hp3
  rw[Xv (n:=p3-1) (by omega) (by omega)]
  refine Ok.get (by omega) (by omega) λ _ _=>Ok.get h0 hc λ p4 hp4=>?_
  obtain rfl:=same p4 hp4
  obtain ⟨g1,g2⟩:=KK hw (id:=p4) (by omega) (by omega)
  have hf:=hw.fields _ g2
  obtain ⟨v1,v2,v3,v4⟩:=(Kr hv).thing _ g2
  have hrl:=Xaq (thg w p4).Header 0 (thg w p4).Fields
  have hrl:(XbX (thg w p4)).length<=1000:=by unfold XbX;omega
  rw[g1,Xa,Xe7 (by omega) (by omega),Xa]
  have hlt:(p4-1).toNat<v.length:=by omega
  have hbv:v[(p4-1).toNat]=false:=by
   rw[Yc (by omega) (by omega)] at hb
   rw[WP hb];exact hbf
  have hcount:(v.set (p4-1).toNat true).countP (λ b=>!b)+1<=v.countP (λ b=>!b):=by
   have hpos:0<v.countP (λ b=>!b):=List.countP_pos_iff.2 ⟨v[(p4-1).toNat],WV _,by rw[hbv];rfl⟩
   rw[List.countP_set hlt,hbv]
   simp
   omega
  refine WS (by omega) (V1 hN hw hv tw M hM n (i+1) _ _ (by omega) (by rw[Wq];omega) (by omega) (by rw[Wx];exact hl) (λ x hx=>?_) (by rw[Wq];omega))
  rcases WJ.1 hx with h | h
  ·exact hq x h
  ·refine ⟨?_,v4 x h⟩
   exact ((tw.1 _ g2).2 x (Xas _ _ _ x h)).1
theorem Xge (hN:NB N) (hw:WB k w) (hv:Ys w=true) (tw:XS w):Ok (QeY N w) λ r=>r.length=w.Things.length:=by
 have hN':=hN
 unfold NB at hN'
 have hk:=hw.kk
 have ht:=hw.things
 rw[QeY,Xa9 hw (by omega),Xa,hv,Ws,Wa]
 refine WS (by omega) (WG (Xgd hN hw hv tw) λ y _ hy=>WG (V1 hN hw hv tw 1100000 (by omega) N 0 _ y (by omega) (by omega) (by omega) (by rw[WC];omega) hy.2 ?_) λ r _ hr=>Wg hr)
 have:(List.replicate (((w.Things.length:Nat):Int)).toNat false).countP (λ b=>!b)<=1000:=by
  refine Ur List.countP_le_length ?_
  rw[WC];omega
 have:=hy.1
 omega
theorem XdN (y:List Bool) (hy:y.length=w.Things.length) (hw:WB k w):∀ (n:Nat) (i:Int) (v:List Int),0<=i->i<=v.length->(v.length-i).toNat<n->v.length<=1000->(∀ x∈v,0<=x/\x<=w.Things.length)->Ok (QaM N w y n i v) λ r=>r.length=v.length
 | 0,i,v,_,_,hn,_,_=>by omega
 | n+1,i,v,h0,hi,hn,hl,hx=>by
  have hk:=hw.kk
  have ht:=hw.things
  rw[QaM]
  refine WS (by omega) (Wo (λ hc=>?_) λ _=>Wg rfl)
  have hc:i<v.length:=Wr hc
  rw[Xc (n:=i+1) (by omega) (by omega)]
  have next:=XdN y hy hw n (i+1) v (by omega) (by omega) (by omega) hl hx
  refine Ok.get h0 hc λ p hp=>Wo (λ hz=>Ok.get h0 hc λ p2 hp2=>?_) λ _=>next
  obtain rfl:p=p2:=WP (hp.symm.trans hp2)
  have hpq:=hx p (Yp hp)
  have hz:¬ p=0:=by simpa using hz
  rw[Xv (n:=p-1) (by omega) (by omega)]
  refine Ok.get (by omega) (by omega) λ _ _=>Wo (λ _=>Ok.get h0 hc λ _ _=>?_) λ _=>next
  refine (XdN y hy hw n (i+1) _ (by omega) (by rw[Wx];omega) (by rw[Wx];omega) (by rw[Wx];exact hl) λ x hx'=>?_).mono λ r hr=>by rw[hr,Wx]
  rcases UK hx' with h | h
  ·exact hx x h
  ·rw[h];omega
theorem XaP (hN:NB N) (hw:WB k w) (tw:XS w):Ok (Qc2 N w) λ r=>WB k r.1:=by
 have hN':=hN
 unfold NB at hN'
 rw[Qc2,Xa9 hw (by omega),Xa]
 refine Wo (λ _=>Wg (Xka hw.kk)) λ hv=>?_
 have hv:Ys w=true:=by simpa using hv
 have wf:=Kr hv
 have l3:=VY wf.wea
 refine WG (Xge hN hw hv tw) λ y _ hy=>?_
 rw[YH hw.wea (by omega),Xa,wf.wea,Wc]
 refine WG (XdN y hy hw N 0 _ (by omega) (by omega) (by omega) (by omega) λ x hx=>⟨?_,wf.rwea x hx⟩) λ z _ hz=>WG (XcV hw.wea (by omega) (by omega)) λ t _ ht=>Wg ⟨hw.kk,hw.things,hw.fields,hw.loc,hw.gloK,Ur ht hw.weaK,hw.marksK,hw.rootsK⟩
 unfold X0 at hx
 obtain ⟨p,hp,rfl⟩:=UY.1 hx
 exact (tw.2.2.2.1 p (UV.1 hp).1).1
end
end Go.Sx
namespace Go.Sx
theorem OL {β κ:Type} {P:β->Prop} {k:κ->Option β} {f:(κ->Option β)->Option β} (Q:κ->Prop) (h:∀ x,Q x->Ok (k x) P) (g:∀ j:κ->Option β,(∀ x,Q x->Ok (j x) P)->Ok (f j) P):Ok (Sx.jn k f) P:=by rw[XV];exact g k h
section
variable {N:Nat} {w:WM} {k:Nat}
theorem J6 (hw:WB k w) (hN:1000000<N) (id:Int):Ok (Qck N w id) λ r=>WB k r.1:=by
 rw[Qck]
 refine Ua (Wg hw) ?_
 rw[VV hw.loc hN,Xa]
 exact Ud (Zg _) λ y _=>Wg ⟨hw.kk,hw.things,hw.fields,Xg0 hw.loc id,hw.gloK,hw.weaK,hw.marksK,hw.rootsK⟩
theorem Xhb (hw:WB k w) {id i v:Int} (h1:1<=id) (h2:id<=w.Things.length) (i0:0<=i) (i1:i<(thg w id).Fields.length):Ok (QeJ N w id i v) λ r=>WB k r:=by
 have hk:=hw.kk
 have ht:=hw.things
 obtain ⟨g1,g2⟩:=KK hw h1 h2
 have hf:=hw.fields _ g2
 rw[QeJ,Xe (by omega),g1,Xa,Xe (by omega)]
 refine Ok.get i0 (by omega) λ _ _=>?_
 rw[Xa]
 refine Wg ⟨hw.kk,?_,λ x hx=>?_,hw.loc,hw.gloK,hw.weaK,hw.marksK,hw.rootsK⟩
 ·show (w.Things.set _ _).length<=_;rw[Wx];exact ht
 ·have hx:x∈w.Things.set _ _:=hx
  rcases UK hx with h | h
  ·exact hw.fields x h
  ·rw[h];show ((thg w id).Fields.set _ _).length<=_;rw[Wx];exact hf
theorem Xfb (hw:WB k w) (hN:1000000<N) (op id:Int):Ok (Qdz N w op id) λ r=>WB k r.1:=by
 rw[Qdz]
 refine Is (Ua ?_ ?_)
 ·rw[KJ hw.wea hN,Xa]
  exact Ud (Zg _) λ y _=>Wg ⟨hw.kk,hw.things,hw.fields,hw.loc,hw.gloK,XbR hw.weaK id,hw.marksK,hw.rootsK⟩
 ·rw[KJ hw.glo hN,Xa]
  exact Ud (Zg _) λ y _=>Wg ⟨hw.kk,hw.things,hw.fields,hw.loc,XbR hw.gloK id,hw.weaK,hw.marksK,hw.rootsK⟩
theorem Xgf (hw:WB k w) (hN:1000000<N) (v:Int):Ok (Qd4 N w v) λ r=>WB k r:=by
 rw[Qd4]
 refine Ud (Xap _) λ y _=>Ua ?_ (Ua ?_ ?_)
 ·rw[XdI hw.loc hN,Xa];exact Wg ⟨hw.kk,hw.things,hw.fields,Xg1 hw.loc _ _,hw.gloK,hw.weaK,hw.marksK,hw.rootsK⟩
 ·rw[J1 hw.glo hN,Xa];exact Wg ⟨hw.kk,hw.things,hw.fields,hw.loc,Xe0 hw.gloK _ _,hw.weaK,hw.marksK,hw.rootsK⟩
 ·rw[J1 hw.wea hN,Xa];exact Wg ⟨hw.kk,hw.things,hw.fields,hw.loc,hw.gloK,Xe0 hw.weaK _ _,hw.marksK,hw.rootsK⟩
theorem Xkb (hw:WB k w) (hN:1000000<N) (h64:w.Marks.length<=64) (op id b:Int) (h20:op=20->0<=YM w.Marks id):Ok (QeS N w op id b) λ r=>WB k r.1:=by
 have setM:∀ l:List IA,l.length<=100+k->WB k ⟨w.Conf,w.Things,w.Locals,w.Globals,w.Weaks,l,w.Roots⟩:=λ l hl=>⟨hw.kk,hw.things,hw.fields,hw.loc,hw.gloK,hw.weaK,hl,hw.rootsK⟩
 rw[QeS,Qgb,XdL (by omega) hN,Xa,Xa]
 refine WS (by omega) (Wo (λ h=>?_) λ _=>Wo (λ h=>?_) λ h=>WS (by omega) (Wg (setM _ (by rw[Wq];simp;omega))))
 ·have h:=h20 (by simpa using h)
  obtain ⟨m1,_,_⟩:=Xar h
  refine Ok.get h m1 λ _ _=>Ok.get h m1 λ _ _=>Ok.get h (by rw[Wx];exact m1) λ _ _=>Wo (λ _=>?_) λ _=>Wg (setM _ (by rw[Wx];omega))
  have e:=Xc (n:=YM w.Marks id+1) (by omega) (by omega)
  refine WS (by omega) (WS (by rw[e];omega) (WS (by rw[e];omega) (Wg (setM _ ?_))))
  simp only[Wz,Wq,Wx,WO];omega
 ·have h:0<=YM w.Marks id:=Wr h
  obtain ⟨m1,_,_⟩:=Xar h
  exact Ok.get h m1 λ _ _=>Ok.get h m1 λ _ _=>Ok.get h (by rw[Wx];exact m1) λ _ _=>Wg (setM _ (by rw[Wx];omega))
theorem WB.up (hw:WB k w) (hk:k+1<=900):WB (k+1) w:=⟨hk,by have:=hw.things;omega,hw.fields,hw.loc,by have:=hw.gloK;omega,by have:=hw.weaK;omega,by have:=hw.marksK;omega,by have:=hw.rootsK;omega⟩
theorem Xkc (hN:NB N) (hw:WB k w) (hk:k+1<=900) (tw:XS w) (op:Int) {a b c:Int} (ta:tU a) (tb:tU b) (tc:tU c) (ft:Ol):Ok (QeT N w op a b c ft) λ r=>WB (k+1) r.1:=by
 have hN':=hN
 unfold NB at hN'
 have hN1:1000000<N:=by omega
 have zero:WB (k+1) zWo:=Xka hk
 rw[QeT,Xod hw hN1 tw op ta tb tc,Xa]
 refine Wo (λ _=>Wg zero) λ hz=>?_
 have hz:Xj7 w op a b c ft.Failed=0:=by simpa using hz
 have hv:Ys w=true:=by
  cases h:Ys w
  ·unfold Xj7 at hz;rw[h] at hz;cases hz
  ·rfl
 have wf:=Kr hv
 unfold Xj7 at hz
 rw[hv,Wk (by simp)] at hz
 have thing:(XD w a).2=0->1<=(Za w a).1/\(Za w a).1<=w.Things.length/\XD w a=Za w a:=λ h=>by
  obtain ⟨t1,t2,t3⟩:=Xc0 hw hv tw ta h
  rw[t3] at t1 t2
  exact ⟨t1,t2,t3⟩
 refine OL (λ x=>¬ (op<=3\/op=17)->x=(Za w a).1) (λ x3 hx3=>?_) λ j1 h1=>?_
 rotate_left
 ·refine Wo (λ hg=>Wo (λ h17=>?_) λ h17=>h1 _ λ h=>absurd (Or.inr (by simpa using h17)) h) λ hg=>h1 _ λ h=>absurd (Or.inl (by have:=WH hg;omega)) h
  rw[KO hw hN1 hv ta,Xa]
  exact h1 _ λ _=>rfl
 simp only[Xns]
 refine Wo (λ hc=>?_) λ hc=>?_
 ·
  have hc:op=1\/op=2\/op=3:=by simpa using hc
  rw[Wm hc] at hz
  obtain ⟨d,hd,hd2⟩:=Xfa (N:=N) op ta tb
  have hfac:okW op a b/\XcY w.Conf (hdW op a b)=true:=by
   unfold V0 at hz
   split at hz
   ·cases hz
   split at hz
   ·cases hz
   rename_i _ h2
   split at hz
   ·cases hz
   rename_i h3
   exact ⟨Classical.not_not.1 h2,by simpa using h3⟩
  have hdd:=hd2 hfac.1
  have hvd:Xx d=true:=by
   have:=hfac.2
   unfold XcY at this
   rw[WE] at this
   rw[hdd];exact this.1
  have hb:=XH hvd
  have main:∀ w':WM,WB k w'->Ok (α:=WM×Int×Int) (bnd (Qb1 N op a b) λ y17 =>
   grd (w'.Things.length*48<=140737488355328) <|
   grd (0<=y17.1.Length/\y17.1.Length.toNat*8<=140737488355328) <|
   grd ((w'.Things.length+1)*48<=140737488355328) <|
   grd ((w'.Things.length+1)<=140737488355328) <|
   bnd (Qck N (WM.mk (WT.mk w'.Conf.PageWords w'.Conf.Pages) (w'.Things++[(Il.mk y17.1 (List.replicate y17.1.Length.toNat 0))]) (Ww.mk w'.Locals.Slots w'.Locals.Scopes w'.Locals.Issued) (WI.mk w'.Globals.Entries) (WI.mk w'.Weaks.Entries) w'.Marks w'.Roots) (wU (((w'.Things.length+1):Nat):Int))) λ y18 =>
   some (y18.1,y18.2,0)) λ r=>WB (k+1) r.1:=by
   intro w' hw'
   have ht:=hw'.things
   rw[hd,Xa]
   refine WS (by omega) (WS (by constructor<;>simp only<;>omega) (WS (by omega) (WS (by omega) (Ud (J6 (k:=k+1) (w:=⟨w'.Conf,w'.Things++[⟨d,List.replicate d.Length.toNat 0⟩],w'.Locals,w'.Globals,w'.Weaks,w'.Marks,w'.Roots⟩) ⟨hk,?_,λ x hx=>?_,hw'.loc,ID hw'.gloK,ID hw'.weaK,ID hw'.marksK,ID hw'.rootsK⟩ hN1 _) λ y hy=>Wg hy))))
   ·show (w'.Things++[_]).length<=_;rw[Wq];simp;omega
   ·rcases WJ.1 hx with h | h
    ·exact hw'.fields x h
    ·rw[UM.1 h];show (List.replicate _ _).length<=_;rw[WC];omega
  refine Is (Wo (λ _=>WG (XaP hN hw tw) λ y _ hy=>?_) λ _=>?_)
  ·exact main y.1 hy
  ·exact main w hw
 have hn1:¬ (op=1\/op=2\/op=3):=by simpa using hc
 rw[Wk hn1] at hz
 have sw:∀ v e:Int,Ok (α:=WM×Int×Int) (some (w,v,e)) λ r=>WB (k+1) r.1:=λ v e=>Wg (hw.up hk)
 have up:∀ {w':WM},WB k w'->WB (k+1) w':=λ h=>WB.up h hk
 have pl:(op=4\/op=5\/op=10\/op=11)->Xb1 w op a b=0:=λ h=>by
  rw[Wk (by omega),Wk (by omega),Wk (by omega),Wk (by omega),Wk (by omega),Wm h] at hz
  exact hz
 have len:(op=4\/op=5)->1<=x3/\x3<=w.Things.length:=λ h=>by
  have h1:=pl (by omega)
  unfold Xb1 at h1
  rw[Wm h] at h1
  have:=thing h1
  rw[hx3 (by omega)]
  exact ⟨this.1,this.2.1⟩
 have fld:(op=6\/op=7\/op=8\/op=9)->(1<=x3/\x3<=w.Things.length)/\b<(thg w x3).Fields.length/\wI b=b:=λ h=>by
  rw[Wm h] at hz
  unfold Xba at hz
  by_cases h1:(XD w a).2=0
  rotate_left
  ·rw[Wm h1] at hz;exact absurd hz h1
  rw[Wk (by simpa using h1)] at hz
  obtain ⟨t1,t2,t3⟩:=thing h1
  have e:x3=(Za w a).1:=hx3 (by omega)
  rw[t3,← e] at hz
  rw[← e] at t1 t2
  obtain ⟨g1,g2⟩:=KK hw t1 t2
  obtain ⟨v1,v2,v3,v4⟩:=wf.thing _ g2
  have vb:=XH v1
  by_cases h2:b>=(thg w x3).Header.Length
  ·rw[Wm h2] at hz;cases hz
  have:=tb.1
  exact ⟨⟨t1,t2⟩,by omega,Xc (by omega) (by omega)⟩
 refine Wo (λ h4=>?_) λ n4=>Wo (λ h5=>?_) λ n5=>Wo (λ h6=>?_) λ n6=>Wo (λ h7=>?_) λ n7=>Wo (λ h8=>?_) λ n8=>Wo (λ h9=>?_) λ n9=>Wo (λ h10=>?_) λ n10=>Wo (λ h11=>?_) λ n11=>?_
 ·have h4:op=4:=by simpa using h4
  have:=len (.inl h4)
  rw[(KK hw this.1 this.2).1,Xa];exact sw _ _
 ·have h5:op=5:=by simpa using h5
  have:=len (.inr h5)
  rw[(KK hw this.1 this.2).1,Xa];exact sw _ _
 ·have h6:op=6:=by simpa using h6
  obtain ⟨f1,f2,f3⟩:=fld (by omega)
  rw[(KK hw f1.1 f1.2).1,Xa]
  exact Ok.get tb.1 f2 λ _ _=>sw _ _
 ·have h7:op=7:=by simpa using h7
  obtain ⟨f1,f2,f3⟩:=fld (by omega)
  rw[f3]
  exact Ud (Xhb hw f1.1 f1.2 tb.1 f2) λ y hy=>Wg (up hy)
 ·have h8:op=8:=by simpa using h8
  obtain ⟨f1,f2,f3⟩:=fld (by omega)
  rw[(KK hw f1.1 f1.2).1,Xa]
  exact Ok.get tb.1 f2 λ _ _=>Ud (J6 hw hN1 _) λ y hy=>Wg (up hy)
 ·have h9:op=9:=by simpa using h9
  obtain ⟨f1,f2,f3⟩:=fld (by omega)
  rw[KO hw hN1 hv tc,Xa,f3]
  exact Ud (Xhb hw f1.1 f1.2 tb.1 f2) λ y hy=>Wg (up hy)
 ·rw[KO hw hN1 hv tb,Xa]
  exact Ua (sw _ _) (sw _ _)
 ·exact Ud (J6 hw hN1 _) λ y hy=>Wg (up hy)
 have n4:¬ op=4:=by simpa using n4
 have n5:¬ op=5:=by simpa using n5
 have n6:¬ op=6:=by simpa using n6
 have n7:¬ op=7:=by simpa using n7
 have n8:¬ op=8:=by simpa using n8
 have n9:¬ op=9:=by simpa using n9
 have n10:¬ op=10:=by simpa using n10
 have n11:¬ op=11:=by simpa using n11
 refine Wo (λ _=>Ud (Xfb hw hN1 _ _) λ y hy=>Wg (up hy)) λ nl=>?_
 have nl:¬ (op=13\/op=15):=by simpa using nl
 refine Wo (λ _=>Ud (Xgf hw hN1 _) λ y hy=>Wg (up hy)) λ nr=>?_
 have nr:¬ (op=12\/op=14\/op=16):=by simpa using nr
 refine Wo (λ _=>?_) λ n17=>Wo (λ _=>?_) λ n18=>?_
 ·rw[VX hw.loc hN1,Xa]
  exact Wg (up ⟨hw.kk,hw.things,hw.fields,XeY hw.loc _,hw.gloK,hw.weaK,hw.marksK,hw.rootsK⟩)
 ·rw[Xa6 hw.loc hN1,Xa]
  exact Ud (J6 (w:=⟨w.Conf,w.Things,(ZG w.Locals).1,w.Globals,w.Weaks,w.Marks,w.Roots⟩) ⟨hw.kk,hw.things,hw.fields,Xa7 hw.loc,hw.gloK,hw.weaK,hw.marksK,hw.rootsK⟩ hN1 _) λ y hy=>Wg (up hy)
 have n17:¬ op=17:=by simpa using n17
 have n18:¬ op=18:=by simpa using n18
 rw[Wk (by omega),Wk (by omega),Wk (by omega),Wk (by omega)] at hz
 refine Ud (Xkb hw hN1 wf.m64 op x3 _ λ h20=>?_) λ y hy=>Wg (up hy)
 rw[Wm (.inr h20)] at hz
 unfold Xha at hz
 by_cases h1:(XD w a).2=0
 rotate_left
 ·rw[Wm h1] at hz;exact absurd hz h1
 rw[Wk (by simpa using h1),Wm h20,(thing h1).2.2,← hx3 (by omega)] at hz
 by_cases h2:YM w.Marks x3<0
 ·rw[Wm h2] at hz;cases hz
 ·omega
end
end Go.Sx
namespace Go.Sx
section
variable {N:Nat}
theorem Xms {t:UU} {m:Int} (h0:0<=t.at_) (h1:t.at_<=m) (hm:m<=1000000) {a:Int} (ha:a<=1000000000):Ok (Qaa N t a) λ r=>0<=r.1/\(1<=a->r.1<a)/\0<=r.2.at_/\r.2.at_<=m+1:=by
 rw[Qaa]
 refine Wo (λ _=>Wg ⟨by simp,λ h=>by omega,h0,by simp only;omega⟩) λ hg=>?_
 have hg:=WH hg
 have rest:∀ x:Int,Ok (grd (a≠0) <| grd (a≠0) <| some (((wI ((x.tmod a)+a)).tmod a),(UU.mk t.L (wI (t.at_+1))))) λ r=>0<=r.1/\(1<=a->r.1<a)/\0<=r.2.at_/\r.2.at_<=m+1:=by
  intro x
  have b1:=Int.tmod_lt_of_pos x (show 0<a by omega)
  have b2 : -a<x.tmod a:=by
   have:=Int.tmod_lt_of_pos (-x) (show 0<a by omega)
   rw[Int.neg_tmod] at this
   omega
  have e:=Xc (n:=x.tmod a+a) (by omega) (by omega)
  have e2:=Xc (n:=t.at_+1) (by omega) (by omega)
  have c1:=Int.tmod_lt_of_pos (x.tmod a+a) (show 0<a by omega)
  have c2:=Int.tmod_nonneg a (show 0<=x.tmod a+a by omega)
  refine WS (by omega) (WS (by omega) (Wg ?_))
  simp only[e,e2]
  exact ⟨c2,λ _=>c1,by omega,by omega⟩
 refine Is (Wo (λ h=>Ok.get h0 (Wr h) λ p _=>rest p) λ _=>rest _)
def TA (m:Int) (t:UU):Prop:=0<=t.at_/\t.at_<=m
theorem nxp {t:UU} {m a:Int} (h:TA m t) (hm:m<=1000000) (ha1:1<=a) (ha:a<=1000000000):Ok (Qaa N t a) λ r=>0<=r.1/\r.1<a/\TA (m+1) r.2:=(Xms h.1 h.2 hm ha).mono λ r hr=>⟨hr.1,hr.2.1 ha1,hr.2.2⟩
theorem TA.le {t:UU} {m n:Int} (h:TA m t) (hn:m<=n):TA n t:=⟨h.1,by have:=h.2;omega⟩
theorem J7 {p:Ig} {t:UU} {m:Int} (hw:1<=p.Words.length) (hw2:p.Words.length<=1000) (h:TA m t) (hm:m+5<=1000000):Ok (Qbn N p t) λ r=>TA (m+3) r.2:=by
 rw[Qbn]
 have k2:∀ (t':UU) (x8:Bool),TA (m+1) t'->Ok (bif x8 then (bnd (Qaa N t' ((p.Words.length:Nat):Int)) λ y9=>bnd (Xb p.Words y9.1) λ p10=>some (p10,y9.2)) else bnd (Qaa N t' (if 6<((p.Words.length:Nat):Int) then 6 else ((p.Words.length:Nat):Int))) λ y11=>bnd (Xb p.Words (wI ((wI (((p.Words.length:Nat):Int)-1))-y11.1))) λ p12=>some (p12,y11.2)) λ r=>TA (m+3) r.2:= by
  intro t' x8 h'
  refine Wo (λ _=>Ud (nxp h' (by omega) (by omega) (by omega)) λ y hy=>Ok.get hy.1 hy.2.1 λ _ _=>Wg (hy.2.2.le (by omega))) λ _=>?_
  refine Ud (nxp h' (by omega) (by split<;>omega) (by split<;>omega)) λ y hy=>?_
  have h1:y.1<((p.Words.length:Nat):Int):=by
   have:=hy.2.1
   split at this<;>omega
  have h0:=hy.1
  rw[Xc (n:=((p.Words.length:Nat):Int)-1) (by omega) (by omega),Xc (n:=((p.Words.length:Nat):Int)-1-y.1) (by omega) (by omega)]
  exact Ok.get (by omega) (by omega) λ _ _=>Wg (hy.2.2.le (by omega))
 refine Ud (nxp h (by omega) (by omega) (by omega)) λ y hy=>Wo (λ _=>Ud (nxp hy.2.2 (by omega) (by omega) (by omega)) λ z hz=>Ok.get hz.1 hz.2.1 λ _ _=>Wg (hz.2.2.le (by omega))) λ _=>Wo (λ _=>?_) λ _=>?_
 ·exact Ud (nxp hy.2.2 (by omega) (by omega) (by omega)) λ z hz=>Ok.get hz.1 hz.2.1 λ _ _=>Ud (nxp hz.2.2 (by omega) (by omega) (by omega)) λ u hu=>Wg (hu.2.2.le (by omega))
 ·refine I6 (λ x8=>k2 _ x8 hy.2.2) λ j2 h2=>Ua (h2 _) (I6 (λ x7=>h2 _) λ j h=>Ua (h _) (h _))
theorem Xmt {p:Ig} {t:UU} {m:Int} (hw:1<=p.Words.length) (hw2:p.Words.length<=1000) (h:TA m t) (hm:m+30<=1000000):Ok (QcF N p t) λ r=>TA (m+20) r.2:=by
 rw[QcF]
 refine Ud (nxp h (by omega) (by omega) (by omega)) λ y1 h1=>Ok.get h1.1 h1.2.1 λ p2 _=>Wo (λ _=>?_) λ _=>?_
 ·refine Ud (nxp h1.2.2 (by omega) (by omega) (by omega)) λ y3 h3=>?_
  have e:=Xv h3.1 (by have:=h3.2.1;omega)
  refine WS (by rw[e];exact h3.1) ?_
  have hs:1<=ZM .i64 1 (wU y3.1)/\ZM .i64 1 (wU y3.1)<=1000:=by
   rw[e]
   have a:=h3.1
   have b:=h3.2.1
   have c:y3.1=0\/y3.1=1\/y3.1=2\/y3.1=3:=by omega
   rcases c with c | c | c | c<;>rw[c]<;>decide
  exact Ud (nxp h3.2.2 (by omega) (by omega) (by omega)) λ y4 h4=>Wg (h4.2.2.le (by omega))
 ·refine I6 (λ x5=>Wo (λ _=>?_) λ _=>Wo (λ _=>?_) λ _=>?_) λ j h=>Ua (h _) (h _)
  ·exact Ud (nxp h1.2.2 (by omega) (by omega) (by omega)) λ y6 h6=>Ud (nxp h6.2.2 (by omega) (by omega) (by omega)) λ y7 h7=>Ua (Ud (nxp h7.2.2 (by omega) (by omega) (by omega)) λ y8 h8=>Wg (h8.2.2.le (by omega))) (Wg (h7.2.2.le (by omega)))
  ·exact Ud (nxp h1.2.2 (by omega) (by omega) (by omega)) λ y9 h9=>Wg (h9.2.2.le (by omega))
  ·refine Ud (J7 hw hw2 h1.2.2 (by omega)) λ y10 h10=>Ud (nxp h10 (by omega) (by omega) (by omega)) λ y11 h11=>Ud (nxp h11.2.2 (by omega) (by omega) (by omega)) λ y12 h12=>?_
   have k:∀ (l:List Int) (at_ c:Int),TA (m+12) ⟨l,at_⟩->Ok (bif (p2==10) then (bnd (Qbn N p (UU.mk l at_)) λ y19 =>
    some ((Oj.mk p2 y10.1 y19.1 c),y19.2))
   else some ((Oj.mk p2 y10.1 (wU y11.1) c),(UU.mk l at_))) λ r=>TA (m+20) r.2:=λ l at_ c ht =>
    Ua (Ud (J7 hw hw2 ht (by omega)) λ y hy=>Wg (hy.le (by omega))) (Wg (ht.le (by omega)))
   refine Is (Ua (Ud (J7 hw hw2 h12.2.2 (by omega)) λ y hy=>k _ _ _ (hy.le (by omega))) (Ud (nxp h12.2.2 (by omega) (by omega) (by omega)) λ y13 h13=>Ua (Ud (J7 hw hw2 h13.2.2 (by omega)) λ y hy=>k _ _ _ (hy.le (by omega))) (k _ _ _ (h13.2.2.le (by omega)))))
structure PB (k:Nat) (p:Ig):Prop where
 env:EB p.Env
 wor:WB k p.World
 ty:Vn p
 w1:1<=p.Words.length
 w2:p.Words.length<=k+1
theorem Xoe (a b:W6) (op v e:Int):Ok (Qdy N a b op v e) λ _=>True:=by
 rw[Qdy]
 have k2:∀ x y:Bool,Ok (bif (op==19) then (bif (e==0) then some (Ol.mk x y v)
  else some (Ol.mk x y 0))
  else some (Ol.mk x y 0)) λ _=>True:=λ x y=>Ua (Ua (Wg trivial) (Wg trivial)) (Wg trivial)
 refine I6 (λ x=>I6 (λ y=>k2 x y) λ j h=>Ua (h _) (h _)) λ j h=>Ua (h _) (Ua (h _) (h _))
theorem Xph (hN:NB N) {k:Nat} {p:Ig} (hp:PB k p) (hk:k+1<=900) {d:Oj} (td:XbD d):Ok (QbP N p d) λ r=>PB (k+1) r.1:=by
 have ty:=λ r (e:QbP N p d=some r)=>Qi8 (N:=N) hp.ty td r e
 have main:Ok (QbP N p d) λ r=>EB r.1.Env/\WB (k+1) r.1.World/\1<=r.1.Words.length/\r.1.Words.length<=k+1+1:=by
  have w1:=hp.w1
  have w2:=hp.w2
  have up:=hp.wor.up hk
  rw[QbP]
  refine Wo (λ _=>?_) λ _=>?_
  ·refine Ud (JM hN hp.env) λ y1 h1=>Is (Ua (Ud (XaP hN hp.wor hp.ty.2.1) λ y2 h2=>Wg ⟨h1,h2.up hk,w1,ID w2⟩) (Wg ⟨hp.env,up,w1,ID w2⟩))
  ·refine WG (Xj6 hN hp.env _ _ _ _) λ y26 e26 h26=>Ud (Xoe _ _ _ _ _) λ y27 _=>Ud (Xkc hN hp.wor hk hp.ty.2.1 d.Op td.1 td.2.1 td.2.2 y27) λ y28 h28=>?_
   have k2:∀ w:WM,WB (k+1) w->Ok (α:=Ig×Int×Int) (bif (y26.2.2==0) then (bif (y26.2.1 != 0) then (grd (p.Words.length*8<=140737488355328) <| grd ((p.Words.length+1)*8<=140737488355328) <| some ((Ig.mk y26.1 w (p.Words++[y26.2.1])),y26.2.1,y26.2.2)) else some ((Ig.mk y26.1 w p.Words),y26.2.1,y26.2.2)) else some ((Ig.mk p.Env w p.Words),y26.2.1,y26.2.2)) λ r=>EB r.1.Env/\WB (k+1) r.1.World/\1<=r.1.Words.length/\r.1.Words.length<=k+1+1:= by
    intro w hw
    refine Ua (Ua (WS (by omega) (WS (by omega) (Wg ⟨h26,hw,?_,?_⟩))) (Wg ⟨h26,hw,w1,by simp only;omega⟩)) (Wg ⟨hp.env,hw,w1,by simp only;omega⟩)
    ·show 1<=(p.Words++[_]).length;rw[Wq];omega
    ·show (p.Words++[_]).length<=_;rw[Wq];simp;omega
   exact Is (Ua (k2 y28.1 h28) (k2 p.World up))
 obtain ⟨r,e,h⟩:=main
 exact ⟨r,e,h.1,h.2.1,(ty r e).1,h.2.2.1,h.2.2.2⟩
end
end Go.Sx
namespace Go.Sx
section
variable {N:Nat}
theorem Xia {t:UU} {m:Int} (h:TA m t) (hm:m+5<=1000000):Ok (Qc8 N t) λ r=>TA (m+2) r.2:=by
 rw[Qc8]
 exact Ud (nxp h (by omega) (by omega) (by omega)) λ y hy=>Ok.get hy.1 hy.2.1 λ _ _=>Ud (nxp hy.2.2 (by omega) (by omega) (by omega)) λ z hz=>Ok.get hz.1 hz.2.1 λ _ _=>Wg (hz.2.2.le (by omega))
theorem Xkd (c:WT):Ok (Qeg N c) λ r=>EB r.1:=by
 rw[Qeg,Qfl,Yy,Xa]
 refine WG (Q:=λ r:Wn×Int=>HB r.1) ?_ λ y _ hy=>Wg ⟨hy,Zp,XbP,XbP,by simp,by simp⟩
 refine Wo (λ _=>Wg ZL) λ hv=>?_
 have hv:XZ c=true:=by simpa using hv
 have hvc:=Xi.1 hv
 have hm:=X3 hv (i:=0) (by omega) (by omega)
 have e:=Xc (n:=c.Pages*c.PageWords) (by omega) (by omega)
 refine WS (by rw[e];omega) (WS (by omega) (Wg ⟨?_,?_⟩))
 ·show (List.replicate _ _).length<=_;rw[WC,e];omega
 ·show (List.replicate _ _).length<=_;rw[WC];omega
theorem Xke (c:WT):Ok (Qfm N c) λ r=>WB 0 r.1:=by
 rw[Qfm,Yy,Xa]
 have z:∀ c:WT,WB 0 ⟨c,[],zL,zT,zT,[],[]⟩:=λ c=>⟨by omega,by simp,λ x hx=>by simp at hx,Zp,by simp[zT],by simp[zT],by simp,by simp⟩
 exact Ua (Wg (z _)) (Wg (z _))
theorem Xkf {t:UU} {m:Int} (h:TA m t) (hm:m+5<=1000000):Ok (Qbo N t) λ r=>PB 0 r.1/\TA (m+3) r.2:=by
 have main:Ok (Qbo N t) λ r=>EB r.1.Env/\WB 0 r.1.World/\1<=r.1.Words.length/\r.1.Words.length<=1/\TA (m+3) r.2:=by
  rw[Qbo]
  refine Ud (Xia h hm) λ y1 h1=>Ud (Xkd _) λ y2 h2=>Ud (Xke _) λ y3 h3=>Ud (nxp h1 (by omega) (by omega) (by omega)) λ y4 h4=>Wg ⟨⟨h2.heap,⟨h2.loc.1,by simp,h2.loc.2.2⟩,h2.glo,h2.wea,h2.pins,h2.roots⟩,⟨h3.kk,h3.things,h3.fields,⟨h3.loc.1,by simp,h3.loc.2.2⟩,h3.gloK,h3.weaK,h3.marksK,h3.rootsK⟩,by simp,by simp,h4.2.2.le (by omega)⟩
 obtain ⟨r,e,h1,h2,h3,h4,h5⟩:=main
 exact ⟨r,e,⟨h1,h2,QhJ r e,h3,h4⟩,h5⟩
end
end Go.Sx
namespace Go.Sx
theorem Xhc {α:Type} {l:List α} {F:Nat->Int->Option (Ex Int Unit)} {p:α->Bool} (hl:l.length<=1000000)
 (hstep:∀ (n k:Nat) (x:α),l[k]? = some x->F (n+1) (k:Int)=bif p x then some (.ret (k:Int)) else F n ((k+1:Nat):Int))
 (hstop:∀ n:Nat,F (n+1) (l.length:Int)=some (.nxt ())):∀ (n k:Nat),k<=l.length->l.length-k<n->F n (k:Int)=some (match (l.drop k).findIdx? p with | some j=>.ret ((k+j:Nat):Int) | none=>.nxt ())
 | 0,k,_,hn=>by omega
 | n+1,k,hk,hn=>by
  by_cases h:k<l.length
  ·rw[hstep n k _ (Wd h),Wu h,List.findIdx?_cons]
   cases hp:p l[k]
   ·rw[Wa,Xhc hl hstep hstop n (k+1) (by omega) (by omega),Wk (by simp)]
    cases (l.drop (k+1)).findIdx? p with
    | none=>rfl
    | some j=>simp only[Im];rw[show k+1+j=k+(j+1) by omega]
   ·rw[Wc,Wm rfl];simp
  ·obtain rfl:k=l.length:=by omega
   rw[hstop,WL (Uf _)]
   rfl
def JN {α:Type} (p:α->Bool) (l:List α):Int:=match l.findIdx? p with | some j=>(j:Int) | none=>-1
theorem JO {α:Type} {l:List α} {F:Nat->Int->Option (Ex Int Unit)} {p:α->Bool} {N:Nat} (hl:l.length<=1000000) (hN:1000000<N)
 (hstep:∀ (n k:Nat) (x:α),l[k]? = some x->F (n+1) (k:Int)=bif p x then some (.ret (k:Int)) else F n ((k+1:Nat):Int))
 (hstop:∀ n:Nat,F (n+1) (l.length:Int)=some (.nxt ())):(bnd (F N 0) λ e=>exK e (λ r=>some r) λ _=>some (-1))=some (JN p l):=by
 have h:=Xhc hl hstep hstop N 0 (by omega) (by omega)
 rw[show ((0:Nat):Int)=0 from rfl,WX] at h
 rw[h,Xa,JN]
 cases l.findIdx? p with
 | none=>simp only[Xr]
 | some j=>simp only[XC,Ux]
theorem K5 {α:Type} (p:α->Bool) (l:List α):decide (JN p l>=0)=l.any p:=by
 unfold JN
 cases h:l.findIdx? p with
 | none =>
  rw[List.findIdx?_eq_none_iff] at h
  rw[show l.any p=false by rw[List.any_eq_false];intro x hx;rw[h x hx];simp]
  rfl
 | some j =>
  obtain ⟨hj,hp,_⟩:=List.findIdx?_eq_some_iff_getElem.1 h
  rw[show l.any p=true by rw[II];exact ⟨_,WV hj,hp⟩]
  exact Wh (by show ((j:Nat):Int)>=0;omega)
section
variable {N:Nat}
theorem Xmu (e:Ub):Qe6 N e=some (!VT e):=by
 rw[Qe6]
 unfold VT
 cases decide (e.Gen<1)<;>cases decide (e.Gen>4294967295)<;>cases e.Live<;>cases (e.Ref != 0)<;>rfl
theorem XdO {α:Type} (p:α->Bool) (l:List α):(!l.any λ x=>!p x)=l.all p:=by
 rw[List.not_any_eq_all_not]
 congr 1
 funext x
 simp
theorem V2 {t:WI} (hl:TB t) (hN:1000000<N):QdW N t=some (YS t.Entries):=by
 unfold TB at hl
 rw[QdW,Qaz,QaI]
 rw[JO (p:=λ e=>!VT e) hl hN (λ n k x e=>by
  have hk:=Xy e
  rw[Qai,XE hk,Wc,Xd,e,Xa,Xmu,Xa,Xh (by omega)]) (λ n=>by rw[Qai,Xs,Wa])]
 rw[Xa,Xa,K5,XdO,YS,show decide (((t.Entries.length:Nat):Int)<=64)=decide (t.Entries.length<=64) from decide_eq_decide.2 (by omega)]
 cases t.Entries.all VT<;>cases decide (t.Entries.length<=64)<;>rfl
theorem Xat {t:WI} (hl:t.Entries.length<=1000000):∀ (n k:Nat) (v:List Int),k<=t.Entries.length->t.Entries.length-k<n->v.length<=k ->
 QdB N t n (k:Int) v=some (v++X0 (t.Entries.drop k))
 | 0,k,v,_,hn,_=>by omega
 | n+1,k,v,hk,hn,hlv=>by
  rw[QdB]
  by_cases h:k<t.Entries.length
  ·rw[XE h,Wc,Xd,Wd h,Xa,Xh (by omega),Wu h,X0]
   cases hL:t.Entries[k].Live
   ·rw[Wa,Xat hl n (k+1) v (by omega) (by omega) (by omega),UG (by rw[hL];simp)]
    rfl
   ·rw[Wc,Xe (by omega),Xat hl n (k+1) _ (by omega) (by omega) (by rw[Wq];simp;omega),UR (by rw[hL])]
    simp[X0]
  ·obtain rfl:k=t.Entries.length:=by omega
   rw[Xs,Wa,WL (Uf _)]
   simp[X0]
theorem Xau {t:WI} (hl:TB t) (hN:1000000<N):QeU N t=some (bif YS t.Entries then X0 t.Entries else []):=by
 rw[QeU,V2 hl hN,Xa]
 cases hv:YS t.Entries
 ·rfl
 ·have h:=Xat (N:=N) (t:=t) hl N 0 [] (by omega) (by unfold TB at hl;omega) (by simp)
  rw[show ((0:Nat):Int)=0 from rfl,WX,Uw] at h
  rw[Ws,Wa,h,Xa];rfl
theorem Xfc {t:WI} (hl:TB t) (hN:1000000<N) (i g:Int):Qf5 N t i g=some (Y2 t.Entries i g):=by
 have hl':=hl
 unfold TB at hl
 rw[Qf5,Qgx,V2 hl' hN,Xa,Y2]
 cases hv:YS t.Entries
 ·rw[WU,Wc,Xa];rfl
 ·simp only[Ws,Wa,Xnt,Bool.true_eq_false,if_false]
  by_cases h0:i<0
  ·rw[Wm h0,Wm (.inl h0),Xa];rfl
  ·rw[Wk h0]
   by_cases h1:i>=((t.Entries.length:Nat):Int)
   ·rw[Wm h1,Wm (.inr (.inl h1)),Xa];rfl
   ·rw[Wk h1]
    by_cases h2:g<1
    ·rw[Wm h2,Wm (.inr (.inr h2)),Xa];rfl
    ·have hlt:i.toNat<t.Entries.length:=by omega
     rw[Wk h2,Wk (by omega),Yc (by omega) (by omega),Xa,Wd hlt]
     simp only[Xa]
     by_cases h3:g>t.Entries[i.toNat].Gen
     ·rw[Wm h3,Wm h3,Xa];rfl
     ·rw[Wk h3,Wk h3]
      by_cases h4:g<t.Entries[i.toNat].Gen
      ·rw[Wm h4,Wm h4,Xa];rfl
      ·rw[Wk h4,Wk h4]
       cases t.Entries[i.toNat].Live
       ·rw[WU,Wc,Xa];rfl
       ·rw[Ws,Wa,Xa];rfl
theorem Xib (x:Int):Qe5 N x=some (!(!decide (x<0)&&!decide (x>4095))):=by
 rw[Qe5,show decide (x>=4096)=decide (x>4095) from decide_eq_decide.2 (by omega)]
 cases decide (x<0)<;>cases decide (x>4095)<;>rfl
theorem Xc1 {a:Ww}:∀ (n:Nat) (s i:Int),QaG N ⟨a⟩ n s i=Qah N a n s i
 | 0,s,i=>by rw[QaG,Qah]
 | n+1,s,i=>by
  rw[QaG,Qah]
  have e:∀ s i,QaG N ⟨a⟩ n s i=Qah N a n s i:=Xc1 n
  simp only[e]
theorem Xb3 {a:Ww}:∀ (n:Nat) (s i:Int),QaN N ⟨a⟩ n s i=Qaj N a n s i
 | 0,s,i=>by rw[QaN,Qaj]
 | n+1,s,i=>by
  rw[QaN,Qaj]
  have e:∀ s i,QaN N ⟨a⟩ n s i=Qaj N a n s i:=Xb3 n
  have c:∀ p:UX,(p.Live==(p.Ref==0))=(!(p.Live==(p.Ref != 0))):=λ p=>by
   show (p.Live==(p.Ref==0))=(!(p.Live==!(p.Ref==0)))
   cases p.Live<;>cases (p.Ref==0)<;>rfl
  simp only[e,c]
theorem Xic {a:Ww} (hl:LBp a) (hne:neB a.Slots.length a.Scopes=true) {k:Nat} {p:U1} (hp:a.Scopes[k]? = some p):Qdu N ⟨a⟩ (k:Int)=some ((a.Slots.drop p.From.toNat).take ((toL a k).toNat-p.From.toNat)):=by
 have hf:=JI hne hp
 have hk:=Xy hp
 have hl2:=hl.2.1
 have hle:(Iz.mk a).Locals.Slots.length=a.Slots.length:=rfl
 rw[Qdu,Xh (by omega),toL]
 by_cases h:k+1<a.Scopes.length
 ·have e2:=Wd h
  have hf2:=JI hne e2
  have:=hf.2.2.2.2.2 _ e2
  rw[XE h,Wc,Xd,hp,Xa,Xd,e2,Xa,Xe (by omega)]
 ·rw[show decide (((k+1:Nat):Int)<((a.Scopes.length:Nat):Int))=false from Wj (by omega),Wa,Xd,hp,Xa,Xe (by omega),WQ (by omega)]
  congr 1
  rw[U3]
  rw[WO];simp
theorem Xb4 (l:List UX) (hl:l.length<=1000000):∀ (n k c:Nat),k<=l.length->l.length-k<n->c<=k->Qbt N l n (c:Int) (k:Int)=some (((c+(l.drop k).countP (·.Live):Nat):Int))
 | 0,k,c,_,hn,_=>by omega
 | n+1,k,c,hk,hn,hc=>by
  rw[Qbt]
  by_cases h:k<l.length
  ·rw[XE h,Wc,Xd,Wd h,Xa,Xh (by omega),Xh (by omega),Wu h,List.countP_cons]
   cases hL:l[k].Live
   ·rw[Wa,Xb4 l hl n (k+1) c (by omega) (by omega) (by omega)];simp
   ·rw[Wc,Xb4 l hl n (k+1) (c+1) (by omega) (by omega) (by omega)];simp;omega
  ·obtain rfl:k=l.length:=by omega
   rw[Xs,Wa,WL (Uf _)];simp
theorem Xkg {a:Ww} (hl:LBp a) (hN:1000000<N) (hne:neB a.Slots.length a.Scopes=true) {k:Nat} {p:U1} (hp:a.Scopes[k]? = some p):QdF N ⟨a⟩ (k:Int)=some ((KI a.Slots p.From.toNat (toL a k).toNat:Nat):Int):=by
 have hl1:=hl.1
 rw[QdF,Xic hl hne hp,Xa]
 have hlen:((a.Slots.drop p.From.toNat).take ((toL a k).toNat-p.From.toNat)).length<=1000000:=by rw[Wz,WO];omega
 have h:=Xb4 (N:=N) _ hlen N 0 0 (by omega) (by omega) (by omega)
 rw[show ((0:Nat):Int)=0 from rfl,WX,Ux] at h
 rw[h,Xa];rfl
theorem Xb5 {a:Ww} (hl:LBp a) (hN:1000000<N):Qeu N a=some (Y4 a):=by
 have hl':=hl
 obtain ⟨hl1,hl2,hl3⟩:=hl
 rw[Qeu,Qbd,Qbx]
 rw[JO (p:=λ x=>!(!decide (x<0)&&!decide (x>4095))) hl3 hN (λ n k x e=>by
  have hk:=Xy e
  rw[Qax,XE hk,Wc,Xd,e,Xa,Xib,Xa,Xh (by omega)]) (λ n=>by rw[Qax,Xs,Wa])]
 have h2:=K3 (l:=a.Slots) (F:=λ n s i=>Qaj N a n s i) (q:=stQ a.Issued) (nxp:=λ _ p=>p.Stamp) (I:=λ s=>0<=s) (λ n s k p hs e=>by
  have hk:=Xy e
  show Qaj N a (n+1) s (k:Int)=_
  rw[Qaj,XE hk,Wc,Xd,e,Xa,Xh (by omega)]
  unfold stQ
  cases g1:decide (p.Stamp<=s)
  ·cases g2:decide (p.Stamp>((a.Issued.length:Nat):Int))
   ·have g1:=WH g1
    have g2:=WH g2
    rw[Wa,Wa,Xc (by omega) (by omega),Yc (by omega) (by omega),Xa]
    have ge:a.Issued[(p.Stamp-1).toNat]'(by omega)=a.Issued.getD (p.Stamp-1).toNat 0:=by
     rw[Wp,Wd (by omega)];rfl
    rw[ge]
    cases (a.Issued.getD (p.Stamp-1).toNat 0 != (k:Int))<;>cases (p.Live==(p.Ref != 0))<;>rfl
   ·rfl
  ·rfl) (λ n s=>by show Qaj N a (n+1) s _=_;rw[Qaj,Xs,Wa]) (λ s k p hs e hq=>by
   unfold stQ at hq
   simp only[WE,Uv,Ue] at hq
   have:=hq.1
   omega) N 0 0 (by omega) (by omega) (by omega)
 have h3:=K3 (l:=a.Scopes) (F:=λ n s i=>Qah N a n s i) (q:=neQ a.Slots.length) (nxp:=λ _ p=>p.From) (I:=λ _=>True) (λ n s k p hs e=>by
  have hk:=Xy e
  show Qah N a (n+1) s (k:Int)=_
  rw[Qah,XE hk,Wc,Xd,e,Xa,Xh (by omega)]
  unfold neQ
  cases ((k:Int)==0)<;>cases (p.From != 0)<;>cases p.Base<;>cases decide (p.From<s)<;>cases decide (p.From>((a.Slots.length:Nat):Int))<;>cases decide (p.Cap<0)<;>cases decide (p.Cap>64)<;>rfl) (λ n s=>by show Qah N a (n+1) s _=_;rw[Qah,Xs,Wa]) (λ _ _ _ _ _ _=>trivial) N 0 0 trivial (by omega) (by omega)
 rw[WX] at h2 h3
 have e2:Qaj N a N 0 0=some (bif stB a.Issued a.Slots then .nxt () else .ret false):=h2
 have e3:Qah N a N 0 0=some (bif neB a.Slots.length a.Scopes then .nxt () else .ret false):=h3
 have en:Qc7 N ⟨a⟩=some (!decide (((a.Scopes.length:Nat):Int)>64)&&((!(((a.Scopes.length:Nat):Int)==0)||!decide (((a.Slots.length:Nat):Int)>0))&&neB a.Slots.length a.Scopes)):=by
  rw[Qc7,XV,Xc1,e3,Xa]
  cases neB a.Slots.length a.Scopes<;>cases decide (((a.Scopes.length:Nat):Int)>64)<;>cases (((a.Scopes.length:Nat):Int)==0)<;>cases decide (((a.Slots.length:Nat):Int)>0)<;>simp only[Wc,Wa,XC,Xr]<;>rfl
 have es:QcU N ⟨a⟩=some (stB a.Issued a.Slots):=by
  rw[QcU,Xb3,e2,Xa]
  cases stB a.Issued a.Slots<;>simp only[Wc,Wa,XC,Xr]
 rw[Xa,Xa,K5,en,Xa,es,Xa,Y4,Xmm]
 have ea:(a.Issued.any λ x=>!(!decide (x<0)&&!decide (x>4095))) = !(a.Issued.all λ p=>!decide (p<0)&&!decide (p>4095)):=by
  rw[← XdO,Bool.not_not]
 rw[ea]
 cases decide (((a.Issued.length:Nat):Int)>4096)
 rotate_left
 ·rfl
 cases (a.Issued.all λ p=>!decide (p<0)&&!decide (p>4095))
 ·cases decide (((a.Scopes.length:Nat):Int)>64)<;>cases (!(((a.Scopes.length:Nat):Int)==0)||!decide (((a.Slots.length:Nat):Int)>0))<;>rfl
 cases decide (((a.Scopes.length:Nat):Int)>64)
 rotate_left
 ·rfl
 cases (!(((a.Scopes.length:Nat):Int)==0)||!decide (((a.Slots.length:Nat):Int)>0))
 ·rfl
 cases hne:neB a.Slots.length a.Scopes
 ·cases stB a.Issued a.Slots<;>rfl
 cases stB a.Issued a.Slots
 ·rfl
 simp only[Wa,Ws,WU,WR,Bool.and_true]
 have h4:=KG (l:=a.Scopes) (F:=Qdi N a) (q:=Xj2 a ()) (λ n k p e=>by
  have hk:=Xy e
  rw[Qdi,XE hk,Wc,Xd,e,Xa,Xkg hl' hN hne e,Xa,Xh (by omega)]
  unfold Xj2
  cases decide (((KI a.Slots p.From.toNat (toL a k).toNat:Nat):Int)>p.Cap)<;>rfl) (λ n=>by rw[Qdi,Xs,Wa]) (n:=N) (by omega)
 rw[h4,Xa]
 show exK (bif Xf2 a then Ex.nxt () else Ex.ret false) _ _=_
 cases Xf2 a
 ·rw[Wa,XC]
 ·rw[Wc,Xr]
theorem Xav {a:Ww} (hl:a.Slots.length<=1000000):∀ (n k:Nat) (v:List Int),k<=a.Slots.length->a.Slots.length-k<n->v.length<=k ->
 QdC N a n (k:Int) v=some (v++Yq (a.Slots.drop k))
 | 0,k,v,_,hn,_=>by omega
 | n+1,k,v,hk,hn,hlv=>by
  rw[QdC]
  by_cases h:k<a.Slots.length
  ·rw[XE h,Wc,Xd,Wd h,Xa,Xh (by omega),Wu h,Yq]
   cases hL:a.Slots[k].Live
   ·rw[Wa,Xav hl n (k+1) v (by omega) (by omega) (by omega),UG (by rw[hL];simp)]
    rfl
   ·rw[Wc,Xe (by omega),Xav hl n (k+1) _ (by omega) (by omega) (by rw[Wq];simp;omega),UR (by rw[hL])]
    simp[Yq]
  ·obtain rfl:k=a.Slots.length:=by omega
   rw[Xs,Wa,WL (Uf _)]
   simp[Yq]
theorem Xid {a:Ww} (hl:LBp a) (hN:1000000<N):Qgg N a=some (bif Y4 a then Yq a.Slots else []):=by
 rw[Qgg,Xb5 hl hN,Xa]
 cases hv:Y4 a
 ·rfl
 ·have h:=Xav (N:=N) (a:=a) hl.1 N 0 [] (by omega) (by have:=hl.1;omega) (by simp)
  rw[show ((0:Nat):Int)=0 from rfl,WX,Uw] at h
  rw[Ws,Wa,h,Xa];rfl
theorem Xkh {a:Ww} (hl:LBp a) (hN:1000000<N) (i g:Int):QgB N a i g=some (Zl a i g):=by
 rw[← VW hl hN,QgB,QdT,Xb5 hl hN,ZF hl hN]
end
end Go.Sx
namespace Go.Sx
theorem Zw (N:Nat) (c:WT):Qa4 N c=some (XZ c):=by
 rw[show Qa4 N c=Qaw N c by rw[Qa4,Qaw]]
 exact Yy N c
theorem Xki (N:Nat) (c:WT):QcS N c=some (smC c):=by
 rw[show QcS N c=QbJ N c by rw[QcS,QbJ,Zw,Yy]]
 exact XgN N c
theorem K6 (N:Nat) (c:WT) (w:Int):Qen N c w=some (Xz c w):=by
 simp only[Qen,Zw,Xki,Xa,Xz,smC]
 cases hc:XZ c with
 | false=>simp
 | true =>
  have h:=Xi.1 hc
  simp only[Ws,Wa,if_true,Uy]
  rw[Xc (n:=4*c.PageWords) (by omega) (by omega)]
  by_cases h1:w<1
  ·rw[Wm h1,Wk (show ¬ (True/\1<=w) from λ h=>by omega)]
  rw[Wk h1,Wm (show True/\1<=w from ⟨trivial,by omega⟩)]
  by_cases h2:w>4*c.PageWords
  ·rw[Wm h2];simp only[Wk (show ¬ w<=c.PageWords / 4 by omega),Wk (show ¬ c.PageWords>=w by omega),Wk (show ¬ 2*c.PageWords>=w by omega),Wk (show ¬ 3*c.PageWords>=w by omega),Wk (show ¬ 4*c.PageWords>=w by omega)]
  rw[Wk h2]
  by_cases h3:w<=c.PageWords / 4
  ·rw[Wm h3,Wm h3]
  rw[Wk h3,Wk h3,Xe (by omega),Xc (n:=w+c.PageWords) (by omega) (by omega),Xc (n:=w+c.PageWords-1) (by omega) (by omega),Ic (by omega)]
  have key:∀ k:Int,k*c.PageWords<=w+c.PageWords-1->w+c.PageWords-1<(k+1)*c.PageWords->(w+c.PageWords-1) / c.PageWords=k:=by
   intro k a b
   have b1:=Int.ediv_lt_of_lt_mul (show 0<c.PageWords by omega) b
   have a1:=Int.le_ediv_of_mul_le (show 0<c.PageWords by omega) a
   omega
  split
  ·rw[key 1 (by omega) (by omega)];rfl
  split
  ·rw[key 2 (by omega) (by omega)];rfl
  split
  ·rw[key 3 (by omega) (by omega)];rfl
  split
  ·rw[key 4 (by omega) (by omega)];rfl
  ·omega
theorem Xkj (N:Nat) (c:WT) (a:Int) (ha:a<=18446744073709551615):QfD N c a=Qc9 N c a:=by
 rw[VO]
 simp only[QfD,Zw,Xa,Uy]
 cases hc:XZ c with
 | false=>simp
 | true =>
  have h:=Xi.1 hc
  have hm:=X3 hc (i:=0) (by omega) (by omega)
  simp only[Ws,Wa]
  rw[Wk (show ¬ (true=false) by simp),Oe c.PageWords c.Pages]
  rw[Xc (n:=c.Pages*c.PageWords) (by omega) (by omega),Xv (n:=c.Pages*c.PageWords) (by omega) (by omega)]
  by_cases h1:a<4096
  ·rw[Wm h1,Wk (by omega)]
  rw[Wk h1,Xv (n:=a-4096) (by omega) (by omega)]
  by_cases h2:a>=4096+c.Pages*c.PageWords
  ·rw[Wm (by omega),Wk (by omega)]
  rw[Wk (by omega),Wm (by omega),Xe (by omega),Xe (by omega)]
  rw[Xc (n:=a-4096) (by omega) (by omega),Ic (by omega),Ix (by omega)]
  have hd:0<=(a-4096) / c.PageWords:=Int.ediv_nonneg (by omega) (by omega)
  have hd2:(a-4096) / c.PageWords<=a-4096:=Int.ediv_le_self _ (by omega)
  rw[Xc (by omega) (by omega)]
theorem JP (N:Nat) (c:WT) (p o:Int):Qd5 N c p o=Qbu N c p o:=by
 rw[ZX]
 simp only[Qd5,Zw,Xa,Uy]
 cases hc:XZ c with
 | false=>simp
 | true =>
  have h:=Xi.1 hc
  simp only[Ws,Wa]
  rw[Wk (show ¬ (true=false) by simp)]
  by_cases h1:p<0
  ·rw[Wm h1,Wk (by omega)]
  rw[Wk h1]
  by_cases h2:p>=c.Pages
  ·rw[Wm h2,Wk (by omega)]
  rw[Wk h2]
  by_cases h3:o<0
  ·rw[Wm h3,Wk (by omega)]
  rw[Wk h3]
  by_cases h4:o>=c.PageWords
  ·rw[Wm h4,Wk (by omega)]
  rw[Wk h4,Wm (by omega)]
  have hm:=X3 hc (i:=p) (by omega) (by omega)
  rw[Xc (n:=p*c.PageWords) (by omega) (by omega),Xc (n:=p*c.PageWords+o) (by omega) (by omega),Xv (n:=p*c.PageWords+o) (by omega) (by omega),Xv (by omega) (by omega)]
  unfold Xg;rw[Int.add_assoc]
def ZW (sp:Int) (p:Wv):Bool:=p.Kind==3&&p.Space==sp
def JQ (ps:List Wv) (sp:Int) (i:Nat):Nat:=((ps.drop i).takeWhile (ZW sp)).length
theorem Xfd (N:Nat) (ps:List Wv) (sp:Int) (hl:ps.length<=1000000):∀ (n c i:Nat),i<=ps.length->c<=i->ps.length-i<n->QcB N ps sp n (c:Int) (i:Int)=some (((c+JQ ps sp i:Nat):Int))
 | 0,c,i,_,_,h=>by omega
 | n+1,c,i,h,hc,hn=>by
  rw[QcB]
  by_cases hlt:i<ps.length
  ·rw[Wh (by omega),Wc,Xd,Wd hlt,Xa,Xa]
   have hd:ps.drop i=ps[i]::ps.drop (i+1):=Wu hlt
   unfold JQ
   rw[hd,List.takeWhile_cons]
   cases h1:(ps[i].Kind==3) with
   | false=>simp[ZW,h1]
   | true =>
    rw[Wc]
    cases h2:(ps[i].Space==sp) with
    | false=>simp[ZW,h1,h2]
    | true =>
     rw[Wc,show ZW sp ps[i]=true by simp[ZW,h1,h2],Wm rfl]
     rw[Xh (by omega),Xh (by omega),Xfd N ps sp hl n (c+1) (i+1) (by omega) (by omega) (by omega)]
     unfold JQ
     rw[W5];congr 1;omega
  ·have:ps.drop i=[]:=WL (by omega)
   rw[Wj (by omega),Wa];simp[JQ,this]
theorem Xkk {N:Nat} (ps:List Wv) (sp:Int) (hl:ps.length<=1000000) (hN:1000000<N) (i:Nat) (hi:i<ps.length):Qeq N ps (i:Int) sp=some ((JQ ps sp (i+1):Nat):Int):=by
 rw[Qeq,Xh (by omega),show (0:Int)=((0:Nat):Int) from rfl,Xfd N ps sp hl N 0 (i+1) (by omega) (by omega) (by omega),Xa,Ux]
theorem V3 {α:Type} (q:α->Bool):∀ (l:List α) (k:Nat),k<=(l.takeWhile q).length↔k<=l.length/\(l.take k).all q=true
 | [],k=>by simp
 | a::l,0=>by simp
 | a::l,k+1=>by
  rw[List.takeWhile_cons]
  cases h:q a with
  | false=>simp[h]
  | true=>simp[h];exact V3 q l k |>.trans (by simp)
def X6 (sp:Int) (p:Wv):Bool:=ZW sp p&&(p.Used==0&&p.Pins==0)
theorem Xhd (N:Nat) (a1:List Wv) (a2:Int) (p1:Wv) (x5 y6:Int) (l:List Wv) (hl:l.length<=1000000)
 (hd:((a1.drop (wI (a2+1)).toNat).take ((wI (a2+y6)).toNat-(wI (a2+1)).toNat))=l) (hm:min ((wI (a2+y6)).toNat-(wI (a2+1)).toNat) (a1.length-(wI (a2+1)).toNat)=l.length) :
 ∀ (n k:Nat),k<=l.length->l.length-k<n->QeD N a1 a2 p1 x5 y6 n (k:Int)=some (if (l.drop k).all (X6 p1.Space)=true then .nxt () else .ret 0)
 | 0,k,_,h=>by omega
 | n+1,k,h,hn=>by
  rw[QeD,hd,hm]
  by_cases hlt:k<l.length
  ·rw[Wh (by omega),Wc,Xd,Wd hlt,Xa,Qex,Xa,Wu hlt,I8]
   have e:((l[k].Kind==3)&&((l[k].Space==p1.Space)&&((l[k].Used==0)&&(l[k].Pins==0))))=X6 p1.Space l[k]:=by
    unfold X6 ZW;rw[Bool.and_assoc]
   rw[e]
   cases hq:X6 p1.Space l[k] with
   | false=>simp
   | true =>
    rw[Ws,Wa,Xh (by omega),Xhd N a1 a2 p1 x5 y6 l hl hd hm n (k+1) (by omega) (by omega),WR]
  ·rw[Wj (by omega),Wa,WL (by omega)];rfl
def Ya (c:WT) (ps:List Wv) (i:Nat) (p:Wv):Nat :=
 if p.Kind=0 then (if p.Space=0/\p.Used=0/\p.Pins=0 then 1 else 0)
 else if (p.Space=0\/p.Space=1)/\0<=p.Pins/\p.Pins<=2147483647 then
  (if p.Kind=1 then (if 0<=p.Used/\p.Used<=c.PageWords then 1 else 0)
   else if p.Kind=2 then (if 1<=Xz c p.Used/\(Xz c p.Used).toNat<=ps.length-i/\((ps.drop (i+1)).take ((Xz c p.Used).toNat-1)).all (X6 p.Space)=true then (Xz c p.Used).toNat else 0)
   else 0)
 else 0
theorem Zx (N:Nat) (p:Wv):QbF N p=some (decide (p.Space=0\/p.Space=1)):=by
 rw[QbF]
 by_cases h:p.Space=0
 ·simp[h]
 ·rw[show (p.Space==0)=false by simpa using h,Wa]
  by_cases h1:p.Space=1
  ·simp[h1]
  ·rw[show (p.Space==1)=false by simpa using h1,Wj (by omega)]
theorem J8 (N:Nat) (p:Wv):QcW N p=some (decide (0<=p.Pins/\p.Pins<=2147483647)):=by
 rw[QcW];exact Xa3 N p.Pins
theorem Kz {N:Nat} {c:WT} {ps:List Wv} (hl:ps.length<=100000) (hN:1000000<N) {i:Nat} (hi:i<ps.length):Qgz N c ps (i:Int)=some ((Ya c ps i ps[i]:Nat):Int):=by
 rw[Qgz,Xd,Wd hi,Xa,XV]
 generalize hp:ps[i]=p
 unfold Ya
 by_cases k0:p.Kind<0
 ·rw[Wh k0,Wc,Wk (by omega),Wk (show ¬ p.Kind=1 by omega),Wk (show ¬ p.Kind=2 by omega)];simp
 rw[Wj k0,Wa]
 by_cases k3:p.Kind>=3
 ·rw[Wh k3,Wc,Wk (by omega),Wk (show ¬ p.Kind=1 by omega),Wk (show ¬ p.Kind=2 by omega)];simp
 rw[Wj k3,Wa]
 by_cases e0:p.Kind=0
 ·rw[show (p.Kind==0)=true by simpa using e0,Wc,Wm e0,Qfg,Xa]
  by_cases hz:p.Space=0/\p.Used=0/\p.Pins=0
  ·obtain ⟨z1,z2,z3⟩:=hz
   simp[z1,z2,z3]
  ·rw[Wk hz,show (((0:Int)==0)&&((p.Space==0)&&((p.Used==0)&&(p.Pins==0))))=false by
    rw[Bool.eq_false_iff];intro hh;simp only[WE,beq_iff_eq] at hh;exact hz ⟨hh.2.1,hh.2.2.1,hh.2.2.2⟩]
   rfl
 rw[show (p.Kind==0)=false by simpa using e0,Wa,Wk e0]
 by_cases hsp:(p.Space=0\/p.Space=1)
 case neg =>
  rw[Wk (λ hh=>hsp hh.1)]
  by_cases e1:p.Kind=1
  ·rw[show (p.Kind==1)=true by simpa using e1,Wc,Qdg,Zx,Xa,Wj hsp,Wa,Xa];rfl
  ·have e2:p.Kind=2:=by omega
   rw[show (p.Kind==1)=false by simpa using e1,Wa,show (p.Kind==2)=true by simpa using e2,Wc,Qdh,Zx,Xa,Wj hsp,Wa,Xa];rfl
 by_cases hpn:0<=p.Pins/\p.Pins<=2147483647
 case neg =>
  rw[Wk (λ hh=>hpn hh.2)]
  by_cases e1:p.Kind=1
  ·rw[show (p.Kind==1)=true by simpa using e1,Wc,Qdg,Zx,Xa,Wh hsp,Wc,J8,Xa,Wj hpn,Wa,Xa];rfl
  ·have e2:p.Kind=2:=by omega
   rw[show (p.Kind==1)=false by simpa using e1,Wa,show (p.Kind==2)=true by simpa using e2,Wc,Qdh,Zx,Xa,Wh hsp,Wc,J8,Xa,Wj hpn,Wa,Xa];rfl
 rw[Wm ⟨hsp,hpn⟩]
 by_cases e1:p.Kind=1
 ·rw[show (p.Kind==1)=true by simpa using e1,Wc,Qdg,Zx,Xa,Wh hsp,Wc,J8,Xa,Wh hpn,Wc,Wm e1]
  by_cases u0:0<=p.Used
  ·by_cases u1:p.Used<=c.PageWords
   ·simp[u0,u1,Xa]
   ·simp[u0,u1,Xa]
  ·simp[u0,Xa]
 have e2:p.Kind=2:=by omega
 rw[show (p.Kind==1)=false by simpa using e1,Wa,show (p.Kind==2)=true by simpa using e2,Wc,Qdh,Zx,Xa,Wh hsp,Wc,J8,Xa,Wh hpn,Wc,Wk e1,Wm e2]
 simp only[K6,Xa]
 by_cases hn1:Xz c p.Used>=1
 case neg=>rw[Wj hn1,WU,Wc,Wk (λ hh=>hn1 hh.1)];rfl
 have hr:=Ze c p.Used
 rw[Wh hn1,Ws,Wa,show ((2:Int) != 2)=false from rfl,Wa,Xc (n:=((ps.length:Nat):Int)-i) (by omega) (by omega)]
 by_cases hfit:Xz c p.Used>((ps.length:Nat):Int)-i
 ·rw[Wh hfit,Wc,Wk (λ hh=>by have:=hh.2.1;omega)];rfl
 rw[Wj hfit,Wa]
 have w1:wI ((i:Int)+1)=((i+1:Nat):Int):=Xh (by omega)
 have w2:wI ((i:Int)+Xz c p.Used)=(i:Int)+Xz c p.Used:=Xc (by omega) (by omega)
 rw[Xe (by rw[w1,w2];omega)]
 have t1:(wI ((i:Int)+1)).toNat=i+1:=by rw[w1];omega
 have t2:(wI ((i:Int)+Xz c p.Used)).toNat-(wI ((i:Int)+1)).toNat=(Xz c p.Used).toNat-1:=by rw[t1,w2];omega
 rw[show (0:Int)=((0:Nat):Int) from rfl,Xhd N ps (i:Int) p 2 (Xz c p.Used) ((ps.drop (i+1)).take ((Xz c p.Used).toNat-1)) (by rw[Wz];omega) (by rw[t2,t1]) (by rw[t2,t1,Wz,WO]) N 0 (by omega) (by rw[Wz];omega),Xa,WX]
 by_cases hall:((ps.drop (i+1)).take ((Xz c p.Used).toNat-1)).all (X6 p.Space)=true
 ·rw[Wm hall,Xr,Wm ⟨hn1,by omega,hall⟩];congr 1;omega
 ·rw[Wk hall,XC,Wk (λ hh=>hall hh.2.2)];rfl
end Go.Sx
namespace Go.Sx
theorem XB {p:Prop} [Decidable p] (h:¬ p):decide p=false:=Wj h
theorem Xc2 {N:Nat} {h:Wn} (hl:h.Pages.length<=100000) {sp:Int} (hsp:sp=0\/sp=1):∀ (k n i:Nat),i+k<=h.Pages.length->((h.Pages.drop i).take k).all (ZW sp)=true ->
 Qaq N h (n+k) (k:Int) (i:Int)=if ((h.Pages.drop i).take k).all (X6 sp)=true then Qaq N h n 0 ((i+k:Nat):Int) else some (.ret false)
 | 0,n,i,hik,ha=>by simp
 | k+1,n,i,hik,ha=>by
  have hlt:i<h.Pages.length:=by omega
  have hd:(h.Pages.drop i).take (k+1)=h.Pages[i]::(h.Pages.drop (i+1)).take k:=by rw[Wu hlt,Ip]
  rw[hd,I8,WE] at ha
  rw[hd,I8,show n+(k+1)=(n+k)+1 from rfl,Qaq,Wh (by omega),Wc,Xd,Wd hlt,Xa]
  have ih:=Xc2 (N:=N) hl hsp k n (i+1) (by omega) ha.2
  generalize h.Pages[i]=p at *
  have hk:p.Kind=3/\p.Space=sp:=by have:=ha.1;simp only[ZW,WE,beq_iff_eq] at this;exact this
  obtain ⟨hk3,hks⟩:=hk
  have q3:(p.Kind==3)=true:=by simpa using hk3
  rw[q3,Wh (show (((k+1:Nat):Int)>0) by omega),show (!(true==true))=false from rfl,Wa,XB (show ¬ p.Space<0 by omega),Wa,XB (show ¬ p.Space>1 by omega),Wa,Xa3,Xa]
  by_cases hp:p.Pins=0
  case neg =>
   have hc:X6 sp p=false:=by simp[X6,hp]
   rw[hc,Um,Wk (by simp)]
   by_cases hp2:0<=p.Pins/\p.Pins<=2147483647
   ·rw[Wh hp2,Ws,Wa]
    simp only[XV,show (p.Kind==0)=false by rw[hk3];rfl,show (p.Kind==1)=false by rw[hk3];rfl,show (p.Kind==2)=false by rw[hk3];rfl,q3,Wa,Wc,show (p.Pins != 0)=true by simpa using hp,Bool.cond_self]
   ·rw[Wj hp2,WU,Wc]
  rw[Wh (show 0<=p.Pins/\p.Pins<=2147483647 by omega),Ws,Wa]
  simp only[XV,show (p.Kind==0)=false by rw[hk3];rfl,show (p.Kind==1)=false by rw[hk3];rfl,show (p.Kind==2)=false by rw[hk3];rfl,q3,Wa,Wc,show (p.Pins != 0)=false by simpa using hp]
  by_cases hu:p.Used=0
  ·have hc:X6 sp p=true:=by unfold X6;rw[ha.1];simp[hu,hp]
   rw[show (p.Used != 0)=false by simpa using hu,Wa,hc,WR,Xc (n:=((k+1:Nat):Int)-1) (by omega) (by omega),Xh (by omega)]
   have e:(if (0:Int)<((k+1:Nat):Int)-1 then ((k+1:Nat):Int)-1 else 0)=(k:Int):=by split<;>omega
   rw[e,ih,show i+1+k=i+(k+1) by omega]
  ·have hc:X6 sp p=false:=by simp[X6,hu]
   rw[show (p.Used != 0)=true by simpa using hu,Wc,hc,Um,Wk (by simp)]
theorem Xkl {α:Type} {p q:α->Bool} (h:∀ x,q x=true->p x=true):∀ {l:List α},l.all q=true->l.all p=true:=by
 intro l hl;rw[Uc] at *;exact λ x hx=>h x (hl x hx)
theorem Xie {N:Nat} {h:Wn} (hc:XZ h.Conf=true) (hl:h.Pages.length<=100000) (hN:1000000<N) {i:Nat} (hi:i<h.Pages.length) (n:Nat) (hn:10<=n) :
 Qaq N h n 0 (i:Int)=if Ya h.Conf h.Pages i h.Pages[i]=0 then some (.ret false) else Qaq N h (n-Ya h.Conf h.Pages i h.Pages[i]) 0 ((i+Ya h.Conf h.Pages i h.Pages[i]:Nat):Int):=by
 obtain ⟨n,rfl⟩:∃ m,n=m+1:=⟨n-1,by omega⟩
 rw[Qaq,Wh (show (i:Int)<((h.Pages.length:Nat):Int) by omega),Wc,Xd,Wd hi,Xa]
 generalize h.Pages[i]=p
 have go:(if (0:Int)<wI (0-1) then wI (0-1) else 0)=0:=by rw[Xc (by omega) (by omega)];rfl
 have ge:wI ((i:Int)+1)=((i+1:Nat):Int):=Xh (by omega)
 generalize hs:Ya h.Conf h.Pages i p=s
 unfold Ya at hs
 have no:s=0->(if s=0 then some (.ret false) else Qaq N h (n+1-s) 0 ((i+s:Nat):Int))=some (.ret false):=λ e=>Wm e
 rw[Wj (show ¬ (0:Int)>0 by omega)]
 by_cases k3:p.Kind=3
 ·rw[show (p.Kind==3)=true by simpa using k3,show (!(true==false))=true from rfl,Wc]
  rw[Wk (show ¬ p.Kind=0 by omega),Wk (show ¬ p.Kind=1 by omega),Wk (show ¬ p.Kind=2 by omega),ite_self] at hs
  exact (no hs.symm).symm
 have q3:(p.Kind==3)=false:=by simpa using k3
 rw[q3,show (!(false==false))=false from rfl,Wa]
 by_cases hsp:p.Space=0\/p.Space=1
 case neg =>
  have z:s=0:=by
   rw[← hs,Wk (c:=(p.Space=0\/p.Space=1)/\_) (λ hh=>hsp hh.1)]
   split
   ·rw[Wk (λ hh=>hsp (.inl hh.1))]
   ·rfl
  rw[no z]
  by_cases h0:p.Space<0
  ·rw[Wh h0,Wc]
  ·rw[XB h0,Wa,Wh (show p.Space>1 by omega),Wc]
 rw[XB (show ¬ p.Space<0 by omega),Wa,XB (show ¬ p.Space>1 by omega),Wa,Xa3,Xa]
 by_cases hpn:0<=p.Pins/\p.Pins<=2147483647
 case neg =>
  have z:s=0:=by
   rw[← hs,Wk (c:=(p.Space=0\/p.Space=1)/\_) (λ hh=>hpn hh.2)]
   split
   ·rw[Wk (λ hh=>hpn (by omega))]
   ·rfl
  rw[no z,XB hpn,WU,Wc]
 rw[Wm (c:=(p.Space=0\/p.Space=1)/\_) ⟨hsp,hpn⟩] at hs
 rw[Wh hpn,Ws,Wa]
 by_cases e0:p.Kind=0
 ·have q1:(p.Kind==1)=false:=by rw[e0];rfl
  have q2:(p.Kind==2)=false:=by rw[e0];rfl
  rw[Wm e0] at hs
  simp only[XV,show (p.Kind==0)=true by simpa using e0,q1,q2,q3,Wc,Wa,WR]
  by_cases hz:p.Space=0/\p.Used=0/\p.Pins=0
  ·rw[Wm hz] at hs
   subst hs
   obtain ⟨z1,z2,z3⟩:=hz
   rw[Wk (show ¬ (1:Nat)=0 by omega)]
   simp only[z1,z2,z3,show ((0:Int)==0)=true from rfl,Oa,Ws,Wa,go,ge,Iy]
  ·rw[Wk hz] at hs
   rw[no hs.symm,show ((p.Space==0)&&((p.Used==0)&&(p.Pins==0)))=false by
    rw[Bool.eq_false_iff];intro hh;simp only[WE,beq_iff_eq] at hh;exact hz ⟨hh.1,hh.2.1,hh.2.2⟩]
   rfl
 have q0:(p.Kind==0)=false:=by simpa using e0
 rw[Wk e0] at hs
 by_cases e1:p.Kind=1
 ·have q2:(p.Kind==2)=false:=by rw[e1];rfl
  rw[Wm e1] at hs
  simp only[XV,show (p.Kind==1)=true by simpa using e1,q0,q2,q3,Wc,Wa]
  by_cases u0:p.Used<0
  ·rw[Wk (by omega)] at hs
   rw[Wh u0,Wc,no hs.symm]
  rw[XB u0,Wa]
  by_cases u1:p.Used>h.Conf.PageWords
  ·rw[Wk (by omega)] at hs
   rw[Wh u1,Wc,no hs.symm]
  rw[Wm (by omega)] at hs
  subst hs
  rw[XB u1,Wa,Wk (show ¬ (1:Nat)=0 by omega),go,ge,Iy]
 have q1:(p.Kind==1)=false:=by simpa using e1
 rw[Wk e1] at hs
 by_cases e2:p.Kind=2
 case neg =>
  have q2:(p.Kind==2)=false:=by simpa using e2
  rw[Wk e2] at hs
  simp only[XV,q0,q1,q2,q3,Wa]
  rw[no hs.symm]
 rw[Wm e2] at hs
 simp only[XV,show (p.Kind==2)=true by simpa using e2,q0,q1,q3,Wc,Wa,Zr (show 10<=N by omega),Xa]
 by_cases hn1:Xz h.Conf p.Used<1
 ·rw[Wk (λ hh=>by omega)] at hs
  rw[Wh hn1,Wc,no hs.symm]
 have hr:=Ze h.Conf p.Used
 rw[XB hn1,Wa,Xkk h.Pages p.Space (by omega) hN i hi,Xa,Xc (n:=Xz h.Conf p.Used-1) (by omega) (by omega)]
 obtain ⟨k,hk⟩:∃ k:Nat,Xz h.Conf p.Used=((k+1:Nat):Int):=⟨(Xz h.Conf p.Used).toNat-1,by omega⟩
 have hk1:(Xz h.Conf p.Used).toNat=k+1:=by omega
 have tw:=V3 (ZW p.Space) (h.Pages.drop (i+1)) k
 rw[hk1,Iy,hk] at hs
 rw[hk]
 by_cases ht:((JQ h.Pages p.Space (i+1):Nat):Int)<((k+1:Nat):Int)-1
 ·have hnot:¬ k<=((h.Pages.drop (i+1)).takeWhile (ZW p.Space)).length:=by unfold JQ at ht;omega
  rw[Wk (λ hh=>hnot (tw.2 ⟨by rw[WO];omega,Xkl (λ x hx=>by unfold X6 at hx;rw[WE] at hx;exact hx.1) hh.2.2⟩))] at hs
  rw[Wh ht,Wc,no hs.symm]
 rw[XB ht,Wa]
 have hyes:=tw.1 (by unfold JQ at ht;omega)
 rw[WO] at hyes
 have e:(if (0:Int)<((k+1:Nat):Int)-1 then ((k+1:Nat):Int)-1 else 0)=(k:Int):=by split<;>omega
 rw[e,ge]
 obtain ⟨m,rfl⟩:∃ m,n=m+k:=⟨n-k,by have:=Ze h.Conf p.Used;omega⟩
 rw[Xc2 hl hsp k m (i+1) (by omega) hyes.2]
 by_cases hcl:((h.Pages.drop (i+1)).take k).all (X6 p.Space)=true
 ·rw[Wm (show 1<=((k+1:Nat):Int)/\k+1<=h.Pages.length-i/\_ from ⟨by omega,by omega,hcl⟩)] at hs
  subst hs
  rw[Wm hcl,Wk (show ¬ k+1=0 by omega),show m+k+1-(k+1)=m by omega,show i+1+k=i+(k+1) by omega]
 ·rw[Wk (λ hh=>hcl hh.2.2)] at hs
  rw[Wk hcl,no hs.symm]
theorem Xb6 {c:WT} {ps:List Wv} {i:Nat} (hi:i<ps.length) {p:Wv}:Ya c ps i p<=ps.length-i/\Ya c ps i p<=4:=by
 have hr:=Ze c p.Used
 unfold Ya
 split
 ·split<;>omega
 split
 ·split
  ·split<;>omega
  split
  ·split
   ·rename_i hh;have:=hh.2.1;omega
   ·omega
  ·omega
 ·omega
theorem Xb7 {N:Nat} {h:Wn} (hc:XZ h.Conf=true) (hl:h.Pages.length<=100000) (hN:1000000<N):∀ (m i n n':Nat),i<=h.Pages.length->h.Pages.length-i<=m->h.Pages.length-i<n->h.Pages.length-i+10<=n'->Qae N h n (i:Int)=Qaq N h n' 0 (i:Int)
 | m,i,0,n',_,_,h1,_=>by omega
 | m,i,n+1,n',hi,hm,h1,h2=>by
  by_cases hlt:i<h.Pages.length
  ·rw[Qae,Wh (by omega),Wc,Kz hl hN hlt,Xa,Xie hc hl hN hlt n' (by omega)]
   have hs:=Xb6 (c:=h.Conf) hlt (p:=h.Pages[i])
   generalize Ya h.Conf h.Pages i h.Pages[i]=s at *
   by_cases h0:s=0
   ·subst h0;rw[Wm rfl];rfl
   ·rw[Wk h0,show (((s:Nat):Int)==0)=false by simpa using h0,Wa,Xc (by omega) (by omega),show (i:Int)+(s:Int)=((i+s:Nat):Int) by omega]
    obtain ⟨m',rfl⟩:∃ m',m=m'+1:=⟨m-1,by omega⟩
    exact Xb7 hc hl hN m' (i+s) n (n'-s) (by omega) (by omega) (by omega) (by omega)
  ·rw[Qae,Wj (by omega),Wa]
   obtain ⟨k,rfl⟩:∃ k,n'=k+1:=⟨n'-1,by omega⟩
   rw[Qaq,Wj (by omega),Wa]
theorem X8 {N:Nat} {h:Wn} (hl:h.Pages.length<=100000) (hN:1000000<N):Qb5 N h=Qab N h:=by
 rw[Qb5,Qab,Zw,Yy]
 simp only[Xa,XV]
 cases hc:XZ h.Conf with
 | false=>rfl
 | true =>
 simp only[Ws,Wa,Oe h.Conf.PageWords h.Conf.Pages]
 have e:=Xb7 hc hl hN h.Pages.length 0 N N (by omega) (by omega) (by omega) (by omega)
 rw[show ((0:Nat):Int)=0 from rfl] at e
 rw[e]
 congr 2
 by_cases s0:h.Space=0
 ·simp[s0]
 ·rw[show (h.Space != 0)=true by simpa using s0,Wc]
  by_cases s1:h.Space=1
  ·simp[s1]
  ·rw[show (h.Space != 1)=true by simpa using s1,Wc]
   by_cases s2:h.Space<0
   ·simp[s2]
   ·rw[XB s2,Wa,Wh (show h.Space>1 by omega),Wc]
end Go.Sx
namespace Go.Sx
section
variable {N:Nat}
theorem Xmv {m:Int} (h0:0<=m) (h1:2*m+1<=18446744073709551615):bOr .u64 (m*2) 1=m*2+1:=by
 obtain ⟨n,rfl⟩:=UF h0
 have hb:IntKind.u64.bits=64:=rfl
 show IntKind.u64.wrap ((BitVec.ofInt IntKind.u64.bits ((n:Int)*2) ||| BitVec.ofInt IntKind.u64.bits 1).toNat:Int)=_
 rw[hb]
 have e1:BitVec.ofInt 64 ((n:Int)*2)=BitVec.ofNat 64 (n*2):=by
  rw[show (n:Int)*2=((n*2:Nat):Int) by omega];exact BitVec.ofInt_natCast 64 (n*2)
 have e2:BitVec.ofInt 64 (1:Int)=BitVec.ofNat 64 1:=by decide
 have hn:n*2 % 2 ^ 64=n*2:=I5 (by omega)
 have h3:=Nat.shiftLeft_add_eq_or_of_lt (i:=1) (b:=1) (by decide) n
 rw[Nat.shiftLeft_eq,Nat.pow_one] at h3
 rw[e1,e2,BitVec.toNat_or,Iw,Iw,hn,show 1 % 2 ^ 64=1 from rfl,← h3]
 show wU _=_
 rw[Xv (by omega) (by omega)]
 omega
theorem Xhe {a:Int} (h0:0<=a) (h1:a<=64):∀ (n k:Nat),(k:Int)<=a->(a-k).toNat<n->QeE N a n ((2:Int) ^ k-1) (k:Int)=some ((2:Int) ^ a.toNat-1)
 | 0,k,_,hn=>by omega
 | n+1,k,hk,hn=>by
  rw[QeE]
  have e:(if 64<(if a<0 then 0 else a) then 64 else (if a<0 then 0 else a))=a:=by
   rw[Wk (show ¬ a<0 by omega),Wk (by omega)]
  rw[e]
  by_cases h:(k:Int)<a
  ·have hp:(1:Int)<=2 ^ k:=Int.pow_pos (n:=(2:Int)) (m:=k) (by decide)
   have hq:(2:Int) ^ k<=2 ^ 63:=by
    have:2 ^ k<=2 ^ 63:=IW (by omega) (by omega)
    exact_mod_cast this
   have s1:ZM .u64 ((2:Int) ^ k-1) 1=wU (((2:Int) ^ k-1)*2):=rfl
   rw[Wh h,Wc,s1,Xv (by omega) (by omega),Xmv (by omega) (by omega),Xh (by omega)]
   have e2:((2:Int) ^ k-1)*2+1=2 ^ (k+1)-1:=by rw[Int.pow_succ];omega
   rw[e2]
   exact Xhe h0 h1 n (k+1) (by omega) (by omega)
  ·rw[Wj h,Wa,show k=a.toNat by omega]
theorem ZY {a:Int} (h0:0<=a) (h1:a<=64) (hN:1000<N):Qbr N a=some ((2:Int) ^ a.toNat-1):=by
 have:=Xhe (N:=N) h0 h1 N 0 (by omega) (by omega)
 rw[Qbr]
 rw[show ((2:Int) ^ 0-1)=0 from rfl,show ((0:Nat):Int)=0 from rfl] at this
 rw[this,Xa]
theorem KA (hN:1000<N) (d:Wy):QcT N d=some (Xx d):=by
 rw[QcT,Xx]
 by_cases h1:d.Kind<0
 ·rw[Wh h1,Wc,Wj (by omega),Um]
 rw[Wj h1,Wa]
 by_cases h2:d.Kind>3
 ·rw[Wh h2,Wc,Wj (by omega),Um]
 rw[Wj h2,Wa]
 by_cases h3:d.Length<0
 ·rw[Wh h3,Wc,Wj (by omega),Um]
 rw[Wj h3,Wa]
 by_cases h4:d.Length>255
 ·rw[Wh h4,Wc,Wj (p:=0<=d.Kind/\d.Kind<=3/\0<=d.Length/\d.Length<=255) (by omega),Um]
 rw[Wj h4,Wa,Wh (p:=0<=d.Kind/\d.Kind<=3/\0<=d.Length/\d.Length<=255) (by omega),WR]
 by_cases h5:d.Kind=1
 ·rw[Wm h5,Yh h5,Wc,XV]
  by_cases h6:d.Length<=32
  ·rw[Wh h6,Wc,ZY (by omega) (by omega) hN,Xa,WR,XbB]
   exact congrArg some (decide_eq_decide.2 (by omega))
  ·rw[Wj h6,Wa,Um]
 ·rw[Wk h5,XQ h5,Wa]
  simp only[BEq.rfl,WR]
  rfl
theorem Y0 (hN:1000<N) (d:Wy):Qb6 N d=some (XF d):=by
 rw[Qb6,KA hN,Xa,XF]
 cases h:Xx d with
 | false=>rfl
 | true =>
  have:=XH h
  rw[Ws,Wa,Xc (n:=d.Length+1) (by omega) (by omega)]
  rfl
theorem Xkm (hN:1000<N) (d:Wy) (i:Int):QeF N d i=some (KD d i):=by
 rw[QeF,KA hN,Xa,KD]
 cases h:Xx d with
 | false=>rfl
 | true =>
  have hb:=XH h
  rw[Ws,Wa,WR]
  by_cases h1:i<0
  ·rw[Wh h1,Wc,Wj (by omega),Um]
  rw[Wj h1,Wa]
  by_cases h2:i>=d.Length
  ·rw[Wh h2,Wc,Wj (by omega),Um]
  rw[Wj h2,Wa,Wh (p:=0<=i/\i<d.Length) (by omega),WR,Xv (n:=i) (by omega) (by omega)]
  by_cases h3:d.Kind=2
  ·rw[Yh h3,Wc,Wh h3,Bool.true_or]
  rw[XQ h3,Wa,Wj h3,Ih]
  by_cases h4:d.Kind=1
  ·rw[Yh h4,Wc,Wh h4,WR,Xe (by omega)]
  ·rw[XQ h4,Wa,Wj h4,Um]
theorem V4 (hN:1000<N) (d:Wy) (hv:Xx d=true):∀ (n:Nat) (i:Int) (v:List Int),0<=i->i<=d.Length+1->(d.Length+1-i).toNat<n->v.length+(d.Length+1-i).toNat<=1000->QbQ N d (d.Length+1) n i v=some (v++Yg d (d.Length-i).toNat i)
 | 0,i,v,_,_,hn,_=>by omega
 | n+1,i,v,h0,h1,hn,hl=>by
  have hb:=XH hv
  rw[QbQ]
  by_cases h:i<d.Length+1
  ·rw[Wh h,Wc,Xkm hN,Xa,Xc (n:=i+1) (by omega) (by omega)]
   by_cases h2:i<d.Length
   ·obtain ⟨k,hk⟩:∃ k,(d.Length-i).toNat=k+1:=⟨(d.Length-i).toNat-1,by omega⟩
    have hk2:(d.Length-(i+1)).toNat=k:=by omega
    rw[hk,Yg]
    cases hp:KD d i
    ·rw[Wa,V4 hN d hv n (i+1) v (by omega) (by omega) (by omega) (by omega),hk2];simp
    ·rw[Wc,Xe (by omega),V4 hN d hv n (i+1) _ (by omega) (by omega) (by omega) (by rw[Wq];simp only[W5,Uz];omega),hk2];simp
   ·have hp:KD d i=false:=by
     unfold KD
     rw[Wj (p:=0<=i/\i<d.Length) (by omega)];simp
    rw[hp,Wa,V4 hN d hv n (i+1) v (by omega) (by omega) (by omega) (by omega),show (d.Length-i).toNat=0 by omega,show (d.Length-(i+1)).toNat=0 by omega]
    rfl
  ·rw[Wj h,Wa,show (d.Length-i).toNat=0 by omega]
   simp[Yg]
theorem Xif (hN:1000<N) (d:Wy) (hv:Xx d=true):Qeo N d=some (ZD d):=by
 have hb:=XH hv
 have hs:XF d=d.Length+1:=by unfold XF;rw[hv];rfl
 rw[Qeo,Y0 hN,Xa,hs,V4 hN d hv N 0 [] (by omega) (by omega) (by omega) (by simp only[Uz];omega),Xa,ZD,hv]
 simp
theorem XdP {l:List Int} (hl:l.length<=1000000) (hN:1000000<N):Qa9 N l 0=some (!l.all λ p=>!(p==0)):=by
 rw[Qa9,Qcv]
 rw[JO (p:=λ x:Int=>(0==x)) hl hN (λ n j x e=>by
  have hk:=Xy e
  rw[QaP,XE hk,Wc,Xd,e,Xa,Xh (by omega)]) (λ n=>by rw[QaP,Xs,Wa])]
 rw[Xa,K5,← XdO,Bool.not_not]
 congr 2
 funext x
 rw[Bool.not_not]
 by_cases h:x=0
 ·subst h;rfl
 ·rw[XQ h,XQ (λ e=>h e.symm)]
def Xaw:List (List Int)->Nat
 | []=>0
 | l::ls=>l.length+Xaw ls
theorem Xc3 (ls:List (List Int)) (hl:ls.length<=1000):∀ (n k s:Nat),k<=ls.length->ls.length-k<n->s+Xaw (ls.drop k)<=10000000->QaJ N ls n (s:Int) (k:Int)=some (((s+Xaw (ls.drop k):Nat):Int))
 | 0,k,s,_,hn,_=>by omega
 | n+1,k,s,hk,hn,hs=>by
  rw[QaJ]
  by_cases h:k<ls.length
  ·rw[Wu h,Xaw] at hs ⊢
   rw[XE h,Wc,Xd,Wd h,Xa,Xc (n:=(s:Int)+((ls[k].length:Nat):Int)) (by omega) (by omega),Wj (by omega),Wa,Xh (by omega)]
   have:=Xc3 ls hl n (k+1) (s+ls[k].length) (by omega) (by omega) (by omega)
   rw[show (s:Int)+((ls[k].length:Nat):Int)=((s+ls[k].length:Nat):Int) by omega,this,IR]
  ·obtain rfl:k=ls.length:=by omega
   rw[Xs,Wa,WL (Uf _)];simp[Xaw]
theorem Xc4 (ls:List (List Int)) (hl:ls.length<=1000):∀ (n k:Nat) (v:List Int),k<=ls.length->ls.length-k<n->v.length+Xaw (ls.drop k)<=10000000->QaK N ls n (k:Int) v=some (v++(ls.drop k).flatten)
 | 0,k,v,_,hn,_=>by omega
 | n+1,k,v,hk,hn,hs=>by
  rw[QaK]
  by_cases h:k<ls.length
  ·rw[Wu h,Xaw] at hs
   rw[Wu h,XE h,Wc,Xd,Wd h,Xa,Xe (by omega),Xh (by omega),Xc4 ls hl n (k+1) _ (by omega) (by omega) (by rw[Wq];omega),List.flatten_cons,Ut]
  ·obtain rfl:k=ls.length:=by omega
   rw[Xs,Wa,WL (Uf _)];simp
theorem Xc5 (ls:List (List Int)) (hl:ls.length<=1000) (hs:Xaw ls<=10000000) (hN:1000000<N):Qbs N ls=some ls.flatten:=by
 have h1:=Xc3 (N:=N) ls hl N 0 0 (by omega) (by omega) (by rw[WX];omega)
 have h2:=Xc4 (N:=N) ls hl N 0 [] (by omega) (by omega) (by rw[WX];simp;omega)
 rw[WX] at h1 h2
 rw[show ((0:Nat):Int)=0 from rfl,Ux] at h1
 rw[show ((0:Nat):Int)=0 from rfl,Uw] at h2
 have hg:Qba N ((Xaw ls:Nat):Int)=some []:=by
  rw[Qba,Wj (by omega),Wa,Xc (n:=(0:Int)) (by omega) (by omega),Int.sub_zero]
  have e:=Xc (n:=((Xaw ls:Nat):Int)) (by omega) (by omega)
  by_cases h:(wI ((Xaw ls:Nat):Int))>0
  ·rw[Wh h,Wc,Xe ⟨rfl,rfl⟩,Xe (by rw[e];omega),Xe (by rw[e];omega),Xe (by rw[e];omega),List.take_zero]
  ·rw[Wj h,Wa]
 rw[Qbs,h1,Xa,hg,Xa,h2,Xa]
theorem Xpi:Xb [(2:Int),16,32] 0=some 2:=by unfold Xb;rfl
theorem Xpj:Xb [(2:Int),16,32] 1=some 16:=by unfold Xb;rfl
theorem Xpk:Xb [(2:Int),16,32] 2=some 32:=by unfold Xb;rfl
theorem Xig (hN:1000000<N) {v:Int} (h0:0<=v) (h1:v<=18446744073709551615):QdV N v [2,16,32]=some (if v / 1125899906842624=0 then ([v % 4,v / 4 % 65536,v / 262144 % 4294967296],0) else ([],2)):=by
 obtain ⟨m,rfl⟩:∃ m,N=m+4:=⟨N-4,by omega⟩
 have l3:([(2:Int),16,32].length:Nat)=3:=rfl
 have i1:wI (0+1)=1:=Xc (by omega) (by omega)
 have i2:wI (1+1)=2:=Xc (by omega) (by omega)
 have i3:wI (2+1)=3:=Xc (by omega) (by omega)
 have j1:wI (64-2)=62:=Xc (by omega) (by omega)
 have j2:wI (62-16)=46:=Xc (by omega) (by omega)
 have j3:wI (46-32)=14:=Xc (by omega) (by omega)
 have e1:QaB (m+4) v [2,16,32] (m+4) 64 0=some (.nxt ()):=by
  rw[QaB,l3,Xpi]
  simp only[Xa,i1,j1]
  rw[QaB,l3,Xpj]
  simp only[Xa,i2,j2]
  rw[QaB,l3,Xpk]
  simp only[Xa,i3,j3]
  rw[QaB,l3]
  rfl
 have o1:Qbr (m+4) 2=some 3:=ZY (by omega) (by omega) (by omega)
 have o2:Qbr (m+4) 16=some 65535:=ZY (by omega) (by omega) (by omega)
 have o3:Qbr (m+4) 32=some 4294967295:=ZY (by omega) (by omega) (by omega)
 have s1:X5 .u64 v 2=v / 4:=YF v 2 (by omega) h0
 have s2:X5 .u64 (v / 4) 16=v / 4 / 65536:=YF (v / 4) 16 (by omega) (by omega)
 have s3:X5 .u64 (v / 4 / 65536) 32=v / 4 / 65536 / 4294967296:=YF (v / 4 / 65536) 32 (by omega) (by omega)
 have a1:Yv .u64 v 3=v % 4:=Yu v 2 (by omega) h0 h1
 have a2:Yv .u64 (v / 4) 65535=v / 4 % 65536:=Yu (v / 4) 16 (by omega) (by omega) (by omega)
 have a3:Yv .u64 (v / 4 / 65536) 4294967295=v / 4 / 65536 % 4294967296:=Yu (v / 4 / 65536) 32 (by omega) (by omega) (by omega)
 have g:∀ (p:Prop) [Decidable p] (x:Option (Int×List Int)),p->grd p x=x:=λ p _ x h=>Xe h x
 have e2:QaC (m+4) [2,16,32] (m+4) v 0 []=some (v / 4 / 65536 / 4294967296,[v % 4,v / 4 % 65536,v / 4 / 65536 % 4294967296]):=by
  rw[QaC,l3,Xpi]
  rw[Wh (by omega),Wc,Xa,o1,Xa,Xe (by simp),Xe (by omega),s1,a1,i1]
  rw[QaC,l3,Xpj]
  rw[Wh (by omega),Wc,Xa,o2,Xa,Xe (by simp),Xe (by omega),s2,a2,i2]
  rw[QaC,l3,Xpk]
  rw[Wh (by omega),Wc,Xa,o3,Xa,Xe (by simp),Xe (by omega),s3,a3,i3]
  rw[QaC,l3]
  rw[Wj (by omega),Wa]
  rfl
 rw[QdV,e1,Xa,Xr,e2,Xa]
 have q1:v / 4 / 65536=v / 262144:=by omega
 have q2:v / 262144 / 4294967296=v / 1125899906842624:=by omega
 rw[q1,q2]
 by_cases h:v / 1125899906842624=0
 ·rw[Wm h,h];rfl
 ·rw[Wk h,Zb h,Wc]
theorem Xmw (hN:1000000<N) {v:Int} (hv:tU v):Qe7 N v=some (ZH v):=by
 obtain ⟨h0,h1⟩:=hv
 rw[Qe7,ZH]
 by_cases hz:v=0
 ·subst hz;rfl
 rw[XQ hz,Wa,Wk hz,Xig hN h0 h1,Xa]
 by_cases h:v / 1125899906842624=0
 ·have g0:Xb [v % 4,v / 4 % 65536,v / 262144 % 4294967296] 0=some (v % 4):=by unfold Xb;rfl
  have g1:Xb [v % 4,v / 4 % 65536,v / 262144 % 4294967296] 1=some (v / 4 % 65536):=by unfold Xb;rfl
  have g2:Xb [v % 4,v / 4 % 65536,v / 262144 % 4294967296] 2=some (v / 262144 % 4294967296):=by unfold Xb;rfl
  rw[Wm h]
  simp only
  rw[show ((0:Int) != 0)=false from rfl,Wa,g0,Xa,g1,Xa,g2,Xa,Xc (n:=v % 4) (by omega) (by omega),Xc (n:=v / 4 % 65536) (by omega) (by omega),Xc (n:=v / 262144 % 4294967296) (by omega) (by omega)]
  have q:v / 262144 % 4294967296=v / 262144:=by omega
  have o2:Qbr N 16=some 65535:=ZY (by omega) (by omega) (by omega)
  have o3:Qbr N 32=some 4294967295:=ZY (by omega) (by omega) (by omega)
  rw[q,Qgi,Wj (show ¬ v / 4 % 65536<0 by omega),Wj (show ¬ v % 4>3 by omega),o2,Xa,o3,Xa]
  simp only[Wa]
  rw[Xv (n:=v / 4 % 65536) (by omega) (by omega),Xv (n:=v / 262144) (by omega) (by omega),Wh (show v / 4 % 65536<=65535 by omega),Wh (show v / 262144<=4294967295 by omega),Wc]
  by_cases c1:v % 4<1
  ·rw[Wh c1,Wc,Xa,WU,Wc,Wk (by omega)]
  rw[Wj c1,Wa]
  by_cases c2:v / 262144<1
  ·rw[Wh c2,Wc,Xa,WU,Wc,Wk (by omega)]
  rw[Wj c2,Wa,Xa,Ws,Wa,Wm (by omega)]
 ·rw[Wk h,Wk (by omega)];rfl
end
end Go.Sx
namespace Go.Sx
section
variable {N:Nat}
theorem XdQ {w:Int} (hw:tU w):Vp w=⟨w / 4 % 4,w / 16 % 4096,w / 65536 % 4294967296⟩:=by
 obtain ⟨h0,h1⟩:=hw
 unfold Vp
 rw[show X5 .u64 w 2=w / 4 from YF w 2 (by omega) h0,show X5 .u64 w 4=w / 16 from YF w 4 (by omega) h0,show X5 .u64 w 16=w / 65536 from YF w 16 (by omega) h0]
 rw[show Yv .u64 (w / 4) 3=w / 4 % 4 from Yu (w / 4) 2 (by omega) (by omega) (by omega),show Yv .u64 (w / 16) 4095=w / 16 % 4096 from Yu (w / 16) 12 (by omega) (by omega) (by omega)]
 rw[Xc (by omega) (by omega),Xc (by omega) (by omega),XjH]
theorem Xof {w:Int} (hw:tU w):okH w=(Xx (Vp w)&&(decide (w / 281474976710656=0)&&decide (w % 4=1))):=by
 obtain ⟨h0,h1⟩:=hw
 unfold okH
 cases hv:Xx (Vp w) with
 | false=>rfl
 | true =>
  rw[WR,WR]
  have hb:=XH hv
  rw[XdQ ⟨h0,h1⟩] at hb
  have hb:0<=w / 4 % 4/\w / 4 % 4<=3/\0<=w / 16 % 4096/\w / 16 % 4096<=255:=hb
  have e:Vo (Vp w)=1+4*(w / 4 % 4)+16*(w / 16 % 4096)+w / 65536 % 4294967296*65536:=by
   rw[XdQ ⟨h0,h1⟩]
   unfold Vo
   have s:∀ x:Int,ZM .u64 x 16=wU (x*65536):=λ _=>rfl
   simp only[s]
   simp only[XbB]
   omega
  rw[e]
  by_cases a:w / 281474976710656=0/\w % 4=1
  ·rw[Wh a.1,Wh a.2]
   simp only[Oa,beq_iff_eq];omega
  ·have:(decide (w / 281474976710656=0)&&decide (w % 4=1))=false:=by
    rw[Bool.eq_false_iff];intro hh;simp only[WE,decide_eq_true_eq] at hh;exact a hh
   rw[this]
   simp only[IF,ne_eq];omega
theorem Xpl:Xb [(2:Int),2,12,32] 0=some 2:=by unfold Xb;rfl
theorem Xpm:Xb [(2:Int),2,12,32] 1=some 2:=by unfold Xb;rfl
theorem Xpn:Xb [(2:Int),2,12,32] 2=some 12:=by unfold Xb;rfl
theorem Xpo:Xb [(2:Int),2,12,32] 3=some 32:=by unfold Xb;rfl
theorem Xgg (hN:1000000<N) {v:Int} (h0:0<=v) (h1:v<=18446744073709551615):QdV N v [2,2,12,32]=some (if v / 281474976710656=0 then ([v % 4,v / 4 % 4,v / 16 % 4096,v / 65536 % 4294967296],0) else ([],2)):=by
 obtain ⟨m,rfl⟩:∃ m,N=m+5:=⟨N-5,by omega⟩
 have l3:([(2:Int),2,12,32].length:Nat)=4:=rfl
 have i1:wI (0+1)=1:=Xc (by omega) (by omega)
 have i2:wI (1+1)=2:=Xc (by omega) (by omega)
 have i3:wI (2+1)=3:=Xc (by omega) (by omega)
 have i4:wI (3+1)=4:=Xc (by omega) (by omega)
 have j1:wI (64-2)=62:=Xc (by omega) (by omega)
 have j2:wI (62-2)=60:=Xc (by omega) (by omega)
 have j3:wI (60-12)=48:=Xc (by omega) (by omega)
 have j4:wI (48-32)=16:=Xc (by omega) (by omega)
 have e1:QaB (m+5) v [2,2,12,32] (m+5) 64 0=some (.nxt ()):=by
  rw[QaB,l3,Xpl]
  simp only[Xa,i1,j1]
  rw[QaB,l3,Xpm]
  simp only[Xa,i2,j2]
  rw[QaB,l3,Xpn]
  simp only[Xa,i3,j3]
  rw[QaB,l3,Xpo]
  simp only[Xa,i4,j4]
  rw[QaB,l3]
  rfl
 have o1:Qbr (m+5) 2=some 3:=ZY (by omega) (by omega) (by omega)
 have o2:Qbr (m+5) 12=some 4095:=ZY (by omega) (by omega) (by omega)
 have o3:Qbr (m+5) 32=some 4294967295:=ZY (by omega) (by omega) (by omega)
 have s1:X5 .u64 v 2=v / 4:=YF v 2 (by omega) h0
 have s2:X5 .u64 (v / 4) 2=v / 4 / 4:=YF (v / 4) 2 (by omega) (by omega)
 have s3:X5 .u64 (v / 4 / 4) 12=v / 4 / 4 / 4096:=YF (v / 4 / 4) 12 (by omega) (by omega)
 have s4:X5 .u64 (v / 4 / 4 / 4096) 32=v / 4 / 4 / 4096 / 4294967296:=YF (v / 4 / 4 / 4096) 32 (by omega) (by omega)
 have a1:Yv .u64 v 3=v % 4:=Yu v 2 (by omega) h0 h1
 have a2:Yv .u64 (v / 4) 3=v / 4 % 4:=Yu (v / 4) 2 (by omega) (by omega) (by omega)
 have a3:Yv .u64 (v / 4 / 4) 4095=v / 4 / 4 % 4096:=Yu (v / 4 / 4) 12 (by omega) (by omega) (by omega)
 have a4:Yv .u64 (v / 4 / 4 / 4096) 4294967295=v / 4 / 4 / 4096 % 4294967296:=Yu (v / 4 / 4 / 4096) 32 (by omega) (by omega) (by omega)
 have e2:QaC (m+5) [2,2,12,32] (m+5) v 0 []=some (v / 4 / 4 / 4096 / 4294967296,[v % 4,v / 4 % 4,v / 4 / 4 % 4096,v / 4 / 4 / 4096 % 4294967296]):=by
  rw[QaC,l3,Xpl]
  rw[Wh (by omega),Wc,Xa,o1,Xa,Xe (by simp),Xe (by omega),s1,a1,i1]
  rw[QaC,l3,Xpm]
  rw[Wh (by omega),Wc,Xa,o1,Xa,Xe (by simp),Xe (by omega),s2,a2,i2]
  rw[QaC,l3,Xpn]
  rw[Wh (by omega),Wc,Xa,o2,Xa,Xe (by simp),Xe (by omega),s3,a3,i3]
  rw[QaC,l3,Xpo]
  rw[Wh (by omega),Wc,Xa,o3,Xa,Xe (by simp),Xe (by omega),s4,a4,i4]
  rw[QaC,l3]
  rw[Wj (by omega),Wa]
  rfl
 rw[QdV,e1,Xa,Xr,e2,Xa]
 have q0:v / 4 / 4=v / 16:=by omega
 have q1:v / 16 / 4096=v / 65536:=by omega
 have q2:v / 65536 / 4294967296=v / 281474976710656:=by omega
 rw[q0,q1,q2]
 by_cases h:v / 281474976710656=0
 ·rw[Wm h,h];rfl
 ·rw[Wk h,Zb h,Wc]
theorem Xkn (hN:1000000<N) {w:Int} (hw:tU w):Qe3 N w=some (Z3 w,okH w):=by
 obtain ⟨h0,h1⟩:=hw
 rw[Qe3,Xgg hN h0 h1,Xa]
 unfold Z3
 rw[Xof ⟨h0,h1⟩]
 by_cases h:w / 281474976710656=0
 ·have g0:Xb [w % 4,w / 4 % 4,w / 16 % 4096,w / 65536 % 4294967296] 0=some (w % 4):=by unfold Xb;rfl
  have g1:Xb [w % 4,w / 4 % 4,w / 16 % 4096,w / 65536 % 4294967296] 1=some (w / 4 % 4):=by unfold Xb;rfl
  have g2:Xb [w % 4,w / 4 % 4,w / 16 % 4096,w / 65536 % 4294967296] 2=some (w / 16 % 4096):=by unfold Xb;rfl
  have g3:Xb [w % 4,w / 4 % 4,w / 16 % 4096,w / 65536 % 4294967296] 3=some (w / 65536 % 4294967296):=by unfold Xb;rfl
  rw[Wm h]
  simp only[g0,g1,g2,g3,Xa,show ((0:Int) != 0)=false from rfl,Wa,Xc (n:=w / 4 % 4) (by omega) (by omega),Xc (n:=w / 16 % 4096) (by omega) (by omega),Xnn (n:=w / 65536 % 4294967296) (by omega) (by omega)]
  rw[KA (by omega),Xa,← XdQ ⟨h0,h1⟩,Wh h,WR]
  by_cases hm:w % 4=1
  ·rw[hm,show ((1:Int) != 1)=false from rfl,Wa,Wh rfl,Bool.and_true]
   cases Xx (Vp w)<;>rfl
  ·rw[show (w % 4 != 1)=true by simpa using hm,Wc,Wj hm,Of];rfl
 ·rw[Wk h,Wj h,Um,Of];rfl
theorem Xax {ws:List Int} (hl:ws.length<=1000000) {a:Int} (ha:a<=18446744073709551615) (n:Int):Qet N ws a n=Qdk N ws a n:=by
 rw[Qet,Qdk]
 by_cases h1:a<4096
 ·rw[Wh h1,Wc,Wc]
 rw[XB h1,Wa,Wa,Xv (n:=a-4096) (by omega) (by omega),Xv (n:=((ws.length:Nat):Int)) (by omega) (by omega),Xv (n:=4096+((ws.length:Nat):Int)) (by omega) (by omega)]
 rw[show decide (a-4096>((ws.length:Nat):Int))=decide (a>4096+((ws.length:Nat):Int)) from decide_eq_decide.2 (by omega)]
theorem Xfe {ws:List Int} (hl:ws.length<=1000000) {a:Int} (ha:a<=18446744073709551615):QfE N ws a=Qa5 N ws a:=by
 rw[QfE,Qa5,Qgv,Qfa,Xax hl ha]
theorem Xko {ws:List Int} (hl:ws.length<=1000000) {a:Int} (ha:a<=18446744073709551615) (n:Int):Qgd N ws a n=QcM N ws a n:=by
 rw[Qgd,QcM,Xax hl ha]
 by_cases h0:n<0
 ·rw[Wh h0,Wc,Wc]
 rw[XB h0,Wa,Wa]
 congr 1
 funext y
 cases y.2 with
 | false=>rfl
 | true =>
  simp only[Ws,Wa,Qay,Xa]
  unfold grd
  by_cases g:0<=y.1/\y.1<=wI (y.1+n)/\wI (y.1+n)<=((ws.length:Nat):Int)
  ·rw[Wm g,Wm g,Wm (by omega)]
  ·rw[Wk g,Wk g]
structure HT (h:Wn):Prop where
 hb:HB h
 tw:XL h
theorem HT.word {h:Wn} (t:HT h) {i:Int} {w:Int} (e:Xb h.Words i=some w):tU w:=by
 have:=t.tw
 exact this w (Yp e)
theorem XdR (hN:NB N) {h:Wn} (ht:HT h) {a:Int} (ha:tU a):QeK N h a=Qat N h a:=by
 have hN':1000000<N:=by unfold NB at hN;omega
 have hb:=ht.hb
 unfold HB at hb
 rw[QeK,Qat,X8 (by omega) hN']
 obtain ⟨b,eb,hb2⟩:=Yl (N:=N) (by omega) (h:=h) (by omega) (by omega)
 rw[eb,Xa,Xa]
 cases b with
 | false=>rfl
 | true =>
 have hp:=hb2 rfl
 rw[Ws,Wa,Wa,Xkj _ _ _ ha.2,VO,Wk (by rw[hp.conf];simp)]
 by_cases hr:4096<=a/\a<4096+h.Conf.Pages*h.Conf.PageWords
 case neg=>rw[Wk hr,Xa,Xa];rfl
 rw[Wm hr,Xa,Xa]
 simp only[show ((0:Int) != 0)=false from rfl,Wa]
 have po:=XdB hp.conf hr.1 hr.2
 have hpl:=hp.pages
 generalize (a-4096) / h.Conf.PageWords=pn at *
 generalize (a-4096) % h.Conf.PageWords=po' at *
 have hpg:=hp.pgs pn (by omega) (by omega)
 have hsm:=hpg.small
 rw[YR (by omega) (by omega),Xa,Xa]
 generalize pg h.Pages pn=p at hsm ⊢
 rw[QfZ,Xfe (by omega) ha.2]
 have hcv:=Xi.1 hp.conf
 have hmm:=X3 hp.conf (i:=0) (by omega) (by omega)
 have ew:∃ w,Qa5 N h.Words a=some (w,0)/\tU w:=by
  rw[Qa5,Qfa,Qdk,XB (show ¬ a<4096 by omega),Wa,Xv (n:=((h.Words.length:Nat):Int)) (by omega) (by omega),Xv (n:=4096+((h.Words.length:Nat):Int)) (by omega) (by omega),XB (show ¬ a>4096+((h.Words.length:Nat):Int) by have:=hp.words;omega),Wa,Xv (n:=a-4096) (by omega) (by omega),Xc (n:=a-4096) (by omega) (by omega),Xc (by omega) (by omega),Xa]
  rw[Wh (show 1<=((h.Words.length:Nat):Int)-(a-4096) by have:=hp.words;omega),Ws,Wa,Xa]
  simp only[show ((0:Int) != 0)=false from rfl,Wa]
  have hg:=Yc (l:=h.Words) (i:=a-4096) (by omega) (by have:=hp.words;omega)
  exact ⟨_,by rw[hg,Xa],ht.word hg⟩
 obtain ⟨w,ew,tw⟩:=ew
 rw[ew,Xa,Xa,Xa,Xkn hN' tw,VN,Xa,Xa]
 simp only[Y0 (show 1000<N by omega),Yf,Xa,XV]
 have hs:=XcL w
 generalize Z3 w=d at *
 generalize XF d=s at *
 cases okH w with
 | false =>
  simp only[WU,Wc,Bool.cond_self]
 | true =>
  simp only[Ws,Wa]
  by_cases k1:p.Kind=1
  ·have k2:(p.Kind==2)=false:=by rw[k1];rfl
   simp only[show (p.Kind != 1)=false by simpa using k1,show (p.Kind==1)=true by simpa using k1,k2,Wc,Wa]
   by_cases u:po'>=p.Used
   ·rw[Wh u,Wc,Wc];rfl
   ·rw[XB u,Wa,Wa]
    have hpo:po'<=64:=by omega
    by_cases z:wI (po'+s)>p.Used
    ·rw[Wh z,Wc]
     rw[Xc (n:=po'+s) (by omega) (by omega)] at z
     have:¬ s<=wI (p.Used-po'):=by
      rw[Xc (by omega) (by omega)];omega
     rw[XB this];rfl
    ·rw[XB z,Wa]
     rw[Xc (n:=po'+s) (by omega) (by omega)] at z
     have:=hsm k1
     rw[Xc (n:=p.Used-po') (by omega) (by omega),Wh (by omega)];rfl
  ·rw[show (p.Kind != 1)=true by simpa using k1,show (p.Kind==1)=false by simpa using k1]
   simp only[Wc,Wa]
   by_cases k2:p.Kind=2
   ·simp only[show (p.Kind != 2)=false by simpa using k2,show (p.Kind==2)=true by simpa using k2,Wc,Wa]
    by_cases u:po'>=p.Used
    ·rw[Wh u,Wc,Wc];rfl
    ·rw[XB u,Wa,Wa]
     by_cases z:po'=0
     ·rw[show (po'==0)=true by simpa using z,show (po' != 0)=false by simpa using z,Wc,Wa]
      by_cases q:s=p.Used
      ·rw[show (s==p.Used)=true by simpa using q,show (s != p.Used)=false by simpa using q];rfl
      ·rw[show (s==p.Used)=false by simpa using q,show (s != p.Used)=true by simpa using q];rfl
     ·rw[show (po'==0)=false by simpa using z,show (po' != 0)=true by simpa using z];rfl
   ·simp only[show (p.Kind != 2)=true by simpa using k2,show (p.Kind==2)=false by simpa using k2,Wc,Wa,WU,Bool.cond_self]
end
end Go.Sx
namespace Go.Sx
section
variable {N:Nat}
def fnd (h:Wn) (a:Int):UI:=⟨a,hdA h.Words a⟩
theorem Xff (l:List UI) (hl:l.length<=1000000):∀ (n k:Nat) (v:List Int),k<=l.length->l.length-k<n->v.length=k->QcX N l n (k:Int) v=some (v++(l.drop k).map (·.addr))
 | 0,k,v,_,h,_=>by omega
 | n+1,k,v,hk,hn,hv=>by
  rw[QcX]
  by_cases hlt:k<l.length
  ·rw[Wh (by omega),Wc,Xd,Wd hlt,Xa,Xe (by omega),Xh (by omega),Xff l hl n (k+1) _ (by omega) (by omega) (by simp[hv]),Wu hlt,Ut,W9]
   rfl
  ·rw[Wj (by omega),Wa,WL (by omega)];simp
theorem Xb8 (l:List UI) (hl:l.length<=1000000) (hN:1000000<N):Qb9 N l=some (l.map (·.addr)):=by
 rw[Qb9,show (0:Int)=((0:Nat):Int) from rfl,Xff l hl N 0 [] (by omega) (by omega) rfl,Xa];simp
theorem Xmx (h:Wn) (l:List Int):(l.map (fnd h)).map (·.addr)=l:=by
 rw[List.map_map];exact List.map_id'' (λ _=>rfl) l
def XqO (h:Wn):Ex (List Int×Int) (List Int)->List UI×Int
 | .ret r=>([],19)
 | .nxt l=>(l.map (fnd h),0)
theorem Xc6 (hN:NB N) {h:Wn} (ht:HT h) (hp:UH h) {i:Int} (h0:0<=i) (h1:i<h.Pages.length) (hk:(pg h.Pages i).Kind=1\/(pg h.Pages i).Kind=2):∀ (n:Nat) (o:Int) (l:List Int),0<=o->(66-o).toNat<n->(l.length:Int)<=o->((pg h.Pages i).Kind=1->o<=64)->((pg h.Pages i).Kind=2->o=0) ->
 ∃ e,QaW N h i (pg h.Pages i) n o l=some e/\QbD N h i (pg h.Pages i) n o (l.map (fnd h))=some (XqO h e)/\(∀ r,e=.ret r->r=([],19))
 | 0,o,l,ho,hn,hl,k1,k2=>by
  rcases hk with hk | hk
  ·have:=k1 hk;omega
  ·have:=k2 hk;omega
 | n+1,o,l,ho,hn,hl,k1,k2=>by
  have hN':1000000<N:=by unfold NB at hN;omega
  have hv:=Xi.1 hp.conf
  have hpl:=hp.pages
  have hsm:=(hp.pgs i h0 h1).small
  have ho64:o<=64:=by rcases hk with hk | hk;exact k1 hk;have:=k2 hk;omega
  rw[QaW,QbD]
  by_cases hlt:o<(pg h.Pages i).Used
  case neg=>rw[XB hlt,Wa,Wa];exact ⟨_,rfl,rfl,λ r e=>by cases e⟩
  have hopw:o<h.Conf.PageWords:=by
   rcases hk with hk | hk
   ·have:=hsm hk;omega
   ·have:=k2 hk;omega
  rw[Wh hlt,Wc,Wc,JP,ZX,hp.conf,Xa,Xa,Wk (by simp),Wm (by omega)]
  dsimp only
  have hpw:=X3 hp.conf (i:=i) h0 (by omega)
  have ha:tU (Xg h.Conf i o):=by unfold Xg;exact ⟨by omega,by omega⟩
  rw[show ((0:Int)==0)=true from rfl,Wc,XdR hN ht ha]
  obtain ⟨y,ey,hy⟩:=XeN hN ht.hb (Xg h.Conf i o)
  rw[ey,Xa,Xa]
  by_cases hy0:y.2=0
  case neg =>
   rw[show (y.2 != 0)=true by simpa using hy0,show (y.2==0)=false by simpa using hy0,Wc,Wa]
   exact ⟨_,rfl,rfl,λ r e=>by cases e;rfl⟩
  obtain ⟨_,_,hat,hhd⟩:=hy hy0
  have hsz:=ZU h.Words (Xg h.Conf i o)
  have hpi:=XeP hp.conf (p:=i) ho hopw
  rw[show (y.2 != 0)=false by simpa using hy0,show (y.2==0)=true by simpa using hy0,Wc,Wa,hhd,Xe (by omega)]
  rw[Y0 (by omega),Xa,hsz.1,Xe (by rw[WZ];omega)]
  rw[show UI.mk (Xg h.Conf i o) (hdA h.Words (Xg h.Conf i o))=fnd h (Xg h.Conf i o) from rfl]
  have em:l.map (fnd h)++[fnd h (Xg h.Conf i o)]=(l++[Xg h.Conf i o]).map (fnd h):=by simp
  rw[em]
  rcases hk with hk | hk
  ·have hu:=hsm hk
   rw[show ((pg h.Pages i).Kind==2)=false by rw[hk];rfl,Wa,Yf,Xa,hsz.1]
   have hat1:=hat.small
   rw[hpi.1,hpi.2] at hat1
   have:=hat1 hk
   rw[Xc (n:=o+szA h.Words (Xg h.Conf i o)) (by omega) (by omega)]
   exact Xc6 hN ht hp h0 h1 (.inl hk) n _ _ (by omega) (by omega) (by simp;omega) (λ _=>by omega) (λ k=>by omega)
  ·rw[show ((pg h.Pages i).Kind==2)=true by rw[hk];rfl,Wc]
   have hat2:=hat.large
   rw[hpi.1,hpi.2] at hat2
   have:=hat2 hk
   refine ⟨_,rfl,?_,λ r e=>by cases e⟩
   rw[Xc (n:=o+szA h.Words (Xg h.Conf i o)) (by omega) (by omega)]
   obtain ⟨m,rfl⟩:∃ m,n=m+1:=⟨n-1,by omega⟩
   rw[QbD,XB (by omega),Wa];rfl
theorem Y3 {h:Wn} (hN:NB N) (hb:HB h) (ep:Qab N h=some true):UH h:=by
 obtain ⟨b,eb,hb2⟩:=Yl (N:=N) (by unfold NB at hN;omega) hb.1 hb.2
 rw[ep] at eb;cases eb;exact hb2 rfl
theorem Zj (hN:NB N) {h:Wn} (hb:HB h):∃ b,Qab N h=some b:=by
 obtain ⟨b,eb,_⟩:=Yl (N:=N) (by unfold NB at hN;omega) hb.1 hb.2
 exact ⟨b,eb⟩
theorem Xb9 (hN:NB N) {h:Wn} (ht:HT h) (ep:Qab N h=some true) {i:Int} (h0:0<=i) (h1:i<h.Pages.length):∃ r,Qau N h i=some r/\Qfb N h i=some (r.1.map (fnd h),r.2)/\(r.2≠0->r=([],19)):=by
 have hb:=ht.hb
 have hp:=Y3 hN hb ep
 rw[Qau,Qfb,ep,Xa,YR h0 h1,Xa,Xa,Ws,Wa,XB (show ¬ i<0 by omega),Wa,XB (show ¬ i>=_ by omega),Wa]
 have hkk:=(hp.pgs i h0 h1).kind
 have main:((pg h.Pages i).Kind=1\/(pg h.Pages i).Kind=2)->∃ r,(bnd (QaW N h i (pg h.Pages i) N 0 []) λ e=>exK e (λ r=>some r) λ y8=>some (y8,0))=some r/\QbD N h i (pg h.Pages i) N 0 []=some (r.1.map (fnd h),r.2)/\(r.2≠0->r=([],19)):=by
  intro hk
  obtain ⟨e,e1,e2,e3⟩:=Xc6 hN ht hp h0 h1 hk N 0 [] (by omega) (by unfold NB at hN;omega) (by simp) (λ _=>by omega) (λ _=>rfl)
  rw[e1,Xa]
  rw[UA] at e2
  rw[e2]
  cases e with
  | ret r=>rw[e3 r rfl];rw[XC];exact ⟨_,rfl,rfl,λ _=>rfl⟩
  | nxt l=>rw[Xr];exact ⟨_,rfl,rfl,λ h=>absurd rfl h⟩
 by_cases k1:(pg h.Pages i).Kind=1
 ·have:=main (.inl k1)
  rw[show ((pg h.Pages i).Kind==0)=false by rw[k1];rfl,show ((pg h.Pages i).Kind==3)=false by rw[k1];rfl,show ((pg h.Pages i).Kind != 1)=false by rw[k1];rfl]
  exact this
 by_cases k2:(pg h.Pages i).Kind=2
 ·have:=main (.inr k2)
  rw[show ((pg h.Pages i).Kind==0)=false by rw[k2];rfl,show ((pg h.Pages i).Kind==3)=false by rw[k2];rfl,show ((pg h.Pages i).Kind != 1)=true by rw[k2];rfl,show ((pg h.Pages i).Kind != 2)=false by rw[k2];rfl]
  exact this
 ·rw[show ((pg h.Pages i).Kind != 1)=true by simpa using k1,show ((pg h.Pages i).Kind != 2)=true by simpa using k2]
  simp only[Wc]
  refine ⟨([],0),?_,rfl,λ h=>absurd rfl h⟩
  by_cases k0:(pg h.Pages i).Kind=0
  ·rw[show ((pg h.Pages i).Kind==0)=true by simpa using k0,Wc]
  ·rw[show ((pg h.Pages i).Kind==0)=false by simpa using k0,show ((pg h.Pages i).Kind==3)=true by simp;omega];rfl
theorem Qkl (hN:NB N) {h:Wn} (hb:HB h) (i:Int) {r:List Int×Int} (e:Qau N h i=some r):r.1.length<=64:=by
 have:=(Qkp hN hb i).get_eq e
 exact this.2.1
theorem Xfg (hN:NB N) {h:Wn} (ht:HT h) (i:Int):Qfs N h i=Qau N h i:=by
 have hb:=ht.hb
 rw[Qfs,X8 (by have:=hb.2;omega) (by unfold NB at hN;omega)]
 obtain ⟨b,eb⟩:=Zj (N:=N) hN hb
 rw[eb,Xa]
 cases b with
 | false=>rw[Qau,eb,Xa];rfl
 | true =>
 by_cases h0:i<0
 ·rw[Qau,eb,Xa,Wh h0];rfl
 by_cases h1:i>=h.Pages.length
 ·rw[Qau,eb,Xa,XB h0,Wh h1];rfl
 obtain ⟨r,e1,e2,e3⟩:=Xb9 hN ht eb (i:=i) (by omega) (by omega)
 rw[Ws,Wa,XB h0,Wa,XB h1,Wa,e2,Xa,e1]
 have hl:=Qkl hN hb i e1
 by_cases z:r.2=0
 ·dsimp only
  rw[show (r.2 != 0)=false by simpa using z,Wa,Xb8 _ (by rw[WZ];omega) (by unfold NB at hN;omega),Xa,Xmx]
  congr 1;exact Prod.ext rfl z.symm
 ·dsimp only
  rw[show (r.2 != 0)=true by simpa using z,Wc,e3 z]
theorem Xhf (hN:NB N) {h:Wn} (ht:HT h) (ep:Qab N h=some true):∀ (n k:Nat) (l:List Int),k<=h.Pages.length->h.Pages.length-k<n->l.length<=64*k ->
 ∃ e,QaR N h n (k:Int) l=some e/\Qfd N h n (k:Int) (l.map (fnd h))=some (match e with | .ret r=>.ret (r.1.map (fnd h),r.2) | .nxt l=>.nxt (l.map (fnd h)))/\(∀ r,e=.ret r->r=([],19))/\(∀ l',e=.nxt l'->l'.length<=64*h.Pages.length)
 | 0,k,l,_,h,_=>by omega
 | n+1,k,l,hk,hn,hl=>by
  have hb:=ht.hb
  have hb2:=hb.2
  rw[QaR,Qfd]
  by_cases hlt:k<h.Pages.length
  case neg=>rw[Wj (show ¬ (k:Int)<_ by omega),Wa,Wa];refine ⟨_,rfl,rfl,?_,?_⟩<;>intro r e<;>cases e;omega
  rw[Wh (show (k:Int)<_ by omega),Wc,Wc]
  obtain ⟨r,e1,e2,e3⟩:=Xb9 hN ht ep (i:=(k:Int)) (by omega) (by omega)
  rw[e1,e2,Xa,Xa]
  have hr:=Qkl hN hb (k:Int) e1
  dsimp only
  by_cases z:r.2=0
  ·rw[show (r.2 != 0)=false by simpa using z,Wa,Wa,Xe (by omega),Xe (by simp only[WZ];omega),Xh (by omega),← List.map_append]
   exact Xhf hN ht ep n (k+1) _ (by omega) (by omega) (by rw[Wq];omega)
  ·rw[show (r.2 != 0)=true by simpa using z,Wc,Wc,e3 z]
   refine ⟨_,rfl,rfl,?_,?_⟩<;>intro r e<;>cases e;rfl
theorem Xmy (hN:NB N) {h:Wn} (ht:HT h):∃ r,QcL N h=some r/\QgQ N h=some (r.1.map (fnd h),r.2)/\(r.2≠0->r.1=[])/\r.1.length<=6400000:=by
 have hb:=ht.hb
 have hb2:=hb.2
 rw[QcL,QgQ,X8 (by omega) (by unfold NB at hN;omega)]
 obtain ⟨b,eb⟩:=Zj (N:=N) hN hb
 rw[eb,Xa,Xa]
 cases b with
 | false=>exact ⟨_,rfl,rfl,λ _=>rfl,by simp⟩
 | true =>
 rw[Ws,Wa,Wa]
 obtain ⟨e,e1,e2,e3,e4⟩:=Xhf hN ht eb N 0 [] (by omega) (by unfold NB at hN;omega) (by simp)
 rw[UA] at e2
 rw[show (0:Int)=((0:Nat):Int) from rfl,e1,e2,Xa,Xa]
 cases e with
 | ret r =>
  rw[XC]
  dsimp only
  rw[XC,e3 r rfl]
  exact ⟨_,rfl,rfl,λ _=>rfl,by simp⟩
 | nxt l =>
  have:=e4 l rfl
  rw[Xr]
  dsimp only
  rw[Xr]
  exact ⟨_,rfl,rfl,λ h=>absurd rfl h,by dsimp only;omega⟩
end
end Go.Sx
namespace Go.Sx
section
variable {N:Nat}
def KB (f:UI):Bool:=!(f.hd.Kind==0)
def Xfh (h:Wn) (l:List Int):List Int:=l.filter λ a=>KB (fnd h a)
theorem Xgh (l0:List UI) (hl:l0.length<=1000000):∀ (n i j:Nat) (v:List UI),i<=j->j<=l0.length->l0.length-j<n->v.length=l0.length->v.drop j=l0.drop j ->
 ∃ (i':Nat) (v':List UI),Qcf N n (i:Int) (j:Int) v=some ((i':Int),v')/\v'.length=l0.length/\i'<=l0.length/\v'.take i'=v.take i++(l0.drop j).filter KB
 | 0,i,j,v,_,_,h,_,_=>by omega
 | n+1,i,j,v,hij,hj,hn,hv,hd=>by
  rw[Qcf,Xe (by omega)]
  by_cases hlt:j<l0.length
  case neg =>
   rw[Wj (by omega),Wa]
   refine ⟨i,v,rfl,hv,by omega,?_⟩
   rw[WL (by omega)];simp
  have hjv:v[j]'(by omega)=l0[j]:=by
   have a:=Wu (l:=v) (i:=j) (by omega)
   have b:=Wu (l:=l0) (i:=j) (by omega)
   rw[hd,b] at a
   exact (I9 a).1.symm
  have hd1:v.drop (j+1)=l0.drop (j+1):=by
   have a:=Wu (l:=v) (i:=j) (by omega)
   have b:=Wu (l:=l0) (i:=j) (by omega)
   rw[hd,b] at a
   exact (I9 a).2.symm
  rw[Wh (by omega),Wc,Xd,Wd (by omega),Xa,Qd1,Xa,hjv,Wu hlt]
  cases hk:(l0[j].hd.Kind==0) with
  | true =>
   rw[Ws,Wa,Xh (by omega),UG (by unfold KB;rw[hk];simp)]
   exact Xgh l0 hl n i (j+1) v (by omega) (by omega) (by omega) hv hd1
  | false =>
   rw[WU,Wc,Xd,Wd (by omega),Xa,Xh (by omega),Xh (by omega),UR (by unfold KB;rw[hk];rfl)]
   rw[show ((i:Int)).toNat=i from rfl]
   obtain ⟨i',v',e1,e2,e3,e4⟩:=Xgh l0 hl n (i+1) (j+1) (v.set i l0[j]) (by omega) (by omega) (by omega) (by rw[Wx];exact hv) (by rw[List.drop_set_of_lt (by omega)];exact hd1)
   refine ⟨i',v',e1,e2,e3,?_⟩
   rw[e4,List.take_succ,Ir (by omega),List.take_set_of_le (Uf _)]
   simp
theorem Xmz (l:List UI) (hl:l.length<=1000000) (hN:1000000<N):Qag N l=some (JN (λ f=>f.hd.Kind==0) l):=by
 rw[Qag]
 exact JO (p:=λ f:UI=>f.hd.Kind==0) hl hN (λ n k x e=>by
  have hk:=Xy e
  rw[Qaf,XE hk,Wc,Xd,e,Xa,Qd1,Xa,Xh (by omega)]) (λ n=>by rw[Qaf,Xs,Wa])
theorem Xih (l:List UI) (hl:l.length<=1000000) (hN:1000000<N):(bnd (Qag N l) λ y2 =>
 bif (y2==(-1)) then (bnd (Qb9 N l) λ y11 =>
  some (y11,(0:Int)))
 else bnd (Qcf N N y2 (wI (y2+1)) l) λ y9 =>
 grd (0<=y9.1/\y9.1<=((y9.2.length:Nat):Int)/\((y9.2.length:Nat):Int)<=((y9.2.length:Nat):Int)) <|
 grd (0<=y9.1/\y9.1<=(((((min y9.1.toNat y9.2.length)+(y9.2.length-y9.1.toNat))+(y9.2.length-(y9.1.toNat+(y9.2.length-y9.1.toNat)))):Nat):Int)) <|
 bnd (Qb9 N ((((y9.2.take y9.1.toNat)++(List.replicate (y9.2.length-y9.1.toNat) (UI.mk 0 (Wy.mk 0 0 0))))++(y9.2.drop (y9.1.toNat+(y9.2.length-y9.1.toNat)))).take y9.1.toNat)) λ y12 =>
 some (y12,0))=some ((l.filter KB).map (·.addr),0):=by
 rw[Xmz l hl hN,Xa]
 unfold JN
 cases hf:l.findIdx? (λ f=>f.hd.Kind==0) with
 | none =>
  have hall:l.filter KB=l:=by
   rw[List.findIdx?_eq_none_iff] at hf
   rw[IE]
   intro x hx
   unfold KB;rw[hf x hx];rfl
  dsimp only
  rw[show ((-1:Int)==-1)=true from rfl,Wc,Xb8 l hl hN,Xa,hall]
 | some j =>
  obtain ⟨hj,hp,hb⟩:=List.findIdx?_eq_some_iff_getElem.1 hf
  dsimp only
  rw[show (((j:Nat):Int)==-1)=false by simp,Wa,Xh (by omega)]
  obtain ⟨i',v',e1,e2,e3,e4⟩:=Xgh (N:=N) l hl N j (j+1) l (by omega) (by omega) (by omega) rfl rfl
  rw[e1,Xa]
  dsimp only
  rw[Xe (by omega),Xe (by omega),show ((i':Int)).toNat=i' from rfl]
  have et:(((v'.take i')++(List.replicate (v'.length-i') (UI.mk 0 (Wy.mk 0 0 0))))++(v'.drop (i'+(v'.length-i')))).take i'=v'.take i':=by
   rw[Ut,List.take_append_of_le_length (by rw[Wz];omega),List.take_take,UL]
  have ef:l.filter KB=l.take j++(l.drop (j+1)).filter KB:=by
   conv=>lhs;rw[← IT j l,List.filter_append,Wu hj,UG (by unfold KB;rw[hp];simp)]
   congr 1
   rw[IE]
   intro x hx
   obtain ⟨k,hk,rfl⟩:=W3 hx
   rw[Wz] at hk
   rw[List.getElem_take]
   have:=hb k (by omega)
   unfold KB
   simpa using this
  rw[et,e4,← ef]
  have hle:(l.filter KB).length<=l.length:=List.length_filter_le _ _
  rw[Xb8 _ (by omega) hN,Xa]
theorem Xbb {h:Wn} (y:List Int×Int) (hy:y.1.length<=1000000) (hev:∀ a∈y.1,Qat N h a=some (hdA h.Words a,0)):∀ (n k:Nat) (v:List Int),k<=y.1.length->y.1.length-k<n->v.length<=k ->
 QaA N h y n (k:Int) v=some (v++Xfh h (y.1.drop k))
 | 0,k,v,_,hn,_=>by omega
 | n+1,k,v,hk,hn,hv=>by
  rw[QaA]
  by_cases hlt:k<y.1.length
  ·rw[Wh (by omega),Wc,Xd,Wd hlt,Xa,hev _ (WV hlt),Xa,Xh (by omega),Wu hlt,Xfh]
   dsimp only
   by_cases hk:(hdA h.Words y.1[k]).Kind=0
   ·rw[show ((hdA h.Words y.1[k]).Kind != 0)=false by simpa using hk,Wa,Xbb y hy hev n (k+1) v (by omega) (by omega) (by omega),UG (by simp[KB,fnd,hk])]
    rfl
   ·rw[show ((hdA h.Words y.1[k]).Kind != 0)=true by simpa using hk,Wc,Xa,Xe (by omega),Xbb y hy hev n (k+1) _ (by omega) (by omega) (by rw[Wq];simp;omega),UR (by simp[KB,fnd,hk])]
    simp[Xfh]
  ·rw[Wj (by omega),Wa,WL (by omega)];simp[Xfh]
theorem JR (hN:NB N) {h:Wn} (ht:HT h):Qd6 N h=Qav N h:=by
 have hN':1000000<N:=by unfold NB at hN;omega
 obtain ⟨r,e1,e2,e3,_⟩:=Xmy hN ht
 obtain ⟨hs,hp,_⟩:=(Xam hN ht.hb).get_eq e1
 have hlen:=hs.len
 rw[Qd6,Qav,e1,e2,Xa,Xa]
 dsimp only
 rw[show (0:Int)=((0:Nat):Int) from rfl,Xbb r (by omega) hs.obj.ev N 0 [] (by omega) (by omega) (by simp),Xa,WX,Uw]
 by_cases z:r.2=0
 ·rw[show (r.2 != ((0:Nat):Int))=false by simpa using z,Wa]
  have:=Xih (N:=N) (r.1.map (fnd h)) (by rw[WZ];omega) hN'
  rw[show ((0:Nat):Int)=0 from rfl,this,z]
  congr 2
  rw[List.filter_map,List.map_map]
  unfold Xfh
  exact List.map_id'' (λ _=>rfl) _
 ·rw[show (r.2 != ((0:Nat):Int))=true by simpa using z,Wc,e3 z];rfl
end
end Go.Sx
namespace Go.Sx
section
variable {N:Nat}
def exM {α β γ:Type} (f:α->γ):Ex α β->Ex γ β
 | .ret a=>.ret (f a)
 | .nxt b=>.nxt b
theorem I7.tu {h:Wn} (hp:UH h) {a:Int} (ha:I7 h a):tU a:=by
 have:=ha.rng;have:=X3 hp.conf (i:=0) (by omega) (by have:=Xi.1 hp.conf;omega)
 exact ⟨by omega,by omega⟩
theorem Xc7 (hN:NB N) {h:Wn} (ht:HT h) (hp:UH h) {i:Int} (h0:0<=i) (h1:i<h.Pages.length) (l:List Int) (hl:l.length<=4096) (hat:∀ a∈l,I7 h a) (hev:∀ a∈l,Qat N h a=some (hdA h.Words a,0)):∀ (n k:Nat),k<=l.length->l.length-k<n ->
 ∃ e,QaX N h i l n (k:Int)=some e/\Qca N h i l n (k:Int)=some (exM (λ a=>(a,true)) e)/\∀ a,e=.ret a->a∈l
 | 0,k,_,hn=>by omega
 | n+1,k,hk,hn=>by
  rw[QaX,Qca]
  by_cases hlt:k<l.length
  case neg=>rw[Wj (by omega),Wa,Wa];exact ⟨_,rfl,rfl,λ a e=>by cases e⟩
  have hm:=WV hlt
  have hne:1000<N:=by unfold NB at hN;omega
  have nx:=Xc7 hN ht hp h0 h1 l hl hat hev n (k+1) (by omega) (by omega)
  simp only[Wh (show (k:Int)<((l.length:Nat):Int) by omega),Wc,Xd,Wd hlt,Xa,XdR hN ht ((hat _ hm).tu hp),hev _ hm,Y0 hne,Yf,Xki,XgN,YR h0 h1,Xh (show k<=140737488355328 by omega)]
  cases ((pg h.Pages i).Kind==1)<;>cases ((pg h.Pages i).Kind==2)<;>cases (decide (XF (hdA h.Words l[k])<=smC h.Conf))<;>cases ((hdA h.Words l[k]).Kind==0)
  all_goals simp only[Wc,Wa,Ws,WU]
  all_goals first
   | exact nx
   | exact ⟨_,rfl,rfl,λ a e=>by cases e;exact hm⟩
theorem Xii (hN:NB N) {h:Wn} (ht:HT h) (hp:UH h) {i:Int} (h0:0<=i) (h1:i<h.Pages.length) (l:List Int) (hl:l.length<=4096) (hat:∀ a∈l,I7 h a) (hev:∀ a∈l,Qat N h a=some (hdA h.Words a,0)) :
 ∃ a,QdM N h i l=some a/\∃ b,Qfc N h i l=some (b,a != 0):=by
 obtain ⟨e,e1,e2,e3⟩:=Xc7 hN ht hp h0 h1 l hl hat hev N 0 (by omega) (by unfold NB at hN;omega)
 rw[QdM,Qfc,show (0:Int)=((0:Nat):Int) from rfl,e1,e2,Xa,Xa]
 cases e with
 | ret a =>
  have:=(hat a (e3 a rfl)).rng
  simp only[exM,XC]
  exact ⟨a,rfl,a,by rw[show (a != ((0:Nat):Int))=true by simp;omega]⟩
 | nxt u=>simp only[exM,Xr];exact ⟨_,rfl,_,rfl⟩
theorem Xfi {h:Wn} (hf:(pg h.Pages 0).Kind≠3) (hl:h.Pages.length<=100000):∀ (n i:Nat),i<h.Pages.length->i<n->Qec N h n (i:Int)=QcY N h n (i:Int)
 | 0,i,_,hn=>by omega
 | n+1,i,hi,hn=>by
  rw[Qec,QcY,YR (by omega) (by omega),Xa,Xa]
  cases i with
  | zero=>rw[show decide (((0:Nat):Int)>0)=false from rfl,Wa,show ((pg h.Pages ((0:Nat):Int)).Kind==3)=false by simpa using hf,Wa]
  | succ j =>
   rw[Wh (by omega),Wc,Xc (by omega) (by omega),show ((j+1:Nat):Int)-1=(j:Int) by omega,Xfi hf hl n j (by omega) (by omega)]
theorem Xkp (hN:NB N) {h:Wn} (hb:HB h) (hp:UH h) {i:Int} (h0:0<=i) (h1:i<h.Pages.length):Qge N h i=Qei N h i:=by
 obtain ⟨k,rfl⟩:∃ k:Nat,i=(k:Int):=⟨i.toNat,by omega⟩
 have:=hb.2
 rw[Qge,Qei,Xfi hp.first this N k (by omega) (by unfold NB at hN;omega)]
def JS (h:Wn) (a:Int):Int:=if (hdA h.Words a).Kind=0 then 1 else szA h.Words a
def Xog (h:Wn) (i:Int) (l:List Int) (k:Int):Bool:=l.any λ a=>decide (a-Xg h.Conf i 0<=k/\k<a-Xg h.Conf i 0+JS h a)
theorem Xhg (h:Wn) (hp:UH h) (i:Int) (h0:0<=i) (h1:i<h.Pages.length) (l:List Int) (k:Nat) (a:Int) (hk:l[k]? = some a) (x:Int) (hx:x<=256) (ha:4096<=a/\a<=8192):∀ (n:Nat) (w:Int) (u:List Bool),0<=w->(x-w).toNat<n->u.length<=1000 ->
 ∃ u',Qbe N h i l (k:Int) x n w u=some u'/\u'.length=u.length/\∀ j,j<u.length->u'.getD j false=(u.getD j false||decide (a-Xg h.Conf i 0+w<=j/\(j:Int)<a-Xg h.Conf i 0+x))
 | 0,w,u,_,hn,_=>by omega
 | n+1,w,u,hw,hn,hu=>by
  have hpl:=hp.pages
  have hv:=Xi.1 hp.conf
  have hm:=X3 hp.conf (i:=i) h0 (by omega)
  rw[Qbe]
  by_cases hlt:w<x
  case neg =>
   rw[XB hlt,Wa]
   exact ⟨u,rfl,rfl,λ j hj=>by rw[XB (show ¬ _ by omega),Bool.or_false]⟩
  have ad:Xg h.Conf i 0=4096+i*h.Conf.PageWords:=by unfold Xg;omega
  rw[Wh hlt,Wc,Xd,hk,Xa]
  rw[Xc (n:=a) (by omega) (by omega),Xc (n:=a-4096) (by omega) (by omega),Xc (n:=a-4096+w) (by omega) (by omega),Xc (n:=i*h.Conf.PageWords) (by omega) (by omega),Xc (n:=a-4096+w-i*h.Conf.PageWords) (by omega) (by omega),Xc (n:=w+1) (by omega) (by omega)]
  generalize hq:a-4096+w-i*h.Conf.PageWords=q
  have step:∀ v:List Bool,v.length=u.length->(∀ j,j<u.length->v.getD j false=(u.getD j false||decide ((j:Int)=q)))->∃ u',Qbe N h i l (k:Int) x n (w+1) v=some u'/\u'.length=u.length/\∀ j,j<u.length->u'.getD j false=(u.getD j false||decide (a-Xg h.Conf i 0+w<=j/\(j:Int)<a-Xg h.Conf i 0+x)):=by
   intro v hv1 hv2
   obtain ⟨u',e1,e2,e3⟩:=Xhg h hp i h0 h1 l k a hk x hx ha n (w+1) v (by omega) (by omega) (by omega)
   refine ⟨u',e1,e2.trans hv1,λ j hj=>?_⟩
   rw[e3 j (by omega),hv2 j hj,Bool.or_assoc]
   congr 1
   rw[← Bool.decide_or]
   exact decide_eq_decide.2 (by omega)
  by_cases q0:q>=0
  case neg =>
   rw[XB q0,Wa]
   exact step u rfl λ j hj=>by rw[XB (show ¬ (j:Int)=q by omega),Bool.or_false]
  rw[Wh q0,Wc,Xe (by omega)]
  by_cases q1:q<u.length
  case neg =>
   rw[XB q1,Wa]
   exact step u rfl λ j hj=>by rw[XB (show ¬ (j:Int)=q by omega),Bool.or_false]
  rw[Wh q1,Wc,Yc q0 q1,Xa]
  refine step _ (by rw[Wx]) λ j hj=>?_
  rw[Wp,Ik]
  by_cases hjq:q.toNat=j
  ·rw[Wm hjq,Wm (by omega),Wh (show (j:Int)=q by omega),Bool.or_true];rfl
  ·rw[Wk hjq,XB (show ¬ (j:Int)=q by omega),Bool.or_false,Wp]
end
end Go.Sx
namespace Go.Sx
section
variable {N:Nat}
def Xij (h:Wn) (i:Int) (k:Int) (a:Int):Bool:=decide (a-Xg h.Conf i 0<=k/\k<a-Xg h.Conf i 0+JS h a)
theorem XdS (h:Wn) (i:Int) (l:List Int) (k:Int):Xog h i l k=l.any (Xij h i k):=rfl
theorem Xkq (h:Wn) (a:Int):1<=JS h a/\JS h a<=256:=by
 have:=ZU h.Words a
 unfold JS;split<;>omega
theorem Xhh (hN:NB N) {h:Wn} (hp:UH h) (i:Int) (h0:0<=i) (h1:i<h.Pages.length) (l:List Int) (hl:l.length<=4096) (hat:∀ a∈l,I7 h a) (hev:∀ a∈l,Qat N h a=some (hdA h.Words a,0)):∀ (n k:Nat) (u:List Bool),k<=l.length->l.length-k<n->u.length<=1000 ->
 ∃ u',Qcp N h i l n (k:Int) u=some u'/\u'.length=u.length/\∀ j:Nat,j<u.length->u'.getD j false=(u.getD j false||(l.drop k).any (Xij h i (j:Int)))
 | 0,k,u,_,hn,_=>by omega
 | n+1,k,u,hk,hn,hu=>by
  have hv:=Xi.1 hp.conf
  have hm:=X3 hp.conf (i:=0) (by omega) (by omega)
  have hN':1000000<N:=by unfold NB at hN;omega
  rw[Qcp]
  by_cases hlt:k<l.length
  case neg =>
   rw[Wj (by omega),Wa,WL (by omega)]
   exact ⟨u,rfl,rfl,λ j hj=>by simp⟩
  have hmem:=WV hlt
  have hr:=(hat _ hmem).rng
  have hx:=Xkq h l[k]
  have hsz:=ZU h.Words l[k]
  have e:∀ kk:Int->Option (List Bool),(jn kk λ j1=>bif ((hdA h.Words l[k]).Kind==0) then j1 1 else j1 (XF (hdA h.Words l[k])))=kk (JS h l[k]):=by
   intro kk
   rw[XV]
   unfold JS
   rw[hsz.1]
   by_cases q:(hdA h.Words l[k]).Kind=0
   ·rw[Wm q,show ((hdA h.Words l[k]).Kind==0)=true by simpa using q,Wc]
   ·rw[Wk q,show ((hdA h.Words l[k]).Kind==0)=false by simpa using q,Wa]
  rw[Wh (by omega),Wc,Xd,Wd hlt,Xa,hev _ hmem,Xa,Yf,Xa]
  dsimp only
  rw[e]
  obtain ⟨u1,f1,f2,f3⟩:=Xhg (N:=N) h hp i h0 h1 l k l[k] (Wd hlt) (JS h l[k]) hx.2 (by omega) N 0 u (by omega) (by omega) hu
  rw[f1,Xa,Xh (by omega)]
  obtain ⟨u',g1,g2,g3⟩:=Xhh hN hp i h0 h1 l hl hat hev n (k+1) u1 (by omega) (by omega) (by omega)
  refine ⟨u',g1,g2.trans f2,λ j hj=>?_⟩
  rw[g3 j (by omega),f3 j hj,Bool.or_assoc,Wu hlt,List.any_cons]
  congr 2
  unfold Xij
  exact decide_eq_decide.2 (by omega)
theorem XmA (hN:NB N) {h:Wn} (hp:UH h) (i:Int) (h0:0<=i) (h1:i<h.Pages.length) (l:List Int) (hl:l.length<=4096) (hat:∀ a∈l,I7 h a) (hev:∀ a∈l,Qat N h a=some (hdA h.Words a,0)) :
 ∃ u,Qfy N h i l=some u/\u.length=h.Conf.PageWords.toNat/\∀ j:Nat,j<u.length->u.getD j false=Xog h i l (j:Int):=by
 have hv:=Xi.1 hp.conf
 rw[Qfy,Xe (by omega),show (0:Int)=((0:Nat):Int) from rfl]
 obtain ⟨u,e1,e2,e3⟩:=Xhh hN hp i h0 h1 l hl hat hev N 0 (List.replicate h.Conf.PageWords.toNat false) (by omega) (by unfold NB at hN;omega) (by rw[WC];omega)
 rw[e1,Xa]
 rw[WC] at e2 e3
 refine ⟨u,rfl,e2,λ j hj=>?_⟩
 rw[e3 j (by omega),WX,XdS,show (List.replicate h.Conf.PageWords.toNat false).getD j false=false by rw[Wp,IH];split<;>rfl,Ih]
def wdP (h:Wn) (i:Int) (k:Nat):Int:=wd h.Words (Xg h.Conf i 0+k)
theorem XmB (hN:NB N) {h:Wn} (hb:HB h) (hp:UH h) {i:Int} (h0:0<=i) (h1:i<h.Pages.length) {k:Nat} (hk:(k:Int)<h.Conf.PageWords):QeL N h i (k:Int)=some (wdP h i k):=by
 have hv:=Xi.1 hp.conf
 have hpl:=hp.pages
 have hm:=X3 hp.conf (i:=i) h0 (by omega)
 rw[QeL,Qf9,ZX,hp.conf,Wk (by simp),Wm (by omega),Xa,ZC (by unfold BIG;have:=hb.1;omega),Xa,Xa]
 have ea:Xg h.Conf i (k:Int)=Xg h.Conf i 0+k:=by unfold Xg;omega
 have hw:=hp.words
 rw[ea,Wm (by unfold inW Xg;simp;omega)]
 rfl
theorem Xhi (hN:NB N) {h:Wn} (hb:HB h) (hp:UH h) {i:Int} (h0:0<=i) (h1:i<h.Pages.length) (u:List Bool) (hu:u.length=h.Conf.PageWords.toNat):∀ (n k:Nat),k<=u.length->u.length-k<n ->
 ∃ e,QbT N h i u n (k:Int)=some e/\((∃ j,k<=j/\j<u.length/\u.getD j false=false/\wdP h i j≠0)->∃ a,e=.ret a/\a≠0)/\((¬ ∃ j,k<=j/\j<u.length/\u.getD j false=false/\wdP h i j≠0)->e=.nxt ())
 | 0,k,_,hn=>by omega
 | n+1,k,hk,hn=>by
  have hv:=Xi.1 hp.conf
  have hpl:=hp.pages
  have hm:=X3 hp.conf (i:=i) h0 (by omega)
  rw[QbT]
  by_cases hlt:k<u.length
  case neg =>
   rw[Wj (by omega),Wa]
   exact ⟨_,rfl,λ ⟨j,a,b,_⟩=>by omega,λ _=>rfl⟩
  rw[Wh (by omega),Wc,Xd,Wd hlt,Xa,XmB hN hb hp h0 h1 (by omega),Xa,Xh (by omega)]
  have hg:u.getD k false=u[k]:=by rw[Wp,Wd hlt];rfl
  have skip:(u[k]=true\/wdP h i k=0)->∃ e,QbT N h i u n ((k+1:Nat):Int)=some e/\((∃ j,k<=j/\j<u.length/\u.getD j false=false/\wdP h i j≠0)->∃ a,e=.ret a/\a≠0)/\((¬ ∃ j,k<=j/\j<u.length/\u.getD j false=false/\wdP h i j≠0)->e=.nxt ()):=by
   intro hs
   obtain ⟨e,e1,e2,e3⟩:=Xhi hN hb hp h0 h1 u hu n (k+1) (by omega) (by omega)
   refine ⟨e,e1,λ ⟨j,a,b,c,d⟩=>e2 ⟨j,?_,b,c,d⟩,λ hh=>e3 λ ⟨j,a,b⟩=>hh ⟨j,by omega,b⟩⟩
   by_cases hjk:j=k
   ·subst hjk
    rw[hg] at c
    rcases hs with hs | hs
    ·rw[hs] at c;cases c
    ·exact absurd hs d
   ·omega
  cases hc:u[k] with
  | true=>rw[Ws,Wa];exact skip (.inl hc)
  | false =>
   rw[WU,Wc]
   by_cases hz:wdP h i k=0
   ·rw[show (wdP h i k != 0)=false by simpa using hz,Wa];exact skip (.inr hz)
   ·rw[show (wdP h i k != 0)=true by simpa using hz,Wc,QeX,Xa]
    refine ⟨_,rfl,λ _=>⟨_,rfl,?_⟩,λ hh=>absurd ⟨k,by omega,hlt,by rw[hg,hc],hz⟩ hh⟩
    rw[Xc (n:=i*h.Conf.PageWords) (by omega) (by omega),Xc (n:=4096+i*h.Conf.PageWords) (by omega) (by omega),Xc (by omega) (by omega),Xv (by omega) (by omega)]
    omega
end
end Go.Sx
namespace Go.Sx
section
variable {N:Nat}
def ZI (L x:Int):Int:=if L<(if x<0 then 0 else x) then L else (if x<0 then 0 else x)
theorem XdT {v:List Int} {lo hi:Nat} (h1:lo<=hi) (h2:hi<=v.length):(((v.take lo)++(List.replicate (hi-lo) 0))++(v.drop (lo+(hi-lo)))).length=v.length:=by
 simp only[Wq,Wz,WC,WO];omega
theorem XmC {v:List Int} {lo hi:Nat} (h1:lo<=hi) (h2:hi<=v.length) (j:Nat):(((v.take lo)++(List.replicate (hi-lo) 0))++(v.drop (lo+(hi-lo)))).getD j 0=if lo<=j/\j<hi then 0 else v.getD j 0:=by
 simp only[Wp,UT,Wq,Wz,WC,WW,IH,Un]
 by_cases a:j<lo
 ·rw[Wm (by omega),Wm (by omega),Wm a,Wk (by omega)]
 by_cases b:j<hi
 ·rw[Wm (by omega),Wk (by omega),Wm (by omega),Wm (by omega)];rfl
 ·rw[Wk (by omega),Wk (by omega)]
  congr 2;omega
theorem Xfj (hN:NB N) {h:Wn} (ht:HT h) (hp:UH h) (i:Int) (h0:0<=i) (h1:i<h.Pages.length) (y4:List Int×Int) (hl:y4.1.length<=4096) (hat:∀ a∈y4.1,I7 h a) (hev:∀ a∈y4.1,Qat N h a=some (hdA h.Words a,0)):∀ (n k:Nat) (v:List Int),k<=y4.1.length->y4.1.length-k<n->v.length<=1000 ->
 ∃ v',QdA N h (Xg h.Conf i 0,0) y4 n (k:Int) v=some v'/\v'.length=v.length/\∀ j:Nat,j<v.length->v'.getD j 0=if (y4.1.drop k).any (Xij h i (j:Int))=true then 0 else v.getD j 0
 | 0,k,v,_,hn,_=>by omega
 | n+1,k,v,hk,hn,hv=>by
  have hcv:=Xi.1 hp.conf
  have hpl:=hp.pages
  have hm:=X3 hp.conf (i:=i) h0 (by omega)
  have hN':1000000<N:=by unfold NB at hN;omega
  rw[QdA]
  by_cases hlt:k<y4.1.length
  case neg =>
   rw[Wj (by omega),Wa,WL (by omega)]
   exact ⟨v,rfl,rfl,λ j hj=>by simp⟩
  have hmem:=WV hlt
  have hr:=(hat _ hmem).rng
  have hx:=Xkq h y4.1[k]
  have hsz:=ZU h.Words y4.1[k]
  have e:∀ kk:Int->Option (List Int),(jn kk λ j1=>bif ((hdA h.Words y4.1[k]).Kind != 0) then (bnd (some (XF (hdA h.Words y4.1[k]))) λ y9=>j1 y9) else j1 1)=kk (JS h y4.1[k]):=by
   intro kk
   rw[XV]
   unfold JS
   rw[hsz.1]
   by_cases q:(hdA h.Words y4.1[k]).Kind=0
   ·rw[Wm q,show ((hdA h.Words y4.1[k]).Kind != 0)=false by simpa using q,Wa]
   ·rw[Wk q,show ((hdA h.Words y4.1[k]).Kind != 0)=true by simpa using q,Wc,Xa]
  rw[Wh (show (k:Int)<((y4.1.length:Nat):Int) by omega),Wc,Xd,Wd hlt,Xa,XdR hN ht ((hat _ hmem).tu hp),hev _ hmem,Xa,Y0 (by omega)]
  dsimp only
  rw[e]
  have ad:Xg h.Conf i 0=4096+i*h.Conf.PageWords:=by unfold Xg;omega
  have w0:wI y4.1[k]=y4.1[k]:=Xc (by omega) (by omega)
  have w1:wI (Xg h.Conf i 0)=Xg h.Conf i 0:=Xc (by omega) (by omega)
  have w2:wI (y4.1[k]-Xg h.Conf i 0)=y4.1[k]-Xg h.Conf i 0:=Xc (by omega) (by omega)
  have w3:wI (y4.1[k]-Xg h.Conf i 0+JS h y4.1[k])=y4.1[k]-Xg h.Conf i 0+JS h y4.1[k]:=Xc (by omega) (by omega)
  simp only[w0,w1,w2,w3,Xh (show k<=140737488355328 by omega)]
  rw[Xe (by omega),Xe (by omega)]
  have cl:∀ x:Int,(if ((v.length:Nat):Int)<(if x<0 then 0 else x) then ((v.length:Nat):Int) else (if x<0 then 0 else x))=ZI v.length x:=λ _=>rfl
  simp only[cl]
  have c1:∀ x:Int,0<=ZI v.length x/\ZI v.length x<=v.length:=by intro x;unfold ZI;split<;>split<;>omega
  generalize hA:y4.1[k]-Xg h.Conf i 0=A at *
  have a1:=c1 A
  have a2:=c1 (A+JS h y4.1[k])
  have a3:ZI v.length A<=ZI v.length (A+JS h y4.1[k]):=by
   unfold ZI;repeat' split
   all_goals omega
  rw[Xe (by omega)]
  obtain ⟨v',g1,g2,g3⟩:=Xfj hN ht hp i h0 h1 y4 hl hat hev n (k+1) _ (by omega) (by omega) (by rw[XdT (v:=v) (lo:=(ZI v.length A).toNat) (hi:=(ZI v.length (A+JS h y4.1[k])).toNat) (by omega) (by omega)];exact hv)
  refine ⟨v',g1,by rw[g2,XdT (by omega) (by omega)],λ j hj=>?_⟩
  rw[g3 j (by rw[XdT (by omega) (by omega)];exact hj),XmC (by omega) (by omega),Wu hlt,List.any_cons]
  have ec:Xij h i (j:Int) y4.1[k]=decide ((ZI v.length A).toNat<=j/\j<(ZI v.length (A+JS h y4.1[k])).toNat):=by
   unfold Xij
   rw[hA]
   refine decide_eq_decide.2 ?_
   unfold ZI
   repeat' split
   all_goals omega
  rw[ec]
  by_cases q:(ZI v.length A).toNat<=j/\j<(ZI v.length (A+JS h y4.1[k])).toNat
  ·rw[Wm q,Wh q,Bool.true_or,Wm rfl];exact ite_self _
  ·rw[Wk q,Wj q,Ih]
theorem XmD (l:List Int) (hl:l.length<=1000000) (hN:1000000<N):QaH N l=some (JN (λ x=>x != 0) l):=by
 rw[QaH]
 exact JO (p:=λ x:Int=>x != 0) hl hN (λ n k x e=>by
  have hk:=Xy e
  rw[Qap,XE hk,Wc,Xd,e,Xa,Qgf,Xa,Xh (by omega)]) (λ n=>by rw[Qap,Xs,Wa])
theorem Xkr (hN:NB N) {h:Wn} (ht:HT h) (ep:Qab N h=some true) {i:Int} (h0:0<=i) (h1:i<h.Pages.length) :
 ∃ a,Qej N h i=some a/\∃ b,QfF N h i=some (b,a != 0):=by
 have hN':1000000<N:=by unfold NB at hN;omega
 have hb:=ht.hb
 have hp:=Y3 hN hb ep
 have hcv:=Xi.1 hp.conf
 have hpl:=hp.pages
 have hm:=X3 hp.conf (i:=i) h0 (by omega)
 have ad:Xg h.Conf i 0=4096+i*h.Conf.PageWords:=by unfold Xg;omega
 have hw:=hp.words
 obtain ⟨pw,hpw⟩:∃ pw:Nat,h.Conf.PageWords=(pw:Int):=⟨h.Conf.PageWords.toNat,by omega⟩
 have hin:Yb h.Words (Xg h.Conf i 0) pw:=by unfold Yb;omega
 have erd:QcM N h.Words (Xg h.Conf i 0) h.Conf.PageWords=some ((h.Words.drop (ix (Xg h.Conf i 0))).take pw,0):=by
  rw[hpw,Xa1 (by unfold BIG;have:=hb.1;omega) N _ pw (by omega),Wm hin]
 have eadr:Qbu N h.Conf i 0=some (Xg h.Conf i 0,0):=by rw[ZX,hp.conf,Wk (by simp),Wm (by omega)]
 have hau:Xg h.Conf i 0<=18446744073709551615:=by omega
 obtain ⟨hd,eh,hh0,hh1⟩:=XdE N (h:=h) hp.first N i h0 h1 hb.2 (by have:=hb.2;unfold NB at hN;omega)
 have eh':Qei N h i=some hd:=by rw[Qei,eh,Xa]
 obtain ⟨r,er,hr,hlen⟩:=Qg7 hN hb hp hd hh0 hh1
 obtain ⟨⟨hat,hev,_⟩,_,_⟩:=hr
 obtain ⟨u,eu,hu1,hu2⟩:=XmA hN hp i h0 h1 r.1 (by omega) hat hev
 obtain ⟨e,e1,e2,e3⟩:=Xhi hN hb hp h0 h1 u hu1 N 0 (by omega) (by omega)
 rw[Qej,eh',Xa,er,Xa,eu,Xa,show (0:Int)=((0:Nat):Int) from rfl,e1,Xa]
 rw[QfF,JP,eadr,Xa,Xko (by have:=hb.1;omega) hau]
 dsimp only
 rw[erd,Xa,Xkp hN hb hp h0 h1,eh',Xa,Xfg hN ht,er,Xa]
 dsimp only
 have hvl:((h.Words.drop (ix (Xg h.Conf i 0))).take pw).length=pw:=by
  rw[Wz,WO];unfold ix;unfold Yb at hin;omega
 obtain ⟨v,g1,g2,g3⟩:=Xfj hN ht hp i h0 h1 r (by omega) hat hev N 0 ((h.Words.drop (ix (Xg h.Conf i 0))).take pw) (by omega) (by omega) (by omega)
 have g1':QdA N h (Xg h.Conf i 0,0) r N 0 ((h.Words.drop (ix (Xg h.Conf i 0))).take pw)=some v:=g1
 have hul:u.length=pw:=by clear e2 e3;omega
 have hvL:v.length=pw:=by rw[g2,hvl]
 rw[g1',Xa,XmD v (by clear e2 e3;omega) hN',Xa]
 have hany:decide (JN (λ x=>x != 0) v>=0)=v.any (λ x=>x != 0):=K5 _ v
 rw[hany]
 have hword:∀ j,j<pw->((h.Words.drop (ix (Xg h.Conf i 0))).take pw).getD j 0=wdP h i j:=by
  intro j hj
  unfold wdP wd ix
  rw[Wp,WW,Wm hj,Un,Wp]
  congr 2;omega
 clear hu1
 have iff1:v.any (λ x=>x != 0)=true↔∃ j,0<=j/\j<u.length/\u.getD j false=false/\wdP h i j≠0:=by
  rw[II]
  constructor
  ·rintro ⟨x,hx,hx0⟩
   obtain ⟨j,hj,rfl⟩:=W3 hx
   have hj':j<pw:=by omega
   have:=g3 j (by omega)
   rw[Wp,Wd hj,UC,hword j hj',WX,← XdS] at this
   have hne:v[j]≠0:=by simpa using hx0
   refine ⟨j,US _,by omega,?_,?_⟩
   ·rw[hu2 j (by omega)]
    cases hc:Xog h i r.1 (j:Int) with
    | false=>rfl
    | true=>rw[hc,Wm rfl] at this;exact absurd this hne
   ·intro hz
    rw[hz,ite_self] at this;exact hne this
  ·rintro ⟨j,_,hj,hc,hz⟩
   have hj':j<v.length:=by omega
   refine ⟨v[j],WV hj',?_⟩
   have:=g3 j (by omega)
   rw[Wp,Wd hj',UC,hword j (by omega),WX,← XdS,← hu2 j hj,hc,Wk (by simp)] at this
   rw[this];simpa using hz
 by_cases hex:∃ j,0<=j/\j<u.length/\u.getD j false=false/\wdP h i j≠0
 ·obtain ⟨a,rfl,ha⟩:=e2 hex
  rw[XC,iff1.2 hex]
  exact ⟨a,rfl,_,by rw[show (a != ((0:Nat):Int))=true by simpa using ha]⟩
 ·have hne:=e3 hex
  subst hne
  rw[Xr,show v.any (λ x=>x != 0)=false by rw[← IX];exact λ hh=>hex (iff1.1 hh)]
  exact ⟨_,rfl,_,rfl⟩
end
end Go.Sx
namespace Go.Sx
theorem KM {α β:Type} {L:Nat} {F:Nat->Int->Option (Ex α β)} {p:Nat->Prop} {Q:α->Prop} {u:β}
 (hbad:∀ n k,k<L->p k->∃ a,F (n+1) (k:Int)=some (.ret a)/\Q a)
 (hok:∀ n k,k<L->¬ p k->F (n+1) (k:Int)=F n ((k+1:Nat):Int))
 (hstop:∀ n,F (n+1) (L:Int)=some (.nxt u)):∀ (n k:Nat),k<=L->L-k<n ->
 ∃ e,F n (k:Int)=some e/\((∃ j,k<=j/\j<L/\p j)->∃ a,e=.ret a/\Q a)/\((¬ ∃ j,k<=j/\j<L/\p j)->e=.nxt u)
 | 0,k,_,hn=>by omega
 | n+1,k,hk,hn=>by
  by_cases hlt:k<L
  case neg =>
   obtain rfl:k=L:=by omega
   exact ⟨_,hstop n,λ ⟨j,a,b,_⟩=>by omega,λ _=>rfl⟩
  by_cases hp:p k
  ·obtain ⟨a,e,hq⟩:=hbad n k hlt hp
   exact ⟨_,e,λ _=>⟨a,rfl,hq⟩,λ hh=>absurd ⟨k,Uf _,hlt,hp⟩ hh⟩
  ·obtain ⟨e,e1,e2,e3⟩:=KM hbad hok hstop n (k+1) (by omega) (by omega)
   refine ⟨e,(hok n k hlt hp).trans e1,λ ⟨j,a,b,c⟩=>e2 ⟨j,?_,b,c⟩,λ hh=>e3 λ ⟨j,a,b⟩=>hh ⟨j,by omega,b⟩⟩
   by_cases hjk:j=k
   ·subst hjk;exact absurd c hp
   ·omega
section
variable {N:Nat}
theorem Xks (l:List Int) (x:Int) (hl:l.length<=1000000) (hs:l.Pairwise (·<·)):∀ (n lo hi:Nat),lo<=hi->hi<=l.length->hi-lo<n->(∀ i (h:i<l.length),i<lo->l[i]<x)->(∀ i (h:i<l.length),hi<=i->x<=l[i]) ->
 ∃ k:Nat,Qan N l x n (lo:Int) (hi:Int)=some (k:Int)/\k<=l.length/\(∀ i (h:i<l.length),i<k->l[i]<x)/\(∀ i (h:i<l.length),k<=i->x<=l[i])
 | 0,lo,hi,_,_,hn,_,_=>by omega
 | n+1,lo,hi,h1,h2,hn,ha,hb=>by
  rw[Qan]
  by_cases hlt:lo<hi
  case neg =>
   rw[Wj (by omega),Wa]
   exact ⟨lo,rfl,by omega,ha,λ i h hi'=>hb i h (by omega)⟩
  have hmid:wI (X5 .u64 (wU (wI ((lo:Int)+hi))) 1)=(((lo+hi) / 2:Nat):Int):=by
   rw[Xc (n:=(lo:Int)+hi) (by omega) (by omega),Xv (by omega) (by omega),show X5 .u64 ((lo:Int)+hi) 1=((lo:Int)+hi) / 2 from YF _ 1 (by omega) (by omega),Xc (by omega) (by omega)]
   omega
  have hm:(lo+hi) / 2<l.length:=by omega
  have hlm:lo<=(lo+hi) / 2/\(lo+hi) / 2<hi:=by omega
  generalize (lo+hi) / 2=m at *
  rw[Wh (by omega),Wc,hmid,Xd,Wd hm,Xa,Qfh,Qd7,Xa,show (l[m] != l[m])=false by simp,Wa,Xa]
  have hpw:=U4.1 hs
  by_cases hc:l[m]<x
  ·rw[Wh hc,Wc,Xh (by omega)]
   refine Xks l x hl hs n (m+1) hi (by omega) h2 (by omega) (λ i h hi'=>?_) hb
   by_cases him:i=m
   ·subst him;exact hc
   ·exact Int.lt_trans (hpw i m h hm (by omega)) hc
  ·rw[Wj hc,Wa]
   refine Xks l x hl hs n lo m (by omega) (by omega) (by omega) ha (λ i h hi'=>?_)
   by_cases him:i=m
   ·subst him;omega
   ·have:=hpw m i hm h (by omega);omega
theorem Xkt (l:List Int) (x:Int) (hl:l.length<=1000000) (hN:1000000<N) (hs:l.Pairwise (·<·)):∃ k:Int,Qas N l x=some (k,l.contains x):=by
 obtain ⟨k,e,hk,h1,h2⟩:=Xks (N:=N) l x hl hs N 0 l.length (by omega) (by omega) (by omega) (λ i h hi=>by omega) (λ i h hi=>by omega)
 rw[Qas,show (0:Int)=((0:Nat):Int) from rfl,e,Xa]
 by_cases hlt:k<l.length
 ·rw[Wh (by omega),Wc,Xd,Wd hlt,Xa]
  by_cases hx:l[k]=x
  ·refine ⟨k,?_⟩
   rw[show (l[k]==x)=true by simpa using hx,Wc,show l.contains x=true by rw[U7,← hx];exact WV hlt]
  ·refine ⟨k,?_⟩
   rw[show (l[k]==x)=false by simpa using hx,Wa,Xa,Qc6,Xa,show (l[k] != l[k])=false by simp,Wa]
   have:l.contains x=false:=by
    rw[← IX,U7]
    intro hm
    obtain ⟨i,hi,rfl⟩:=W3 hm
    have hpw:=U4.1 hs
    by_cases hik:i<k
    ·have:=h1 i hi hik;omega
    ·have a:=h2 k hlt (Uf _)
     by_cases heq:i=k
     ·subst heq;exact hx rfl
     ·have:=hpw k i hlt hi (by omega);omega
   rw[this]
 ·refine ⟨k,?_⟩
  rw[Wj (by omega),Wa]
  have:l.contains x=false:=by
   rw[← IX,U7]
   intro hm
   obtain ⟨i,hi,rfl⟩:=W3 hm
   have:=h1 i hi (by omega);omega
  rw[this]
theorem Ou.asc {h:Wn} {l:List Int} (o:Ou N h l):l.Pairwise (·<·) :=
 o.pw.imp λ {a b} hab=>by have:=(ZU h.Words a).2;omega
theorem Vg {d:Wy}:∀ {k:Nat} {i x:Int},i<=x->x<i+k->KD d x=true->x∈Yg d k i
 | 0,i,x,h1,h2,_=>by omega
 | k+1,i,x,h1,h2,h3=>by
  simp only[Yg,WJ]
  by_cases hx:x=i
  ·subst hx;left;rw[Wm h3];simp
  ·right;exact Vg (by omega) (by omega) h3
theorem Xay {d:Wy} (hv:Xx d=true) {x:Int}:x∈ZD d↔0<=x/\x<d.Length/\KD d x=true:=by
 have hb:=XH hv
 unfold ZD
 rw[Wm hv]
 constructor
 ·intro h;have:=Jh h;exact ⟨by omega,by omega,this.2.2⟩
 ·intro h;exact Vg (by omega) (by omega) h.2.2
end
end Go.Sx
namespace Go.Sx
section
variable {N:Nat}
def Xoh (h:Wn) (l:List Int) (a i:Int):Prop:=wd h.Words (a+1+i)≠0/\l.contains (wd h.Words (a+1+i))=false
def Vv (h:Wn) (l:List Int) (a:Int):Prop:=∃ i,i∈ZD (hdA h.Words a)/\Xoh h l a i
theorem J9 (h:Wn) (a:Int):Xx (hdA h.Words a)=true:=ZT _
theorem XmE {h:Wn} (hp:UH h) {a:Int} (ha:I7 h a) {i:Int} (h0:0<=i) (h1:i<(hdA h.Words a).Length):4096<=a+1+i/\a+1+i<4096+h.Words.length/\a+1+i<=8192/\(hdA h.Words a).Length<=255:=by
 have:=VP hp ha
 have:=ha.rng
 have:=ZU h.Words a
 have hv:=Xi.1 hp.conf
 have:=X3 hp.conf (i:=0) (by omega) (by omega)
 have:=hp.words
 unfold szA at *
 omega
theorem Xpp (hN:NB N) {h:Wn} (ht:HT h) (hp:UH h) (y1:List Int×Int) (hl:y1.1.length<=1000000) (hs:y1.1.Pairwise (·<·)) (v2:Int) {a:Int} (ha:I7 h a) :
 ∃ e,QaF N h y1 v2 a (ZD (hdA h.Words a)) N 0=some e/\(Vv h y1.1 a->∃ b,e=.ret b/\b≠0)/\(¬ Vv h y1.1 a->e=.nxt ()):=by
 have hN':1000000<N:=by unfold NB at hN;omega
 have hb:=ht.hb
 have hv:=J9 h a
 have hb255:=XH hv
 have hpl:(ZD (hdA h.Words a)).length<=255:=by
  unfold ZD;rw[Wm hv];have:=Ji (d:=hdA h.Words a) (k:=(hdA h.Words a).Length.toNat) (i:=0);omega
 have hmem:∀ k (hk:k<(ZD (hdA h.Words a)).length),0<=(ZD (hdA h.Words a))[k]/\(ZD (hdA h.Words a))[k]<(hdA h.Words a).Length:=λ k hk=>by
  have:=(Xay hv).1 (WV hk);exact ⟨this.1,this.2.1⟩
 generalize hps:ZD (hdA h.Words a)=ps at *
 have hr:=ha.rng
 have step:∀ n k (hk:k<ps.length),QaF N h y1 v2 a ps (n+1) (k:Int)=bif (wd h.Words (a+1+ps[k]) != 0) then (bif (!y1.1.contains (wd h.Words (a+1+ps[k]))) then some (.ret (a+1+ps[k])) else QaF N h y1 v2 a ps n ((k+1:Nat):Int)) else QaF N h y1 v2 a ps n ((k+1:Nat):Int):=by
  intro n k hk
  have hm:=hmem k hk
  have hf:=XmE hp ha hm.1 hm.2
  have hw8:(h.Words.length:Int)<=100000:=by have:=hb.1;omega
  have w1:wU (wU (a+1)+wU ps[k])=a+1+ps[k]:=by
   rw[Xv (n:=a+1) (by omega) (by omega),Xv (n:=ps[k]) (by omega) (by omega),Xv (by omega) (by omega)]
  rw[QaF,Wh (by omega),Wc,Xd,Wd hk,Xa,w1,Xfe (by have:=hb.1;omega) (by omega),ZC (by unfold BIG;have:=hb.1;omega),Wm (by unfold inW;omega),Xa]
  dsimp only
  obtain ⟨q,eq⟩:=Xkt (N:=N) y1.1 (h.Words.getD (ix (a+1+ps[k])) 0) hl hN' hs
  rw[eq,Xa,Xh (by omega)]
  rfl
 have key:=KM (L:=ps.length) (F:=QaF N h y1 v2 a ps) (p:=λ k=>∃ hk:k<ps.length,Xoh h y1.1 a ps[k]) (Q:=λ b=>b≠0) (u:=())
  (λ n k hk hbad=>by
   obtain ⟨hk',h1,h2⟩:=hbad
   refine ⟨a+1+ps[k],?_,?_⟩
   ·rw[step n k hk,show (wd h.Words (a+1+ps[k]) != 0)=true by simpa using h1,Wc,h2];rfl
   ·have:=hmem k hk;omega)
  (λ n k hk hnb=>by
   rw[step n k hk]
   by_cases h1:wd h.Words (a+1+ps[k])=0
   ·rw[show (wd h.Words (a+1+ps[k]) != 0)=false by simpa using h1,Wa]
   ·rw[show (wd h.Words (a+1+ps[k]) != 0)=true by simpa using h1,Wc]
    cases h2:y1.1.contains (wd h.Words (a+1+ps[k])) with
    | true=>rfl
    | false=>exact absurd ⟨hk,h1,h2⟩ hnb)
  (λ n=>by rw[QaF,Wj (by omega),Wa]) N 0 (by omega) (by omega)
 obtain ⟨e,e1,e2,e3⟩:=key
 refine ⟨e,e1,λ hbo=>?_,λ hbo=>?_⟩
 ·obtain ⟨i,hi,hbp⟩:=hbo
  rw[hps] at hi
  obtain ⟨j,hj,rfl⟩:=W3 hi
  exact e2 ⟨j,US _,hj,hj,hbp⟩
 ·refine e3 λ ⟨j,_,hj,hj',hbp⟩=>hbo ⟨ps[j],?_,hbp⟩
  rw[hps];exact WV hj
theorem Xnu (hN:NB N) {h:Wn} (ht:HT h) (hp:UH h) (y1:List Int×Int) (hl:y1.1.length<=1000000) (hs:y1.1.Pairwise (·<·)) (hat:∀ a∈y1.1,I7 h a) (hev:∀ a∈y1.1,Qat N h a=some (hdA h.Words a,0)):∀ (n k:Nat),k<=y1.1.length->y1.1.length-k<n ->
 ∃ r,Qcd N h y1 n (k:Int)=some r/\((∃ a∈y1.1.drop k,Vv h y1.1 a)->r≠0)/\((¬ ∃ a∈y1.1.drop k,Vv h y1.1 a)->r=0)
 | 0,k,_,hn=>by omega
 | n+1,k,hk,hn=>by
  have hN':1000000<N:=by unfold NB at hN;omega
  rw[Qcd]
  by_cases hlt:k<y1.1.length
  case neg =>
   rw[Wj (by omega),Wa,WL (by omega)]
   exact ⟨0,rfl,λ ⟨a,ha,_⟩=>by simp at ha,λ _=>rfl⟩
  have hm:=WV hlt
  rw[Wh (by omega),Wc,Xd,Wd hlt,Xa,XdR hN ht ((hat _ hm).tu hp),hev _ hm,Xa,Xif (by omega) _ (J9 h _),Xa]
  obtain ⟨e,e1,e2,e3⟩:=Xpp hN ht hp y1 hl hs (k:Int) (hat _ hm)
  rw[e1,Xa,Wu hlt]
  by_cases hbo:Vv h y1.1 y1.1[k]
  ·obtain ⟨b,rfl,hb0⟩:=e2 hbo
   rw[XC]
   exact ⟨b,rfl,λ _=>hb0,λ hh=>absurd ⟨_,IM,hbo⟩ hh⟩
  ·have:=e3 hbo
   subst this
   rw[Xr,Xh (by omega)]
   obtain ⟨r,r1,r2,r3⟩:=Xnu hN ht hp y1 hl hs hat hev n (k+1) (by omega) (by omega)
   refine ⟨r,r1,λ ⟨a,ha,hb⟩=>r2 ⟨a,?_,hb⟩,λ hh=>r3 λ ⟨a,ha,hb⟩=>hh ⟨a,Ug _ ha,hb⟩⟩
   rcases UB.1 ha with rfl | ha
   ·exact absurd hb hbo
   ·exact ha
theorem Xku (hN:NB N) {h:Wn} (hb:HB h) (ep:Qab N h=some true) {a:Int} (ha:I7 h a) (hev:Qat N h a=some (hdA h.Words a,0)) (hk:(hdA h.Words a).Kind≠0):Qbq N h a=some (hdA h.Words a,0):=by
 have:=ha.rng
 rw[Qbq,ep,Xa,Ws,Wa,show (a==0)=false by simp;omega,Wa,hev,Xa]
 dsimp only
 rw[show ((0:Int)==0)=true from rfl,Wc,show ((hdA h.Words a).Kind==0)=false by simpa using hk,Wa]
theorem Xik (hN:NB N) {h:Wn} (hb:HB h) (ep:Qab N h=some true) {a:Int} (ha:I7 h a) (hev:Qat N h a=some (hdA h.Words a,0)) (hk:(hdA h.Words a).Kind≠0):∃ l,Qd2 N h a=some (l,0)/\(l.length:Int)=(hdA h.Words a).Length/\∀ (j:Nat) (hj:j<l.length),l[j]=wd h.Words (a+1+j):=by
 have hp:=Y3 hN hb ep
 have hv:=XH (J9 h a)
 have hr:=ha.rng
 have hfit:=VP hp ha
 have hm:=X3 hp.conf (i:=0) (by omega) (by have:=Xi.1 hp.conf;omega)
 have hw:=hp.words
 unfold szA at hfit
 obtain ⟨m,hm'⟩:∃ m:Nat,(hdA h.Words a).Length=(m:Int):=⟨(hdA h.Words a).Length.toNat,by omega⟩
 rw[Qd2,Xku hN hb ep ha hev hk,Xa]
 dsimp only
 rw[show ((0:Int) != 0)=false from rfl,Wa,Xv (n:=a+1) (by omega) (by omega),hm',Xa1 (by unfold BIG;have:=hb.1;omega) N _ m (by omega),Wm (by unfold Yb;omega),Xa]
 refine ⟨_,rfl,?_,λ j hj=>?_⟩
 ·rw[Wz,WO];unfold ix;omega
 ·have hj':j<m:=by rw[Wz] at hj;omega
  rw[List.getElem_take,List.getElem_drop]
  unfold wd
  rw[Wp,show ix (a+1+(j:Int))=ix (a+1)+j by unfold ix;omega,Wd (by rw[Wz,WO] at hj;omega)];rfl
end
end Go.Sx
namespace Go.Sx
section
variable {N:Nat}
theorem Xpq (hN:NB N) {h:Wn} (hb:HB h) (hp:UH h) (y1 y6:List Int×Int) (hl:y1.1.length<=1000000) (v2:Int) {a:Int} (hv2:Xb y1.1 v2=some a) (ha:I7 h a) (hy:(y6.1.length:Int)=(hdA h.Words a).Length) (hf:∀ (j:Nat) (hj:j<y6.1.length),y6.1[j]=wd h.Words (a+1+j)) :
 ∃ e,Qam N h y1 y6 v2 (hdA h.Words a,0) N 0=some e/\(Vv h y1.1 a->∃ f,e=.ret f/\f.Fault≠0)/\(¬ Vv h y1.1 a->e=.nxt ()):=by
 have hN':1000000<N:=by unfold NB at hN;omega
 have hv:=J9 h a
 have hb255:=XH hv
 have step:∀ n k (hk:k<y6.1.length),Qam N h y1 y6 v2 (hdA h.Words a,0) (n+1) (k:Int)=bif KD (hdA h.Words a) (k:Int) then (bif (wd h.Words (a+1+k) != 0) then (bif (!y1.1.contains (wd h.Words (a+1+k))) then (bnd (Qc9 N h.Conf (wU ((wU (a+1))+(wU (k:Int))))) λ y13=>some (.ret (Ul.mk 6 y13.1 (wU ((wU (a+1))+(wU (k:Int))))))) else Qam N h y1 y6 v2 (hdA h.Words a,0) n ((k+1:Nat):Int)) else Qam N h y1 y6 v2 (hdA h.Words a,0) n ((k+1:Nat):Int)) else Qam N h y1 y6 v2 (hdA h.Words a,0) n ((k+1:Nat):Int):=by
  intro n k hk
  rw[Qam,Wh (by omega),Wc,J0,Xa,Xd,Wd hk,hf k hk,Xh (by omega)]
  simp only[Xa,Zk (wd h.Words (a+1+(k:Int))) (show y1.1.length<=1000000000 by omega) (show y1.1.length<N by omega),hv2]
 have key:=KM (L:=y6.1.length) (F:=Qam N h y1 y6 v2 (hdA h.Words a,0)) (p:=λ k=>KD (hdA h.Words a) (k:Int)=true/\Xoh h y1.1 a (k:Int)) (Q:=λ f=>f.Fault≠0) (u:=())
  (λ n k hk hbad=>by
   obtain ⟨h0,h1,h2⟩:=hbad
   rw[step n k hk,h0,Wc,show (wd h.Words (a+1+(k:Int)) != 0)=true by simpa using h1,Wc,h2,WU,Wc,VO,Xa]
   exact ⟨_,rfl,by show (6:Int)≠0;omega⟩)
  (λ n k hk hnb=>by
   rw[step n k hk]
   cases h0:KD (hdA h.Words a) (k:Int) with
   | false=>rfl
   | true =>
   rw[Wc]
   by_cases h1:wd h.Words (a+1+(k:Int))=0
   ·rw[show (wd h.Words (a+1+(k:Int)) != 0)=false by simpa using h1,Wa]
   ·rw[show (wd h.Words (a+1+(k:Int)) != 0)=true by simpa using h1,Wc]
    cases h2:y1.1.contains (wd h.Words (a+1+(k:Int))) with
    | true=>rfl
    | false=>exact absurd ⟨h0,h1,h2⟩ hnb)
  (λ n=>by rw[Qam,Wj (by omega),Wa]) N 0 (by omega) (by omega)
 obtain ⟨e,e1,e2,e3⟩:=key
 refine ⟨e,e1,λ hbo=>?_,λ hbo=>?_⟩
 ·obtain ⟨i,hi,hbp⟩:=hbo
  have hm:=(Xay hv).1 hi
  obtain ⟨j,rfl⟩:∃ j:Nat,i=(j:Int):=⟨i.toNat,by omega⟩
  exact e2 ⟨j,US _,by omega,hm.2.2,hbp⟩
 ·exact e3 λ ⟨j,_,hj,hpj,hbp⟩=>hbo ⟨(j:Int),(Xay hv).2 ⟨by omega,by omega,hpj⟩,hbp⟩
theorem Xnv (hN:NB N) {h:Wn} (hb:HB h) (ep:Qab N h=some true) (y1:List Int×Int) (hl:y1.1.length<=1000000) (hat:∀ a∈y1.1,I7 h a) (hev:∀ a∈y1.1,Qat N h a=some (hdA h.Words a,0)) (hkd:∀ a∈y1.1,(hdA h.Words a).Kind≠0):∀ (n k:Nat),k<=y1.1.length->y1.1.length-k<n ->
 ∃ e,Qbb N h y1 n (k:Int)=some e/\((∃ a∈y1.1.drop k,Vv h y1.1 a)->∃ f,e=.ret f/\f.Fault≠0)/\((¬ ∃ a∈y1.1.drop k,Vv h y1.1 a)->e=.nxt ())
 | 0,k,_,hn=>by omega
 | n+1,k,hk,hn=>by
  have hN':1000000<N:=by unfold NB at hN;omega
  have hp:=Y3 hN hb ep
  rw[Qbb]
  by_cases hlt:k<y1.1.length
  case neg =>
   rw[Wj (by omega),Wa,WL (by omega)]
   exact ⟨_,rfl,λ ⟨a,ha,_⟩=>by simp at ha,λ _=>rfl⟩
  have hm:=WV hlt
  have hg:Xb y1.1 (k:Int)=some y1.1[k]:=by rw[Xd,Wd hlt]
  obtain ⟨l,f1,f2,f3⟩:=Xik hN hb ep (hat _ hm) (hev _ hm) (hkd _ hm)
  rw[Wh (by omega),Wc,hg,Xa,Xku hN hb ep (hat _ hm) (hev _ hm) (hkd _ hm),Xa,Xa,f1,Xa]
  obtain ⟨e,e1,e2,e3⟩:=Xpq hN hb hp y1 (l,0) hl (k:Int) hg (hat _ hm) f2 f3
  rw[e1,Xa,Wu hlt]
  by_cases hbo:Vv h y1.1 y1.1[k]
  ·obtain ⟨f,rfl,hb0⟩:=e2 hbo
   rw[XC]
   exact ⟨_,rfl,λ _=>⟨f,rfl,hb0⟩,λ hh=>absurd ⟨_,IM,hbo⟩ hh⟩
  ·have:=e3 hbo
   subst this
   rw[Xr,Xh (by omega)]
   obtain ⟨r,r1,r2,r3⟩:=Xnv hN hb ep y1 hl hat hev hkd n (k+1) (by omega) (by omega)
   refine ⟨r,r1,λ ⟨a,ha,hb⟩=>r2 ⟨a,?_,hb⟩,λ hh=>r3 λ ⟨a,ha,hb⟩=>hh ⟨a,Ug _ ha,hb⟩⟩
   rcases UB.1 ha with rfl | ha
   ·exact absurd hb hbo
   ·exact ha
theorem Jn (hN:NB N) {h:Wn} (hb:HB h):∃ y,Qav N h=some y/\y.1.length<=4096/\y.1.Pairwise (·<·)/\(∀ a∈y.1,I7 h a)/\(∀ a∈y.1,Qat N h a=some (hdA h.Words a,0))/\(∀ a∈y.1,(hdA h.Words a).Kind≠0):=by
 obtain ⟨y,e,hs,_,_⟩:=Zt hN hb
 refine ⟨y,e,hs.len,hs.obj.asc,hs.obj.at_,hs.obj.ev,?_⟩
 obtain ⟨r,er,hr,_,_⟩:=Xam hN hb
 have hlen:=hr.len
 rw[Qav,er,Xa,show (0:Int)=((0:Nat):Int) from rfl,Xbb r (by omega) hr.obj.ev N 0 [] (by omega) (by unfold NB at hN;omega) (by simp),Xa,WX,Uw] at e
 cases e
 intro a ha
 have:=(UV.1 ha).2
 simpa [KB,fnd] using this
def zF:Ul:=⟨0,0,0⟩
def XmF (P:Prop) (o:Option Ul):Prop:=∃ f,o=some f/\(P->f.Fault≠0)/\(¬ P->f=zF)
theorem Xfk (hN:NB N) {h:Wn} (ht:HT h) (ep:Qab N h=some true) {y:List Int×Int} (ey:Qav N h=some y):XmF (∃ a∈y.1,Vv h y.1 a) (QeG N h)/\XmF (∃ a∈y.1,Vv h y.1 a) (Qda N h):=by
 have hb:=ht.hb
 have hp:=Y3 hN hb ep
 obtain ⟨y',ey',hl,hs,hat,hev,hkd⟩:=Jn hN hb
 rw[ey] at ey';cases ey'
 have hbig:y.1.length<N:=by unfold NB at hN;omega
 constructor
 ·obtain ⟨r,e1,e2,e3⟩:=Xnu hN ht hp y (by omega) hs hat hev N 0 (by omega) (by omega)
  rw[QeG,JR hN ht,ey,Xa]
  have e1':Qcd N h y N 0=some r:=e1
  rw[e1',Xa]
  rw[WX] at e2 e3
  by_cases hbo:∃ a∈y.1,Vv h y.1 a
  ·rw[show (r==0)=false by simpa using e2 hbo,Wa]
   have:∃ q,QfD N h.Conf r=some q:=by
    rw[QfD,Zw,Xa]
    cases hc:XZ h.Conf with
    | false=>exact ⟨_,rfl⟩
    | true =>
     have:=Xi.1 hc
     rw[Ws,Wa]
     cases decide (r<4096)
     ·rw[Wa]
      cases decide (wU (r-4096)>=wU (wI (h.Conf.PageWords*h.Conf.Pages)))
      ·rw[Wa,Xe (by omega),Xe (by omega)];exact ⟨_,rfl⟩
      ·exact ⟨_,rfl⟩
     ·exact ⟨_,rfl⟩
   obtain ⟨q,eq⟩:=this
   rw[eq,Xa]
   exact ⟨_,rfl,λ _=>by show (6:Int)≠0;omega,λ hh=>absurd hbo hh⟩
  ·rw[e3 hbo]
   exact ⟨_,rfl,λ hh=>absurd hh hbo,λ _=>rfl⟩
 ·obtain ⟨e,e1,e2,e3⟩:=Xnv hN hb ep y (by omega) hat hev hkd N 0 (by omega) (by omega)
  rw[Qda,ey,Xa]
  have e1':Qbb N h y N 0=some e:=e1
  rw[e1',Xa]
  rw[WX] at e2 e3
  by_cases hbo:∃ a∈y.1,Vv h y.1 a
  ·obtain ⟨f,rfl,hf⟩:=e2 hbo
   rw[XC]
   exact ⟨_,rfl,λ _=>hf,λ hh=>absurd hbo hh⟩
  ·rw[e3 hbo,Xr]
   exact ⟨_,rfl,λ hh=>absurd hh hbo,λ _=>rfl⟩
end
end Go.Sx
namespace Go.Sx
section
variable {N:Nat}
theorem XdU (hN:NB N) {h:Wn} (ht:HT h) (ep:Qab N h=some true) {i:Nat} (h1:i<h.Pages.length) :
 ∃ f,Qek N h (i:Int)=some f/\((f.Fault≠0/\∀ n,∃ f',QaQ N h (n+1) (i:Int)=some (.ret f')/\f'.Fault≠0)\/(f.Fault=0/\∀ n,QaQ N h (n+1) (i:Int)=QaQ N h n ((i+1:Nat):Int))):=by
 have hb:=ht.hb
 have hp:=Y3 hN hb ep
 have hpl:h.Pages.length<=100000:=hb.2
 have hg:Xb h.Pages (i:Int)=some (pg h.Pages (i:Int)):=YR (by omega) (by omega)
 have hst:∀ n,QaQ N h (n+1) (i:Int)=jn (λ (_:Unit) =>
  bnd (Qfs N h (i:Int)) λ y3 =>
  bif (y3.2 != 0) then some (.ret (Ul.mk 3 (i:Int) 0))
  else bnd (Qfc N h (i:Int) y3.1) λ y4 =>
  bif y4.2 then some (.ret (Ul.mk 5 (i:Int) y4.1))
  else bnd (QfF N h (i:Int)) λ y5 =>
  bif y5.2 then some (.ret (Ul.mk 4 (i:Int) y5.1))
  else QaQ N h n ((i+1:Nat):Int)) λ j1 =>
  bif ((pg h.Pages (i:Int)).Kind != 0) then (bif ((pg h.Pages (i:Int)).Space != h.Space) then some (.ret (Ul.mk 2 (i:Int) 0))
   else j1 ())
  else j1 ():=by
  intro n
  rw[QaQ,Wh (by omega),Wc,hg,Xa,Xh (by omega)]
 simp only[hst,XV]
 rw[Qek,XV,hg]
 simp only[Xa]
 by_cases hsp:(pg h.Pages (i:Int)).Kind≠0/\(pg h.Pages (i:Int)).Space≠h.Space
 ·rw[show ((pg h.Pages (i:Int)).Kind != 0)=true by simpa using hsp.1,show ((pg h.Pages (i:Int)).Space != h.Space)=true by simpa using hsp.2]
  exact ⟨_,rfl,.inl ⟨by show (2:Int)≠0;omega,λ n=>⟨_,rfl,by show (2:Int)≠0;omega⟩⟩⟩
 have e1:∀ {α:Type} (x y:α),(bif ((pg h.Pages (i:Int)).Kind != 0) then (bif ((pg h.Pages (i:Int)).Space != h.Space) then x else y) else y)=y:=by
  intro α x y
  by_cases k0:(pg h.Pages (i:Int)).Kind=0
  ·rw[show ((pg h.Pages (i:Int)).Kind != 0)=false by simpa using k0,Wa]
  ·have:(pg h.Pages (i:Int)).Space=h.Space:=Classical.byContradiction λ hh=>hsp ⟨k0,hh⟩
   rw[show ((pg h.Pages (i:Int)).Space != h.Space)=false by simpa using this,Wa,Bool.cond_self]
 simp only[e1]
 obtain ⟨r,er,hr,hlen⟩:=Qg7 hN hb hp (i:Int) (by omega) (by omega)
 simp only[Xfg hN ht,er,Xa]
 by_cases hz:r.2=0
 case neg =>
  rw[show (r.2 != 0)=true by simpa using hz]
  exact ⟨_,rfl,.inl ⟨by show (3:Int)≠0;omega,λ n=>⟨_,rfl,by show (3:Int)≠0;omega⟩⟩⟩
 rw[show (r.2 != 0)=false by simpa using hz]
 simp only[Wa]
 obtain ⟨⟨hat,hev,_⟩,_,_⟩:=hr
 obtain ⟨a,ea,b,eb⟩:=Xii hN ht hp (i:=(i:Int)) (by omega) (by omega) r.1 (by omega) hat hev
 simp only[ea,eb,Xa]
 by_cases ha:a=0
 case neg =>
  rw[show (a != 0)=true by simpa using ha]
  exact ⟨_,rfl,.inl ⟨by show (5:Int)≠0;omega,λ n=>⟨_,rfl,by show (5:Int)≠0;omega⟩⟩⟩
 rw[show (a != 0)=false by simpa using ha]
 simp only[Wa]
 obtain ⟨d,ed,d',ed'⟩:=Xkr hN ht ep (i:=(i:Int)) (by omega) (by omega)
 simp only[ed,ed',Xa]
 by_cases hd:d=0
 case neg =>
  rw[show (d != 0)=true by simpa using hd]
  exact ⟨_,rfl,.inl ⟨by show (4:Int)≠0;omega,λ n=>⟨_,rfl,by show (4:Int)≠0;omega⟩⟩⟩
 rw[show (d != 0)=false by simpa using hd]
 simp only[Wa]
 first
  | exact ⟨_,rfl,.inr ⟨rfl,λ n=>rfl⟩⟩
  | exact ⟨_,rfl,.inr ⟨rfl,trivial⟩⟩
  | exact ⟨_,rfl,.inr rfl⟩
  | simp
theorem Xkv (hN:NB N) {h:Wn} (ht:HT h) (ep:Qab N h=some true):∃ P:Prop,XmF P (QfW N h)/\∃ e,Qbj N h N 0=some e/\(P->∃ f,e=.ret f/\f.Fault≠0)/\(¬ P->e=.nxt ()):=by
 have hb:=ht.hb
 have hpl:h.Pages.length<=100000:=hb.2
 have hbig:h.Pages.length<N:=by unfold NB at hN;omega
 let p:Nat->Prop:=λ k=>∃ f,Qek N h (k:Int)=some f/\f.Fault≠0
 refine ⟨∃ j,0<=j/\j<h.Pages.length/\p j,?_,?_⟩
 ·have key:=KM (L:=h.Pages.length) (F:=QaQ N h) (p:=p) (Q:=λ f=>f.Fault≠0) (u:=())
   (λ n k hk hbad=>by
    obtain ⟨f,ef,hf⟩:=hbad
    obtain ⟨f2,ef2,hor⟩:=XdU hN ht ep hk
    rw[ef] at ef2;cases ef2
    rcases hor with hor | hor
    ·obtain ⟨f',e',hf'⟩:=hor.2 n;exact ⟨f',e',hf'⟩
    ·exact absurd hor.1 hf)
   (λ n k hk hnb=>by
    obtain ⟨f2,ef2,hor⟩:=XdU hN ht ep hk
    rcases hor with hor | hor
    ·exact absurd ⟨f2,ef2,hor.1⟩ hnb
    ·exact hor.2 n)
   (λ n=>by rw[QaQ,Wj (by omega),Wa]) N 0 (by omega) (by omega)
  obtain ⟨e,e1,e2,e3⟩:=key
  have e1':QaQ N h N 0=some e:=e1
  unfold XmF
  rw[QfW,e1',Xa]
  by_cases hP:∃ j,0<=j/\j<h.Pages.length/\p j
  ·obtain ⟨f,rfl,hf⟩:=e2 hP
   rw[XC]
   exact ⟨_,rfl,λ _=>hf,λ hh=>absurd hP hh⟩
  ·rw[e3 hP,Xr];exact ⟨_,rfl,λ hh=>absurd hh hP,λ _=>rfl⟩
 ·have key:=KM (L:=h.Pages.length) (F:=Qbj N h) (p:=p) (Q:=λ f=>f.Fault≠0) (u:=())
   (λ n k hk hbad=>by
    obtain ⟨f,ef,hf⟩:=hbad
    rw[Qbj,Wh (by omega),Wc,ef,Xa,show (f.Fault != 0)=true by simpa using hf]
    exact ⟨f,rfl,hf⟩)
   (λ n k hk hnb=>by
    obtain ⟨f2,ef2,hor⟩:=XdU hN ht ep hk
    have hz:f2.Fault=0:=Classical.byContradiction λ hh=>hnb ⟨f2,ef2,hh⟩
    rw[Qbj,Wh (by omega),Wc,ef2,Xa,show (f2.Fault != 0)=false by simpa using hz,Wa,Xh (by omega)])
   (λ n=>by rw[Qbj,Wj (by omega),Wa]) N 0 (by omega) (by omega)
  exact key
theorem XdV {f:Ul} (hf:f.Fault≠0):((f.Fault==0)&&((f.Page==0)&&(f.Addr==0)))=false:=by
 rw[show (f.Fault==0)=false by simpa using hf,Um]
theorem Xfl (hN:NB N) {h:Wn} (ht:HT h):QfG N h=QbH N h:=by
 have hb:=ht.hb
 have hpl:h.Pages.length<=100000:=hb.2
 rw[QfG,QbH,Qgw,QfS,X8 hpl (by unfold NB at hN;omega)]
 obtain ⟨b,eb⟩:=Zj (N:=N) hN hb
 simp only[eb,Xa]
 cases b with
 | false=>rfl
 | true =>
 rw[Ws,Wa,Wa]
 obtain ⟨P,⟨f,ef,hf1,hf2⟩,e,e1,e2,e3⟩:=Xkv hN ht eb
 obtain ⟨y,ey,_⟩:=Jn hN hb
 obtain ⟨⟨g,eg,hg1,hg2⟩,⟨g',eg',hg1',hg2'⟩⟩:=Xfk hN ht eb ey
 simp only[ef,e1,Xa]
 by_cases hP:P
 ·obtain ⟨f',rfl,hf'⟩:=e2 hP
  simp only[XC,XdV (hf1 hP),WU,Wc,Xa,XdV hf']
 rw[e3 hP,hf2 hP]
 simp only[Xr,eg,eg',Xa,zF,show ((0:Int)==0)=true from rfl,Oa,Ws,Wa]
 by_cases hQ:∃ a∈y.1,Vv h y.1 a
 ·simp only[XdV (hg1 hQ),WU,Wc,Xa,show (g'.Fault != 0)=true by simpa using hg1' hQ,XdV (hg1' hQ)]
 rw[hg2 hQ,hg2' hQ]
 simp only[zF,show ((0:Int)==0)=true from rfl,show ((0:Int) != 0)=false from rfl,Oa,Ws,Wa]
 have hl2:∀ (n:Nat) (c i:Int),Qcb N h n c i=Qbk N h n c i:=by
  intro n
  induction n with
  | zero=>intro c i;rw[Qcb,Qbk]
  | succ n ih =>
   intro c i
   rw[Qcb,Qbk]
   simp only[ih]
   cases hg:Xb h.Pages i with
   | none=>simp only[Xal]
   | some p=>simp only[Xa]
 rw[hl2]
theorem Xil (hN:NB N) {h:Wn} (ht:HT h) {l:List Int} (hl:l.length<=1000000):Qft N h l=Qbl N h l:=by
 have hN':1000000<N:=by unfold NB at hN;omega
 have hb:=ht.hb
 rw[Qft,Qbl,Xfl hN ht]
 obtain ⟨b,eb,_⟩:=Kf hN hb
 rw[eb,Xa,Xa]
 cases b with
 | false=>rfl
 | true =>
 obtain ⟨y,ey,hy,hs,_⟩:=Jn hN hb
 rw[Ws,Wa,Wa,JR hN ht,ey,Xa,Xa]
 have hr1:∀ x:Int,Qd9 N x y.1=some (x != 0&&!y.1.contains x):=by
  intro x
  obtain ⟨k,ek⟩:=Xkt (N:=N) y.1 x (by omega) hN' hs
  rw[Qd9,ek,Xa]
  cases (x != 0)<;>rfl
 rw[QaO,QaV]
 rw[JO (p:=λ x:Int=>x != 0&&!y.1.contains x) hl hN' (λ n k x e=>by
  have hk:=Xy e
  rw[Qao,XE hk,Wc,Xd,e,Xa,hr1,Xa,Xh (by omega)]) (λ n=>by rw[Qao,Xs,Wa])]
 rw[Xa,Xa,K5]
 have key:=KM (L:=l.length) (F:=Qar N l y) (p:=λ k=>∃ hk:k<l.length,(l[k] != 0&&!y.1.contains l[k])=true) (Q:=λ b=>b=false) (u:=())
  (λ n k hk hbad=>by
   obtain ⟨hk',hq⟩:=hbad
   simp only[WE] at hq
   refine ⟨false,?_,rfl⟩
   rw[Qar,Wh (by omega),Wc,Xd,Wd hk,Xa,hq.1,Wc,Xa,Zk _ (by omega) (by omega),Xa,hq.2,Wc])
  (λ n k hk hnb=>by
   rw[Qar,Wh (by omega),Wc,Xd,Wd hk,Xa,Xa,Zk _ (by omega) (by omega),Xa,Xh (by omega)]
   have:(l[k] != 0&&!y.1.contains l[k])=false:=by rw[← IX];exact λ hh=>hnb ⟨hk,hh⟩
   cases h1:(l[k] != 0) with
   | false=>rfl
   | true=>rw[h1,WR] at this;rw[this];rfl)
  (λ n=>by rw[Qar,Wj (by omega),Wa]) N 0 (by omega) (by omega)
 obtain ⟨e,e1,e2,e3⟩:=key
 have e1':Qar N l y N 0=some e:=e1
 rw[e1',Xa]
 cases hA:l.any (λ x=>x != 0&&!y.1.contains x) with
 | true =>
  obtain ⟨x,hx,hq⟩:=II.1 hA
  obtain ⟨j,hj,rfl⟩:=W3 hx
  obtain ⟨b,rfl,hbf⟩:=e2 ⟨j,US _,hj,hj,hq⟩
  rw[XC,hbf];rfl
 | false =>
  have:=e3 λ ⟨j,_,hj,hj',hq⟩=>by
   rw[List.any_eq_false] at hA
   exact hA _ (WV hj) hq
  subst this
  rw[Xr];rfl
theorem XaQ (hN:NB N) {h:Wn} (ht:HT h) {l:List Int} (hl:l.length<=10000000 / 4) (eg:QbH N h=some true) {y:List Int×Int} (ey:Qav N h=some y):Qbl N h l=some (l.all λ x=>x==0||y.1.contains x):=by
 have hb:=ht.hb
 obtain ⟨y',ey',hy,hs,_⟩:=Jn hN hb
 rw[ey] at ey';cases ey'
 have hbig:l.length<N:=by unfold NB at hN;omega
 have hN':1000000<N:=by unfold NB at hN;omega
 rw[Qbl,eg,Xa,Ws,Wa,ey,Xa]
 have key:=KM (L:=l.length) (F:=Qar N l y) (p:=λ k=>∃ hk:k<l.length,(l[k]==0||y.1.contains l[k])=false) (Q:=λ b=>b=false) (u:=())
  (λ n k hk hbad=>by
   obtain ⟨hk',hq⟩:=hbad
   simp only[Bool.or_eq_false_iff] at hq
   refine ⟨false,?_,rfl⟩
   rw[Qar,Wh (by omega),Wc,Xd,Wd hk,Xa,show (l[k] != 0)=true by simpa using hq.1,Wc,Xa,Zk _ (by omega) (by omega),Xa,hq.2];rfl)
  (λ n k hk hnb=>by
   rw[Qar,Wh (by omega),Wc,Xd,Wd hk,Xa,Xa,Zk _ (by omega) (by omega),Xa,Xh (by omega)]
   have:(l[k]==0||y.1.contains l[k])=true:=by rw[← Bool.not_eq_false];exact λ hh=>hnb ⟨hk,hh⟩
   by_cases h1:l[k]=0
   ·rw[show (l[k] != 0)=false by simpa using h1,Wa]
   ·rw[show (l[k]==0)=false by simpa using h1,Ih] at this
    rw[show (l[k] != 0)=true by simpa using h1,this];rfl)
  (λ n=>by rw[Qar,Wj (by omega),Wa]) N 0 (by omega) (by omega)
 obtain ⟨e,e1,e2,e3⟩:=key
 have e1':Qar N l y N 0=some e:=e1
 rw[e1',Xa]
 cases hA:l.all (λ x=>x==0||y.1.contains x) with
 | false =>
  obtain ⟨x,hx,hq⟩:=List.all_eq_false.1 hA
  obtain ⟨j,hj,rfl⟩:=W3 hx
  obtain ⟨b,rfl,hbf⟩:=e2 ⟨j,US _,hj,hj,by simpa using hq⟩
  rw[XC,hbf]
 | true =>
  have:=e3 λ ⟨j,_,hj,hj',hq⟩=>by
   rw[Uc] at hA
   rw[hA _ (WV hj)] at hq;cases hq
  subst this
  rw[Xr]
end
end Go.Sx
namespace Go.Sx
section
variable {N:Nat}
theorem Xoi (l:List UN) (r:Int) (hl:l.length<=1000000) (hN:1000000<N):QeM N l r=some (JN (λ p=>p.Ref==r) l):=by
 rw[QeM]
 exact JO (p:=λ p:UN=>p.Ref==r) hl hN (λ n k x e=>by
  have hk:=Xy e
  rw[QdN,XE hk,Wc,Xd,e,Xa,Xh (by omega)]) (λ n=>by rw[QdN,Xs,Wa])
theorem Xkw (l:List UN) (r:Int) (hl:l.length<=1000000) (hN:1000000<N):Qe4 N l r=some (JN (λ p=>p.Ref==r) l):=by
 rw[Qe4,QaU]
 rw[JO (p:=λ p:UN=>p.Ref==r) hl hN (λ n k x e=>by
  have hk:=Xy e
  rw[Qal,XE hk,Wc,Xd,e,Xa,Qey,Xa,Xh (by omega)]) (λ n=>by rw[Qal,Xs,Wa]),Xa]
theorem Vw (hN:NB N) {h:Wn} (ht:HT h) (hp:UH h) (pins:List UN) (hpn:pins.length<=1000000) (y:List Int×Int) (hy:y.1.length<=4096) (hs:y.1.Pairwise (·<·)) (hat:∀ a∈y.1,I7 h a):∀ (n k:Nat) (v:List Int),k<=pins.length->pins.length-k<n->v.length=h.Pages.length ->
 ∃ e,Qby N h pins y n (k:Int) v=some e/\QbR N pins h y n (k:Int) v=some (match e with | .ret _=>.ret ([],false) | .nxt v=>.nxt v)/\(∀ b,e=.ret b->b=false)/\(∀ v',e=.nxt v'->v'.length=h.Pages.length/\∀ p∈pins.drop k,y.1.contains p.Ref=true)
 | 0,k,v,_,hn,_=>by omega
 | n+1,k,v,hk,hn,hv=>by
  have hN':1000000<N:=by unfold NB at hN;omega
  rw[Qby,QbR]
  by_cases hlt:k<pins.length
  case neg =>
   rw[Wj (by omega),Wa,Wa]
   refine ⟨_,rfl,rfl,?_,?_⟩<;>intro v' e<;>cases e
   exact ⟨hv,λ p hp=>by rw[WL (by omega)] at hp;cases hp⟩
  obtain ⟨q,eq⟩:=Xkt (N:=N) y.1 pins[k].Ref (by omega) hN' hs
  have fin:∀ (o:Option (Ex (List Int×Bool) (List Int))),o=some (.ret ([],false))->∃ e:Ex Bool (List Int),some (.ret false)=some e/\o=some (match e with | .ret _=>.ret ([],false) | .nxt v=>.nxt v)/\(∀ b,e=.ret b->b=false)/\(∀ v',e=.nxt v'->v'.length=h.Pages.length/\∀ p∈pins.drop k,y.1.contains p.Ref=true):=by
   intro o ho
   refine ⟨_,rfl,ho,?_,?_⟩<;>intro b e<;>cases e
   rfl
  have hg:Xb pins (k:Int)=some pins[k]:=by rw[Xd,Wd hlt]
  simp only[Wh (show (k:Int)<((pins.length:Nat):Int) by omega),Wc,hg,Xa,Zk pins[k].Ref (show y.1.length<=1000000000 by omega) (show y.1.length<N by omega),eq,Xoi pins pins[k].Ref hpn hN',Xkw pins pins[k].Ref hpn hN']
  cases hc:y.1.contains pins[k].Ref with
  | false=>exact fin _ rfl
  | true =>
  have ha:=hat _ (by rw[U7] at hc;exact hc)
  have hta:=ha.tu hp
  obtain ⟨eh,eh1,eh2⟩:=Xa8 (N:=N) hp ha
  have eo:Qc9 N h.Conf pins[k].Ref=some (pgi h.Conf pins[k].Ref,pgo h.Conf pins[k].Ref,0):=by
   rw[VO,Wk (by rw[hp.conf];simp),Wm ha.rng];rfl
  obtain ⟨c,hvc⟩:∃ c,Xb v (pgi h.Conf pins[k].Ref)=some c:=⟨_,Yc eh1 (by omega)⟩
  simp only[Ws,Wa,eh,Xkj N h.Conf pins[k].Ref hta.2,eo,Xa,hvc,Xh (show k<=140737488355328 by omega)]
  obtain ⟨e,n1,n2,n3,n4⟩:=Vw hN ht hp pins hpn y hy hs hat n (k+1) (v.set (pgi h.Conf pins[k].Ref).toNat (wI (c+pins[k].Count))) (by omega) (by omega) (by rw[Wx];exact hv)
  have n5:∀ v',e=.nxt v'->v'.length=h.Pages.length/\∀ p∈pins.drop k,y.1.contains p.Ref=true:=λ v' hv'=>⟨(n4 v' hv').1,λ p hp=>by
   rw[Wu hlt] at hp
   rcases UB.1 hp with rfl | hp
   ·exact hc
   ·exact (n4 v' hv').2 p hp⟩
  cases (JN (λ p:UN=>p.Ref==pins[k].Ref) pins != (k:Int))<;>cases (decide (pins[k].Count<1))<;>cases (decide (pins[k].Count>1000))
  all_goals simp only[Wc,Wa]
  all_goals first
   | exact ⟨e,n1,n2,n3,n5⟩
   | exact fin _ rfl
theorem Xim (hN:NB N) {h:Wn} (ht:HT h) {pins:List UN} (hpn:pins.length<=1000000):QgA N h pins=QbV N h pins:=by
 have hN':1000000<N:=by unfold NB at hN;omega
 have hb:=ht.hb
 have hpl:h.Pages.length<=100000:=hb.2
 rw[QgA,QbV,Xfl hN ht]
 obtain ⟨b,eb,hgd⟩:=Kf hN hb
 rw[eb,Xa,Xa]
 cases b with
 | false=>rfl
 | true =>
 rw[Ws,Wa,Wa]
 cases decide (((pins.length:Nat):Int)>64) with
 | true=>rfl
 | false =>
 have hp:UH h:=(hgd rfl).prop
 obtain ⟨y,ey,hy,hs,hat,_⟩:=Jn hN hb
 rw[Wa,Wa,Qfi,JR hN ht,ey,Xa,Xa]
 rw[Xe (by omega)]
 obtain ⟨e,e1,e2,e3,e4⟩:=Vw hN ht hp pins hpn y hy hs hat N 0 (List.replicate ((h.Pages.length:Nat):Int).toNat 0) (by omega) (by omega) (by rw[WC];rfl)
 have e1':Qby N h pins y N 0 (List.replicate ((h.Pages.length:Nat):Int).toNat 0)=some e:=e1
 have e2':QbR N pins h y N 0 (List.replicate ((h.Pages.length:Nat):Int).toNat 0)=_:=e2
 rw[Xe (by omega),e1',e2',Xa,Xa]
 cases e with
 | ret b =>
  dsimp only
  rw[e3 b rfl,XC,XC,Xa];rfl
 | nxt v =>
  dsimp only
  rw[Xr,Xr,Xa]
  have hl:∀ (n:Nat) (i:Int),Qd8 N h (v,true) n i=Qb7 N h v n i:=by
   intro n
   induction n with
   | zero=>intro i;rw[Qd8,Qb7]
   | succ n ih=>intro i;rw[Qd8,Qb7];simp only[ih]
  simp only[hl,Ws,Wa]
theorem Xgi (hN:NB N) {h:Wn} (ht:HT h) {pins:List UN} (hpn:pins.length<=1000000) (em:QbV N h pins=some true):QbH N h=some true/\pins.length<=64/\∀ y,Qav N h=some y->∀ p∈pins,y.1.contains p.Ref=true:=by
 have hb:=ht.hb
 have hpl:h.Pages.length<=100000:=hb.2
 rw[QbV] at em
 obtain ⟨b,eb,hgd⟩:=Kf hN hb
 rw[eb,Xa] at em
 cases b with
 | false=>cases em
 | true =>
 rw[Ws,Wa] at em
 refine ⟨eb,?_,λ y ey p hpm=>?_⟩
 ·cases hd:decide (((pins.length:Nat):Int)>64) with
  | true=>rw[hd] at em;cases em
  | false=>have:=WH hd;omega
 have hp:UH h:=(hgd rfl).prop
 obtain ⟨y',ey',hy,hs,hat,_⟩:=Jn hN hb
 rw[ey] at ey';cases ey'
 cases hd:decide (((pins.length:Nat):Int)>64) with
 | true=>rw[hd] at em;cases em
 | false =>
 rw[hd,Wa,ey,Xa,Xe (by omega)] at em
 obtain ⟨e,e1,e2,e3,e4⟩:=Vw hN ht hp pins hpn y hy hs hat N 0 (List.replicate ((h.Pages.length:Nat):Int).toNat 0) (by omega) (by unfold NB at hN;omega) (by rw[WC];rfl)
 have e1':Qby N h pins y N 0 (List.replicate ((h.Pages.length:Nat):Int).toNat 0)=some e:=e1
 rw[e1',Xa] at em
 cases e with
 | ret b=>rw[e3 b rfl,XC] at em;cases em
 | nxt v=>exact (e4 v rfl).2 p (by rw[WX];exact hpm)
theorem Xca {x:W6} (hp:x.Pins.length<=1000000):∀ (n k:Nat) (v:List Int),k<=x.Pins.length->x.Pins.length-k<n->v.length<=10000000+k ->
 Qed N x n (k:Int) v=some (v++(x.Pins.drop k).map (·.Ref))/\QaT N x n (k:Int) v=some (v++(x.Pins.drop k).map (·.Ref))
 | 0,k,v,_,hn,_=>by omega
 | n+1,k,v,hk,hn,hv=>by
  rw[Qed,QaT]
  by_cases hlt:k<x.Pins.length
  ·rw[Wh (by omega),Wc,Wc,Xd,Wd hlt,Xa,Xa,Xe (by omega),Xe (by omega),Xh (by omega)]
   obtain ⟨a,b⟩:=Xca hp n (k+1) (v++[x.Pins[k].Ref]) (by omega) (by omega) (by rw[Wq];simp;omega)
   rw[a,b,Wu hlt,Ut,W9]
   exact ⟨rfl,rfl⟩
  ·rw[Wj (by omega),Wa,Wa,WL (by omega)];simp
def Xfm (x:W6):List Int:=((x.Roots++(bif Y4 x.Locals then Yq x.Locals.Slots else []))++(bif YS x.Globals.Entries then X0 x.Globals.Entries else []))++x.Pins.map (·.Ref)
theorem Xkx {x:W6} (hx:EB x):(Xfm x).length<=104160+x.Pins.length:=by
 have h1:=ZV hx.loc
 have h2:=YI x.Globals.Entries
 have h3:=hx.pins
 have h4:=hx.roots
 unfold Xfm
 simp only[Wq,WZ]
 omega
theorem Xgj (hN:NB N) {x:W6} (hx:EB x):Qgh N x=some (Xfm x):=by
 have h1:=ZV hx.loc
 have h2:=YI x.Globals.Entries
 have h3:=hx.pins
 have h4:=hx.roots
 have hN':1000000<N:=by unfold NB at hN;omega
 rw[Qgh,Xid hx.loc hN',Xa,Xau hx.glo hN',Xa,QgM]
 have:=(Xca (N:=N) h3 N 0 [] (by omega) (by omega) (by simp)).1
 rw[show (0:Int)=((0:Nat):Int) from rfl,this,Xa,Xa,WX,Uw,QfH,Xc5 _ (by simp) (by simp only[Xaw,WZ];omega) hN',Xa,Xa]
 unfold Xfm
 simp[Ut]
structure ET (x:W6):Prop where
 eb:EB x
 tw:XL x.Heap
theorem ET.ht {x:W6} (t:ET x):HT x.Heap:=⟨t.eb.heap,t.tw⟩
end
end Go.Sx
namespace Go.Sx
section
variable {N:Nat}
theorem Xky (l:List Int):(!l.all λ p=>!(p==0))=l.contains 0:=by
 cases h:l.contains 0 with
 | true =>
  rw[U7] at h
  rw[show (l.all λ p=>!(p==0))=false from List.all_eq_false.2 ⟨0,h,by simp⟩];rfl
 | false =>
  have h':¬ (0:Int)∈l:=by rw[← U7,h];simp
  rw[show (l.all λ p=>!(p==0))=true from Uc.2 λ x hx=>by
   by_cases hz:x=0
   ·subst hz;exact absurd hx h'
   ·simpa using hz];rfl
theorem XmG (hN:NB N) {x:W6} (ht:ET x):Qfu N x=QcH N x:=by
 have hN':1000000<N:=by unfold NB at hN;omega
 have hx:=ht.eb
 have h1:=ZV hx.loc
 have h2:=YI x.Globals.Entries
 have h5:=YI x.Weaks.Entries
 have h3:=hx.pins
 have h4:=hx.roots
 rw[Qfu,QcH,Xim hN ht.ht h3]
 obtain ⟨b,eb,_⟩:=JL hN hx.heap h3
 rw[eb,Xa,Xa]
 cases b with
 | false=>rfl
 | true =>
 obtain ⟨eg,hp64,hpn⟩:=Xgi hN ht.ht h3 eb
 simp only[Ws,Wa,Xb5 hx.loc hN',ZF hx.loc hN',V2 hx.glo hN',ZE hx.glo hN',V2 hx.wea hN',ZE hx.wea hN',Xau hx.glo hN',YH hx.glo hN',Xau hx.wea hN',YH hx.wea hN',Kx hx.loc hN',Xa,Xgj hN hx]
 cases el:Y4 x.Locals with
 | false=>rfl
 | true =>
 cases et:YS x.Globals.Entries with
 | false=>rfl
 | true =>
 cases ew:YS x.Weaks.Entries with
 | false=>rfl
 | true =>
 have hl:Xfm x=((x.Roots++Yq x.Locals.Slots)++X0 x.Globals.Entries)++x.Pins.map (·.Ref):=by unfold Xfm;rw[el,et];rfl
 have hlen:=Xkx hx
 rw[el,Wc] at h1
 rw[et,Wc] at h2
 rw[ew,Wc] at h5
 simp only[Ws,Wa,Wc]
 rw[XdP (by omega) hN',Xa,Xky,Zk 0 (by omega) (by omega),Xa]
 cases (X0 x.Globals.Entries).contains 0 with
 | true=>rfl
 | false =>
 rw[Wa,Wa,Xe (by omega),Xe (by omega),Xe (by omega),Xe (by omega)]
 rw[QfH,Xc5 _ (by simp) (by simp only[Xaw];omega) hN',Xa,Xa]
 obtain ⟨y,ey,hy,_⟩:=Jn hN hx.heap
 have e1:[Xfm x,X0 x.Weaks.Entries].flatten=Xfm x++X0 x.Weaks.Entries:=by simp
 rw[e1,Xil hN ht.ht (by rw[Wq];omega),XaQ hN ht.ht (by rw[Wq];omega) eg ey,XaQ hN ht.ht (by simp only[Wq];omega) eg ey,Xa,Xa,hl]
 simp only[List.all_append]
 have hp:(x.Pins.map (·.Ref)).all (λ x=>x==0||y.1.contains x)=true:=by
  rw[Uc]
  intro r hr
  obtain ⟨p,hp,rfl⟩:=UY.1 hr
  rw[hpn y ey p hp,Bool.or_true]
 rw[hp,Bool.and_true]
end
end Go.Sx
namespace Go.Sx
section
variable {N:Nat}
theorem Xkz (v:Int):v≠0->(ZH v).2=0\/(ZH v).2=6:=by
 intro hv
 unfold ZH
 rw[Wk hv]
 split
 ·exact .inl rfl
 ·exact .inr rfl
theorem XkA (hN:NB N) {x:W6} (ht:ET x) {v:Int} (tv:tU v):QfX N x v=QaD N x v:=by
 have hN':1000000<N:=by unfold NB at hN;omega
 have hx:=ht.eb
 rw[QfX,QaD,XmG hN ht]
 obtain ⟨b,eb,_⟩:=Kq hN hx
 rw[eb,Xa,Xa]
 cases b with
 | false=>rfl
 | true =>
 rw[Ws,Wa,Wa,Xmw hN' tv,Xa]
 by_cases hz:v=0
 ·subst hz
  rw[show ((0:Int)==0)=true from rfl,Wc]
  unfold ZH
  rw[Wm rfl];rfl
 rw[show (v==0)=false by simpa using hz,Wa,Xf7 tv,Xa]
 have he:=Xkz v hz
 rw[show ((ZH v).2==5)=false by simp;omega,Wa]
 simp only[Xkh hx.loc hN',VW hx.loc hN',Xfc hx.glo hN',Jj hx.glo hN',Xfc hx.wea hN',Jj hx.wea hN']
end
end Go.Sx
namespace Go.Sx
section
variable {N:Nat}
theorem XkB {α β:Type} {L:Nat} {F:Nat->Int->Option (Ex α β)} {u:β} (hok:∀ n k,k<L->F (n+1) (k:Int)=F n ((k+1:Nat):Int)) (hstop:∀ n,F (n+1) (L:Int)=some (.nxt u)) {n:Nat} (hn:L<n):F n 0=some (.nxt u):=by
 obtain ⟨e,e1,_,e3⟩:=KM (p:=λ _=>False) (Q:=λ _=>True) (u:=u) (λ n k _ h=>h.elim) (λ n k hk _=>hok n k hk) hstop n 0 (by omega) (by omega)
 rw[e3 (λ ⟨_,_,_,h⟩=>h)] at e1
 exact e1
theorem Xin (x:W6):Ok (Qe2 N x) λ b=>b=true->EB x:=by
 rw[Qe2,QgL]
 refine WG (Q:=λ b=>b=true->HB x.Heap) ?_ λ y _ hy=>?_
 ·refine Wo (λ h=>Wg λ h2=>?_) λ _=>Wg λ h=>by cases h
  have a:=Wr h
  have b:=Wr h2
  exact ⟨by omega,by omega⟩
 ·refine Wo (λ h0=>Wo (λ h1=>Wo (λ h2=>Wo (λ h3=>Wo (λ h4=>Wo (λ h5=>Wo (λ h6=>Wg λ h7=>?_) λ _=>Wg λ h=>by cases h) λ _=>Wg λ h=>by cases h) λ _=>Wg λ h=>by cases h) λ _=>Wg λ h=>by cases h) λ _=>Wg λ h=>by cases h) λ _=>Wg λ h=>by cases h) λ _=>Wg λ h=>by cases h
  have a1:=Wr h1
  have a2:=Wr h2
  have a3:=Wr h3
  have a4:=Wr h4
  have a5:=Wr h5
  have a6:=Wr h6
  have a7:=Wr h7
  exact ⟨hy h0,⟨by omega,by omega,by omega⟩,by unfold TB;omega,by unfold TB;omega,by omega,by omega⟩
end
end Go.Sx
namespace Go.Sx
theorem XdW (m:Nat):Qgy (m+400)=some true:=by kernel_rfl
end Go.Sx
namespace Go.Sx
section
variable {N:Nat}
theorem XdX (N:Nat) (c:WT):QfL N c=some (Y8 c):=by
 rw[show QfL N c=QdR N c by rw[QfL,QdR,Zw,Yy]]
 exact XbF N c
theorem Va (N:Nat) (ps:List Wv):QfJ N ps=Qci N ps:=by
 have h:∀ (n:Nat) (c i:Int),Qc5 N ps n c i=Qa3 N ps n c i:=by
  intro n
  induction n with
  | zero=>intro c i;rw[Qc5,Qa3]
  | succ n ih=>intro c i;rw[Qc5,Qa3];simp only[ih]
 rw[QfJ,Qci,h]
theorem Xfn (N:Nat) (ps:List Wv) (hl:ps.length<=100000):∀ (n k:Nat) (v:List Oh),k<=ps.length->v.length<=k->QbS N ps n (k:Int) v=QaS N ps n (k:Int) v
 | 0,k,v,_,_=>by rw[QbS,QaS]
 | n+1,k,v,hk,hv=>by
  rw[QbS,QaS]
  by_cases hlt:k<ps.length
  case neg=>rw[Wj (show ¬ (k:Int)<((ps.length:Nat):Int) by omega),Wa,Wa]
  rw[Wh (show (k:Int)<((ps.length:Nat):Int) by omega),Wc,Wc,Xd,Wd hlt,Xa,Xa,Xe (by omega),Xh (by omega)]
  have e1:∀ v':List Oh,v'.length<=k+1->QbS N ps n ((k+1:Nat):Int) v'=QaS N ps n ((k+1:Nat):Int) v':=λ v' h=>Xfn N ps hl n (k+1) v' (by omega) h
  rw[e1 v (by omega),e1 (v++[Oh.mk (k:Int) 1]) (by simp;omega)]
  have e2:∀ (i:Nat) (x:Oh),QbS N ps n ((k+1:Nat):Int) (v.set i x)=QaS N ps n ((k+1:Nat):Int) (v.set i x):=λ i x=>e1 _ (by rw[Wx];omega)
  simp only[e2]
  cases (ps[k].Kind != 0) with
  | true=>rfl
  | false =>
   rw[Wa,Wa,Xe (show v.length<=140737488355328 by omega)]
   rw[show decide (wI (((v.length:Nat):Int)-1)>=0)=decide (((v.length:Nat):Int)>0) by
    rw[Xc (by omega) (by omega)];exact decide_eq_decide.2 (by omega)]
theorem Xaz (hN:1000000<N) {ps:List Wv} (hl:ps.length<=100000) (k:Int):QfM N ps k=QbA N ps k:=by
 have er:QgC N ps=QfA N ps:=by
  rw[QgC,QfA,show (0:Int)=((0:Nat):Int) from rfl,Xfn N ps hl N 0 [] (by omega) (by simp)]
 rw[QfM,QbA,er]
 obtain ⟨rs,ers,hrs,_⟩:=XgO (N:=N) (ps:=ps) (by omega) (by omega)
 rw[ers,Xa,Xa]
 by_cases hk:k<1
 ·rw[Wh hk,Wc]
  have:∀ (n j:Nat),j<=rs.length->rs.length-j<n->QaY N k rs n (j:Int)=some (.nxt ()):=by
   intro n
   induction n with
   | zero=>intro j _ h;omega
   | succ n ih =>
    intro j hj hn
    rw[QaY]
    by_cases hlt:j<rs.length
    ·rw[Wh (by omega),Wc,XB (show ¬ k>=1 by omega),Wa,Xh (by omega)]
     exact ih (j+1) (by omega) (by omega)
    ·rw[Wj (by omega),Wa]
  have h0:=this N 0 (by omega) (by omega)
  rw[show ((0:Nat):Int)=0 from rfl] at h0
  rw[h0,Xa,Xr]
 ·rw[XB hk,Wa]
  have:∀ (n:Nat) (j:Int),QdD N k rs n j=QaY N k rs n j:=by
   intro n
   induction n with
   | zero=>intro j;rw[QdD,QaY]
   | succ n ih =>
    intro j
    rw[QdD,QaY,Wh (show k>=1 by omega),Wc]
    simp only[ih]
    cases Xb rs j with
    | none=>simp only[Xal]
    | some p=>simp only[Xa]
  rw[this]
theorem V5 (hN:1000000<N) (c:WT) (d:Wy):QfI N c d=Qb8 N c d:=by
 rw[QfI,Qb8,KA (by omega),YZ,Y0 (by omega),Yf]
 simp only[Xa,K6,Zr (show 10<=N by omega)]
 have hr:=Ze c (XF d)
 rw[show decide (Xz c (XF d)>=0)=(Xz c (XF d) != -1) by
  by_cases h:Xz c (XF d) = -1
  ·rw[h];rfl
  ·rw[show (Xz c (XF d) != -1)=true by simpa using h];exact Wh (by omega)]
end
end Go.Sx
namespace Go.Sx
section
variable {N:Nat}
def JT (p:Wv):Bool:=p.Kind != 0
theorem Xcb (N:Nat) (ps:List Wv) (hl:ps.length<=1000000):∀ (n c k:Nat),k<=ps.length->c<=k->ps.length-k<n->Qa3 N ps n (c:Int) (k:Int)=some (((c+(ps.drop k).countP JT:Nat):Int))
 | 0,c,k,_,_,h=>by omega
 | n+1,c,k,hk,hc,hn=>by
  rw[Qa3]
  by_cases hlt:k<ps.length
  ·rw[Wh (by omega),Wc,Xd,Wd hlt,Xa,Xh (by omega),Xh (by omega),Wu hlt,List.countP_cons]
   cases hb:(ps[k].Kind != 0) with
   | true=>rw[Wc,Xcb N ps hl n (c+1) (k+1) (by omega) (by omega) (by omega),Wm (show JT ps[k]=true from hb)];congr 1;omega
   | false=>rw[Wa,Xcb N ps hl n c (k+1) (by omega) (by omega) (by omega),Wk (show ¬ JT ps[k]=true by unfold JT;rw[hb];simp)];rfl
  ·rw[Wj (by omega),Wa,WL (by omega)];simp
theorem XkC (hN:1000000<N) {ps:List Wv} (hl:ps.length<=100000):Qci N ps=some ((ps.countP JT:Nat):Int):=by
 rw[Qci,show (0:Int)=((0:Nat):Int) from rfl,Xcb N ps (by omega) N 0 0 (by omega) (by omega) (by omega),Xa,WX,Ux]
def Zu (ps l:List Wv) (i:Nat):List Wv:=(ps.take i++l)++ps.drop (i+l.length)
theorem K7 {ps l:List Wv} {i:Nat} (h:i+l.length<=ps.length):(Zu ps l i).length=ps.length:=by
 unfold Zu;simp only[Wq,Wz,WO];omega
theorem XdY (hl:Nat) (i k:Nat) (f r:Wv) (ps:List Wv) (hps:ps.length<=100000) (hik:i+k<=ps.length):∀ (n m:Nat),m<=k->k-m<n ->
 Qc0 N (i:Int) (k:Int) f r n (m:Int) (Zu ps (List.replicate m r) i)=some (if ((ps.drop (i+m)).take (k-m)).any JT=true then .ret ([],20) else .nxt (Zu ps (List.replicate k r) i))
 | 0,m,_,h=>by omega
 | n+1,m,hm,hn=>by
  rw[Qc0]
  by_cases hlt:m<k
  case neg =>
   obtain rfl:m=k:=by omega
   rw[Wj (by omega),Wa,Nat.sub_self,List.take_zero,List.any_nil,Wk (by simp)]
  have hlen:(Zu ps (List.replicate m r) i).length=ps.length:=K7 (by rw[WC];omega)
  have hg:(Zu ps (List.replicate m r) i)[i+m]? = some (ps[i+m]'(by omega)):=by
   unfold Zu
   rw[UP (by simp;omega),Un]
   simp only[Wq,Wz,WC]
   rw[show i+m+(i+m-(min i ps.length+m))=i+m by omega]
   exact Wd (by omega)
  have hs:(Zu ps (List.replicate m r) i).set (i+m) r=Zu ps (List.replicate (m+1) r) i:=by
   unfold Zu
   rw[List.set_append_right _ _ (by simp;omega)]
   simp only[Wq,Wz,WC]
   rw[show i+m-(min i ps.length+m)=0 by omega,Wu (show i+m<ps.length by omega),IN,List.replicate_succ',← Ut (ps.take i),Ut (ps.take i++List.replicate m r)]
   rfl
  have hw:wI ((i:Int)+(m:Int))=((i+m:Nat):Int):=by rw[Xc (by omega) (by omega)];omega
  rw[Wh (by omega),Wc,hw,Xd,hg,Xa,Xa,Xh (by omega),show (((i+m:Nat):Int)).toNat=i+m from rfl,hs]
  have hd:(ps.drop (i+m)).take (k-m)=ps[i+m]'(by omega)::(ps.drop (i+(m+1))).take (k-(m+1)):=by
   rw[Wu (show i+m<ps.length by omega),show k-m=(k-(m+1))+1 by omega,Ip];rfl
  rw[hd,List.any_cons]
  cases hb:((ps[i+m]'(by omega)).Kind != 0) with
  | true=>rw[Wc,show JT (ps[i+m]'(by omega))=true from hb,Bool.true_or,Wm rfl]
  | false =>
   rw[Wa,show JT (ps[i+m]'(by omega))=false from hb,Ih]
   exact XdY hl i k f r ps hps hik n (m+1) (by omega) (by omega)
theorem Xio {α:Type} (p:α->Bool) (l:List α):decide (((l.countP p:Nat):Int)>0)=l.any p:=by
 cases h:l.any p with
 | true =>
  obtain ⟨x,hx,hp⟩:=II.1 h
  have:=List.countP_pos_iff.2 ⟨x,hx,hp⟩
  exact Wh (by omega)
 | false =>
  have:l.countP p=0:=List.countP_eq_zero.2 λ x hx hp=>by
   rw[List.any_eq_false] at h;exact h x hx hp
  exact Wj (by omega)
theorem Xfo (hN:1000000<N) {ps:List Wv} (hps:ps.length<=100000) (i:Int) (f r:Wv) (k:Nat) (hk:1<=k) (hk2:k<=1000):Qf6 N ps i (f::List.replicate (k-1) r)=Qcr N ps i (k:Int) f r:=by
 have hlen:(f::List.replicate (k-1) r).length=k:=by simp;omega
 rw[Qf6,Qcr,hlen]
 by_cases h0:i<0
 ·rw[Wh h0,Wc,Wc]
 rw[XB h0,Wa,Wa]
 obtain ⟨j,rfl⟩:∃ j:Nat,i=(j:Int):=⟨i.toNat,by omega⟩
 by_cases hfit:j+k<=ps.length
 case neg =>
  by_cases h1:(j:Int)>=((ps.length:Nat):Int)
  ·rw[Wh h1,Wc,Xc (n:=((ps.length:Nat):Int)-(k:Int)) (by omega) (by omega),Wh (show (j:Int)>((ps.length:Nat):Int)-(k:Int) by omega),Wc]
  ·rw[XB h1,Wa,Xc (n:=((ps.length:Nat):Int)-(k:Int)) (by omega) (by omega),Xc (n:=((ps.length:Nat):Int)-(j:Int)) (by omega) (by omega),Wh (show (j:Int)>((ps.length:Nat):Int)-(k:Int) by omega),Wc,Wh (show (k:Int)>((ps.length:Nat):Int)-(j:Int) by omega),Wc]
 rw[Xc (n:=((ps.length:Nat):Int)-(k:Int)) (by omega) (by omega),Xc (n:=((ps.length:Nat):Int)-(j:Int)) (by omega) (by omega),XB (show ¬ (j:Int)>((ps.length:Nat):Int)-(k:Int) by omega),Wa,XB (show ¬ (j:Int)>=((ps.length:Nat):Int) by omega),Wa,XB (show ¬ (k:Int)>((ps.length:Nat):Int)-(j:Int) by omega),Wa]
 have hw:wI ((j:Int)+(k:Int))=((j+k:Nat):Int):=by rw[Xc (by omega) (by omega)];omega
 rw[hw,Xe (by omega),Xe (by omega),show (((j+k:Nat):Int)).toNat=j+k from rfl,show ((j:Nat):Int).toNat=j from rfl,show j+k-j=k by omega,Va,XkC hN (by rw[Wz];omega),Xa,Xio]
 have ht:=XdY (N:=N) 0 j k f r ps hps hfit N 0 (by omega) (by omega)
 have hp0:Zu ps (List.replicate 0 r) j=ps:=by unfold Zu;simp
 rw[hp0,Ia,Nat.sub_zero,show ((0:Nat):Int)=0 from rfl] at ht
 rw[ht,Xa]
 cases ((ps.drop j).take k).any JT with
 | true=>rw[Wc,Wm rfl,XC]
 | false =>
  rw[Wa,Wk (by simp),Xr,Qak,Xa,Xe (by omega),Xe (by omega)]
  have hl2:(Zu ps (List.replicate k r) j).length=ps.length:=K7 (by rw[WC];omega)
  rw[Xd,Wd (by omega),Xa]
  congr 2
  unfold Zu
  obtain ⟨m,rfl⟩:∃ m,k=m+1:=⟨k-1,by omega⟩
  rw[WC,Iy,List.replicate_succ,List.set_append_left _ _ (by simp;omega),List.set_append_right _ _ (by simp;omega)]
  simp only[Wz]
  rw[show j-min j ps.length=0 by omega,IN]
end
end Go.Sx
namespace Go.Sx
section
variable {N:Nat}
theorem Xc8 {α:Type} (sp:Int) (x y:α):(bif (!decide (sp=0\/sp=1)) then x else y)=(bif (decide (sp<0)) then x else bif (decide (sp>1)) then x else y):=by
 by_cases h:sp=0\/sp=1
 ·rw[Wh h,XB (show ¬ sp<0 by omega),XB (show ¬ sp>1 by omega)];rfl
 ·rw[Wj h]
  by_cases h0:sp<0
  ·rw[Wh h0];rfl
  ·rw[XB h0,Wh (show sp>1 by omega)];rfl
theorem Xip (hN:1000000<N) {ps:List Wv} (hps:ps.length<=100000) (i sp:Int):QfK N ps i sp=QbB N ps i sp:=by
 rw[QfK,QbB,Zx,Xa,Xc8]
 have:=Xfo hN hps i (Wv.mk 1 sp 0 0) (Wv.mk 0 0 0 0) 1 (by omega) (by omega)
 rw[show [(Wv.mk 1 sp 0 0)]=Wv.mk 1 sp 0 0::List.replicate (1-1) (Wv.mk 0 0 0 0) from rfl,this];rfl
theorem Xc9 (N:Nat) (ps:List Wv) (i sp y:Int) (k:Nat) (hy:y=(k:Int)) (hk:k<=1000) (f:Wv):∀ (n m:Nat),m<=k-1->1<=k->k-m<n->Qee N ps i sp y n (f::List.replicate m (Wv.mk 3 sp 0 0))=some (f::List.replicate (k-1) (Wv.mk 3 sp 0 0))
 | 0,m,_,_,h=>by omega
 | n+1,m,hm,h1,hn=>by
  have hl:(f::List.replicate m (Wv.mk 3 sp 0 0)).length=m+1:=by simp
  rw[Qee,hl,Xe (by omega)]
  by_cases hlt:m+1<k
  ·rw[Wh (by omega),Wc,Xe (by omega),Iv,← List.replicate_succ']
   exact Xc9 N ps i sp y k hy hk f n (m+1) (by omega) h1 (by omega)
  ·rw[Wj (by omega),Wa,show k-1=m by omega]
theorem Xda (hN:1000000<N) {ps:List Wv} (hps:ps.length<=100000) (c:WT) (i sp w:Int):Qgk N c ps i sp w=Qdo N c ps i sp w:=by
 rw[Qgk,Qdo,K6,Zr (by omega),Xa,Xa]
 by_cases h:Xz c w<1
 ·rw[Wh h];rfl
 have hr:=Ze c w
 obtain ⟨k,hk⟩:∃ k:Nat,Xz c w=(k:Int):=⟨(Xz c w).toNat,by omega⟩
 rw[XB h,Wa,Wa,Zx,Xa,Xc8]
 have hl:=Xc9 N ps i sp (Xz c w) k hk (by omega) (Wv.mk 2 sp w 0) N 0 (by omega) (by omega) (by omega)
 rw[show [(Wv.mk 2 sp w 0)]=Wv.mk 2 sp w 0::List.replicate 0 (Wv.mk 3 sp 0 0) from rfl,hl,Xa,Xfo hN hps i _ _ k (by omega) (by omega),hk]
theorem Xgk {v:Int} {k:Nat} (hk:k<=63) (h0:0<=v) (h1:v<2 ^ k):XaV .u64 v (2 ^ k-1)=0:=by
 obtain ⟨n,rfl⟩:=UF h0
 have hn:n<2 ^ k:=by
  have h2:(2:Int) ^ k=((2 ^ k:Nat):Int):=by simp
  rw[h2] at h1;omega
 have hb:IntKind.u64.bits=64:=rfl
 show IntKind.u64.wrap ((BitVec.ofInt IntKind.u64.bits n &&& ~~~ BitVec.ofInt IntKind.u64.bits (2 ^ k-1)).toNat:Int)=_
 rw[hb]
 have hk2:(2:Int) ^ k-1=((2 ^ k-1:Nat):Int):=by
  have h1:=Nat.one_le_two_pow (n:=k)
  have h2:(2:Int) ^ k=((2 ^ k:Nat):Int):=by simp
  rw[h2];omega
 have e1:BitVec.ofInt 64 (n:Int)=BitVec.ofNat 64 n:=by simp
 have e2:BitVec.ofInt 64 ((2 ^ k-1:Nat):Int)=BitVec.ofNat 64 (2 ^ k-1):=by simp
 rw[hk2,e1,e2]
 have hz:BitVec.ofNat 64 n &&& ~~~ BitVec.ofNat 64 (2 ^ k-1)=0#64:=by
  apply BitVec.eq_of_getLsbD_eq
  intro i hi
  simp only[BitVec.getLsbD_and,BitVec.getLsbD_not,BitVec.getLsbD_ofNat,hi,decide_true,WR,BitVec.getLsbD_zero]
  by_cases hik:i<k
  ·rw[Nat.testBit_two_pow_sub_one,Wh hik];simp
  ·rw[Nat.testBit_lt_two_pow (IO hn (IW (by omega) (by omega)))];simp
 rw[hz];rfl
theorem XdZ {a b:Int} {s:Nat} (hs:s<=63) (ha0:0<=a) (ha:a<2 ^ s) (hb0:0<=b) (hb:b*2 ^ s+a<=18446744073709551615):bOr .u64 a (b*2 ^ s)=a+b*2 ^ s:=by
 obtain ⟨n,rfl⟩:=UF ha0
 obtain ⟨m,rfl⟩:=UF hb0
 have h2:(2:Int) ^ s=((2 ^ s:Nat):Int):=by simp
 rw[h2] at ha hb ⊢
 have hm:(m:Int)*((2 ^ s:Nat):Int)=((m*2 ^ s:Nat):Int):=by simp
 rw[hm] at hb ⊢
 have hb64:IntKind.u64.bits=64:=rfl
 show IntKind.u64.wrap ((BitVec.ofInt IntKind.u64.bits n ||| BitVec.ofInt IntKind.u64.bits ((m*2 ^ s:Nat):Int)).toNat:Int)=_
 rw[hb64]
 have e1:BitVec.ofInt 64 (n:Int)=BitVec.ofNat 64 n:=by simp
 have e2:BitVec.ofInt 64 ((m*2 ^ s:Nat):Int)=BitVec.ofNat 64 (m*2 ^ s):=by rw[BitVec.ofInt_natCast]
 rw[e1,e2,BitVec.toNat_or,Iw,Iw,I5 (show n<2 ^ 64 by omega),I5 (show m*2 ^ s<2 ^ 64 by omega)]
 have:=Nat.shiftLeft_add_eq_or_of_lt (show n<2 ^ s by omega) m
 rw[Nat.shiftLeft_eq] at this
 rw[Nat.or_comm,← this]
 show wU _=_
 rw[Xv (by omega) (by omega)];omega
end
end Go.Sx
