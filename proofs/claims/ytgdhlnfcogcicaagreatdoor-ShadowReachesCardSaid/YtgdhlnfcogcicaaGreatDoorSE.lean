import Derived.KernelRfl
import Derived.Test.YtgdhlnfcogcicaaGreatDoorSD
set_option linter.all false
namespace Go.Sx
section
variable {N:Nat}
theorem encode_ok (h:THandle):Ok (Qa5 N h) fun _=>True:=by
 rw[Qa5]
 refine Ok.bnd (Q:=fun _=>True) ?_ fun b _ _=>Ok.bif (fun _=>Ok.some trivial) fun _=>Ok.some trivial
 rw[Qe5]
 exact Ok.bif (fun _=>Ok.bif (fun _=>Ok.bif (fun _=>Ok.bif (fun _=>Ok.bif (fun _=>Ok.some trivial) fun _=>Ok.some trivial) fun _=>Ok.some trivial) fun _=>Ok.some trivial) fun _=>Ok.some trivial) fun _=>Ok.some trivial
theorem decode_ok (a:Int):Ok (Qbh N a) fun _=>True:=by
 rw[Qbh]
 exact Ok.bif (fun _=>Ok.some trivial) fun _=>Ok.bnd (encode_ok _) fun _ _ _=>Ok.bif (fun _=>Ok.some trivial) fun _=>Ok.bif (fun _=>Ok.some trivial) fun _=>Ok.some trivial
theorem at_l1 {l:List TPin} (r:Int) (hl:l.length<=1000000):∀ (n:Nat) (k:Int),0<=k->k<=l.length->(l.length-k).toNat<n->Ok (Qey N l r n k) fun e=>∀ i,e=.ret i->0<=i∧i<l.length∧∃ p∈l,p.Ref=r
 | 0,k,_,_,hn=>by omega
 | n+1,k,h0,hk,hn=>by
  rw[Qey]
  refine Ok.bif (fun hc=>?_) fun _=>Ok.some fun i e=>by cases e
  have hc:k<l.length:=of_decide_eq_true hc
  rw[wI_id (n:=k+1) (by omega) (by omega)]
  refine Ok.get h0 hc fun p hp=>Ok.bif (fun h=>Ok.some fun i e=>?_) fun _=>at_l1 r hl n (k+1) (by omega) (by omega) (by omega)
  cases e
  exact ⟨h0,hc,p,getI_mem hp,by simpa using h⟩
theorem pinAt_ok {l:List TPin} (r:Int) (hl:l.length<=1000000) (hN:1000000<N):Ok (Qfd N l r) fun i=>i = -1∨(0<=i∧i<l.length∧∃ p∈l,p.Ref=r):=by
 rw[Qfd]
 exact Ok.exk (at_l1 r hl N 0 (by omega) (by omega) (by omega)) (fun i q=>Ok.some (.inr (q i rfl))) fun _ _=>Ok.some (.inl rfl)
theorem home_ok {h:THeap} (hp:PropH h) {a:Int} (ha:AtOK h a):Qef N h a=some (pgi h.Conf a)∧0<=pgi h.Conf a∧pgi h.Conf a<h.Pages.length:=by
 have hv:=vconf_iff.1 hp.conf
 obtain ⟨_,q0,q1,_⟩:=pgi_eq hp.conf ha.rng
 have:=hp.pages
 refine ⟨?_,q0,by omega⟩
 rw[Qef,of_eq,bnd_eq,hp.conf,if_neg (by simp),if_pos ha.rng]
 rfl
theorem match_l1 {h:THeap} {pins:List TPin} (hN:NB N) (hp:PropH h) (y:List Int×Int) (hy:StartL N h y.1) (hl:pins.length<=64) (hb:HB h):∀ (n:Nat) (k:Int) (v:List Int),0<=k->k<=pins.length->(pins.length-k).toNat<n->v.length=h.Pages.length->Ok (Qdf N h pins y n k v) fun e=>match e with | .ret b=>b=false | .nxt v=>v.length=h.Pages.length∧∀ i,k<=i->∀ p,getI pins i=some p->AtOK h p.Ref
 | 0,k,v,_,_,hn,_=>by omega
 | n+1,k,v,h0,hk,hn,hv=>by
  have hN':=hN
  unfold NB at hN'
  have hyl:=hy.len
  rw[Qdf]
  refine Ok.bif (fun hc=>?_) fun hc=>Ok.some ⟨hv,fun i hi p hp=>?_⟩
  rotate_left
  ·have:=of_decide_eq_false hc
   rw[getI_none (by omega)] at hp;cases hp
  have hc:k<pins.length:=of_decide_eq_true hc
  rw[wI_id (n:=k+1) (by omega) (by omega)]
  have a1:0<=k+1:=by omega
  have a2:k+1<=pins.length:=by omega
  have a3:(pins.length-(k+1)).toNat<n:=by omega
  refine Ok.get h0 hc fun p hp1=>?_
  have same:∀ q,getI pins k=some q->q=p:=fun q hq=>Option.some.inj (hq.symm.trans hp1)
  rw[has_eq p.Ref (by omega) (by omega),bnd_eq]
  refine Ok.bif (fun _=>Ok.some rfl) fun hh=>?_
  have hm:p.Ref∈y.1:=contains_true (by simpa using hh)
  have hat:=hy.obj.at_ _ hm
  refine Ok.get h0 hc fun q hq=>?_
  obtain rfl:=same q hq
  refine Ok.bnd (pinAt_ok _ (by omega) (by omega)) fun _ _ _=>Ok.bif (fun _=>Ok.some rfl) fun _=>Ok.get h0 hc fun _ _=>Ok.bif (fun _=>Ok.some rfl) fun _=>Ok.get h0 hc fun _ _=>Ok.bif (fun _=>Ok.some rfl) fun _=>Ok.get h0 hc fun q hq=>?_
  obtain rfl:=same q hq
  obtain ⟨e,q0,q1⟩:=home_ok (N:=N) hp hat
  rw[e,bnd_eq]
  refine Ok.get q0 (by omega) fun _ _=>Ok.get h0 hc fun _ _=>Ok.get q0 (by omega) fun _ _=>?_
  refine (match_l1 hN hp y hy hl hb n (k+1) _ a1 a2 a3 (by rw[List.length_set];exact hv)).mono fun e he=>?_
  cases e with
  | ret b=>exact he
  | nxt v =>
   refine ⟨he.1,fun i hi p' hp'=>?_⟩
   by_cases hik:i=k
   ·subst hik
    obtain rfl:=same p' hp'
    exact hat
   ·exact he.2 i (by omega) p' hp'
theorem match_l2 {h:THeap} (hb:HB h) (v:List Int) (hv:v.length=h.Pages.length):∀ (n:Nat) (k:Int),0<=k->k<=h.Pages.length->(h.Pages.length-k).toNat<n->Ok (Qdg N h v n k) fun e=>∀ b,e=.ret b->b=false
 | 0,k,_,_,hn=>by omega
 | n+1,k,h0,hk,hn=>by
  have:=hb.2
  rw[Qdg]
  refine Ok.bif (fun hc=>?_) fun _=>Ok.some fun b e=>by cases e
  have hc:k<h.Pages.length:=of_decide_eq_true hc
  rw[wI_id (n:=k+1) (by omega) (by omega)]
  exact Ok.get h0 hc fun _ _=>Ok.get h0 (by omega) fun _ _=>Ok.bif (fun _=>Ok.some fun b e=>by cases e;rfl) fun _=>match_l2 hb v hv n (k+1) (by omega) (by omega) (by omega)
structure MatchQ (N:Nat) (h:THeap) (pins:List TPin):Prop where
 good:GoodH N h
 len:pins.length<=64
 at_:∀ p∈pins,AtOK h p.Ref
theorem match_ok (hN:NB N) {h:THeap} (hb:HB h) {pins:List TPin} (hl:pins.length<=1000000):Ok (QdO N h pins) fun b=>b=true->MatchQ N h pins:=by
 have hN':=hN
 unfold NB at hN'
 have hb2:=hb.2
 rw[QdO]
 refine Ok.bnd (good_ok hN hb) fun b _ hg=>Ok.bif (fun _=>Ok.some fun e=>by cases e) fun hb1=>?_
 have hg:=hg (by simpa using hb1)
 refine Ok.bif (fun _=>Ok.some fun e=>by cases e) fun h64=>?_
 have h64:=of_decide_eq_false h64
 refine Ok.bnd (objects_ok hN hb) fun y _ hy=>Ok.grd (by omega) ?_
 refine Ok.exk (match_l1 hN hg.prop y hy.1 (by omega) hb N 0 _ (by omega) (by omega) (by omega) (by rw[List.length_replicate];omega)) (fun b q=>Ok.some fun e=>?_) fun v q=>?_
 ·have q:b=false:=q
  rw[q] at e;cases e
 refine Ok.exk (match_l2 hb v q.1 N 0 (by omega) (by omega) (by omega)) (fun b q=>Ok.some fun e=>?_) fun _ _=>Ok.some fun _=>⟨hg,by omega,fun p hp=>?_⟩
 ·rw[q b rfl] at e;cases e
 ·obtain ⟨i,hi,e⟩:=List.getElem_of_mem hp
  exact q.2 (i:Int) (by omega) p (by rw[getI_nat,List.getElem?_eq_getElem hi,e])
theorem count_ok {h:THeap} (hb:HB h) (hp:PropH h) {a:Int} (ha:AtOK h a) (d:Int):Ok (QbW N h a d) HB:=by
 have hb2:=hb.2
 obtain ⟨e,q0,q1⟩:=home_ok (N:=N) hp ha
 rw[QbW,grd_eq (by omega),e,bnd_eq]
 exact Ok.get q0 q1 fun _ _=>Ok.get q0 q1 fun _ _=>Ok.some ⟨hb.1,by show (h.Pages.set _ _).length<=_;rw[List.length_set];exact hb2⟩
theorem release_ok (hN:NB N) {h:THeap} (hb:HB h) {pins:List TPin} (hl:pins.length<=1000000) (a:Int):Ok (QcM N h pins a) fun r=>HB r.1∧r.2.1.length<=1000000:=by
 have hN':=hN
 unfold NB at hN'
 have zero:HB zH∧([]:List TPin).length<=1000000:=⟨zH_HB,by simp⟩
 rw[QcM]
 refine Ok.bnd (match_ok hN hb hl) fun b _ hm=>Ok.bif (fun _=>Ok.some zero) fun hb1=>?_
 have hm:=hm (by simpa using hb1)
 refine Ok.bif (fun _=>Ok.some zero) fun _=>Ok.bnd (pinAt_ok _ hl (by omega)) fun i _ hi=>Ok.bif (fun _=>Ok.some zero) fun h0=>?_
 have h0:=of_decide_eq_false h0
 obtain ⟨i0,i1,p,hpm,hpr⟩:0<=i∧i<pins.length∧∃ p∈pins,p.Ref=a:=by
  rcases hi with h | h
  ·omega
  ·exact h
 have hat:=hm.at_ p hpm
 rw[hpr] at hat
 have hc:=count_ok (N:=N) hb hm.good.prop hat (-1)
 refine Ok.grd (by omega) (Ok.get i0 i1 fun _ _=>Ok.get i0 i1 fun _ _=>Ok.get i0 (by rw[List.length_set];exact i1) fun _ _=>?_)
 rw[wI_id (n:=i+1) (by omega) (by omega)]
 refine Ok.bif (fun _=>Ok.grd (by omega) (Ok.grd (by omega) (Ok.grd (by omega) (Ok.bnd hc fun y _ hy=>Ok.some ⟨hy,?_⟩)))) fun _=>Ok.bnd hc fun y _ hy=>Ok.some ⟨hy,?_⟩
 ·simp only[List.length_take,List.length_append,List.length_set,List.length_drop];omega
 ·show (pins.set _ _).length<=_;rw[List.length_set];exact hl
theorem crowded_l1 {h:THeap} (hb:HB h) (a:Int):∀ (n:Nat) (c k:Int),0<=k->k<=h.Pages.length->(h.Pages.length-k).toNat<n->Ok (Qbj N h a n c k) fun _=>True
 | 0,c,k,_,_,hn=>by omega
 | n+1,c,k,h0,hk,hn=>by
  have:=hb.2
  rw[Qbj]
  refine Ok.bif (fun hc=>?_) fun _=>Ok.some trivial
  have hc:k<h.Pages.length:=of_decide_eq_true hc
  rw[wI_id (n:=k+1) (by omega) (by omega)]
  have next:=fun c'=>crowded_l1 hb a n c' (k+1) (by omega) (by omega) (by omega)
  exact Ok.get h0 hc fun _ _=>Ok.bif (fun _=>Ok.get h0 hc fun _ _=>Ok.bif (fun _=>next _) fun _=>next _) fun _=>next _
theorem crowded_ok (hN:NB N) {h:THeap} (hb:HB h) (a:Int):Ok (Qcc N h a) fun _=>True:=by
 have hN':=hN
 unfold NB at hN'
 have hb2:=hb.2
 rw[Qcc]
 refine Ok.bnd (good_ok hN hb) fun b _ hg=>Ok.bif (fun _=>Ok.some trivial) fun hb1=>?_
 refine Ok.bnd (isObject_ok hN hb a) fun b _ ho=>Ok.bif (fun _=>Ok.some trivial) fun hb1=>?_
 obtain ⟨hp,hat⟩:=ho (by simpa using hb1)
 obtain ⟨e,q0,q1⟩:=home_ok (N:=N) hp hat
 refine Ok.bnd (crowded_l1 hb a N 0 0 (by omega) (by omega) (by omega)) fun c _ _=>?_
 rw[e,bnd_eq]
 exact Ok.get q0 q1 fun _ _=>Ok.bif (fun _=>Ok.bif (fun _=>Ok.some trivial) fun _=>Ok.some trivial) fun _=>Ok.some trivial
theorem pinGet_ok (hN:NB N) {h:THeap} (hb:HB h) {pins:List TPin} (hl:pins.length<=1000000) (a:Int):Ok (QeK N h pins a) fun r=>HB r.1∧r.2.1.length<=1000000:=by
 have hN':=hN
 unfold NB at hN'
 have zero:HB zH∧([]:List TPin).length<=1000000:=⟨zH_HB,by simp⟩
 rw[QeK]
 refine Ok.bnd (match_ok hN hb hl) fun b _ hm=>Ok.bif (fun _=>Ok.some zero) fun hb1=>?_
 have hm:=hm (by simpa using hb1)
 refine Ok.bif (fun _=>Ok.some zero) fun _=>Ok.bnd (isObject_ok hN hb a) fun b _ ho=>Ok.bif (fun _=>Ok.some zero) fun hb1=>?_
 obtain ⟨hp,hat⟩:=ho (by simpa using hb1)
 have hc:=count_ok (N:=N) hb hm.good.prop hat 1
 have h64:=hm.len
 refine Ok.bnd (pinAt_ok _ hl (by omega)) fun i _ hi=>?_
 have rest:Ok (α:=THeap×List TPin×Int×Int) (grd (pins.length*16<=140737488355328) <|
  jn (fun (x11:List TPin) =>
   bnd (QbW N h a 1) fun y12 =>
   some (y12,x11,(wU (a+1)),0)) fun j2 =>
  bif (decide (i>=0)) then (bnd (getI pins i) fun p9 =>
   bnd (getI pins i) fun p10 =>
   j2 (pins.set i.toNat (TPin.mk p10.Ref (wI (p9.Count+1)))))
  else grd ((pins.length+1)*16<=140737488355328) <|
  j2 (pins++[(TPin.mk a 1)])) fun r=>HB r.1∧r.2.1.length<=1000000:=by
  refine Ok.grd (by omega) (Ok.jn (Ok.bif (fun h0=>?_) fun _=>Ok.grd (by omega) (Ok.bnd hc fun y _ hy=>Ok.some ⟨hy,?_⟩)))
  ·have h0:0<=i:=of_decide_eq_true h0
   have i1:i<pins.length:=by rcases hi with h | h;omega;exact h.2.1
   exact Ok.get h0 i1 fun _ _=>Ok.get h0 i1 fun _ _=>Ok.bnd hc fun y _ hy=>Ok.some ⟨hy,by show (pins.set _ _).length<=_;rw[List.length_set];exact hl⟩
  ·show (pins++[_]).length<=_;rw[List.length_append];simp;omega
 refine Ok.jn (Ok.bif (fun h0=>?_) fun _=>Ok.bif (fun _=>Ok.bif (fun _=>Ok.some zero) fun _=>Ok.bnd (crowded_ok hN hb a) fun _ _ _=>Ok.bif (fun _=>Ok.some zero) fun _=>rest) fun _=>Ok.bnd (crowded_ok hN hb a) fun _ _ _=>Ok.bif (fun _=>Ok.some zero) fun _=>rest)
 have h0:0<=i:=of_decide_eq_true h0
 have i1:i<pins.length:=by rcases hi with h | h;omega;exact h.2.1
 exact Ok.get h0 i1 fun _ _=>Ok.bif (fun _=>Ok.some zero) fun _=>Ok.bif (fun _=>Ok.bif (fun _=>Ok.some zero) fun _=>Ok.bnd (crowded_ok hN hb a) fun _ _ _=>Ok.bif (fun _=>Ok.some zero) fun _=>rest) fun _=>Ok.bnd (crowded_ok hN hb a) fun _ _ _=>Ok.bif (fun _=>Ok.some zero) fun _=>rest
end
end Go.Sx
namespace Go.Sx
section
variable {N:Nat}
theorem asks_ok (hN:NB N) (c:TConf) (d:THeader):Ok (QcW N c d) fun b=>b=true->validH d=true∧d.Kind≠0∧needC c (sizeH d)≠-1:=by
 have hN':=hN
 unfold NB at hN'
 rw[QcW,validH_eq,bnd_eq]
 refine Ok.bif (fun hv=>Ok.bif (fun hk=>?_) fun _=>Ok.some fun e=>by cases e) fun _=>Ok.some fun e=>by cases e
 rw[sizeH_eq,bnd_eq,need_eq (by omega),bnd_eq]
 exact Ok.some fun e=>⟨hv,by simpa using hk,by simpa using e⟩
theorem newSmall_ok (hN:NB N) {h:THeap} (hb:HB h) (hp:PropH h) (n:Int):Ok (QdS N h n) fun r=>HB r.1:=by
 have hN':=hN
 unfold NB at hN'
 have hb2:=hb.2
 have setP:∀ (ps:List TPage) (i:Nat) (p:TPage) (s b:Int),ps.length<=100000->HB ⟨h.Conf,h.Words,ps.set i p,s,b⟩:=fun ps i p s b hl=>⟨hb.1,by show (ps.set i p).length<=_;rw[List.length_set];exact hl⟩
 rw[QdS]
 refine Ok.grd (by omega) ?_
 rw[lim_eq,bnd_eq]
 refine Ok.bnd (inuse_ok (by omega) (by omega)) fun u _ _=>?_
 have fresh:Ok (α:=THeap×Int×Bool) (bnd (Qc5 N h.Pages 1) fun y5 =>
  bif (decide (y5<0)) then some ((THeap.mk (TConf.mk 0 0) [] [] 0 0),0,false)
  else bif (decide (u>=limC h.Conf)) then some ((THeap.mk (TConf.mk 0 0) [] [] 0 0),0,false)
  else bnd (Qc6 N h.Pages y5 h.Space) fun y6 =>
  bnd (getI y6.1 y5) fun p11 =>
  bnd (getI y6.1 y5) fun p12 =>
  bnd (getI y6.1 y5) fun p13 =>
  some ((THeap.mk h.Conf h.Words (y6.1.set y5.toNat (TPage.mk p13.Kind p13.Space (wI (p12.Used+n)) p13.Pins)) h.Space y5),(wU (wI ((wI (4096+(wI (y5*h.Conf.PageWords))))+p11.Used))),true)) fun r=>HB r.1:=by
  refine Ok.bnd (first_ok 1 (by omega) (by omega)) fun j _ hj=>Ok.bif (fun _=>Ok.some zH_HB) fun hj0=>Ok.bif (fun _=>Ok.some zH_HB) fun _=>?_
  have hr:RunOK h.Pages j 1:=by
   rcases hj with rfl | hj
   ·cases hj0
   ·exact hj
  have hsp:=hp.space
  refine Ok.bnd (small_ok j h.Space (by omega) (by omega)) fun y _ hy=>?_
  obtain ⟨q0,q1,q2,q3⟩:=hy.1 (hy.2.2 hr (by omega) (by omega))
  have hjl:j<y.1.length:=by omega
  exact Ok.get q0 hjl fun _ _=>Ok.get q0 hjl fun _ _=>Ok.get q0 hjl fun _ _=>Ok.some (setP _ _ _ _ _ (by omega))
 refine Ok.jn (Ok.bif (fun _=>fresh) fun h0=>?_)
 have h0:=of_decide_eq_false h0
 have hbu:=hp.bump
 have h1:h.Bump<h.Pages.length:=by rcases hbu with h | h;omega;exact h.2.1
 have h0:0<=h.Bump:=by omega
 exact Ok.get h0 h1 fun _ _=>Ok.bif (fun _=>fresh) fun _=>Ok.get h0 h1 fun _ _=>Ok.bif (fun _=>fresh) fun _=>Ok.bif (fun _=>fresh) fun _=>Ok.get h0 h1 fun _ _=>Ok.get h0 h1 fun _ _=>Ok.get h0 h1 fun _ _=>Ok.some (setP _ _ _ _ _ hb2)
theorem newLarge_ok (hN:NB N) {h:THeap} (hb:HB h) (hp:PropH h) (w k:Int):Ok (QdT N h w k) fun r=>HB r.1:=by
 have hN':=hN
 unfold NB at hN'
 have hb2:=hb.2
 rw[QdT]
 refine Ok.bnd (first_ok k (by omega) (by omega)) fun j _ hj=>Ok.bif (fun _=>Ok.some zH_HB) fun hj0=>Ok.bnd (inuse_ok (by omega) (by omega)) fun u _ _=>?_
 rw[lim_eq,bnd_eq]
 refine Ok.bif (fun _=>Ok.some zH_HB) fun _=>Ok.bnd (large_ok h.Conf j h.Space w (by omega) (by omega)) fun y _ hy=>Ok.some ⟨hb.1,?_⟩
 show y.1.length<=_
 by_cases he:y.2=0
 ·have:=(hy.1 he).2.2.2.1;omega
 ·rw[hy.2 he];simp
theorem new_okp (hN:NB N) {h:THeap} (hb:HB h) (d:THeader):Ok (Qea N h d) fun r=>HB r.1:=by
 have hN':=hN
 unfold NB at hN'
 rw[Qea]
 refine Ok.bnd (proper_ok (N:=N) (by omega) hb.1 hb.2) fun b _ hp=>Ok.bif (fun _=>Ok.some zH_HB) fun hb1=>?_
 have hp:=hp (by simpa using hb1)
 refine Ok.bnd (asks_ok hN _ _) fun b _ _=>Ok.bif (fun _=>Ok.some zH_HB) fun _=>?_
 rw[sizeH_eq,bnd_eq,need_eq (by omega),bnd_eq]
 refine Ok.bnd (newSmall_ok hN hb hp _) fun y5 _ h5=>Ok.jn (Ok.bif (fun _=>Ok.bnd (newLarge_ok hN hb hp _ _) fun y6 _ h6=>?_) fun _=>?_)
 ·exact Ok.bif (fun _=>Ok.some zH_HB) fun _=>Ok.bnd (init_ok hN (h:=y6.1) h6 _ d) fun y15 _ h15=>Ok.some h15
 ·exact Ok.bif (fun _=>Ok.some zH_HB) fun _=>Ok.bnd (init_ok hN (h:=y5.1) h5 _ d) fun y15 _ h15=>Ok.some h15
end
structure EB (x:TEnv):Prop where
 heap:HB x.Heap
 loc:LBp x.Locals
 glo:TB x.Globals
 wea:TB x.Weaks
 pins:x.Pins.length<=1000000
 roots:x.Roots.length<=100000
def zE:TEnv:=⟨zH,zL,zT,zT,[],[]⟩
theorem EB_zE:EB zE:=⟨zH_HB,LB_zL,TB_zT,TB_zT,by simp[zE],by simp[zE]⟩
section
variable {N:Nat} {x:TEnv}
theorem lrefs_len {a:TLocals} (h:LBp a):(bif locV a then liveS a.Slots else []).length<=4096:=by
 cases hv:locV a
 ·simp
 ·have hf:=locV_iff.1 hv
  have:=hf.slots
  have:=hf.iss
  have:=liveS_len a.Slots
  simp only[cond_true];omega
theorem trefs_len (l:List TEntry):(bif tabV l then liveT l else []).length<=64:=by
 cases hv:tabV l
 ·simp
 ·have:=tabV_len hv
  have:=liveT_len l
  simp only[cond_true];omega
structure EV (N:Nat) (x:TEnv):Prop where
 mat:MatchQ N x.Heap x.Pins
 loc:locV x.Locals=true
 glo:tabV x.Globals.Entries=true
 wea:tabV x.Weaks.Entries=true
theorem evalid_ok (hN:NB N) (hx:EB x):Ok (Qc4 N x) fun b=>b=true->EV N x:=by
 have hN':=hN
 unfold NB at hN'
 have hr:=hx.roots
 rw[Qc4]
 refine Ok.bnd (match_ok hN hx.heap hx.pins) fun b _ hm=>Ok.bif (fun _=>Ok.some fun e=>by cases e) fun hb1=>?_
 have hm:=hm (by simpa using hb1)
 rw[lval_eq hx.loc (by omega),bnd_eq]
 refine Ok.bif (fun _=>Ok.some fun e=>by cases e) fun h1=>?_
 rw[tval_eq hx.glo (by omega),bnd_eq]
 refine Ok.bif (fun _=>Ok.some fun e=>by cases e) fun h2=>?_
 rw[tval_eq hx.wea (by omega),bnd_eq]
 refine Ok.bif (fun _=>Ok.some fun e=>by cases e) fun h3=>?_
 rw[trefs_eq hx.glo (by omega),bnd_eq]
 have l1:=lrefs_len hx.loc
 have l2:=trefs_len x.Globals.Entries
 have l3:=trefs_len x.Weaks.Entries
 rw[has_eq _ (by omega) (by omega),bnd_eq]
 refine Ok.bif (fun _=>Ok.some fun e=>by cases e) fun _=>Ok.grd (by omega) ?_
 rw[lrefs_eq hx.loc (by omega),bnd_eq]
 refine Ok.grd (by omega) (Ok.grd (by omega) ?_)
 rw[trefs_eq hx.wea (by omega),bnd_eq]
 refine Ok.grd (by omega) (Ok.bnd (refers_ok hN hx.heap (by simp only[List.length_append];omega)) fun b _ _=>Ok.some fun _=>⟨hm,by simpa using h1,by simpa using h2,by simpa using h3⟩)
theorem estrong_l1 (hp:x.Pins.length<=1000000):∀ (n:Nat) (k:Int) (v:List Int),0<=k->k<=x.Pins.length->(x.Pins.length-k).toNat<n->v.length<=1000000+k->Ok (Qa1 N x n k v) fun r=>(r.length:Int)=v.length+(x.Pins.length-k)
 | 0,k,v,_,_,hn,_=>by omega
 | n+1,k,v,h0,hk,hn,hv=>by
  rw[Qa1]
  refine Ok.bif (fun hc=>?_) fun hc=>Ok.some (by have:=of_decide_eq_false hc;omega)
  have hc:k<x.Pins.length:=of_decide_eq_true hc
  rw[wI_id (n:=k+1) (by omega) (by omega)]
  refine Ok.get h0 hc fun p _=>Ok.grd (by omega) ?_
  refine (estrong_l1 hp n (k+1) _ (by omega) (by omega) (by omega) (by rw[List.length_append];simp;omega)).mono fun r hr=>?_
  rw[hr,List.length_append];simp;omega
theorem estrong_ok (hN:NB N) (hx:EB x):Ok (Qdt N x) fun r=>r.length=x.Roots.length+(bif locV x.Locals then liveS x.Locals.Slots else []).length+(bif tabV x.Globals.Entries then liveT x.Globals.Entries else []).length+x.Pins.length:=by
 have hN':=hN
 unfold NB at hN'
 have hr:=hx.roots
 have hp:=hx.pins
 have l1:=lrefs_len hx.loc
 have l2:=trefs_len x.Globals.Entries
 rw[Qdt]
 refine Ok.grd (by omega) ?_
 rw[lrefs_eq hx.loc (by omega),bnd_eq]
 refine Ok.grd (by omega) ?_
 rw[trefs_eq hx.glo (by omega),bnd_eq]
 refine Ok.grd (by omega) (Ok.bnd (estrong_l1 hp N 0 _ (by omega) (by omega) (by omega) (by simp only[List.length_append];omega)) fun r _ hr=>Ok.some ?_)
 simp only[List.length_append] at hr
 omega
theorem ecol_l1 (y4:THeap×List Int×List Int×TReport×Int) (y5 y6:List Int) (y7:TLocals×Int) (y8 y9:TTable×Int) (hp:x.Pins.length<=1000000) (hr:x.Roots.length<=100000) (h5:y5.length<=4096) (h6:y6.length<=64) (h4:y4.2.1.length=x.Roots.length+y5.length+y6.length+x.Pins.length):∀ (n:Nat) (k:Int) (v:List TPin),0<=k->k<=x.Pins.length->(x.Pins.length-k).toNat<n->(v.length:Int)=k->Ok (QaN N x y4 y5 y6 y7 y8 y9 n k v) fun r=>r.length=x.Pins.length
 | 0,k,v,_,_,hn,_=>by omega
 | n+1,k,v,h0,hk,hn,hv=>by
  rw[QaN]
  refine Ok.bif (fun hc=>?_) fun hc=>Ok.some (by have:=of_decide_eq_false hc;omega)
  have hc:k<x.Pins.length:=of_decide_eq_true hc
  rw[wI_id (n:=k+1) (by omega) (by omega),wI_id (n:=((x.Roots.length:Nat):Int)+((y5.length:Nat):Int)) (by omega) (by omega),wI_id (n:=((x.Roots.length:Nat):Int)+((y5.length:Nat):Int)+((y6.length:Nat):Int)) (by omega) (by omega),wI_id (n:=((x.Roots.length:Nat):Int)+((y5.length:Nat):Int)+((y6.length:Nat):Int)+k) (by omega) (by omega)]
  refine Ok.get (by omega) (by omega) fun _ _=>Ok.get h0 hc fun p _=>Ok.grd (by omega) ?_
  exact ecol_l1 y4 y5 y6 y7 y8 y9 hp hr h5 h6 h4 n (k+1) _ (by omega) (by omega) (by omega) (by rw[List.length_append];simp;omega)
theorem ecollect_ok (hN:NB N) (hx:EB x):Ok (Qcb N x) fun r=>EB r.1:=by
 have hN':=hN
 unfold NB at hN'
 have hr:=hx.roots
 have hp:=hx.pins
 rw[Qcb]
 refine Ok.bnd (evalid_ok hN hx) fun b _ hv=>Ok.bif (fun _=>Ok.some EB_zE) fun hb1=>?_
 have hv:=hv (by simpa using hb1)
 have h64:=hv.mat.len
 have l1:=lrefs_len hx.loc
 have l2:=trefs_len x.Globals.Entries
 have l3:=trefs_len x.Weaks.Entries
 refine Ok.bnd (estrong_ok hN hx) fun y2 _ h2=>?_
 rw[hv.loc,hv.glo] at h2
 rw[hv.loc] at l1
 rw[hv.glo] at l2
 rw[trefs_eq hx.wea (by omega),bnd_eq]
 rw[hv.wea] at l3 ⊢
 simp only[cond_true] at h2 l1 l2 l3 ⊢
 refine Ok.bnd (collect_ok hN hx.heap (by omega) (by omega)) fun y4 _ h4=>Ok.bif (fun _=>Ok.some EB_zE) fun he=>?_
 obtain ⟨g1,g2⟩:=h4.len (by simpa using he)
 rw[lrefs_eq hx.loc (by omega),bnd_eq,trefs_eq hx.glo (by omega),bnd_eq,hv.loc,hv.glo]
 simp only[cond_true]
 have e1:=wI_id (n:=((x.Roots.length:Nat):Int)+(((liveS x.Locals.Slots).length:Nat):Int)) (by omega) (by omega)
 have e2:=wI_id (n:=((x.Roots.length:Nat):Int)+(((liveS x.Locals.Slots).length:Nat):Int)+(((liveT x.Globals.Entries).length:Nat):Int)) (by omega) (by omega)
 refine Ok.grd (by omega) (Ok.grd (by omega) (Ok.grd (by omega) (Ok.grd (by rw[e1];omega) ?_)))
 refine Ok.bnd (lmove_ok hx.loc (by omega) (by rw[List.length_take,List.length_drop];omega)) fun y7 _ h7=>Ok.grd (by rw[e1,e2];omega) ?_
 refine Ok.bnd (tmove_ok hx.glo (by omega) (by rw[List.length_take,List.length_drop];omega)) fun y8 _ h8=>?_
 refine Ok.bnd (tmove_ok hx.wea (by omega) (by omega)) fun y9 _ h9=>?_
 refine Ok.bnd (ecol_l1 y4 (liveS x.Locals.Slots) (liveT x.Globals.Entries) y7 y8 y9 hp hr l1 l2 (by omega) N 0 [] (by omega) (by omega) (by omega) rfl) fun y14 _ h14=>Ok.some ⟨h4.hb,h7,h8,h9,?_,?_⟩
 ·show y14.length<=_;omega
 ·show (y4.2.1.take _).length<=_
  rw[List.length_take];omega
theorem ealloc_ok (hN:NB N) (hx:EB x) (d:THeader):Ok (QdU N x d) fun r=>EB r.1:=by
 rw[QdU]
 refine Ok.bnd (evalid_ok hN hx) fun b _ hv=>Ok.bif (fun _=>Ok.some EB_zE) fun hb1=>?_
 refine Ok.bnd (new_okp hN hx.heap d) fun y2 _ h2=>Ok.jn (Ok.bif (fun _=>Ok.bnd (ecollect_ok hN hx) fun y3 _ h3=>Ok.bif (fun _=>Ok.some EB_zE) fun _=>Ok.bnd (new_okp hN h3.heap d) fun y4 _ h4=>?_) fun _=>?_)
 ·exact Ok.bif (fun _=>Ok.some EB_zE) fun _=>Ok.some ⟨h4,h3.loc,h3.glo,h3.wea,h3.pins,h3.roots⟩
 ·exact Ok.bif (fun _=>Ok.some EB_zE) fun _=>Ok.some ⟨h2,hx.loc,hx.glo,hx.wea,hx.pins,hx.roots⟩
theorem eresolve_ok (hN:NB N) (hx:EB x) (v:Int):Ok (QaH N x v) fun r=>True:=by
 have hN':=hN
 unfold NB at hN'
 rw[QaH]
 refine Ok.bnd (evalid_ok hN hx) fun b _ hv=>Ok.bif (fun _=>Ok.some trivial) fun hb1=>Ok.bif (fun _=>Ok.some trivial) fun _=>?_
 refine Ok.bnd (decode_ok v) fun y _ _=>Ok.bif (fun _=>Ok.some trivial) fun _=>Ok.bif (fun _=>?_) fun _=>Ok.bif (fun _=>?_) fun _=>?_
 ·rw[lget_eq hx.loc (by omega),bnd_eq];exact Ok.some trivial
 ·rw[tget_eq hx.glo (by omega),bnd_eq];exact Ok.some trivial
 ·rw[tget_eq hx.wea (by omega),bnd_eq];exact Ok.some trivial
end
end Go.Sx
namespace Go.Sx
theorem Ok.j1 {β κ:Type} {P:β->Prop} {k:κ->Option β} {f:(κ->Option β)->Option β} (h:∀ x,Ok (k x) P) (g:∀ j:κ->Option β,(∀ x,Ok (j x) P)->Ok (f j) P):Ok (Sx.jn k f) P:=by rw[jn_eq];exact g k h
theorem Ok.bb {β:Type} {P:β->Prop} {b:Bool} {x y:Option β} (h1:Ok x P) (h2:Ok y P):Ok (bif b then x else y) P:=by cases b;exact h2;exact h1
theorem Ok.b_ {α β:Type} {P:β->Prop} {o:Option α} {Q:α->Prop} {f:α->Option β} (h:Ok o Q) (k:∀ y,Q y->Ok (f y) P):Ok (Sx.bnd o f) P:=Ok.bnd h fun y _ hq=>k y hq
theorem Ok.t {α:Type} {o:Option α} {P:α->Prop} (h:Ok o P):Ok o fun _=>True:=h.mono fun _ _=>trivial
section
variable {N:Nat} {x:TEnv}
abbrev EP (r:TEnv×Int×Int):Prop:=EB r.1
theorem failed_ok (e:Int):Ok (Qab N e) EP:=by rw[Qab];exact Ok.some EB_zE
theorem failed3_ok (e:Int):Ok (bnd (Qab N e) fun y=>some (y.1,y.2.1,y.2.2)) EP:=Ok.b_ (failed_ok e) fun y hy=>Ok.some hy
theorem asked_ok (a b c:Int):Ok (Qbo N a b c) fun _=>True:=by
 rw[Qbo]
 exact Ok.bb (Ok.bb (Ok.some trivial) (Ok.some trivial)) (Ok.some trivial)
theorem elocal_ok (hN:NB N) (hx:EB x) (a:Int):Ok (QbU N x a) EP:=by
 have hN':=hN
 unfold NB at hN'
 rw[QbU]
 refine Ok.bb (Ok.some hx) ?_
 rw[lnew_eq hx.loc (by omega),bnd_eq]
 exact Ok.bb (failed3_ok _) (Ok.b_ (encode_ok _) fun y _=>Ok.some ⟨hx.heap,lnew_LB hx.loc a,hx.glo,hx.wea,hx.pins,hx.roots⟩)
theorem ecreate_ok (hN:NB N) (hx:EB x) (a b c:Int):Ok (Qdu N x a b c) EP:=by
 have hN':=hN
 unfold NB at hN'
 rw[Qdu]
 refine Ok.bb (failed3_ok _) (Ok.b_ (asked_ok _ _ _) fun y _=>Ok.jn (Ok.bb (failed3_ok _) (Ok.b_ (asks_ok hN _ _) fun z _=>Ok.bb (failed3_ok _) ?_)))
 rw[lnew_eq hx.loc (by omega),bnd_eq]
 exact Ok.bb (failed3_ok _) (Ok.b_ (ealloc_ok hN hx _) fun y7 h7=>Ok.bb (failed3_ok _) (Ok.b_ (elocal_ok hN h7 _) fun y9 h9=>Ok.some h9))
theorem ething_ok (hN:NB N) (hx:EB x) (a:Int):Ok (QbV N x a) fun _=>True:=by
 rw[QbV]
 exact Ok.b_ (eresolve_ok hN hx a) fun y _=>Ok.bb (Ok.bb (Ok.some trivial) (Ok.some trivial)) (Ok.some trivial)
theorem efield_ok (hN:NB N) (hx:EB x) (a b:Int) (c:Bool):Ok (Qc8 N x a b c) fun _=>True:=by
 rw[Qc8]
 refine Ok.b_ (ething_ok hN hx a) fun y _=>Ok.bb (Ok.some trivial) (Ok.b_ (get_ok hN hx.heap _) fun z _=>Ok.bb (Ok.some trivial) ?_)
 rw[ptrH_eq,bnd_eq]
 exact Ok.bb (Ok.some trivial) (Ok.some trivial)
theorem ewords_ok (hN:NB N) (hx:EB x) (a b c d:Int):Ok (QdV N x a b c d) EP:=by
 rw[QdV]
 have sf:∀ i j v:Int,Ok (α:=TEnv×Int×Int) (bnd (QbP N x.Heap i j v) fun y12=>some ((TEnv.mk y12.1 x.Locals x.Globals x.Weaks x.Pins x.Roots),0,0)) EP:=fun i j v =>
  Ok.b_ (setField_ok hN hx.heap i j v) fun y hy=>Ok.some ⟨hy,hx.loc,hx.glo,hx.wea,hx.pins,hx.roots⟩
 refine Ok.jn (Ok.bb (Ok.b_ (efield_ok hN hx _ _ _) fun y _=>?_) (Ok.b_ (efield_ok hN hx _ _ _) fun y _=>?_))<;>
 exact Ok.bb (failed3_ok _) (Ok.b_ (field_ok hN hx.heap _ _) fun z _=>Ok.bb (Ok.some hx) (Ok.bb (Ok.b_ (elocal_ok hN hx _) fun y8 h8=>Ok.some h8) (Ok.jn (Ok.bb (Ok.b_ (eresolve_ok hN hx _) fun y9 _=>Ok.bb (failed3_ok _) (sf _ _ _)) (sf _ _ _)))))
theorem eplain_ok (hN:NB N) (hx:EB x) (a b c:Int):Ok (QdW N x a b c) EP:=by
 rw[QdW]
 refine Ok.j1 (fun b1=>Ok.bb (Ok.b_ (ething_ok hN hx _) fun y _=>Ok.bb (failed3_ok _) (Ok.b_ (get_ok hN hx.heap _) fun z _=>Ok.bb (Ok.some hx) (Ok.some hx))) (Ok.bb (Ok.b_ (eresolve_ok hN hx _) fun y _=>Ok.bb (failed3_ok _) (Ok.b_ (eresolve_ok hN hx _) fun z _=>Ok.bb (failed3_ok _) (Ok.bb (Ok.some hx) (Ok.some hx)))) (Ok.b_ (eresolve_ok hN hx _) fun y _=>Ok.bb (failed3_ok _) (Ok.b_ (elocal_ok hN hx _) fun z hz=>Ok.some hz)))) fun j hj=>Ok.bb (hj _) (hj _)
theorem elasting_ok (hN:NB N) (hx:EB x) (a b:Int):Ok (QcL N x a b) EP:=by
 have hN':=hN
 unfold NB at hN'
 rw[QcL]
 refine Ok.b_ (ething_ok hN hx _) fun y _=>Ok.bb (failed3_ok _) (Ok.jn (Ok.bb ?_ ?_))
 ·show Ok (bnd (Qbx N ⟨x.Weaks.Entries⟩ y.1) _) EP;rw[tnew_eq (t:=⟨x.Weaks.Entries⟩) hx.wea (by omega),bnd_eq]
  have h:=tnew_TB (t:=⟨x.Weaks.Entries⟩) hx.wea y.1
  exact Ok.bb (failed3_ok _) (Ok.jn (Ok.bb (Ok.b_ (encode_ok _) fun z _=>Ok.some ⟨hx.heap,hx.loc,hx.glo,h,hx.pins,hx.roots⟩) (Ok.b_ (encode_ok _) fun z _=>Ok.some ⟨hx.heap,hx.loc,h,hx.wea,hx.pins,hx.roots⟩)))
 ·show Ok (bnd (Qbx N ⟨x.Globals.Entries⟩ y.1) _) EP;rw[tnew_eq (t:=⟨x.Globals.Entries⟩) hx.glo (by omega),bnd_eq]
  have h:=tnew_TB (t:=⟨x.Globals.Entries⟩) hx.glo y.1
  exact Ok.bb (failed3_ok _) (Ok.jn (Ok.bb (Ok.b_ (encode_ok _) fun z _=>Ok.some ⟨hx.heap,hx.loc,hx.glo,h,hx.pins,hx.roots⟩) (Ok.b_ (encode_ok _) fun z _=>Ok.some ⟨hx.heap,hx.loc,h,hx.wea,hx.pins,hx.roots⟩)))
theorem eremove_ok (hN:NB N) (hx:EB x) (a b:Int):Ok (Qdv N x a b) EP:=by
 have hN':=hN
 unfold NB at hN'
 rw[Qdv]
 refine Ok.bb (failed3_ok _) (Ok.b_ (eresolve_ok hN hx _) fun y _=>Ok.bb (failed3_ok _) (Ok.b_ (decode_ok _) fun z _=>Ok.j1 (fun _=>Ok.bb ?_ (Ok.bb ?_ ?_)) fun j2 h2=>Ok.j1 (fun _=>failed3_ok _) fun j1 h1=>?_))
 ·rw[ldel_eq hx.loc (by omega),bnd_eq];exact Ok.some ⟨hx.heap,ldel_LB hx.loc _ _,hx.glo,hx.wea,hx.pins,hx.roots⟩
 ·rw[tdel_eq hx.glo (by omega),bnd_eq];exact Ok.some ⟨hx.heap,hx.loc,tdel_TB hx.glo _ _,hx.wea,hx.pins,hx.roots⟩
 ·rw[tdel_eq hx.wea (by omega),bnd_eq];exact Ok.some ⟨hx.heap,hx.loc,hx.glo,tdel_TB hx.wea _ _,hx.pins,hx.roots⟩
 ·repeat' first
   | exact h1 _
   | exact h2 _
   | refine Ok.bb ?_ ?_
theorem escopes_ok (hN:NB N) (hx:EB x) (a b:Int):Ok (Qdw N x a b) EP:=by
 have hN':=hN
 unfold NB at hN'
 rw[Qdw]
 refine Ok.bb (Ok.bb (failed3_ok _) ?_) (Ok.b_ (eresolve_ok hN hx _) fun y _=>Ok.bb (failed3_ok _) ?_)
 ·rw[lpush_eq hx.loc (by omega),bnd_eq]
  exact Ok.bb (failed3_ok _) (Ok.some ⟨hx.heap,lpush_LB hx.loc _,hx.glo,hx.wea,hx.pins,hx.roots⟩)
 ·rw[lpop_eq hx.loc (by omega),bnd_eq]
  exact Ok.bb (failed3_ok _) (Ok.b_ (elocal_ok hN (x:=⟨x.Heap,(locPop x.Locals).1,x.Globals,x.Weaks,x.Pins,x.Roots⟩) ⟨hx.heap,lpop_LB hx.loc,hx.glo,hx.wea,hx.pins,hx.roots⟩ _) fun z hz=>Ok.some hz)
theorem epins_ok (hN:NB N) (hx:EB x) (a b:Int):Ok (Qem N x a b) EP:=by
 rw[Qem]
 refine Ok.b_ (ething_ok hN hx _) fun y _=>Ok.bb (failed3_ok _) (Ok.bb (Ok.b_ (release_ok hN hx.heap hx.pins _) fun z hz=>Ok.bb (failed3_ok _) (Ok.some ⟨hz.1,hx.loc,hx.glo,hx.wea,hz.2,hx.roots⟩)) (Ok.b_ (pinGet_ok hN hx.heap hx.pins _) fun z hz=>Ok.bb (failed3_ok _) (Ok.some ⟨hz.1,hx.loc,hx.glo,hx.wea,hz.2,hx.roots⟩)))
theorem ecall_ok (hN:NB N) (hx:EB x) (op a b c:Int):Ok (Qen N x op a b c) EP:=by
 rw[Qen]
 have thr:∀ {o:Option (TEnv×Int×Int)},Ok o EP->Ok (bnd o fun y=>some (y.1,y.2.1,y.2.2)) EP:=fun h=>Ok.b_ h fun y hy=>Ok.some hy
 refine Ok.b_ (evalid_ok hN hx) fun b1 _=>Ok.bb (failed3_ok _) ?_
 refine Ok.j1 (fun x1=>Ok.bb (thr (ecreate_ok hN hx _ _ _)) ?_) fun j2 h2=>?_
 ·refine Ok.j1 (fun x1=>Ok.bb (thr (ewords_ok hN hx _ _ _ _)) ?_) fun j h=>?_
  ·refine Ok.j1 (fun x1=>Ok.bb (thr (eplain_ok hN hx _ _ _)) ?_) fun j h=>?_
   ·refine Ok.j1 (fun x1=>Ok.bb (thr (elasting_ok hN hx _ _)) ?_) fun j h=>?_
    ·refine Ok.j1 (fun x1=>Ok.bb (thr (eremove_ok hN hx _ _)) ?_) fun j h=>?_
     ·refine Ok.j1 (fun x1=>Ok.bb (thr (escopes_ok hN hx _ _)) ?_) fun j h=>?_
      ·refine Ok.j1 (fun x1=>Ok.bb (thr (epins_ok hN hx _ _)) (failed3_ok _)) fun j h=>Ok.bb (h _) (h _)
      ·exact Ok.bb (h _) (h _)
     ·exact Ok.bb (h _) (Ok.j1 (fun x1=>h _) fun j h=>Ok.bb (h _) (h _))
    ·exact Ok.bb (h _) (h _)
   ·exact Ok.bb (h _) (Ok.j1 (fun x1=>h _) fun j h=>Ok.bb (h _) (Ok.j1 (fun x1=>h _) fun j h=>Ok.bb (h _) (h _)))
  ·exact Ok.bb (h _) (Ok.j1 (fun x1=>h _) fun j h=>Ok.bb (h _) (Ok.j1 (fun x1=>h _) fun j h=>Ok.bb (h _) (h _)))
 ·exact Ok.bb (h2 _) (Ok.j1 (fun x1=>h2 _) fun j h=>Ok.bb (h _) (h _))
end
end Go.Sx
namespace Go.Sx
structure WB (k:Nat) (w:TWorld):Prop where
 kk:k<=900
 things:w.Things.length<=k
 fields:∀ x∈w.Things,x.Fields.length<=1000
 loc:LBp w.Locals
 gloK:w.Globals.Entries.length<=1000+k
 weaK:w.Weaks.Entries.length<=1000+k
 marksK:w.Marks.length<=100+k
 rootsK:w.Roots.length<=100+k
theorem WB.glo {k:Nat} {w:TWorld} (h:WB k w):TB w.Globals:=by have:=h.kk;have:=h.gloK;unfold TB;omega
theorem WB.wea {k:Nat} {w:TWorld} (h:WB k w):TB w.Weaks:=by have:=h.kk;have:=h.weaK;unfold TB;omega
theorem WB.marks {k:Nat} {w:TWorld} (h:WB k w):w.Marks.length<=1000:=by have:=h.kk;have:=h.marksK;omega
theorem WB.roots {k:Nat} {w:TWorld} (h:WB k w):w.Roots.length<=1000:=by have:=h.kk;have:=h.rootsK;omega
def refsF (d:THeader):Nat->List Int->List Int
 | _,[]=>[]
 | k,f::fs=>if ptrH d k then f::refsF d (k+1) fs else refsF d (k+1) fs
def refsT (x:TThing):List Int:=refsF x.Header 0 x.Fields
theorem refsF_len (d:THeader):∀ (k:Nat) (l:List Int),(refsF d k l).length<=l.length
 | k,[]=>by simp[refsF]
 | k,f::fs=>by
  have:=refsF_len d (k+1) fs
  unfold refsF
  split<;>simp<;>omega
def withinW (n:Nat) (l:List Int):Bool:=l.all fun p=>!decide (p>(n:Int))
def markI (l:List TMark) (id:Int):Int:=match l.findIdx? (fun m=>m.Id==id) with | some k=>(k:Int) | none=>-1
def thingV (n:Nat) (x:TThing):Bool:=validH x.Header&&(!(x.Header.Kind==0)&&(!(((x.Fields.length:Nat):Int) != x.Header.Length)&&withinW n (refsT x)))
def markQ (n:Nat) (l:List TMark) (_:Unit) (i:Nat) (m:TMark):Bool:=!decide (m.Id<1)&&(!decide (m.Id>(n:Int))&&(!(markI l m.Id != (i:Int))&&(!decide (m.Count<1)&&!decide (m.Count>1000))))
def marksV (n:Nat) (l:List TMark):Bool:=foldAll (markQ n l) (fun s _=>s) () 0 l
def worldV (w:TWorld):Bool:=vconf w.Conf&&(locV w.Locals&&(tabV w.Globals.Entries&&(tabV w.Weaks.Entries&&(!decide (((w.Marks.length:Nat):Int)>64)&&(w.Things.all (thingV w.Things.length)&&(((liveT w.Globals.Entries).all fun p=>!(p==0))&&(marksV w.Things.length w.Marks&&(withinW w.Things.length w.Roots&&(withinW w.Things.length (liveS w.Locals.Slots)&&(withinW w.Things.length (liveT w.Globals.Entries)&&withinW w.Things.length (liveT w.Weaks.Entries)))))))))))
section
variable {N:Nat} {w:TWorld}
theorem within_eq (ht:w.Things.length<=1000) {l:List Int} (hl:l.length<=1000000) (hN:1000000<N):QbY N w l=some (withinW w.Things.length l):=by
 have h:=allLoop (l:=l) (F:=QbX N w l) (q:=fun _ p=>!decide (p>(w.Things.length:Int))) (fun n k p e=>by
  have hk:=lt_of_some e
  rw[QbX,dlt_true hk,cond_true,getI_nat,e,bnd_eq,wI_succ (by omega),wU_id (by omega) (by omega)]
  cases decide (p>(w.Things.length:Int))<;>rfl) (fun n=>by rw[QbX,dlt_false,cond_false]) (n:=N) (by omega)
 rw[foldAll_all] at h
 rw[QbY,h,bnd_eq,withinW]
 cases l.all fun p=>!decide (p>(w.Things.length:Int))
 ·rw[cond_false,exK_ret]
 ·rw[cond_true,exK_nxt]
theorem wrefs_l1 {x:TThing} (hl:x.Fields.length<=1000000):∀ (n k:Nat) (v:List Int),k<=x.Fields.length->x.Fields.length-k<n->v.length<=k->QcE N x n (k:Int) v=some (v++refsF x.Header k (x.Fields.drop k))
 | 0,k,v,_,hn,_=>by omega
 | n+1,k,v,hk,hn,hlv=>by
  rw[QcE]
  by_cases h:k<x.Fields.length
  ·rw[dlt_true h,cond_true,ptrH_eq,bnd_eq,wI_succ (by omega),List.drop_eq_getElem_cons h,refsF]
   cases hp:ptrH x.Header (k:Int)
   ·rw[cond_false,if_neg (by simp),wrefs_l1 hl n (k+1) v (by omega) (by omega) (by omega)]
   ·rw[cond_true,if_pos rfl,getI_nat,List.getElem?_eq_getElem h,bnd_eq,grd_eq (by omega),wrefs_l1 hl n (k+1) _ (by omega) (by omega) (by rw[List.length_append];simp;omega)]
    simp
  ·obtain rfl:k=x.Fields.length:=by omega
   rw[dlt_false,cond_false,List.drop_eq_nil_of_le (Nat.le_refl _)]
   simp[refsF]
theorem wrefs_eq {x:TThing} (hl:x.Fields.length<=1000000) (hN:1000000<N):Qcs N x=some (refsT x):=by
 have h:=wrefs_l1 (N:=N) (x:=x) hl N 0 [] (by omega) (by omega) (by simp)
 rw[show ((0:Nat):Int)=0 from rfl,List.drop_zero,List.nil_append] at h
 rw[Qcs,h,bnd_eq];rfl
theorem mark_l1 (id:Int) (hl:w.Marks.length<=1000000):∀ (n k:Nat),k<=w.Marks.length->w.Marks.length-k<n->Qdz N w id n (k:Int)=some (match (w.Marks.drop k).findIdx? (fun m=>m.Id==id) with | some j=>.ret ((k+j:Nat):Int) | none=>.nxt ())
 | 0,k,_,hn=>by omega
 | n+1,k,hk,hn=>by
  rw[Qdz]
  by_cases h:k<w.Marks.length
  ·rw[dlt_true h,cond_true,getI_nat,List.getElem?_eq_getElem h,bnd_eq,wI_succ (by omega),List.drop_eq_getElem_cons h,List.findIdx?_cons]
   cases hm:(w.Marks[k].Id==id)
   ·rw[cond_false,mark_l1 id hl n (k+1) (by omega) (by omega),if_neg (by simp)]
    cases (w.Marks.drop (k+1)).findIdx? (fun m=>m.Id==id) with
    | none=>rfl
    | some j=>simp only[Option.map_some];rw[show k+1+j=k+(j+1) by omega]
   ·rw[cond_true,if_pos rfl];simp
  ·obtain rfl:k=w.Marks.length:=by omega
   rw[dlt_false,cond_false,List.drop_eq_nil_of_le (Nat.le_refl _)]
   rfl
theorem mark_eq (hl:w.Marks.length<=1000000) (hN:1000000<N) (id:Int):Qeb N w id=some (markI w.Marks id):=by
 have h:=mark_l1 (N:=N) id hl N 0 (by omega) (by omega)
 rw[show ((0:Nat):Int)=0 from rfl,List.drop_zero] at h
 rw[Qeb,h,bnd_eq,markI]
 cases w.Marks.findIdx? (fun m=>m.Id==id) with
 | none=>simp only[exK_nxt]
 | some j=>simp only[exK_ret,Nat.zero_add]
theorem liveS_of {a:TLocals} (h:locV a=true):(liveS a.Slots).length<=4096:=by
 have hf:=locV_iff.1 h
 have:=hf.slots
 have:=hf.iss
 have:=liveS_len a.Slots
 omega
theorem liveT_of {l:List TEntry} (h:tabV l=true):(liveT l).length<=64:=by
 have:=tabV_len h
 have:=liveT_len l
 omega
theorem wval_eq {k:Nat} (hw:WB k w) (hN:1000000<N):Qc1 N w=some (worldV w):=by
 have hk:=hw.kk
 have ht:=hw.things
 have hm:=hw.marks
 have hr:=hw.roots
 rw[Qc1,vconf_eq,bnd_eq,worldV]
 cases vconf w.Conf
 ·rfl
 rw[Bool.not_true,cond_false,lval_eq hw.loc hN,bnd_eq,Bool.true_and]
 cases hv1:locV w.Locals
 ·rfl
 rw[Bool.not_true,cond_false,tval_eq hw.glo hN,bnd_eq,Bool.true_and]
 cases hv2:tabV w.Globals.Entries
 ·rfl
 rw[Bool.not_true,cond_false,tval_eq hw.wea hN,bnd_eq,Bool.true_and]
 cases hv3:tabV w.Weaks.Entries
 ·rfl
 rw[Bool.not_true,cond_false,Bool.true_and]
 cases decide (((w.Marks.length:Nat):Int)>64)
 rotate_left
 ·rfl
 rw[cond_false,Bool.not_false,Bool.true_and]
 have h1:=allLoop (l:=w.Things) (F:=Qci N w) (q:=fun _=>thingV w.Things.length) (fun n k p e=>by
  have hk:=lt_of_some e
  have hpf:=hw.fields p (List.mem_of_getElem? e)
  have hrl:=refsF_len p.Header 0 p.Fields
  rw[Qci,dlt_true hk,cond_true,getI_nat,e,bnd_eq,validH_eq,bnd_eq,wrefs_eq (by omega) hN,bnd_eq,within_eq (by omega) (by unfold refsT;omega) hN,bnd_eq,wI_succ (by omega)]
  unfold thingV
  cases validH p.Header<;>cases (p.Header.Kind==0)<;>cases (((p.Fields.length:Nat):Int) != p.Header.Length)<;>cases withinW w.Things.length (refsT p)<;>rfl) (fun n=>by rw[Qci,dlt_false,cond_false]) (n:=N) (by omega)
 rw[foldAll_all] at h1
 rw[h1,bnd_eq]
 cases w.Things.all (thingV w.Things.length)
 ·rw[cond_false,exK_ret];rfl
 rw[cond_true,exK_nxt,trefs_eq hw.glo hN,bnd_eq,hv2,cond_true,Bool.true_and]
 have g64:=liveT_of hv2
 have h2:=allLoop (l:=liveT w.Globals.Entries) (F:=Qcj N w (liveT w.Globals.Entries)) (q:=fun _ p=>!(p==0)) (fun n k p e=>by
  have hk:=lt_of_some e
  rw[Qcj,grd_eq (by omega),dlt_true hk,cond_true,getI_nat,e,bnd_eq,wI_succ (by omega)]
  cases (p==0)<;>rfl) (fun n=>by rw[Qcj,grd_eq (by omega),dlt_false,cond_false]) (n:=N) (by omega)
 rw[foldAll_all] at h2
 rw[h2,bnd_eq]
 cases (liveT w.Globals.Entries).all fun p=>!(p==0)
 ·rw[cond_false,exK_ret];rfl
 rw[cond_true,exK_nxt,Bool.true_and]
 have h3:=allLoop (l:=w.Marks) (F:=Qck N w (liveT w.Globals.Entries)) (q:=markQ w.Things.length w.Marks ()) (fun n k p e=>by
  have hk:=lt_of_some e
  rw[Qck,dlt_true hk,cond_true,getI_nat,e,bnd_eq,mark_eq (by omega) hN,bnd_eq,wI_succ (by omega),wU_id (by omega) (by omega)]
  unfold markQ
  cases decide (p.Id<1)<;>cases decide (p.Id>(w.Things.length:Int))<;>cases (markI w.Marks p.Id != (k:Int))<;>cases decide (p.Count<1)<;>cases decide (p.Count>1000)<;>rfl) (fun n=>by rw[Qck,dlt_false,cond_false]) (n:=N) (by omega)
 rw[h3,bnd_eq]
 show exK (bif marksV w.Things.length w.Marks then Ex.nxt () else Ex.ret false) _ _=_
 cases marksV w.Things.length w.Marks
 ·rw[cond_false,exK_ret];rfl
 rw[cond_true,exK_nxt,within_eq (by omega) (by omega) hN,bnd_eq,Bool.true_and]
 cases withinW w.Things.length w.Roots
 ·rfl
 have s1:=liveS_of hv1
 rw[cond_true,lrefs_eq hw.loc hN,bnd_eq,hv1,cond_true,within_eq (by omega) (by omega) hN,bnd_eq,Bool.true_and]
 cases withinW w.Things.length (liveS w.Locals.Slots)
 ·rfl
 rw[cond_true,within_eq (by omega) (by omega) hN,bnd_eq,Bool.true_and]
 cases withinW w.Things.length (liveT w.Globals.Entries)
 ·rfl
 have s3:=liveT_of hv3
 rw[cond_true,trefs_eq hw.wea hN,bnd_eq,hv3,cond_true,within_eq (by omega) (by omega) hN,bnd_eq,Bool.true_and]
end
end Go.Sx
namespace Go.Sx
def decW (v:Int):THandle×Int :=
 if v=0 then (⟨0,0,0⟩,5) else if 1<=v % 4∧1<=v / 262144∧v / 262144<=4294967295 then (⟨v % 4,v / 4 % 65536,v / 262144⟩,0) else (⟨0,0,0⟩,6)
theorem dec_eq {N:Nat} {v:Int} (hv:tU v):Qbh N v=some (decW v):=by
 obtain ⟨h0,h1⟩:=hv
 rw[Qbh,decW]
 by_cases hz:v=0
 ·subst hz;rfl
 rw[show (v==0)=false by simpa using hz,cond_false,if_neg hz]
 have a1:bAnd .u64 v 3=v % 4:=bAnd_mask v 2 (by omega) h0 h1
 have a2:sShr .u64 v 2=v / 4:=sShr_u64 v 2 (by omega) h0
 have a3:bAnd .u64 (v / 4) 65535=v / 4 % 65536:=bAnd_mask (v / 4) 16 (by omega) (by omega) (by omega)
 have a4:sShr .u64 v 18=v / 262144:=sShr_u64 v 18 (by omega) h0
 rw[a2,a1,a3,a4,wI_id (n:=v % 4) (by omega) (by omega),wI_id (n:=v / 4 % 65536) (by omega) (by omega),wI_id (n:=v / 262144) (by omega) (by omega),Qa5,Qe5]
 have s1:∀ x:Int,sShl .u64 x 2=wU (x*4):=fun _=>rfl
 have s2:∀ x:Int,sShl .u64 x 18=wU (x*262144):=fun _=>rfl
 rw[decide_eq_true (show v / 4 % 65536>=0 by omega),decide_eq_true (show v / 4 % 65536<=65535 by omega),decide_eq_true (show v % 4<=3 by omega)]
 simp only[cond_true]
 by_cases g1:v % 4>=1
 ·rw[decide_eq_true g1,cond_true]
  by_cases g2:v / 262144>=1
  ·rw[decide_eq_true g2,cond_true,bnd_eq]
   by_cases g3:v / 262144<=4294967295
   ·rw[decide_eq_true g3,Bool.not_true,cond_false,bnd_eq,if_pos ⟨g1,g2,g3⟩]
    have e:wU (wU (wU (v % 4)+sShl .u64 (wU (v / 4 % 65536)) 2)+sShl .u64 (wU (v / 262144)) 18)=v:=by
     rw[s1,s2,wU_id (n:=v % 4) (by omega) (by omega),wU_id (n:=v / 4 % 65536) (by omega) (by omega),wU_id (n:=v / 262144) (by omega) (by omega),wU_id (n:=v / 4 % 65536*4) (by omega) (by omega),wU_id (n:=v / 262144*262144) (by omega) (by omega),wU_id (n:=v % 4+v / 4 % 65536*4) (by omega) (by omega),wU_id (by omega) (by omega)]
     omega
    simp only[e]
    rw[show ((0:Int) != 0)=false from rfl,cond_false,show (v != v)=false by simp,cond_false]
   ·rw[decide_eq_false g3,Bool.not_false,cond_true,bnd_eq,if_neg (fun h=>g3 h.2.2)];rfl
  ·rw[decide_eq_false g2,cond_false,bnd_eq,Bool.not_false,cond_true,bnd_eq,if_neg (fun h=>g2 h.2.1)];rfl
 ·rw[decide_eq_false g1,cond_false,bnd_eq,Bool.not_false,cond_true,bnd_eq,if_neg (fun h=>g1 h.1)];rfl
def resW (w:TWorld) (v:Int):Int×Int :=
 if v=0 then (0,0) else if (decW v).2≠0 then (0,(decW v).2) else
 if (decW v).1.Tag=1 then locGet w.Locals (decW v).1.Index (decW v).1.Stamp else
 if (decW v).1.Tag=2 then tabGet w.Globals.Entries (decW v).1.Index (decW v).1.Stamp else tabGet w.Weaks.Entries (decW v).1.Index (decW v).1.Stamp
def thingW (w:TWorld) (a:Int):Int×Int:=if (resW w a).2=0∧(resW w a).1=0 then (0,5) else resW w a
structure WF (w:TWorld):Prop where
 conf:vconf w.Conf=true
 loc:locV w.Locals=true
 glo:tabV w.Globals.Entries=true
 wea:tabV w.Weaks.Entries=true
 m64:w.Marks.length<=64
 thing:∀ x∈w.Things,validH x.Header=true∧x.Header.Kind≠0∧(x.Fields.length:Int)=x.Header.Length∧∀ r∈refsT x,r<=w.Things.length
 mark:marksV w.Things.length w.Marks=true
 roots:∀ r∈w.Roots,r<=w.Things.length
 rloc:∀ r∈liveS w.Locals.Slots,r<=w.Things.length
 rglo:∀ r∈liveT w.Globals.Entries,r<=w.Things.length
 rwea:∀ r∈liveT w.Weaks.Entries,r<=w.Things.length
theorem within_iff {n:Nat} {l:List Int}:withinW n l=true↔∀ r∈l,r<=n:=by
 unfold withinW
 simp only[List.all_eq_true,Bool.not_eq_true',decide_eq_false_iff_not]
 exact ⟨fun h r hr=>by have:=h r hr;omega,fun h r hr=>by have:=h r hr;omega⟩
theorem worldV_wf {w:TWorld} (h:worldV w=true):WF w:=by
 unfold worldV at h
 simp only[Bool.and_eq_true,Bool.not_eq_true',decide_eq_false_iff_not] at h
 obtain ⟨h1,h2,h3,h4,h5,h6,h7,h8,h9,h10,h11,h12⟩:=h
 refine ⟨h1,h2,h3,h4,by omega,fun x hx=>?_,h8,within_iff.1 h9,within_iff.1 h10,within_iff.1 h11,within_iff.1 h12⟩
 have:=(List.all_eq_true.1 h6) x hx
 unfold thingV at this
 simp only[Bool.and_eq_true,Bool.not_eq_true',bne_eq_false_iff_eq,beq_eq_false_iff_ne] at this
 exact ⟨this.1,this.2.1,this.2.2.1,within_iff.1 this.2.2.2⟩
theorem WF.mk_ {w:TWorld} (h:WF w) {k:Nat} {m:TMark} (hm:w.Marks[k]? = some m):1<=m.Id∧m.Id<=w.Things.length∧1<=m.Count∧m.Count<=1000:=by
 have:=(foldAll_iff w.Marks () 0).1 h.mark k m hm
 unfold markQ at this
 simp only[Bool.and_eq_true,Bool.not_eq_true',decide_eq_false_iff_not] at this
 obtain ⟨h1,h2,_,h3,h4⟩:=this
 omega
theorem liveS_mem {l:List TSlot} {p:TSlot} (hp:p∈l) (hL:p.Live=true):p.Ref∈liveS l:=by
 unfold liveS;exact List.mem_map.2 ⟨p,List.mem_filter.2 ⟨hp,hL⟩,rfl⟩
theorem liveT_mem {l:List TEntry} {p:TEntry} (hp:p∈l) (hL:p.Live=true):p.Ref∈liveT l:=by
 unfold liveT;exact List.mem_map.2 ⟨p,List.mem_filter.2 ⟨hp,hL⟩,rfl⟩
theorem locGet_bad (a:TLocals) (i g:Int):(locGet a i g).2=0∨(locGet a i g).1=0:=by
 unfold locGet
 split
 ·exact .inr rfl
 split
 ·exact .inr rfl
 split
 ·exact .inr rfl
 split
 ·exact .inr rfl
 split
 ·exact .inr rfl
 split
 ·exact .inr rfl
 split
 ·exact .inl rfl
 ·exact .inr rfl
theorem tabGet_bad (l:List TEntry) (i g:Int):(tabGet l i g).2=0∨(tabGet l i g).1=0:=by
 unfold tabGet
 split
 ·exact .inr rfl
 split
 ·exact .inr rfl
 split
 ·exact .inr rfl
 split
 ·exact .inr rfl
 split
 ·exact .inr rfl
 split
 ·exact .inl rfl
 ·exact .inr rfl
theorem resW_le {w:TWorld} (h:WF w) (v:Int):(resW w v).1<=w.Things.length:=by
 have g:∀ i g,(locGet w.Locals i g).1<=w.Things.length:=by
  intro i g
  by_cases he:(locGet w.Locals i g).2=0
  ·obtain ⟨_,_,p,hp,_,hL,e⟩:=locGet_ok he
   rw[e];exact h.rloc _ (liveS_mem (List.mem_of_getElem? hp) hL)
  ·have:=(locGet_bad w.Locals i g).resolve_left he
   omega
 have t:∀ (t:TTable),(∀ r∈liveT t.Entries,r<=w.Things.length)->∀ i g,(tabGet t.Entries i g).1<=w.Things.length:=by
  intro t ht i g
  by_cases he:(tabGet t.Entries i g).2=0
  ·obtain ⟨_,_,p,hp,_,hL,e⟩:=tabGet_ok he
   rw[e];exact ht _ (liveT_mem (List.mem_of_getElem? hp) hL)
  ·have:=(tabGet_bad t.Entries i g).resolve_left he
   omega
 unfold resW
 split
 ·simp
 split
 ·simp
 split
 ·exact g _ _
 split
 ·exact t _ h.rglo _ _
 ·exact t _ h.rwea _ _
section
variable {N:Nat} {w:TWorld} {k:Nat}
theorem res_eq (hw:WB k w) (hN:1000000<N) (hv:worldV w=true) {v:Int} (tv:tU v):Qao N w v=some (resW w v):=by
 rw[Qao,wval_eq hw hN,bnd_eq,hv,Bool.not_true,cond_false,resW]
 by_cases hz:v=0
 ·rw[if_pos hz,hz];rfl
 rw[if_neg hz,show (v==0)=false by simpa using hz,cond_false,dec_eq tv,bnd_eq]
 by_cases he:(decW v).2=0
 ·rw[he,show ((0:Int) != 0)=false from rfl,cond_false,if_neg (by simp)]
  by_cases h1:(decW v).1.Tag=1
  ·rw[if_pos h1,h1,show ((1:Int)==1)=true from rfl,cond_true,lget_eq hw.loc hN,bnd_eq]
  rw[if_neg h1,show ((decW v).1.Tag==1)=false by simpa using h1,cond_false]
  by_cases h2:(decW v).1.Tag=2
  ·rw[if_pos h2,h2,show ((2:Int)==2)=true from rfl,cond_true,tget_eq hw.glo hN,bnd_eq]
  rw[if_neg h2,show ((decW v).1.Tag==2)=false by simpa using h2,cond_false,tget_eq hw.wea hN,bnd_eq]
 ·rw[show ((decW v).2 != 0)=true by simpa using he,cond_true,if_pos he]
theorem thing_eq (hw:WB k w) (hN:1000000<N) (hv:worldV w=true) {v:Int} (tv:tU v):Qc3 N w v=some (thingW w v):=by
 rw[Qc3,res_eq hw hN hv tv,bnd_eq,thingW]
 by_cases he:(resW w v).2=0
 ·rw[he,show ((0:Int)==0)=true from rfl,cond_true]
  by_cases h1:(resW w v).1=0
  ·rw[h1,if_pos ⟨rfl,rfl⟩];rfl
  ·rw[show ((resW w v).1==0)=false by simpa using h1,cond_false,if_neg (fun h=>h1 h.2)]
   rw[← he]
 ·rw[show ((resW w v).2==0)=false by simpa using he,cond_false,if_neg (fun h=>he h.1)]
end
end Go.Sx
namespace Go.Sx
def zTh:TThing:=⟨⟨0,0,0⟩,[]⟩
def thg (w:TWorld) (id:Int):TThing:=w.Things.getD (id-1).toNat zTh
def localW (a:TLocals) (id:Int):Int:=if id=0 then 0 else (locNew a id).2.2.2
def okW (op a b:Int):Prop:=a<=2147483647∧(op=1->b<=4294967295)
instance (op a b:Int):Decidable (okW op a b):=by unfold okW;infer_instance
def hdW (op a b:Int):THeader:=⟨op,a,if op=1 then b else 0⟩
def asksB (c:TConf) (d:THeader):Bool:=validH d&&(d.Kind != 0&&needC c (sizeH d) != -1)
def createsW (w:TWorld) (op a b:Int) (failed:Bool):Int :=
 if w.Marks.length>0 then 15 else if ¬ okW op a b then 1 else if asksB w.Conf (hdW op a b)=false then 1 else
 if localW w.Locals 1≠0 then localW w.Locals 1 else if failed then 3 else 0
def isRef (op:Int):Bool:=op==8||op==9
def fieldsW (w:TWorld) (op a b c:Int):Int :=
 if (thingW w a).2≠0 then (thingW w a).2 else if b>=(thg w (thingW w a).1).Header.Length then 2 else
 if ptrH (thg w (thingW w a).1).Header b≠isRef op then 4 else
 if op=8 then localW w.Locals ((thg w (thingW w a).1).Fields.getD b.toNat 0) else if op=9 then (resW w c).2 else 0
def removesW (w:TWorld) (op a:Int):Int :=
 if a=0 then 5 else if (resW w a).2≠0 then (resW w a).2 else
 if (decW a).1.Tag≠(if op=16 then 3 else if op=14 then 2 else 1) then 4 else 0
def lastsW (w:TWorld) (op a:Int):Int :=
 if (thingW w a).2≠0 then (thingW w a).2 else (tabNew (if op=15 then w.Weaks else w.Globals) (thingW w a).1).2.2.2
def scopesW (w:TWorld) (op a:Int):Int :=
 if op=17 then (if a>64 then 1 else (locPush w.Locals a).2) else
 if (resW w a).2≠0 then (resW w a).2 else if (locPop w.Locals).2≠0 then (locPop w.Locals).2 else localW (locPop w.Locals).1 (resW w a).1
def markG (l:List TMark) (i:Int):TMark:=l.getD i.toNat ⟨0,0,0⟩
def pinsW (w:TWorld) (op a:Int) (failed:Bool):Int :=
 if (thingW w a).2≠0 then (thingW w a).2 else
 if op=20 then (if markI w.Marks (thingW w a).1<0 then 12 else 0) else
 if 0<=markI w.Marks (thingW w a).1∧(markG w.Marks (markI w.Marks (thingW w a).1)).Count=1000 then 18 else
 if markI w.Marks (thingW w a).1<0∧w.Marks.length=64 then 18 else if failed then 18 else 0
def plainW (w:TWorld) (op a b:Int):Int :=
 if op=4∨op=5 then (thingW w a).2 else if (resW w a).2≠0 then (resW w a).2 else
 if op=10 then (resW w b).2 else localW w.Locals (resW w a).1
def verW (w:TWorld) (op a b c:Int) (failed:Bool):Int :=
 if worldV w=false then 19 else
 if op=1∨op=2∨op=3 then createsW w op a b failed else
 if op=6∨op=7∨op=8∨op=9 then fieldsW w op a b c else
 if op=12∨op=14∨op=16 then removesW w op a else
 if op=13∨op=15 then lastsW w op a else
 if op=17∨op=18 then scopesW w op a else
 if op=19∨op=20 then pinsW w op a failed else
 if op=4∨op=5∨op=10∨op=11 then plainW w op a b else 1
theorem beq_false {a b:Int} (h:¬ a=b):(a==b)=false:=by simpa using h
theorem beq_true {a b:Int} (h:a=b):(a==b)=true:=by simpa using h
theorem bne_false {a b:Int} (h:a=b):(a != b)=false:=by simpa using h
theorem bne_true {a b:Int} (h:¬ a=b):(a != b)=true:=by simpa using h
section
variable {N:Nat} {w:TWorld} {k:Nat}
theorem resW_tU (hw:WB k w) (hv:worldV w=true) (tw:tTWorld w) {v:Int} (tv:tU v):tU (resW w v).1:=by
 have:=Qeq (N:=1000001) tw tv
 exact this _ (res_eq (N:=1000001) hw (by omega) hv tv)
theorem thingW_ok (hw:WB k w) (hv:worldV w=true) (tw:tTWorld w) {v:Int} (tv:tU v) (h:(thingW w v).2=0):1<=(thingW w v).1∧(thingW w v).1<=w.Things.length∧thingW w v=resW w v:=by
 have h1:=resW_tU hw hv tw tv
 have h2:=resW_le (worldV_wf hv) v
 unfold thingW at h ⊢
 by_cases hc:(resW w v).2=0∧(resW w v).1=0
 ·rw[if_pos hc] at h;cases h
 ·rw[if_neg hc] at h ⊢
  have h3:(resW w v).1≠0:=fun e=>hc ⟨h,e⟩
  unfold tU at h1
  exact ⟨by omega,h2,rfl⟩
theorem thg_get (hw:WB k w) {id:Int} (h1:1<=id) (h2:id<=w.Things.length):getI w.Things (wU (id-1))=some (thg w id)∧thg w id∈w.Things:=by
 have hk:=hw.kk
 have ht:=hw.things
 have e:=List.getElem?_eq_getElem (show (id-1).toNat<w.Things.length by omega)
 have e2:thg w id=w.Things[(id-1).toNat]'(by omega):=by unfold thg;rw[List.getD_eq_getElem?_getD,e];rfl
 rw[wU_id (by omega) (by omega),getI_of (by omega) (by omega),e2]
 exact ⟨rfl,List.getElem_mem _⟩
theorem local20_eq (hl:LBp w.Locals) (hN:1000000<N) (id:Int):QbS N w.Locals id=some (localW w.Locals id):=by
 rw[QbS,localW]
 by_cases h:id=0
 ·rw[if_pos h,h];rfl
 ·rw[if_neg h,beq_false h,cond_false,lnew_eq hl hN,bnd_eq]
theorem local20_eq' {a:TLocals} (hl:LBp a) (hN:1000000<N) (id:Int):QbS N a id=some (localW a id):=local20_eq (w:=⟨⟨0,0⟩,[],a,zT,zT,[],[]⟩) hl hN id
theorem asked_eq (op:Int) {a b:Int} (ta:tU a) (tb:tU b):∃ d,Qbo N op a b=some (d,decide (okW op a b))∧(okW op a b->d=hdW op a b):=by
 unfold tU at ta tb
 have hmask:a<=2147483647->wI (bAnd .u64 a 2147483647)=a:=fun h=>by
  have:bAnd .u64 a 2147483647=a % 2147483648:=bAnd_mask a 31 (by omega) ta.1 ta.2
  rw[this,wI_id (by omega) (by omega)];omega
 rw[Qbo]
 by_cases h1:op=1
 ·rw[beq_true h1,cond_true]
  by_cases h2:a<=2147483647
  ·rw[decide_eq_true h2,cond_true]
   refine ⟨⟨op,wI (bAnd .u64 a 2147483647),wW b⟩,?_,fun h=>?_⟩
   ·exact congrArg (fun x=>some (_,x)) (decide_eq_decide.2 ⟨fun h=>⟨h2,fun _=>h⟩,fun h=>h.2 h1⟩)
   ·rw[hmask h2,wW_id (by omega) (by have:=h.2 h1;omega),hdW,if_pos h1]
  ·rw[decide_eq_false h2,cond_false]
   refine ⟨⟨op,wI (bAnd .u64 a 2147483647),wW b⟩,?_,fun h=>absurd h.1 h2⟩
   rw[decide_eq_false (show ¬ okW op a b from fun h=>h2 h.1)]
 ·rw[beq_false h1,cond_false]
  refine ⟨⟨op,wI (bAnd .u64 a 2147483647),0⟩,?_,fun h=>?_⟩
  ·exact congrArg (fun x=>some (_,x)) (decide_eq_decide.2 ⟨fun h=>⟨h,fun e=>absurd e h1⟩,fun h=>h.1⟩)
  ·rw[hmask h.1,hdW,if_neg h1]
theorem asks_eq (hN:10<=N) (c:TConf) (d:THeader):QcW N c d=some (asksB c d):=by
 rw[QcW,validH_eq,bnd_eq,asksB,sizeH_eq,bnd_eq,need_eq hN,bnd_eq]
 cases validH d<;>cases (d.Kind != 0)<;>rfl
theorem creates_eq (hw:WB k w) (hN:1000000<N) (op:Int) {a b:Int} (ta:tU a) (tb:tU b) (f:Bool):Qer N w op a b f=some (createsW w op a b f):=by
 have hm:=hw.marks
 obtain ⟨d,hd,hd2⟩:=asked_eq (N:=N) op ta tb
 rw[Qer,createsW]
 by_cases h0:w.Marks.length>0
 ·rw[decide_eq_true (show ((w.Marks.length:Nat):Int)>0 by omega),cond_true,if_pos h0]
 rw[decide_eq_false (show ¬ ((w.Marks.length:Nat):Int)>0 by omega),cond_false,if_neg h0,hd,bnd_eq]
 by_cases h1:okW op a b
 ·rw[decide_eq_true h1,Bool.not_true,cond_false,if_neg (by simpa using h1),asks_eq (by omega),bnd_eq,hd2 h1]
  cases hA:asksB w.Conf (hdW op a b)
  ·rfl
  ·rw[Bool.not_true,cond_false,if_neg (by simp),local20_eq hw.loc hN,bnd_eq]
   by_cases hL:localW w.Locals 1=0
   ·rw[bne_false hL,cond_false,if_neg (by simpa using hL)]
    cases f<;>rfl
   ·rw[bne_true hL,cond_true,if_pos hL]
 ·rw[decide_eq_false h1,Bool.not_false,cond_true,if_pos h1]
theorem fields_eq (hw:WB k w) (hN:1000000<N) (hv:worldV w=true) (tw:tTWorld w) (op:Int) {a b c:Int} (ta:tU a) (tb:tU b) (tc:tU c):QeG N w op a b c=some (fieldsW w op a b c):=by
 rw[QeG,thing_eq hw hN hv ta,bnd_eq,fieldsW]
 by_cases he:(thingW w a).2=0
 rotate_left
 ·rw[bne_true he,cond_true,if_pos he]
 obtain ⟨i1,i2,_⟩:=thingW_ok hw hv tw ta he
 obtain ⟨g1,g2⟩:=thg_get hw i1 i2
 obtain ⟨v1,v2,v3,v4⟩:=(worldV_wf hv).thing _ g2
 have vb:=validH_b v1
 unfold tU at tb
 rw[bne_false he,cond_false,if_neg (by simpa using he),g1,bnd_eq,wU_id (n:=(thg w (thingW w a).1).Header.Length) (by omega) (by omega)]
 by_cases h1:b>=(thg w (thingW w a).1).Header.Length
 ·rw[decide_eq_true h1,cond_true,if_pos h1]
 rw[decide_eq_false h1,cond_false,if_neg h1,wI_id (n:=b) (by omega) (by omega)]
 have key:∀ x:Bool,x=isRef op->(bnd (Qbm N (thg w (thingW w a).1).Header b) fun y4 =>
  bif (!(y4==x)) then some 4
  else bif (op==8) then (bnd (getI (thg w (thingW w a).1).Fields b) fun p5 =>
   bnd (QbS N w.Locals p5) fun y6 =>
   some y6)
  else bif (op==9) then (bnd (Qao N w c) fun y7 =>
   some y7.2)
  else some (thingW w a).2)=some (if ptrH (thg w (thingW w a).1).Header b≠isRef op then 4 else
 if op=8 then localW w.Locals ((thg w (thingW w a).1).Fields.getD b.toNat 0) else if op=9 then (resW w c).2 else 0):=by
  intro x hx
  subst hx
  rw[ptrH_eq,bnd_eq]
  by_cases h2:ptrH (thg w (thingW w a).1).Header b=isRef op
  ·rw[show (ptrH (thg w (thingW w a).1).Header b==isRef op)=true by simpa using h2,Bool.not_true,cond_false,if_neg (by simpa using h2)]
   by_cases h3:op=8
   ·rw[beq_true h3,cond_true,if_pos h3,getI_of (by omega) (by omega),bnd_eq,local20_eq hw.loc hN,bnd_eq,List.getD_eq_getElem?_getD,List.getElem?_eq_getElem (by omega)];rfl
   rw[beq_false h3,cond_false,if_neg h3]
   by_cases h4:op=9
   ·rw[beq_true h4,cond_true,if_pos h4,res_eq hw hN hv tc,bnd_eq]
   ·rw[beq_false h4,cond_false,if_neg h4,he]
  ·rw[show (ptrH (thg w (thingW w a).1).Header b==isRef op)=false by simpa using h2,Bool.not_false,cond_true,if_pos h2]
 rw[jn_eq]
 cases h8:(op==8)
 ·have:=key (op==9) (by unfold isRef;rw[h8,Bool.false_or])
  rw[h8] at this
  exact this
 ·have:=key true (by unfold isRef;rw[h8,Bool.true_or])
  rw[h8] at this
  exact this
theorem removes_eq (hw:WB k w) (hN:1000000<N) (hv:worldV w=true) (op:Int) {a:Int} (ta:tU a):Qes N w op a=some (removesW w op a):=by
 rw[Qes,removesW]
 by_cases h0:a=0
 ·rw[beq_true h0,cond_true,if_pos h0]
 rw[beq_false h0,cond_false,if_neg h0,res_eq hw hN hv ta,bnd_eq]
 by_cases h1:(resW w a).2=0
 rotate_left
 ·rw[bne_true h1,cond_true,if_pos h1]
 rw[bne_false h1,cond_false,if_neg (by simpa using h1),dec_eq ta,bnd_eq,jn_eq]
 have fin:∀ t:Int,(bif ((decW a).1.Tag != t) then some (4:Int) else some 0)=some (if (decW a).1.Tag≠t then 4 else 0):=by
  intro t
  by_cases h:(decW a).1.Tag=t
  ·rw[bne_false h,cond_false,if_neg (by simpa using h)]
  ·rw[bne_true h,cond_true,if_pos h]
 by_cases h2:op=16
 ·rw[if_pos h2,beq_true h2,← fin]
  cases (op==14)<;>rfl
 ·rw[if_neg h2,beq_false h2]
  by_cases h3:op=14
  ·rw[if_pos h3,beq_true h3,cond_true];exact fin 2
  ·rw[if_neg h3,beq_false h3,cond_false];exact fin 1
theorem lasts_eq (hw:WB k w) (hN:1000000<N) (hv:worldV w=true) (op:Int) {a:Int} (ta:tU a):Qe6 N w op a=some (lastsW w op a):=by
 rw[Qe6,thing_eq hw hN hv ta,bnd_eq,lastsW]
 by_cases h1:(thingW w a).2=0
 rotate_left
 ·rw[bne_true h1,cond_true,if_pos h1]
 rw[bne_false h1,cond_false,if_neg (by simpa using h1),jn_eq]
 by_cases h2:op=15
 ·rw[if_pos h2,beq_true h2,cond_true]
  show bnd (Qbx N w.Weaks (thingW w a).1) _=_
  rw[tnew_eq hw.wea hN,bnd_eq]
 ·rw[if_neg h2,beq_false h2,cond_false]
  show bnd (Qbx N w.Globals (thingW w a).1) _=_
  rw[tnew_eq hw.glo hN,bnd_eq]
theorem scopes_eq (hw:WB k w) (hN:1000000<N) (hv:worldV w=true) (op:Int) {a:Int} (ta:tU a):QeH N w op a=some (scopesW w op a):=by
 rw[QeH,scopesW]
 by_cases h0:op=17
 ·rw[beq_true h0,cond_true,if_pos h0]
  by_cases h1:a>64
  ·rw[decide_eq_true h1,cond_true,if_pos h1]
  ·unfold tU at ta
   rw[decide_eq_false h1,cond_false,if_neg h1,wI_id (n:=a) (by omega) (by omega),lpush_eq hw.loc hN,bnd_eq]
 rw[beq_false h0,cond_false,if_neg h0,res_eq hw hN hv ta,bnd_eq]
 by_cases h1:(resW w a).2=0
 rotate_left
 ·rw[bne_true h1,cond_true,if_pos h1]
 rw[bne_false h1,cond_false,if_neg (by simpa using h1),lpop_eq hw.loc hN,bnd_eq]
 by_cases h2:(locPop w.Locals).2=0
 rotate_left
 ·rw[bne_true h2,cond_true,if_pos h2]
 rw[bne_false h2,cond_false,if_neg (by simpa using h2),local20_eq' (lpop_LB hw.loc) hN,bnd_eq]
theorem markI_get {l:List TMark} {id:Int} (h:0<=markI l id):markI l id<l.length∧getI l (markI l id)=some (markG l (markI l id))∧(markG l (markI l id)).Id=id:=by
 unfold markI at h ⊢
 cases e:l.findIdx? (fun m=>m.Id==id) with
 | none=>rw[e] at h;simp at h
 | some j =>
  have h2:=List.findIdx?_eq_some_iff_getElem.1 e
  obtain ⟨hj,hp,_⟩:=h2
  simp only
  refine ⟨by omega,?_,?_⟩
  ·rw[getI_nat,markG,List.getD_eq_getElem?_getD,Int.toNat_natCast,List.getElem?_eq_getElem hj];rfl
  ·rw[markG,List.getD_eq_getElem?_getD,Int.toNat_natCast,List.getElem?_eq_getElem hj]
   simpa using hp
theorem pins20_eq (hw:WB k w) (hN:1000000<N) (hv:worldV w=true) (op:Int) {a:Int} (ta:tU a) (f:Bool):Qfl N w op a f=some (pinsW w op a f):=by
 have hm:=hw.marks
 rw[Qfl,thing_eq hw hN hv ta,bnd_eq,pinsW]
 by_cases h1:(thingW w a).2=0
 rotate_left
 ·rw[bne_true h1,cond_true,if_pos h1]
 rw[bne_false h1,cond_false,if_neg (by simpa using h1),mark_eq (by omega) hN,bnd_eq]
 by_cases h2:op=20
 ·rw[beq_true h2,cond_true,if_pos h2]
  by_cases h3:markI w.Marks (thingW w a).1<0
  ·rw[decide_eq_true h3,cond_true,if_pos h3]
  ·rw[decide_eq_false h3,cond_false,if_neg h3]
 rw[beq_false h2,cond_false,if_neg h2]
 by_cases h3:0<=markI w.Marks (thingW w a).1
 ·obtain ⟨m1,m2,m3⟩:=markI_get h3
  rw[decide_eq_true (show markI w.Marks (thingW w a).1>=0 from h3),cond_true,m2,bnd_eq,decide_eq_false (show ¬ markI w.Marks (thingW w a).1<0 by omega),cond_false]
  rw[if_neg (show ¬ (markI w.Marks (thingW w a).1<0∧w.Marks.length=64) by omega)]
  by_cases h4:(markG w.Marks (markI w.Marks (thingW w a).1)).Count=1000
  ·rw[beq_true h4,cond_true,if_pos ⟨h3,h4⟩]
  ·rw[beq_false h4,cond_false,if_neg (fun h=>h4 h.2)]
   cases f<;>rfl
 ·rw[decide_eq_false (show ¬ markI w.Marks (thingW w a).1>=0 from h3),cond_false,decide_eq_true (show markI w.Marks (thingW w a).1<0 by omega),cond_true,if_neg (fun h=>h3 h.1)]
  by_cases h4:w.Marks.length=64
  ·rw[h4,if_pos ⟨by omega,rfl⟩];rfl
  ·rw[beq_false (show ¬ ((w.Marks.length:Nat):Int)=64 by omega),cond_false,if_neg (fun h=>h4 h.2)]
   cases f<;>rfl
theorem plain_eq (hw:WB k w) (hN:1000000<N) (hv:worldV w=true) (op:Int) {a b:Int} (ta:tU a) (tb:tU b):Qe7 N w op a b=some (plainW w op a b):=by
 rw[Qe7,plainW,jn_eq,thing_eq hw hN hv ta,bnd_eq]
 by_cases h4:op=4
 ·rw[beq_true h4,cond_true,if_pos (.inl h4)]
 rw[beq_false h4,cond_false]
 by_cases h5:op=5
 ·rw[beq_true h5,cond_true,if_pos (.inr h5)]
 rw[beq_false h5,cond_false,if_neg (by omega),res_eq hw hN hv ta,bnd_eq]
 by_cases h1:(resW w a).2=0
 rotate_left
 ·rw[bne_true h1,cond_true,if_pos h1]
 rw[bne_false h1,cond_false,if_neg (by simpa using h1)]
 by_cases h10:op=10
 ·rw[beq_true h10,cond_true,if_pos h10,res_eq hw hN hv tb,bnd_eq]
 ·rw[beq_false h10,cond_false,if_neg h10,local20_eq hw.loc hN,bnd_eq]
end
end Go.Sx
namespace Go.Sx
theorem jn_or {β:Type} (K:Bool->β) (c1 c2:Bool):(jn K fun j=>bif c1 then j true else j c2)=K (c1||c2):=by
 rw[jn_eq];cases c1<;>rfl
theorem b2 (op a b:Int):(op==a||op==b)=decide (op=a∨op=b):=by rw[Bool.decide_or];rfl
theorem bd (op a:Int) (p:Prop) [Decidable p]:(op==a||decide p)=decide (op=a∨p):=by rw[Bool.decide_or];rfl
theorem dcond {β:Type} {p:Prop} [Decidable p] (x y:β):(bif decide p then x else y)=if p then x else y:=by
 by_cases h:p
 ·rw[decide_eq_true h,if_pos h];rfl
 ·rw[decide_eq_false h,if_neg h];rfl
theorem bnd_ret {β:Type} (o:Option β):(bnd o fun y=>some y)=o:=by
 cases o
 ·exact bnd_no _
 ·exact bnd_eq _ _
theorem some_if {β:Type} {p:Prop} [Decidable p] (x y:β):(if p then some x else some y)=some (if p then x else y):=by split<;>rfl
section
variable {N:Nat} {w:TWorld} {k:Nat}
theorem ver_eq (hw:WB k w) (hN:1000000<N) (tw:tTWorld w) (op:Int) {a b c:Int} (ta:tU a) (tb:tU b) (tc:tU c) (f:Bool):Qet N w op a b c f=some (verW w op a b c f):=by
 rw[Qet,wval_eq hw hN,bnd_eq,verW]
 cases hv:worldV w
 ·rfl
 rw[Bool.not_true,cond_false,if_neg (by simp)]
 simp only[jn_or,bnd_ret,creates_eq hw hN op ta tb f,fields_eq hw hN hv tw op ta tb tc,removes_eq hw hN hv op ta,lasts_eq hw hN hv op ta,scopes_eq hw hN hv op ta,pins20_eq hw hN hv op ta f,plain_eq hw hN hv op ta tb,b2,bd,dcond,some_if]
end
end Go.Sx
namespace Go.Sx
theorem refsF_sub (d:THeader):∀ (k:Nat) (l:List Int),∀ r∈refsF d k l,r∈l
 | k,[],r,h=>by simp[refsF] at h
 | k,f::fs,r,h=>by
  unfold refsF at h
  split at h
  ·rcases List.mem_cons.1 h with h | h
   ·exact h▸List.mem_cons_self
   ·exact List.mem_cons_of_mem _ (refsF_sub d (k+1) fs r h)
  ·exact List.mem_cons_of_mem _ (refsF_sub d (k+1) fs r h)
def zWo:TWorld:=⟨⟨0,0⟩,[],zL,zT,zT,[],[]⟩
theorem WB_zWo {k:Nat} (hk:k<=900):WB k zWo:=⟨hk,by simp[zWo],fun x hx=>by simp[zWo] at hx,LB_zL,by simp[zWo,zT],by simp[zWo,zT],by simp[zWo],by simp[zWo]⟩
section
variable {N:Nat} {w:TWorld} {k:Nat}
theorem wstrong_l1 (hm:w.Marks.length<=1000):∀ (n:Nat) (i:Int) (v:List Int),0<=i->i<=w.Marks.length->(w.Marks.length-i).toNat<n->v.length<=100000+i->(∀ x∈v,0<=x∧x<=w.Things.length)->(∀ m∈w.Marks,0<=m.Id∧m.Id<=w.Things.length)->Ok (Qbw N w n i v) fun r=>r.length<=v.length+(w.Marks.length-i)∧∀ x∈r,0<=x∧x<=w.Things.length
 | 0,i,v,_,_,hn,_,_,_=>by omega
 | n+1,i,v,h0,hi,hn,hv,hx,hmm=>by
  rw[Qbw]
  refine Ok.bif (fun hc=>?_) fun hc=>Ok.some ⟨by omega,hx⟩
  have hc:i<w.Marks.length:=of_decide_eq_true hc
  rw[wI_id (n:=i+1) (by omega) (by omega)]
  refine Ok.get h0 hc fun p hp=>Ok.grd (by omega) ?_
  have hpm:=getI_mem hp
  refine (wstrong_l1 hm n (i+1) _ (by omega) (by omega) (by omega) (by rw[List.length_append];simp;omega) (fun x hx'=>?_) hmm).mono fun r hr=>⟨?_,hr.2⟩
  ·rcases List.mem_append.1 hx' with h | h
   ·exact hx x h
   ·rw[List.mem_singleton.1 h];exact hmm p hpm
  ·have:=hr.1
   rw[List.length_append] at this
   simp at this
   omega
theorem wstrong_ok (hN:NB N) (hw:WB k w) (hv:worldV w=true) (tw:tTWorld w):Ok (Qdp N w) fun r=>r.length<=10000∧∀ x∈r,0<=x∧x<=w.Things.length:=by
 have hN':=hN
 unfold NB at hN'
 have hr:=hw.roots
 have hm:=hw.marks
 have wf:=worldV_wf hv
 obtain ⟨t1,t2,t3,t4,t5,t6⟩:=tw
 have l1:=liveS_of wf.loc
 have l2:=liveT_of wf.glo
 rw[Qdp]
 refine Ok.grd (by omega) ?_
 rw[lrefs_eq hw.loc (by omega),bnd_eq,wf.loc,cond_true]
 refine Ok.grd (by omega) ?_
 rw[trefs_eq hw.glo (by omega),bnd_eq,wf.glo,cond_true]
 refine Ok.grd (by omega) (Ok.bnd (wstrong_l1 hm N 0 _ (by omega) (by omega) (by omega) (by simp only[List.length_append];omega) (fun x hx=>?_) fun m hmm=>?_) fun r _ h=>Ok.some ⟨?_,h.2⟩)
 ·simp only[List.mem_append] at hx
  rcases hx with (h | h) | h
  ·exact ⟨(t6 x h).1,wf.roots x h⟩
  ·refine ⟨?_,wf.rloc x h⟩
   unfold liveS at h
   obtain ⟨p,hp,rfl⟩:=List.mem_map.1 h
   exact (t2 p (List.mem_filter.1 hp).1).1
  ·refine ⟨?_,wf.rglo x h⟩
   unfold liveT at h
   obtain ⟨p,hp,rfl⟩:=List.mem_map.1 h
   exact (t3 p (List.mem_filter.1 hp).1).1
 ·obtain ⟨i,hi,e⟩:=List.getElem_of_mem hmm
  have:=wf.mk_ (k:=i) (m:=m) (by rw[List.getElem?_eq_getElem hi,e])
  omega
 ·have:=h.1
  simp only[List.length_append] at this
  omega
theorem reach_l1 (hN:NB N) (hw:WB k w) (hv:worldV w=true) (tw:tTWorld w) (M:Nat) (hM:M<=2000000):∀ (n:Nat) (i:Int) (v:List Bool) (q:List Int),0<=i->i<=q.length->(M-i).toNat<n->v.length=w.Things.length->(∀ x∈q,0<=x∧x<=w.Things.length)->q.length+1000*v.countP (fun b=>!b)<=M->Ok (Qai N w n i v q) fun r=>r.length=w.Things.length
 | 0,i,v,q,_,_,hn,_,_,_=>by omega
 | n+1,i,v,q,h0,hi,hn,hl,hq,hm=>by
  have hN':=hN
  unfold NB at hN'
  have hk:=hw.kk
  have ht:=hw.things
  rw[Qai]
  refine Ok.grd (by omega) (Ok.bif (fun hc=>?_) fun _=>Ok.some hl)
  have hc:i<q.length:=of_decide_eq_true hc
  rw[wI_id (n:=i+1) (by omega) (by omega)]
  refine Ok.get h0 hc fun p hp=>?_
  have same:∀ p',getI q i=some p'->p'=p:=fun p' h=>Option.some.inj (h.symm.trans hp)
  have hpq:=hq p (getI_mem hp)
  refine Ok.bif (fun _=>reach_l1 hN hw hv tw M hM n (i+1) v q (by omega) (by omega) (by omega) hl hq hm) fun hz=>?_
  have hz:¬ p=0:=by simpa using hz
  refine Ok.get h0 hc fun p2 hp2=>?_
  obtain rfl:=same p2 hp2
  rw[wU_id (n:=p2-1) (by omega) (by omega)]
  refine Ok.get (by omega) (by omega) fun b hb=>Ok.bif (fun _=>reach_l1 hN hw hv tw M hM n (i+1) v q (by omega) (by omega) (by omega) hl hq hm) fun hbf=>?_
  refine Ok.get h0 hc fun p3 hp3=>?_
  obtain rfl:=same p3 hp3
  rw[wU_id (n:=p3-1) (by omega) (by omega)]
  refine Ok.get (by omega) (by omega) fun _ _=>Ok.get h0 hc fun p4 hp4=>?_
  obtain rfl:=same p4 hp4
  obtain ⟨g1,g2⟩:=thg_get hw (id:=p4) (by omega) (by omega)
  have hf:=hw.fields _ g2
  obtain ⟨v1,v2,v3,v4⟩:=(worldV_wf hv).thing _ g2
  have hrl:=refsF_len (thg w p4).Header 0 (thg w p4).Fields
  have hrl:(refsT (thg w p4)).length<=1000:=by unfold refsT;omega
  rw[g1,bnd_eq,wrefs_eq (by omega) (by omega),bnd_eq]
  have hlt:(p4-1).toNat<v.length:=by omega
  have hbv:v[(p4-1).toNat]=false:=by
   rw[getI_of (by omega) (by omega)] at hb
   rw[Option.some.inj hb];exact hbf
  have hcount:(v.set (p4-1).toNat true).countP (fun b=>!b)+1<=v.countP (fun b=>!b):=by
   have hpos:0<v.countP (fun b=>!b):=List.countP_pos_iff.2 ⟨v[(p4-1).toNat],List.getElem_mem _,by rw[hbv];rfl⟩
   rw[List.countP_set hlt,hbv]
   simp
   omega
  refine Ok.grd (by omega) (reach_l1 hN hw hv tw M hM n (i+1) _ _ (by omega) (by rw[List.length_append];omega) (by omega) (by rw[List.length_set];exact hl) (fun x hx=>?_) (by rw[List.length_append];omega))
  rcases List.mem_append.1 hx with h | h
  ·exact hq x h
  ·refine ⟨?_,v4 x h⟩
   exact ((tw.1 _ g2).2 x (refsF_sub _ _ _ x h)).1
theorem reached_ok (hN:NB N) (hw:WB k w) (hv:worldV w=true) (tw:tTWorld w):Ok (Qb8 N w) fun r=>r.length=w.Things.length:=by
 have hN':=hN
 unfold NB at hN'
 have hk:=hw.kk
 have ht:=hw.things
 rw[Qb8,wval_eq hw (by omega),bnd_eq,hv,Bool.not_true,cond_false]
 refine Ok.grd (by omega) (Ok.bnd (wstrong_ok hN hw hv tw) fun y _ hy=>Ok.bnd (reach_l1 hN hw hv tw 1100000 (by omega) N 0 _ y (by omega) (by omega) (by omega) (by rw[List.length_replicate];omega) hy.2 ?_) fun r _ hr=>Ok.some hr)
 have:(List.replicate (((w.Things.length:Nat):Int)).toNat false).countP (fun b=>!b)<=1000:=by
  refine Nat.le_trans List.countP_le_length ?_
  rw[List.length_replicate];omega
 have:=hy.1
 omega
theorem wcol_l1 (y:List Bool) (hy:y.length=w.Things.length) (hw:WB k w):∀ (n:Nat) (i:Int) (v:List Int),0<=i->i<=v.length->(v.length-i).toNat<n->v.length<=1000->(∀ x∈v,0<=x∧x<=w.Things.length)->Ok (Qal N w y n i v) fun r=>r.length=v.length
 | 0,i,v,_,_,hn,_,_=>by omega
 | n+1,i,v,h0,hi,hn,hl,hx=>by
  have hk:=hw.kk
  have ht:=hw.things
  rw[Qal]
  refine Ok.grd (by omega) (Ok.bif (fun hc=>?_) fun _=>Ok.some rfl)
  have hc:i<v.length:=of_decide_eq_true hc
  rw[wI_id (n:=i+1) (by omega) (by omega)]
  have next:=wcol_l1 y hy hw n (i+1) v (by omega) (by omega) (by omega) hl hx
  refine Ok.get h0 hc fun p hp=>Ok.bif (fun hz=>Ok.get h0 hc fun p2 hp2=>?_) fun _=>next
  obtain rfl:p=p2:=Option.some.inj (hp.symm.trans hp2)
  have hpq:=hx p (getI_mem hp)
  have hz:¬ p=0:=by simpa using hz
  rw[wU_id (n:=p-1) (by omega) (by omega)]
  refine Ok.get (by omega) (by omega) fun _ _=>Ok.bif (fun _=>Ok.get h0 hc fun _ _=>?_) fun _=>next
  refine (wcol_l1 y hy hw n (i+1) _ (by omega) (by rw[List.length_set];omega) (by rw[List.length_set];omega) (by rw[List.length_set];exact hl) fun x hx'=>?_).mono fun r hr=>by rw[hr,List.length_set]
  rcases List.mem_or_eq_of_mem_set hx' with h | h
  ·exact hx x h
  ·rw[h];omega
theorem wcollect_ok (hN:NB N) (hw:WB k w) (tw:tTWorld w):Ok (Qa4 N w) fun r=>WB k r.1:=by
 have hN':=hN
 unfold NB at hN'
 rw[Qa4,wval_eq hw (by omega),bnd_eq]
 refine Ok.bif (fun _=>Ok.some (WB_zWo hw.kk)) fun hv=>?_
 have hv:worldV w=true:=by simpa using hv
 have wf:=worldV_wf hv
 have l3:=liveT_of wf.wea
 refine Ok.bnd (reached_ok hN hw hv tw) fun y _ hy=>?_
 rw[trefs_eq hw.wea (by omega),bnd_eq,wf.wea,cond_true]
 refine Ok.bnd (wcol_l1 y hy hw N 0 _ (by omega) (by omega) (by omega) (by omega) fun x hx=>⟨?_,wf.rwea x hx⟩) fun z _ hz=>Ok.bnd (tmove_len hw.wea (by omega) (by omega)) fun t _ ht=>Ok.some ⟨hw.kk,hw.things,hw.fields,hw.loc,hw.gloK,Nat.le_trans ht hw.weaK,hw.marksK,hw.rootsK⟩
 unfold liveT at hx
 obtain ⟨p,hp,rfl⟩:=List.mem_map.1 hx
 exact (tw.2.2.2.1 p (List.mem_filter.1 hp).1).1
end
end Go.Sx
namespace Go.Sx
theorem Ok.jq {β κ:Type} {P:β->Prop} {k:κ->Option β} {f:(κ->Option β)->Option β} (Q:κ->Prop) (h:∀ x,Q x->Ok (k x) P) (g:∀ j:κ->Option β,(∀ x,Q x->Ok (j x) P)->Ok (f j) P):Ok (Sx.jn k f) P:=by rw[jn_eq];exact g k h
section
variable {N:Nat} {w:TWorld} {k:Nat}
theorem wlocal_ok (hw:WB k w) (hN:1000000<N) (id:Int):Ok (Qbz N w id) fun r=>WB k r.1:=by
 rw[Qbz]
 refine Ok.bb (Ok.some hw) ?_
 rw[lnew_eq hw.loc hN,bnd_eq]
 exact Ok.b_ (encode_ok _) fun y _=>Ok.some ⟨hw.kk,hw.things,hw.fields,lnew_LB hw.loc id,hw.gloK,hw.weaK,hw.marksK,hw.rootsK⟩
theorem wput_ok (hw:WB k w) {id i v:Int} (h1:1<=id) (h2:id<=w.Things.length) (i0:0<=i) (i1:i<(thg w id).Fields.length):Ok (Qd8 N w id i v) fun r=>WB k r:=by
 have hk:=hw.kk
 have ht:=hw.things
 obtain ⟨g1,g2⟩:=thg_get hw h1 h2
 have hf:=hw.fields _ g2
 rw[Qd8,grd_eq (by omega),g1,bnd_eq,grd_eq (by omega)]
 refine Ok.get i0 (by omega) fun _ _=>?_
 rw[bnd_eq]
 refine Ok.some ⟨hw.kk,?_,fun x hx=>?_,hw.loc,hw.gloK,hw.weaK,hw.marksK,hw.rootsK⟩
 ·show (w.Things.set _ _).length<=_;rw[List.length_set];exact ht
 ·have hx:x∈w.Things.set _ _:=hx
  rcases List.mem_or_eq_of_mem_set hx with h | h
  ·exact hw.fields x h
  ·rw[h];show ((thg w id).Fields.set _ _).length<=_;rw[List.length_set];exact hf
theorem wlasting_ok (hw:WB k w) (hN:1000000<N) (op id:Int):Ok (QcF N w op id) fun r=>WB k r.1:=by
 rw[QcF]
 refine Ok.jn (Ok.bb ?_ ?_)
 ·rw[tnew_eq hw.wea hN,bnd_eq]
  exact Ok.b_ (encode_ok _) fun y _=>Ok.some ⟨hw.kk,hw.things,hw.fields,hw.loc,hw.gloK,tnew_len hw.weaK id,hw.marksK,hw.rootsK⟩
 ·rw[tnew_eq hw.glo hN,bnd_eq]
  exact Ok.b_ (encode_ok _) fun y _=>Ok.some ⟨hw.kk,hw.things,hw.fields,hw.loc,tnew_len hw.gloK id,hw.weaK,hw.marksK,hw.rootsK⟩
theorem wremove_ok (hw:WB k w) (hN:1000000<N) (v:Int):Ok (Qdq N w v) fun r=>WB k r:=by
 rw[Qdq]
 refine Ok.b_ (decode_ok _) fun y _=>Ok.bb ?_ (Ok.bb ?_ ?_)
 ·rw[ldel_eq hw.loc hN,bnd_eq];exact Ok.some ⟨hw.kk,hw.things,hw.fields,ldel_LB hw.loc _ _,hw.gloK,hw.weaK,hw.marksK,hw.rootsK⟩
 ·rw[tdel_eq hw.glo hN,bnd_eq];exact Ok.some ⟨hw.kk,hw.things,hw.fields,hw.loc,tdel_len hw.gloK _ _,hw.weaK,hw.marksK,hw.rootsK⟩
 ·rw[tdel_eq hw.wea hN,bnd_eq];exact Ok.some ⟨hw.kk,hw.things,hw.fields,hw.loc,hw.gloK,tdel_len hw.weaK _ _,hw.marksK,hw.rootsK⟩
theorem wpins_ok (hw:WB k w) (hN:1000000<N) (h64:w.Marks.length<=64) (op id b:Int) (h20:op=20->0<=markI w.Marks id):Ok (Qec N w op id b) fun r=>WB k r.1:=by
 have setM:∀ l:List TMark,l.length<=100+k->WB k ⟨w.Conf,w.Things,w.Locals,w.Globals,w.Weaks,l,w.Roots⟩:=fun l hl=>⟨hw.kk,hw.things,hw.fields,hw.loc,hw.gloK,hw.weaK,hl,hw.rootsK⟩
 rw[Qec,Qfm,mark_eq (by omega) hN,bnd_eq,bnd_eq]
 refine Ok.grd (by omega) (Ok.bif (fun h=>?_) fun _=>Ok.bif (fun h=>?_) fun h=>Ok.grd (by omega) (Ok.some (setM _ (by rw[List.length_append];simp;omega))))
 ·have h:=h20 (by simpa using h)
  obtain ⟨m1,_,_⟩:=markI_get h
  refine Ok.get h m1 fun _ _=>Ok.get h m1 fun _ _=>Ok.get h (by rw[List.length_set];exact m1) fun _ _=>Ok.bif (fun _=>?_) fun _=>Ok.some (setM _ (by rw[List.length_set];omega))
  have e:=wI_id (n:=markI w.Marks id+1) (by omega) (by omega)
  refine Ok.grd (by omega) (Ok.grd (by rw[e];omega) (Ok.grd (by rw[e];omega) (Ok.some (setM _ ?_))))
  simp only[List.length_take,List.length_append,List.length_set,List.length_drop];omega
 ·have h:0<=markI w.Marks id:=of_decide_eq_true h
  obtain ⟨m1,_,_⟩:=markI_get h
  exact Ok.get h m1 fun _ _=>Ok.get h m1 fun _ _=>Ok.get h (by rw[List.length_set];exact m1) fun _ _=>Ok.some (setM _ (by rw[List.length_set];omega))
theorem WB.up (hw:WB k w) (hk:k+1<=900):WB (k+1) w:=⟨hk,by have:=hw.things;omega,hw.fields,hw.loc,by have:=hw.gloK;omega,by have:=hw.weaK;omega,by have:=hw.marksK;omega,by have:=hw.rootsK;omega⟩
theorem wcall_ok (hN:NB N) (hw:WB k w) (hk:k+1<=900) (tw:tTWorld w) (op:Int) {a b c:Int} (ta:tU a) (tb:tU b) (tc:tU c) (ft:TFact):Ok (Qed N w op a b c ft) fun r=>WB (k+1) r.1:=by
 have hN':=hN
 unfold NB at hN'
 have hN1:1000000<N:=by omega
 have zero:WB (k+1) zWo:=WB_zWo hk
 rw[Qed,ver_eq hw hN1 tw op ta tb tc,bnd_eq]
 refine Ok.bif (fun _=>Ok.some zero) fun hz=>?_
 have hz:verW w op a b c ft.Failed=0:=by simpa using hz
 have hv:worldV w=true:=by
  cases h:worldV w
  ·unfold verW at hz;rw[h] at hz;cases hz
  ·rfl
 have wf:=worldV_wf hv
 unfold verW at hz
 rw[hv,if_neg (by simp)] at hz
 have thing:(thingW w a).2=0->1<=(resW w a).1∧(resW w a).1<=w.Things.length∧thingW w a=resW w a:=fun h=>by
  obtain ⟨t1,t2,t3⟩:=thingW_ok hw hv tw ta h
  rw[t3] at t1 t2
  exact ⟨t1,t2,t3⟩
 refine Ok.jq (fun x=>¬ (op<=3∨op=17)->x=(resW w a).1) (fun x3 hx3=>?_) fun j1 h1=>?_
 rotate_left
 ·refine Ok.bif (fun hg=>Ok.bif (fun h17=>?_) fun h17=>h1 _ fun h=>absurd (Or.inr (by simpa using h17)) h) fun hg=>h1 _ fun h=>absurd (Or.inl (by have:=of_decide_eq_false hg;omega)) h
  rw[res_eq hw hN1 hv ta,bnd_eq]
  exact h1 _ fun _=>rfl
 simp only[jn_or]
 refine Ok.bif (fun hc=>?_) fun hc=>?_
 ·
  have hc:op=1∨op=2∨op=3:=by simpa using hc
  rw[if_pos hc] at hz
  obtain ⟨d,hd,hd2⟩:=asked_eq (N:=N) op ta tb
  have hfac:okW op a b∧asksB w.Conf (hdW op a b)=true:=by
   unfold createsW at hz
   split at hz
   ·cases hz
   split at hz
   ·cases hz
   rename_i _ h2
   split at hz
   ·cases hz
   rename_i h3
   exact ⟨Classical.not_not.1 h2,by simpa using h3⟩
  have hdd:=hd2 hfac.1
  have hvd:validH d=true:=by
   have:=hfac.2
   unfold asksB at this
   rw[Bool.and_eq_true] at this
   rw[hdd];exact this.1
  have hb:=validH_b hvd
  have main:∀ w':TWorld,WB k w'->Ok (α:=TWorld×Int×Int) (bnd (Qbo N op a b) fun y17 =>
   grd (w'.Things.length*48<=140737488355328) <|
   grd (0<=y17.1.Length∧y17.1.Length.toNat*8<=140737488355328) <|
   grd ((w'.Things.length+1)*48<=140737488355328) <|
   grd ((w'.Things.length+1)<=140737488355328) <|
   bnd (Qbz N (TWorld.mk (TConf.mk w'.Conf.PageWords w'.Conf.Pages) (w'.Things++[(TThing.mk y17.1 (List.replicate y17.1.Length.toNat 0))]) (TLocals.mk w'.Locals.Slots w'.Locals.Scopes w'.Locals.Issued) (TTable.mk w'.Globals.Entries) (TTable.mk w'.Weaks.Entries) w'.Marks w'.Roots) (wU (((w'.Things.length+1):Nat):Int))) fun y18 =>
   some (y18.1,y18.2,0)) fun r=>WB (k+1) r.1:=by
   intro w' hw'
   have ht:=hw'.things
   rw[hd,bnd_eq]
   refine Ok.grd (by omega) (Ok.grd (by constructor<;>simp only<;>omega) (Ok.grd (by omega) (Ok.grd (by omega) (Ok.b_ (wlocal_ok (k:=k+1) (w:=⟨w'.Conf,w'.Things++[⟨d,List.replicate d.Length.toNat 0⟩],w'.Locals,w'.Globals,w'.Weaks,w'.Marks,w'.Roots⟩) ⟨hk,?_,fun x hx=>?_,hw'.loc,Nat.le_succ_of_le hw'.gloK,Nat.le_succ_of_le hw'.weaK,Nat.le_succ_of_le hw'.marksK,Nat.le_succ_of_le hw'.rootsK⟩ hN1 _) fun y hy=>Ok.some hy))))
   ·show (w'.Things++[_]).length<=_;rw[List.length_append];simp;omega
   ·rcases List.mem_append.1 hx with h | h
    ·exact hw'.fields x h
    ·rw[List.mem_singleton.1 h];show (List.replicate _ _).length<=_;rw[List.length_replicate];omega
  refine Ok.jn (Ok.bif (fun _=>Ok.bnd (wcollect_ok hN hw tw) fun y _ hy=>?_) fun _=>?_)
  ·exact main y.1 hy
  ·exact main w hw
 have hn1:¬ (op=1∨op=2∨op=3):=by simpa using hc
 rw[if_neg hn1] at hz
 have sw:∀ v e:Int,Ok (α:=TWorld×Int×Int) (some (w,v,e)) fun r=>WB (k+1) r.1:=fun v e=>Ok.some (hw.up hk)
 have up:∀ {w':TWorld},WB k w'->WB (k+1) w':=fun h=>WB.up h hk
 have pl:(op=4∨op=5∨op=10∨op=11)->plainW w op a b=0:=fun h=>by
  rw[if_neg (by omega),if_neg (by omega),if_neg (by omega),if_neg (by omega),if_neg (by omega),if_pos h] at hz
  exact hz
 have len:(op=4∨op=5)->1<=x3∧x3<=w.Things.length:=fun h=>by
  have h1:=pl (by omega)
  unfold plainW at h1
  rw[if_pos h] at h1
  have:=thing h1
  rw[hx3 (by omega)]
  exact ⟨this.1,this.2.1⟩
 have fld:(op=6∨op=7∨op=8∨op=9)->(1<=x3∧x3<=w.Things.length)∧b<(thg w x3).Fields.length∧wI b=b:=fun h=>by
  rw[if_pos h] at hz
  unfold fieldsW at hz
  by_cases h1:(thingW w a).2=0
  rotate_left
  ·rw[if_pos h1] at hz;exact absurd hz h1
  rw[if_neg (by simpa using h1)] at hz
  obtain ⟨t1,t2,t3⟩:=thing h1
  have e:x3=(resW w a).1:=hx3 (by omega)
  rw[t3,← e] at hz
  rw[← e] at t1 t2
  obtain ⟨g1,g2⟩:=thg_get hw t1 t2
  obtain ⟨v1,v2,v3,v4⟩:=wf.thing _ g2
  have vb:=validH_b v1
  by_cases h2:b>=(thg w x3).Header.Length
  ·rw[if_pos h2] at hz;cases hz
  have:=tb.1
  exact ⟨⟨t1,t2⟩,by omega,wI_id (by omega) (by omega)⟩
 refine Ok.bif (fun h4=>?_) fun n4=>Ok.bif (fun h5=>?_) fun n5=>Ok.bif (fun h6=>?_) fun n6=>Ok.bif (fun h7=>?_) fun n7=>Ok.bif (fun h8=>?_) fun n8=>Ok.bif (fun h9=>?_) fun n9=>Ok.bif (fun h10=>?_) fun n10=>Ok.bif (fun h11=>?_) fun n11=>?_
 ·have h4:op=4:=by simpa using h4
  have:=len (.inl h4)
  rw[(thg_get hw this.1 this.2).1,bnd_eq];exact sw _ _
 ·have h5:op=5:=by simpa using h5
  have:=len (.inr h5)
  rw[(thg_get hw this.1 this.2).1,bnd_eq];exact sw _ _
 ·have h6:op=6:=by simpa using h6
  obtain ⟨f1,f2,f3⟩:=fld (by omega)
  rw[(thg_get hw f1.1 f1.2).1,bnd_eq]
  exact Ok.get tb.1 f2 fun _ _=>sw _ _
 ·have h7:op=7:=by simpa using h7
  obtain ⟨f1,f2,f3⟩:=fld (by omega)
  rw[f3]
  exact Ok.b_ (wput_ok hw f1.1 f1.2 tb.1 f2) fun y hy=>Ok.some (up hy)
 ·have h8:op=8:=by simpa using h8
  obtain ⟨f1,f2,f3⟩:=fld (by omega)
  rw[(thg_get hw f1.1 f1.2).1,bnd_eq]
  exact Ok.get tb.1 f2 fun _ _=>Ok.b_ (wlocal_ok hw hN1 _) fun y hy=>Ok.some (up hy)
 ·have h9:op=9:=by simpa using h9
  obtain ⟨f1,f2,f3⟩:=fld (by omega)
  rw[res_eq hw hN1 hv tc,bnd_eq,f3]
  exact Ok.b_ (wput_ok hw f1.1 f1.2 tb.1 f2) fun y hy=>Ok.some (up hy)
 ·rw[res_eq hw hN1 hv tb,bnd_eq]
  exact Ok.bb (sw _ _) (sw _ _)
 ·exact Ok.b_ (wlocal_ok hw hN1 _) fun y hy=>Ok.some (up hy)
 have n4:¬ op=4:=by simpa using n4
 have n5:¬ op=5:=by simpa using n5
 have n6:¬ op=6:=by simpa using n6
 have n7:¬ op=7:=by simpa using n7
 have n8:¬ op=8:=by simpa using n8
 have n9:¬ op=9:=by simpa using n9
 have n10:¬ op=10:=by simpa using n10
 have n11:¬ op=11:=by simpa using n11
 refine Ok.bif (fun _=>Ok.b_ (wlasting_ok hw hN1 _ _) fun y hy=>Ok.some (up hy)) fun nl=>?_
 have nl:¬ (op=13∨op=15):=by simpa using nl
 refine Ok.bif (fun _=>Ok.b_ (wremove_ok hw hN1 _) fun y hy=>Ok.some (up hy)) fun nr=>?_
 have nr:¬ (op=12∨op=14∨op=16):=by simpa using nr
 refine Ok.bif (fun _=>?_) fun n17=>Ok.bif (fun _=>?_) fun n18=>?_
 ·rw[lpush_eq hw.loc hN1,bnd_eq]
  exact Ok.some (up ⟨hw.kk,hw.things,hw.fields,lpush_LB hw.loc _,hw.gloK,hw.weaK,hw.marksK,hw.rootsK⟩)
 ·rw[lpop_eq hw.loc hN1,bnd_eq]
  exact Ok.b_ (wlocal_ok (w:=⟨w.Conf,w.Things,(locPop w.Locals).1,w.Globals,w.Weaks,w.Marks,w.Roots⟩) ⟨hw.kk,hw.things,hw.fields,lpop_LB hw.loc,hw.gloK,hw.weaK,hw.marksK,hw.rootsK⟩ hN1 _) fun y hy=>Ok.some (up hy)
 have n17:¬ op=17:=by simpa using n17
 have n18:¬ op=18:=by simpa using n18
 rw[if_neg (by omega),if_neg (by omega),if_neg (by omega),if_neg (by omega)] at hz
 refine Ok.b_ (wpins_ok hw hN1 wf.m64 op x3 _ fun h20=>?_) fun y hy=>Ok.some (up hy)
 rw[if_pos (.inr h20)] at hz
 unfold pinsW at hz
 by_cases h1:(thingW w a).2=0
 rotate_left
 ·rw[if_pos h1] at hz;exact absurd hz h1
 rw[if_neg (by simpa using h1),if_pos h20,(thing h1).2.2,← hx3 (by omega)] at hz
 by_cases h2:markI w.Marks x3<0
 ·rw[if_pos h2] at hz;cases hz
 ·omega
end
end Go.Sx
namespace Go.Sx
section
variable {N:Nat}
theorem next_ok {t:TTape} {m:Int} (h0:0<=t.at_) (h1:t.at_<=m) (hm:m<=1000000) {a:Int} (ha:a<=1000000000):Ok (Qaa N t a) fun r=>0<=r.1∧(1<=a->r.1<a)∧0<=r.2.at_∧r.2.at_<=m+1:=by
 rw[Qaa]
 refine Ok.bif (fun _=>Ok.some ⟨by simp,fun h=>by omega,h0,by simp only;omega⟩) fun hg=>?_
 have hg:=of_decide_eq_false hg
 have rest:∀ x:Int,Ok (grd (a≠0) <| grd (a≠0) <| some (((wI ((x.tmod a)+a)).tmod a),(TTape.mk t.L (wI (t.at_+1))))) fun r=>0<=r.1∧(1<=a->r.1<a)∧0<=r.2.at_∧r.2.at_<=m+1:=by
  intro x
  have b1:=Int.tmod_lt_of_pos x (show 0<a by omega)
  have b2 : -a<x.tmod a:=by
   have:=Int.tmod_lt_of_pos (-x) (show 0<a by omega)
   rw[Int.neg_tmod] at this
   omega
  have e:=wI_id (n:=x.tmod a+a) (by omega) (by omega)
  have e2:=wI_id (n:=t.at_+1) (by omega) (by omega)
  have c1:=Int.tmod_lt_of_pos (x.tmod a+a) (show 0<a by omega)
  have c2:=Int.tmod_nonneg a (show 0<=x.tmod a+a by omega)
  refine Ok.grd (by omega) (Ok.grd (by omega) (Ok.some ?_))
  simp only[e,e2]
  exact ⟨c2,fun _=>c1,by omega,by omega⟩
 refine Ok.jn (Ok.bif (fun h=>Ok.get h0 (of_decide_eq_true h) fun p _=>rest p) fun _=>rest _)
def TA (m:Int) (t:TTape):Prop:=0<=t.at_∧t.at_<=m
theorem nxp {t:TTape} {m a:Int} (h:TA m t) (hm:m<=1000000) (ha1:1<=a) (ha:a<=1000000000):Ok (Qaa N t a) fun r=>0<=r.1∧r.1<a∧TA (m+1) r.2:=(next_ok h.1 h.2 hm ha).mono fun r hr=>⟨hr.1,hr.2.1 ha1,hr.2.2⟩
theorem TA.le {t:TTape} {m n:Int} (h:TA m t) (hn:m<=n):TA n t:=⟨h.1,by have:=h.2;omega⟩
theorem word_ok28 {p:TPair} {t:TTape} {m:Int} (hw:1<=p.Words.length) (hw2:p.Words.length<=1000) (h:TA m t) (hm:m+5<=1000000):Ok (QaY N p t) fun r=>TA (m+3) r.2:=by
 rw[QaY]
 have k2:∀ (t':TTape) (x8:Bool),TA (m+1) t'->Ok (bif x8 then (bnd (Qaa N t' ((p.Words.length:Nat):Int)) fun y9=>bnd (getI p.Words y9.1) fun p10=>some (p10,y9.2)) else bnd (Qaa N t' (if 6<((p.Words.length:Nat):Int) then 6 else ((p.Words.length:Nat):Int))) fun y11=>bnd (getI p.Words (wI ((wI (((p.Words.length:Nat):Int)-1))-y11.1))) fun p12=>some (p12,y11.2)) fun r=>TA (m+3) r.2:= by
  intro t' x8 h'
  refine Ok.bif (fun _=>Ok.b_ (nxp h' (by omega) (by omega) (by omega)) fun y hy=>Ok.get hy.1 hy.2.1 fun _ _=>Ok.some (hy.2.2.le (by omega))) fun _=>?_
  refine Ok.b_ (nxp h' (by omega) (by split<;>omega) (by split<;>omega)) fun y hy=>?_
  have h1:y.1<((p.Words.length:Nat):Int):=by
   have:=hy.2.1
   split at this<;>omega
  have h0:=hy.1
  rw[wI_id (n:=((p.Words.length:Nat):Int)-1) (by omega) (by omega),wI_id (n:=((p.Words.length:Nat):Int)-1-y.1) (by omega) (by omega)]
  exact Ok.get (by omega) (by omega) fun _ _=>Ok.some (hy.2.2.le (by omega))
 refine Ok.b_ (nxp h (by omega) (by omega) (by omega)) fun y hy=>Ok.bif (fun _=>Ok.b_ (nxp hy.2.2 (by omega) (by omega) (by omega)) fun z hz=>Ok.get hz.1 hz.2.1 fun _ _=>Ok.some (hz.2.2.le (by omega))) fun _=>Ok.bif (fun _=>?_) fun _=>?_
 ·exact Ok.b_ (nxp hy.2.2 (by omega) (by omega) (by omega)) fun z hz=>Ok.get hz.1 hz.2.1 fun _ _=>Ok.b_ (nxp hz.2.2 (by omega) (by omega) (by omega)) fun u hu=>Ok.some (hu.2.2.le (by omega))
 ·refine Ok.j1 (fun x8=>k2 _ x8 hy.2.2) fun j2 h2=>Ok.bb (h2 _) (Ok.j1 (fun x7=>h2 _) fun j h=>Ok.bb (h _) (h _))
theorem deed_ok {p:TPair} {t:TTape} {m:Int} (hw:1<=p.Words.length) (hw2:p.Words.length<=1000) (h:TA m t) (hm:m+30<=1000000):Ok (QbJ N p t) fun r=>TA (m+20) r.2:=by
 rw[QbJ]
 refine Ok.b_ (nxp h (by omega) (by omega) (by omega)) fun y1 h1=>Ok.get h1.1 h1.2.1 fun p2 _=>Ok.bif (fun _=>?_) fun _=>?_
 ·refine Ok.b_ (nxp h1.2.2 (by omega) (by omega) (by omega)) fun y3 h3=>?_
  have e:=wU_id h3.1 (by have:=h3.2.1;omega)
  refine Ok.grd (by rw[e];exact h3.1) ?_
  have hs:1<=sShl .i64 1 (wU y3.1)∧sShl .i64 1 (wU y3.1)<=1000:=by
   rw[e]
   have a:=h3.1
   have b:=h3.2.1
   have c:y3.1=0∨y3.1=1∨y3.1=2∨y3.1=3:=by omega
   rcases c with c | c | c | c<;>rw[c]<;>decide
  exact Ok.b_ (nxp h3.2.2 (by omega) (by omega) (by omega)) fun y4 h4=>Ok.some (h4.2.2.le (by omega))
 ·refine Ok.j1 (fun x5=>Ok.bif (fun _=>?_) fun _=>Ok.bif (fun _=>?_) fun _=>?_) fun j h=>Ok.bb (h _) (h _)
  ·exact Ok.b_ (nxp h1.2.2 (by omega) (by omega) (by omega)) fun y6 h6=>Ok.b_ (nxp h6.2.2 (by omega) (by omega) (by omega)) fun y7 h7=>Ok.bb (Ok.b_ (nxp h7.2.2 (by omega) (by omega) (by omega)) fun y8 h8=>Ok.some (h8.2.2.le (by omega))) (Ok.some (h7.2.2.le (by omega)))
  ·exact Ok.b_ (nxp h1.2.2 (by omega) (by omega) (by omega)) fun y9 h9=>Ok.some (h9.2.2.le (by omega))
  ·refine Ok.b_ (word_ok28 hw hw2 h1.2.2 (by omega)) fun y10 h10=>Ok.b_ (nxp h10 (by omega) (by omega) (by omega)) fun y11 h11=>Ok.b_ (nxp h11.2.2 (by omega) (by omega) (by omega)) fun y12 h12=>?_
   have k:∀ (l:List Int) (at_ c:Int),TA (m+12) ⟨l,at_⟩->Ok (bif (p2==10) then (bnd (QaY N p (TTape.mk l at_)) fun y19 =>
    some ((TDeed.mk p2 y10.1 y19.1 c),y19.2))
   else some ((TDeed.mk p2 y10.1 (wU y11.1) c),(TTape.mk l at_))) fun r=>TA (m+20) r.2:=fun l at_ c ht =>
    Ok.bb (Ok.b_ (word_ok28 hw hw2 ht (by omega)) fun y hy=>Ok.some (hy.le (by omega))) (Ok.some (ht.le (by omega)))
   refine Ok.jn (Ok.bb (Ok.b_ (word_ok28 hw hw2 h12.2.2 (by omega)) fun y hy=>k _ _ _ (hy.le (by omega))) (Ok.b_ (nxp h12.2.2 (by omega) (by omega) (by omega)) fun y13 h13=>Ok.bb (Ok.b_ (word_ok28 hw hw2 h13.2.2 (by omega)) fun y hy=>k _ _ _ (hy.le (by omega))) (k _ _ _ (h13.2.2.le (by omega)))))
structure PB (k:Nat) (p:TPair):Prop where
 env:EB p.Env
 wor:WB k p.World
 ty:tTPair p
 w1:1<=p.Words.length
 w2:p.Words.length<=k+1
theorem wit_ok (a b:TEnv) (op v e:Int):Ok (QcG N a b op v e) fun _=>True:=by
 rw[QcG]
 have k2:∀ x y:Bool,Ok (bif (op==19) then (bif (e==0) then some (TFact.mk x y v)
  else some (TFact.mk x y 0))
  else some (TFact.mk x y 0)) fun _=>True:=fun x y=>Ok.bb (Ok.bb (Ok.some trivial) (Ok.some trivial)) (Ok.some trivial)
 refine Ok.j1 (fun x=>Ok.j1 (fun y=>k2 x y) fun j h=>Ok.bb (h _) (h _)) fun j h=>Ok.bb (h _) (Ok.bb (h _) (h _))
theorem do_ok (hN:NB N) {k:Nat} {p:TPair} (hp:PB k p) (hk:k+1<=900) {d:TDeed} (td:tTDeed d):Ok (Qb2 N p d) fun r=>PB (k+1) r.1:=by
 have ty:=fun r (e:Qb2 N p d=some r)=>Qij (N:=N) hp.ty td r e
 have main:Ok (Qb2 N p d) fun r=>EB r.1.Env∧WB (k+1) r.1.World∧1<=r.1.Words.length∧r.1.Words.length<=k+1+1:=by
  have w1:=hp.w1
  have w2:=hp.w2
  have up:=hp.wor.up hk
  rw[Qb2]
  refine Ok.bif (fun _=>?_) fun _=>?_
  ·refine Ok.b_ (ecollect_ok hN hp.env) fun y1 h1=>Ok.jn (Ok.bb (Ok.b_ (wcollect_ok hN hp.wor hp.ty.2.1) fun y2 h2=>Ok.some ⟨h1,h2.up hk,w1,Nat.le_succ_of_le w2⟩) (Ok.some ⟨hp.env,up,w1,Nat.le_succ_of_le w2⟩))
  ·refine Ok.bnd (ecall_ok hN hp.env _ _ _ _) fun y26 e26 h26=>Ok.b_ (wit_ok _ _ _ _ _) fun y27 _=>Ok.b_ (wcall_ok hN hp.wor hk hp.ty.2.1 d.Op td.1 td.2.1 td.2.2 y27) fun y28 h28=>?_
   have k2:∀ w:TWorld,WB (k+1) w->Ok (α:=TPair×Int×Int) (bif (y26.2.2==0) then (bif (y26.2.1 != 0) then (grd (p.Words.length*8<=140737488355328) <| grd ((p.Words.length+1)*8<=140737488355328) <| some ((TPair.mk y26.1 w (p.Words++[y26.2.1])),y26.2.1,y26.2.2)) else some ((TPair.mk y26.1 w p.Words),y26.2.1,y26.2.2)) else some ((TPair.mk p.Env w p.Words),y26.2.1,y26.2.2)) fun r=>EB r.1.Env∧WB (k+1) r.1.World∧1<=r.1.Words.length∧r.1.Words.length<=k+1+1:= by
    intro w hw
    refine Ok.bb (Ok.bb (Ok.grd (by omega) (Ok.grd (by omega) (Ok.some ⟨h26,hw,?_,?_⟩))) (Ok.some ⟨h26,hw,w1,by simp only;omega⟩)) (Ok.some ⟨hp.env,hw,w1,by simp only;omega⟩)
    ·show 1<=(p.Words++[_]).length;rw[List.length_append];omega
    ·show (p.Words++[_]).length<=_;rw[List.length_append];simp;omega
   exact Ok.jn (Ok.bb (k2 y28.1 h28) (k2 p.World up))
 obtain ⟨r,e,h⟩:=main
 exact ⟨r,e,h.1,h.2.1,(ty r e).1,h.2.2.1,h.2.2.2⟩
end
end Go.Sx
namespace Go.Sx
section
variable {N:Nat}
theorem conf_ok28 {t:TTape} {m:Int} (h:TA m t) (hm:m+5<=1000000):Ok (QdZ N t) fun r=>TA (m+2) r.2:=by
 rw[QdZ]
 exact Ok.b_ (nxp h (by omega) (by omega) (by omega)) fun y hy=>Ok.get hy.1 hy.2.1 fun _ _=>Ok.b_ (nxp hy.2.2 (by omega) (by omega) (by omega)) fun z hz=>Ok.get hz.1 hz.2.1 fun _ _=>Ok.some (hz.2.2.le (by omega))
theorem new18_ok (c:TConf):Ok (QeF N c) fun r=>EB r.1:=by
 rw[QeF,Qfg,vconf_eq,bnd_eq]
 refine Ok.bnd (Q:=fun r:THeap×Int=>HB r.1) ?_ fun y _ hy=>Ok.some ⟨hy,LB_zL,TB_zT,TB_zT,by simp,by simp⟩
 refine Ok.bif (fun _=>Ok.some zH_HB) fun hv=>?_
 have hv:vconf c=true:=by simpa using hv
 have hvc:=vconf_iff.1 hv
 have hm:=pw_mul hv (i:=0) (by omega) (by omega)
 have e:=wI_id (n:=c.Pages*c.PageWords) (by omega) (by omega)
 refine Ok.grd (by rw[e];omega) (Ok.grd (by omega) (Ok.some ⟨?_,?_⟩))
 ·show (List.replicate _ _).length<=_;rw[List.length_replicate,e];omega
 ·show (List.replicate _ _).length<=_;rw[List.length_replicate];omega
theorem new21_ok (c:TConf):Ok (Qc0 N c) fun r=>WB 0 r.1:=by
 rw[Qc0,vconf_eq,bnd_eq]
 have z:∀ c:TConf,WB 0 ⟨c,[],zL,zT,zT,[],[]⟩:=fun c=>⟨by omega,by simp,fun x hx=>by simp at hx,LB_zL,by simp[zT],by simp[zT],by simp,by simp⟩
 exact Ok.bb (Ok.some (z _)) (Ok.some (z _))
theorem start_ok {t:TTape} {m:Int} (h:TA m t) (hm:m+5<=1000000):Ok (Qbv N t) fun r=>PB 0 r.1∧TA (m+3) r.2:=by
 have main:Ok (Qbv N t) fun r=>EB r.1.Env∧WB 0 r.1.World∧1<=r.1.Words.length∧r.1.Words.length<=1∧TA (m+3) r.2:=by
  rw[Qbv]
  refine Ok.b_ (conf_ok28 h hm) fun y1 h1=>Ok.b_ (new18_ok _) fun y2 h2=>Ok.b_ (new21_ok _) fun y3 h3=>Ok.b_ (nxp h1 (by omega) (by omega) (by omega)) fun y4 h4=>Ok.some ⟨⟨h2.heap,⟨h2.loc.1,by simp,h2.loc.2.2⟩,h2.glo,h2.wea,h2.pins,h2.roots⟩,⟨h3.kk,h3.things,h3.fields,⟨h3.loc.1,by simp,h3.loc.2.2⟩,h3.gloK,h3.weaK,h3.marksK,h3.rootsK⟩,by simp,by simp,h4.2.2.le (by omega)⟩
 obtain ⟨r,e,h1,h2,h3,h4,h5⟩:=main
 exact ⟨r,e,⟨h1,h2,QgV r e,h3,h4⟩,h5⟩
theorem play_l1 (hN:NB N):∀ (n:Nat) (i:Int) (t:TTape) (p:TPair) (k:Nat),0<=i->i<=60->(60-i).toNat<n->(k:Int)=i->PB k p->TA (10+20*i) t ->
 Ok (Qd3 N 60 n i t.L t.at_ p.Env.Heap.Conf.PageWords p.Env.Heap.Conf.Pages p.Env.Heap.Words p.Env.Heap.Pages p.Env.Heap.Space p.Env.Heap.Bump p.Env.Locals.Slots p.Env.Locals.Scopes p.Env.Locals.Issued p.Env.Globals.Entries p.Env.Weaks.Entries p.Env.Pins p.Env.Roots p.World.Conf.PageWords p.World.Conf.Pages p.World.Things p.World.Locals.Slots p.World.Locals.Scopes p.World.Locals.Issued p.World.Globals.Entries p.World.Weaks.Entries p.World.Marks p.World.Roots p.Words) fun r=>∃ (p':TPair) (k':Nat),k'<=60∧PB k' p'∧r=(p'.Env.Heap.Conf.PageWords,p'.Env.Heap.Conf.Pages,p'.Env.Heap.Words,p'.Env.Heap.Pages,p'.Env.Heap.Space,p'.Env.Heap.Bump,p'.Env.Locals.Slots,p'.Env.Locals.Scopes,p'.Env.Locals.Issued,p'.Env.Globals.Entries,p'.Env.Weaks.Entries,p'.Env.Pins,p'.Env.Roots,p'.World.Conf.PageWords,p'.World.Conf.Pages,p'.World.Things,p'.World.Locals.Slots,p'.World.Locals.Scopes,p'.World.Locals.Issued,p'.World.Globals.Entries,p'.World.Weaks.Entries,p'.World.Marks,p'.World.Roots,p'.Words)
 | 0,i,t,p,k,_,_,hn,_,_,_=>by omega
 | n+1,i,t,p,k,h0,hi,hn,hk,hp,ht=>by
  have stop:Ok (some (p.Env.Heap.Conf.PageWords,p.Env.Heap.Conf.Pages,p.Env.Heap.Words,p.Env.Heap.Pages,p.Env.Heap.Space,p.Env.Heap.Bump,p.Env.Locals.Slots,p.Env.Locals.Scopes,p.Env.Locals.Issued,p.Env.Globals.Entries,p.Env.Weaks.Entries,p.Env.Pins,p.Env.Roots,p.World.Conf.PageWords,p.World.Conf.Pages,p.World.Things,p.World.Locals.Slots,p.World.Locals.Scopes,p.World.Locals.Issued,p.World.Globals.Entries,p.World.Weaks.Entries,p.World.Marks,p.World.Roots,p.Words)) fun r=>∃ (p':TPair) (k':Nat),k'<=60∧PB k' p'∧r=(p'.Env.Heap.Conf.PageWords,p'.Env.Heap.Conf.Pages,p'.Env.Heap.Words,p'.Env.Heap.Pages,p'.Env.Heap.Space,p'.Env.Heap.Bump,p'.Env.Locals.Slots,p'.Env.Locals.Scopes,p'.Env.Locals.Issued,p'.Env.Globals.Entries,p'.Env.Weaks.Entries,p'.Env.Pins,p'.Env.Roots,p'.World.Conf.PageWords,p'.World.Conf.Pages,p'.World.Things,p'.World.Locals.Slots,p'.World.Locals.Scopes,p'.World.Locals.Issued,p'.World.Globals.Entries,p'.World.Weaks.Entries,p'.World.Marks,p'.World.Roots,p'.Words) :=
   Ok.some ⟨p,k,by omega,hp,rfl⟩
  rw[Qd3]
  refine Ok.bif (fun hc=>?_) fun _=>stop
  have hc:i<60:=of_decide_eq_true hc
  rw[QeP,bnd_eq]
  refine Ok.bif (fun _=>?_) fun _=>stop
  have w1:=hp.w1
  have w2:=hp.w2
  have dty:=fun r (e:QbJ N p t=some r)=>Qhb (N:=N) hp.ty r e
  rw[wI_id (n:=i+1) (by omega) (by omega)]
  refine Ok.bnd (deed_ok (p:=p) (t:=t) w1 (by omega) ht (by omega)) fun y e hy=>?_
  refine Ok.b_ (do_ok hN hp (by omega) (dty y e)) fun z hz=>?_
  exact play_l1 hN n (i+1) y.2 z.1 (k+1) (by omega) (by omega) (by omega) (by omega) hz (hy.le (by omega))
theorem play_ok (hN:NB N) (l:List Int):Ok (Qfj N l 60) fun p=>∃ k,k<=60∧PB k p:=by
 have hN':=hN
 unfold NB at hN'
 rw[Qfj]
 refine Ok.b_ (start_ok (m:=0) ⟨by simp,by simp⟩ (by omega)) fun y hy=>Ok.b_ (play_l1 hN N 0 y.2 y.1 0 (by omega) (by omega) (by omega) rfl hy.1 (hy.2.le (by omega))) fun z hz=>Ok.some ?_
 obtain ⟨p',k',h1,h2,rfl⟩:=hz
 exact ⟨k',h1,h2⟩
theorem twist_ok {k:Nat} {w:TWorld} (hw:WB k w) (hk:k+1<=900) {t:TTape} (ht:TA 100000 t):Ok (Qeo N w t) fun r=>WB (k+1) r.1∧TA 100010 r.2:=by
 have up:=hw.up hk
 have b1:=hw.rootsK
 have b2:=hw.things
 have b3:=hw.marksK
 have b4:=hw.weaK
 rw[Qeo]
 refine Ok.b_ (nxp ht (by omega) (by omega) (by omega)) fun y1 h1=>Ok.bif (fun _=>?_) fun _=>Ok.bif (fun _=>Ok.bif (fun hg=>?_) fun _=>Ok.some ⟨up,h1.2.2.le (by omega)⟩) fun _=>Ok.bif (fun _=>?_) fun _=>Ok.bif (fun _=>?_) fun _=>Ok.bif (fun _=>?_) fun _=>Ok.bif (fun hg=>?_) fun _=>Ok.some ⟨up,h1.2.2.le (by omega)⟩
 ·refine Ok.grd (by omega) (Ok.b_ (nxp h1.2.2 (by omega) (by omega) (by omega)) fun y2 h2=>Ok.grd (by omega) (Ok.some ⟨⟨hk,up.things,hw.fields,hw.loc,up.gloK,up.weaK,up.marksK,?_⟩,h2.2.2.le (by omega)⟩))
  show (w.Roots++[_]).length<=_;rw[List.length_append];simp;omega
 ·have hg:0<(w.Things.length:Int):=of_decide_eq_true hg
  refine Ok.grd (by omega) (Ok.b_ (nxp h1.2.2 (by omega) (by omega) (by omega)) fun y3 h3=>Ok.b_ (nxp h3.2.2 (by omega) (by omega) (by omega)) fun y4 h4=>Ok.get h3.1 h3.2.1 fun p hp=>Ok.some ⟨⟨hk,?_,fun x hx=>?_,hw.loc,up.gloK,up.weaK,up.marksK,up.rootsK⟩,h4.2.2.le (by omega)⟩)
  ·show (w.Things.set _ _).length<=_;rw[List.length_set];omega
  ·rcases List.mem_or_eq_of_mem_set hx with h | h
   ·exact hw.fields x h
   ·rw[h];exact hw.fields p (getI_mem hp)
 ·refine Ok.grd (by omega) (Ok.b_ (nxp h1.2.2 (by omega) (by omega) (by omega)) fun y2 h2=>Ok.b_ (nxp h2.2.2 (by omega) (by omega) (by omega)) fun y3 h3=>Ok.b_ (nxp h3.2.2 (by omega) (by omega) (by omega)) fun y4 h4=>Ok.grd (by omega) (Ok.some ⟨⟨hk,up.things,hw.fields,hw.loc,up.gloK,up.weaK,?_,up.rootsK⟩,h4.2.2.le (by omega)⟩))
  show (w.Marks++[_]).length<=_;rw[List.length_append];simp;omega
 ·refine Ok.grd (by omega) (Ok.b_ (nxp h1.2.2 (by omega) (by omega) (by omega)) fun y2 h2=>Ok.grd (by omega) (Ok.some ⟨⟨hk,up.things,hw.fields,hw.loc,up.gloK,?_,up.marksK,up.rootsK⟩,h2.2.2.le (by omega)⟩))
  show (w.Weaks.Entries++[_]).length<=_;rw[List.length_append];simp;omega
 ·exact Ok.b_ (nxp h1.2.2 (by omega) (by omega) (by omega)) fun y2 h2=>Ok.some ⟨⟨hk,up.things,hw.fields,hw.loc,up.gloK,up.weaK,up.marksK,up.rootsK⟩,h2.2.2.le (by omega)⟩
 ·have hg:0<(w.Things.length:Int):=of_decide_eq_true hg
  have e:=wI_id (n:=((w.Things.length:Nat):Int)-1) (by omega) (by omega)
  refine Ok.grd (by rw[e];omega) (Ok.some ⟨⟨hk,?_,fun x hx=>hw.fields x (List.mem_of_mem_take hx),hw.loc,up.gloK,up.weaK,up.marksK,up.rootsK⟩,h1.2.2.le (by omega)⟩)
  show (w.Things.take _).length<=_;rw[List.length_take];omega
theorem light_l1 {w:TWorld} (hl:w.Things.length<=140737488355328):∀ (n:Nat) (i:Int),0<=i->i<=w.Things.length->(w.Things.length-i).toNat<n->Ok (QbQ N w n i) fun e=>match e with | .ret b=>b=false | .nxt _=>∀ j,i<=j->∀ x,getI w.Things j=some x->x.Fields.length<=300
 | 0,i,_,_,hn=>by omega
 | n+1,i,h0,hi,hn=>by
  rw[QbQ]
  refine Ok.bif (fun hc=>?_) fun hc=>Ok.some fun j hj x hx=>?_
  rotate_left
  ·have:=of_decide_eq_false hc
   rw[getI_none (by omega)] at hx;cases hx
  have hc:i<w.Things.length:=of_decide_eq_true hc
  rw[wI_id (n:=i+1) (by omega) (by omega)]
  refine Ok.get h0 hc fun p hp=>Ok.bif (fun _=>Ok.some rfl) fun hf=>?_
  have hf:=of_decide_eq_false hf
  refine (light_l1 hl n (i+1) (by omega) (by omega) (by omega)).mono fun e he=>?_
  cases e with
  | ret b=>exact he
  | nxt u =>
   intro j hj x hx
   by_cases hij:j=i
   ·subst hij
    obtain rfl:p=x:=Option.some.inj (hp.symm.trans hx)
    omega
   ·exact he j (by omega) x hx
theorem light_ok {w:TWorld} (hl:w.Things.length<=140737488355328) (hN:w.Things.length<N):Ok (QdK N w) fun b=>b=true->WB 100 w:=by
 rw[QdK]
 refine Ok.exk (light_l1 hl N 0 (by omega) (by omega) (by omega)) (fun b q=>Ok.some fun e=>?_) fun u q=>?_
 ·have q:b=false:=q
  rw[q] at e;cases e
 ·refine Ok.bif (fun g1=>Ok.bif (fun g2=>Ok.bif (fun g3=>Ok.bif (fun g4=>Ok.bif (fun g5=>Ok.bif (fun g6=>Ok.bif (fun g7=>Ok.some fun g8=>?_) fun _=>Ok.some fun e=>by cases e) fun _=>Ok.some fun e=>by cases e) fun _=>Ok.some fun e=>by cases e) fun _=>Ok.some fun e=>by cases e) fun _=>Ok.some fun e=>by cases e) fun _=>Ok.some fun e=>by cases e) fun _=>Ok.some fun e=>by cases e
  have g1:=of_decide_eq_true g1
  have g2:=of_decide_eq_true g2
  have g3:=of_decide_eq_true g3
  have g4:=of_decide_eq_true g4
  have g5:=of_decide_eq_true g5
  have g6:=of_decide_eq_true g6
  have g7:=of_decide_eq_true g7
  have g8:=of_decide_eq_true g8
  refine ⟨by omega,by omega,fun x hx=>?_,⟨by omega,by omega,by omega⟩,by omega,by omega,by omega,by omega⟩
  obtain ⟨j,hj,e⟩:=List.getElem_of_mem hx
  have:=q (j:Int) (by omega) x (by rw[getI_nat,List.getElem?_eq_getElem hj,e])
  omega
end
end Go.Sx
namespace Go.Sx
theorem idxLoop {α:Type} {l:List α} {F:Nat->Int->Option (Ex Int Unit)} {p:α->Bool} (hl:l.length<=1000000)
 (hstep:∀ (n k:Nat) (x:α),l[k]? = some x->F (n+1) (k:Int)=bif p x then some (.ret (k:Int)) else F n ((k+1:Nat):Int))
 (hstop:∀ n:Nat,F (n+1) (l.length:Int)=some (.nxt ())):∀ (n k:Nat),k<=l.length->l.length-k<n->F n (k:Int)=some (match (l.drop k).findIdx? p with | some j=>.ret ((k+j:Nat):Int) | none=>.nxt ())
 | 0,k,_,hn=>by omega
 | n+1,k,hk,hn=>by
  by_cases h:k<l.length
  ·rw[hstep n k _ (List.getElem?_eq_getElem h),List.drop_eq_getElem_cons h,List.findIdx?_cons]
   cases hp:p l[k]
   ·rw[cond_false,idxLoop hl hstep hstop n (k+1) (by omega) (by omega),if_neg (by simp)]
    cases (l.drop (k+1)).findIdx? p with
    | none=>rfl
    | some j=>simp only[Option.map_some];rw[show k+1+j=k+(j+1) by omega]
   ·rw[cond_true,if_pos rfl];simp
  ·obtain rfl:k=l.length:=by omega
   rw[hstop,List.drop_eq_nil_of_le (Nat.le_refl _)]
   rfl
def findI {α:Type} (p:α->Bool) (l:List α):Int:=match l.findIdx? p with | some j=>(j:Int) | none=>-1
theorem idx_eq {α:Type} {l:List α} {F:Nat->Int->Option (Ex Int Unit)} {p:α->Bool} {N:Nat} (hl:l.length<=1000000) (hN:1000000<N)
 (hstep:∀ (n k:Nat) (x:α),l[k]? = some x->F (n+1) (k:Int)=bif p x then some (.ret (k:Int)) else F n ((k+1:Nat):Int))
 (hstop:∀ n:Nat,F (n+1) (l.length:Int)=some (.nxt ())):(bnd (F N 0) fun e=>exK e (fun r=>some r) fun _=>some (-1))=some (findI p l):=by
 have h:=idxLoop hl hstep hstop N 0 (by omega) (by omega)
 rw[show ((0:Nat):Int)=0 from rfl,List.drop_zero] at h
 rw[h,bnd_eq,findI]
 cases l.findIdx? p with
 | none=>simp only[exK_nxt]
 | some j=>simp only[exK_ret,Nat.zero_add]
theorem findI_any {α:Type} (p:α->Bool) (l:List α):decide (findI p l>=0)=l.any p:=by
 unfold findI
 cases h:l.findIdx? p with
 | none =>
  rw[List.findIdx?_eq_none_iff] at h
  rw[show l.any p=false by rw[List.any_eq_false];intro x hx;rw[h x hx];simp]
  rfl
 | some j =>
  obtain ⟨hj,hp,_⟩:=List.findIdx?_eq_some_iff_getElem.1 h
  rw[show l.any p=true by rw[List.any_eq_true];exact ⟨_,List.getElem_mem hj,hp⟩]
  exact decide_eq_true (by show ((j:Nat):Int)>=0;omega)
section
variable {N:Nat}
theorem not_ent (e:TEntry):Qev N e=some (!entOK e):=by
 rw[Qev]
 unfold entOK
 cases decide (e.Gen<1)<;>cases decide (e.Gen>4294967295)<;>cases e.Live<;>cases (e.Ref != 0)<;>rfl
theorem any_not {α:Type} (p:α->Bool) (l:List α):(!l.any fun x=>!p x)=l.all p:=by
 rw[List.not_any_eq_all_not]
 congr 1
 funext x
 simp
theorem gtval_eq {t:TTable} (hl:TB t) (hN:1000000<N):Qdb N t=some (tabV t.Entries):=by
 unfold TB at hl
 rw[Qdb,Qan,Qas]
 rw[idx_eq (p:=fun e=>!entOK e) hl hN (fun n k x e=>by
  have hk:=lt_of_some e
  rw[Qaf,dlt_true hk,cond_true,getI_nat,e,bnd_eq,not_ent,bnd_eq,wI_succ (by omega)]) (fun n=>by rw[Qaf,dlt_false,cond_false])]
 rw[bnd_eq,bnd_eq,findI_any,any_not,tabV,show decide (((t.Entries.length:Nat):Int)<=64)=decide (t.Entries.length<=64) from decide_eq_decide.2 (by omega)]
 cases t.Entries.all entOK<;>cases decide (t.Entries.length<=64)<;>rfl
theorem gtrefs_l1 {t:TTable} (hl:t.Entries.length<=1000000):∀ (n k:Nat) (v:List Int),k<=t.Entries.length->t.Entries.length-k<n->v.length<=k ->
 QcV N t n (k:Int) v=some (v++liveT (t.Entries.drop k))
 | 0,k,v,_,hn,_=>by omega
 | n+1,k,v,hk,hn,hlv=>by
  rw[QcV]
  by_cases h:k<t.Entries.length
  ·rw[dlt_true h,cond_true,getI_nat,List.getElem?_eq_getElem h,bnd_eq,wI_succ (by omega),List.drop_eq_getElem_cons h,liveT]
   cases hL:t.Entries[k].Live
   ·rw[cond_false,gtrefs_l1 hl n (k+1) v (by omega) (by omega) (by omega),List.filter_cons_of_neg (by rw[hL];simp)]
    rfl
   ·rw[cond_true,grd_eq (by omega),gtrefs_l1 hl n (k+1) _ (by omega) (by omega) (by rw[List.length_append];simp;omega),List.filter_cons_of_pos (by rw[hL])]
    simp[liveT]
  ·obtain rfl:k=t.Entries.length:=by omega
   rw[dlt_false,cond_false,List.drop_eq_nil_of_le (Nat.le_refl _)]
   simp[liveT]
theorem gtrefs_eq {t:TTable} (hl:TB t) (hN:1000000<N):QdL N t=some (bif tabV t.Entries then liveT t.Entries else []):=by
 rw[QdL,gtval_eq hl hN,bnd_eq]
 cases hv:tabV t.Entries
 ·rfl
 ·have h:=gtrefs_l1 (N:=N) (t:=t) hl N 0 [] (by omega) (by unfold TB at hl;omega) (by simp)
  rw[show ((0:Nat):Int)=0 from rfl,List.drop_zero,List.nil_append] at h
  rw[Bool.not_true,cond_false,h,bnd_eq];rfl
theorem scope1_eq (x:Int):Qeu N x=some (!(!decide (x<0)&&!decide (x>4095))):=by
 rw[Qeu,show decide (x>=4096)=decide (x>4095) from decide_eq_decide.2 (by omega)]
 cases decide (x<0)<;>cases decide (x>4095)<;>rfl
theorem nested_l1 {a:TLocals}:∀ (n:Nat) (s i:Int),Qap N ⟨a⟩ n s i=Qae N a n s i
 | 0,s,i=>by rw[Qap,Qae]
 | n+1,s,i=>by
  rw[Qap,Qae]
  have e:∀ s i,Qap N ⟨a⟩ n s i=Qae N a n s i:=nested_l1 n
  simp only[e]
theorem stamped_l1 {a:TLocals}:∀ (n:Nat) (s i:Int),Qav N ⟨a⟩ n s i=Qag N a n s i
 | 0,s,i=>by rw[Qav,Qag]
 | n+1,s,i=>by
  rw[Qav,Qag]
  have e:∀ s i,Qav N ⟨a⟩ n s i=Qag N a n s i:=stamped_l1 n
  have c:∀ p:TSlot,(p.Live==(p.Ref==0))=(!(p.Live==(p.Ref != 0))):=fun p=>by
   show (p.Live==(p.Ref==0))=(!(p.Live==!(p.Ref==0)))
   cases p.Live<;>cases (p.Ref==0)<;>rfl
  simp only[e,c]
theorem gslots_eq {a:TLocals} (hl:LBp a) (hne:neB a.Slots.length a.Scopes=true) {k:Nat} {p:TScope} (hp:a.Scopes[k]? = some p):Qcz N ⟨a⟩ (k:Int)=some ((a.Slots.drop p.From.toNat).take ((toL a k).toNat-p.From.toNat)):=by
 have hf:=neB_from hne hp
 have hk:=lt_of_some hp
 have hl2:=hl.2.1
 have hle:(Tframes.mk a).Locals.Slots.length=a.Slots.length:=rfl
 rw[Qcz,wI_succ (by omega),toL]
 by_cases h:k+1<a.Scopes.length
 ·have e2:=List.getElem?_eq_getElem h
  have hf2:=neB_from hne e2
  have:=hf.2.2.2.2.2 _ e2
  rw[dlt_true h,cond_true,getI_nat,hp,bnd_eq,getI_nat,e2,bnd_eq,grd_eq (by omega)]
 ·rw[show decide (((k+1:Nat):Int)<((a.Scopes.length:Nat):Int))=false from decide_eq_false (by omega),cond_false,getI_nat,hp,bnd_eq,grd_eq (by omega),List.getElem?_eq_none (by omega)]
  congr 1
  rw[List.take_of_length_le]
  rw[List.length_drop];simp
theorem glive_l1 (l:List TSlot) (hl:l.length<=1000000):∀ (n k c:Nat),k<=l.length->l.length-k<n->c<=k->Qa2 N l n (c:Int) (k:Int)=some (((c+(l.drop k).countP (·.Live):Nat):Int))
 | 0,k,c,_,hn,_=>by omega
 | n+1,k,c,hk,hn,hc=>by
  rw[Qa2]
  by_cases h:k<l.length
  ·rw[dlt_true h,cond_true,getI_nat,List.getElem?_eq_getElem h,bnd_eq,wI_succ (by omega),wI_succ (by omega),List.drop_eq_getElem_cons h,List.countP_cons]
   cases hL:l[k].Live
   ·rw[cond_false,glive_l1 l hl n (k+1) c (by omega) (by omega) (by omega)];simp
   ·rw[cond_true,glive_l1 l hl n (k+1) (c+1) (by omega) (by omega) (by omega)];simp;omega
  ·obtain rfl:k=l.length:=by omega
   rw[dlt_false,cond_false,List.drop_eq_nil_of_le (Nat.le_refl _)];simp
theorem glive_eq {a:TLocals} (hl:LBp a) (hN:1000000<N) (hne:neB a.Slots.length a.Scopes=true) {k:Nat} {p:TScope} (hp:a.Scopes[k]? = some p):Qb6 N ⟨a⟩ (k:Int)=some ((liveN a.Slots p.From.toNat (toL a k).toNat:Nat):Int):=by
 have hl1:=hl.1
 rw[Qb6,gslots_eq hl hne hp,bnd_eq]
 have hlen:((a.Slots.drop p.From.toNat).take ((toL a k).toNat-p.From.toNat)).length<=1000000:=by rw[List.length_take,List.length_drop];omega
 have h:=glive_l1 (N:=N) _ hlen N 0 0 (by omega) (by omega) (by omega)
 rw[show ((0:Nat):Int)=0 from rfl,List.drop_zero,Nat.zero_add] at h
 rw[h,bnd_eq];rfl
theorem glval_eq {a:TLocals} (hl:LBp a) (hN:1000000<N):Qda N a=some (locV a):=by
 have hl':=hl
 obtain ⟨hl1,hl2,hl3⟩:=hl
 rw[Qda,QaS,Qa9]
 rw[idx_eq (p:=fun x=>!(!decide (x<0)&&!decide (x>4095))) hl3 hN (fun n k x e=>by
  have hk:=lt_of_some e
  rw[Qam,dlt_true hk,cond_true,getI_nat,e,bnd_eq,scope1_eq,bnd_eq,wI_succ (by omega)]) (fun n=>by rw[Qam,dlt_false,cond_false])]
 have h2:=foldLoop (l:=a.Slots) (F:=fun n s i=>Qag N a n s i) (q:=stQ a.Issued) (nxp:=fun _ p=>p.Stamp) (I:=fun s=>0<=s) (fun n s k p hs e=>by
  have hk:=lt_of_some e
  show Qag N a (n+1) s (k:Int)=_
  rw[Qag,dlt_true hk,cond_true,getI_nat,e,bnd_eq,wI_succ (by omega)]
  unfold stQ
  cases g1:decide (p.Stamp<=s)
  ·cases g2:decide (p.Stamp>((a.Issued.length:Nat):Int))
   ·have g1:=of_decide_eq_false g1
    have g2:=of_decide_eq_false g2
    rw[cond_false,cond_false,wI_id (by omega) (by omega),getI_of (by omega) (by omega),bnd_eq]
    have ge:a.Issued[(p.Stamp-1).toNat]'(by omega)=a.Issued.getD (p.Stamp-1).toNat 0:=by
     rw[List.getD_eq_getElem?_getD,List.getElem?_eq_getElem (by omega)];rfl
    rw[ge]
    cases (a.Issued.getD (p.Stamp-1).toNat 0 != (k:Int))<;>cases (p.Live==(p.Ref != 0))<;>rfl
   ·rfl
  ·rfl) (fun n s=>by show Qag N a (n+1) s _=_;rw[Qag,dlt_false,cond_false]) (fun s k p hs e hq=>by
   unfold stQ at hq
   simp only[Bool.and_eq_true,Bool.not_eq_true',decide_eq_false_iff_not] at hq
   have:=hq.1
   omega) N 0 0 (by omega) (by omega) (by omega)
 have h3:=foldLoop (l:=a.Scopes) (F:=fun n s i=>Qae N a n s i) (q:=neQ a.Slots.length) (nxp:=fun _ p=>p.From) (I:=fun _=>True) (fun n s k p hs e=>by
  have hk:=lt_of_some e
  show Qae N a (n+1) s (k:Int)=_
  rw[Qae,dlt_true hk,cond_true,getI_nat,e,bnd_eq,wI_succ (by omega)]
  unfold neQ
  cases ((k:Int)==0)<;>cases (p.From != 0)<;>cases p.Base<;>cases decide (p.From<s)<;>cases decide (p.From>((a.Slots.length:Nat):Int))<;>cases decide (p.Cap<0)<;>cases decide (p.Cap>64)<;>rfl) (fun n s=>by show Qae N a (n+1) s _=_;rw[Qae,dlt_false,cond_false]) (fun _ _ _ _ _ _=>trivial) N 0 0 trivial (by omega) (by omega)
 rw[List.drop_zero] at h2 h3
 have e2:Qag N a N 0 0=some (bif stB a.Issued a.Slots then .nxt () else .ret false):=h2
 have e3:Qae N a N 0 0=some (bif neB a.Slots.length a.Scopes then .nxt () else .ret false):=h3
 have en:Qcf N ⟨a⟩=some (!decide (((a.Scopes.length:Nat):Int)>64)&&((!(((a.Scopes.length:Nat):Int)==0)||!decide (((a.Slots.length:Nat):Int)>0))&&neB a.Slots.length a.Scopes)):=by
  rw[Qcf,jn_eq,nested_l1,e3,bnd_eq]
  cases neB a.Slots.length a.Scopes<;>cases decide (((a.Scopes.length:Nat):Int)>64)<;>cases (((a.Scopes.length:Nat):Int)==0)<;>cases decide (((a.Slots.length:Nat):Int)>0)<;>simp only[cond_true,cond_false,exK_ret,exK_nxt]<;>rfl
 have es:Qb3 N ⟨a⟩=some (stB a.Issued a.Slots):=by
  rw[Qb3,stamped_l1,e2,bnd_eq]
  cases stB a.Issued a.Slots<;>simp only[cond_true,cond_false,exK_ret,exK_nxt]
 rw[bnd_eq,bnd_eq,findI_any,en,bnd_eq,es,bnd_eq,locV,issB]
 have ea:(a.Issued.any fun x=>!(!decide (x<0)&&!decide (x>4095))) = !(a.Issued.all fun p=>!decide (p<0)&&!decide (p>4095)):=by
  rw[← any_not,Bool.not_not]
 rw[ea]
 cases decide (((a.Issued.length:Nat):Int)>4096)
 rotate_left
 ·rfl
 cases (a.Issued.all fun p=>!decide (p<0)&&!decide (p>4095))
 ·cases decide (((a.Scopes.length:Nat):Int)>64)<;>cases (!(((a.Scopes.length:Nat):Int)==0)||!decide (((a.Slots.length:Nat):Int)>0))<;>rfl
 cases decide (((a.Scopes.length:Nat):Int)>64)
 rotate_left
 ·rfl
 cases (!(((a.Scopes.length:Nat):Int)==0)||!decide (((a.Slots.length:Nat):Int)>0))
 ·rfl
 cases hne:neB a.Slots.length a.Scopes
 ·cases stB a.Issued a.Slots<;>rfl
 cases stB a.Issued a.Slots
 ·rfl
 simp only[cond_false,Bool.not_true,Bool.not_false,Bool.true_and,Bool.and_true]
 have h4:=allLoop (l:=a.Scopes) (F:=Qcp N a) (q:=capQ a ()) (fun n k p e=>by
  have hk:=lt_of_some e
  rw[Qcp,dlt_true hk,cond_true,getI_nat,e,bnd_eq,glive_eq hl' hN hne e,bnd_eq,wI_succ (by omega)]
  unfold capQ
  cases decide (((liveN a.Slots p.From.toNat (toL a k).toNat:Nat):Int)>p.Cap)<;>rfl) (fun n=>by rw[Qcp,dlt_false,cond_false]) (n:=N) (by omega)
 rw[h4,bnd_eq]
 show exK (bif capB a then Ex.nxt () else Ex.ret false) _ _=_
 cases capB a
 ·rw[cond_false,exK_ret]
 ·rw[cond_true,exK_nxt]
theorem glrefs_l1 {a:TLocals} (hl:a.Slots.length<=1000000):∀ (n k:Nat) (v:List Int),k<=a.Slots.length->a.Slots.length-k<n->v.length<=k ->
 QcU N a n (k:Int) v=some (v++liveS (a.Slots.drop k))
 | 0,k,v,_,hn,_=>by omega
 | n+1,k,v,hk,hn,hlv=>by
  rw[QcU]
  by_cases h:k<a.Slots.length
  ·rw[dlt_true h,cond_true,getI_nat,List.getElem?_eq_getElem h,bnd_eq,wI_succ (by omega),List.drop_eq_getElem_cons h,liveS]
   cases hL:a.Slots[k].Live
   ·rw[cond_false,glrefs_l1 hl n (k+1) v (by omega) (by omega) (by omega),List.filter_cons_of_neg (by rw[hL];simp)]
    rfl
   ·rw[cond_true,grd_eq (by omega),glrefs_l1 hl n (k+1) _ (by omega) (by omega) (by rw[List.length_append];simp;omega),List.filter_cons_of_pos (by rw[hL])]
    simp[liveS]
  ·obtain rfl:k=a.Slots.length:=by omega
   rw[dlt_false,cond_false,List.drop_eq_nil_of_le (Nat.le_refl _)]
   simp[liveS]
theorem glrefs_eq {a:TLocals} (hl:LBp a) (hN:1000000<N):QeX N a=some (bif locV a then liveS a.Slots else []):=by
 rw[QeX,glval_eq hl hN,bnd_eq]
 cases hv:locV a
 ·rfl
 ·have h:=glrefs_l1 (N:=N) (a:=a) hl.1 N 0 [] (by omega) (by have:=hl.1;omega) (by simp)
  rw[show ((0:Nat):Int)=0 from rfl,List.drop_zero,List.nil_append] at h
  rw[Bool.not_true,cond_false,h,bnd_eq];rfl
end
end Go.Sx
namespace Go.Sx
theorem bOr_one {m:Int} (h0:0<=m) (h1:2*m+1<=18446744073709551615):bOr .u64 (m*2) 1=m*2+1:=by
 obtain ⟨n,rfl⟩:=Int.eq_ofNat_of_zero_le h0
 have hb:IntKind.u64.bits=64:=rfl
 show IntKind.u64.wrap ((BitVec.ofInt IntKind.u64.bits ((n:Int)*2) ||| BitVec.ofInt IntKind.u64.bits 1).toNat:Int)=_
 rw[hb]
 have e1:BitVec.ofInt 64 ((n:Int)*2)=BitVec.ofNat 64 (n*2):=by
  rw[show (n:Int)*2=((n*2:Nat):Int) by omega];exact BitVec.ofInt_natCast 64 (n*2)
 have e2:BitVec.ofInt 64 (1:Int)=BitVec.ofNat 64 1:=by decide
 have hn:n*2 % 2 ^ 64=n*2:=Nat.mod_eq_of_lt (by omega)
 have h3:=Nat.shiftLeft_add_eq_or_of_lt (i:=1) (b:=1) (by decide) n
 rw[Nat.shiftLeft_eq,Nat.pow_one] at h3
 rw[e1,e2,BitVec.toNat_or,BitVec.toNat_ofNat,BitVec.toNat_ofNat,hn,show 1 % 2 ^ 64=1 from rfl,← h3]
 show wU _=_
 rw[wU_id (by omega) (by omega)]
 omega
section
variable {N:Nat}
theorem ones_l1 {a:Int} (h0:0<=a) (h1:a<=64):∀ (n k:Nat),(k:Int)<=a->(a-k).toNat<n->Qd4 N a n ((2:Int) ^ k-1) (k:Int)=some ((2:Int) ^ a.toNat-1)
 | 0,k,_,hn=>by omega
 | n+1,k,hk,hn=>by
  rw[Qd4]
  have e:(if 64<(if a<0 then 0 else a) then 64 else (if a<0 then 0 else a))=a:=by
   rw[if_neg (show ¬ a<0 by omega),if_neg (by omega)]
  rw[e]
  by_cases h:(k:Int)<a
  ·have hp:(1:Int)<=2 ^ k:=Int.pow_pos (n:=(2:Int)) (m:=k) (by decide)
   have hq:(2:Int) ^ k<=2 ^ 63:=by
    have:2 ^ k<=2 ^ 63:=Nat.pow_le_pow_right (by omega) (by omega)
    exact_mod_cast this
   have s1:sShl .u64 ((2:Int) ^ k-1) 1=wU (((2:Int) ^ k-1)*2):=rfl
   rw[decide_eq_true h,cond_true,s1,wU_id (by omega) (by omega),bOr_one (by omega) (by omega),wI_succ (by omega)]
   have e2:((2:Int) ^ k-1)*2+1=2 ^ (k+1)-1:=by rw[Int.pow_succ];omega
   rw[e2]
   exact ones_l1 h0 h1 n (k+1) (by omega) (by omega)
  ·rw[decide_eq_false h,cond_false,show k=a.toNat by omega]
theorem ones_eq {a:Int} (h0:0<=a) (h1:a<=64) (hN:1000<N):QdM N a=some ((2:Int) ^ a.toNat-1):=by
 have:=ones_l1 (N:=N) h0 h1 N 0 (by omega) (by omega)
 rw[QdM]
 rw[show ((2:Int) ^ 0-1)=0 from rfl,show ((0:Nat):Int)=0 from rfl] at this
 rw[this,bnd_eq]
theorem gvalidH_eq (hN:1000<N) (d:THeader):QcA N d=some (validH d):=by
 rw[QcA,validH]
 by_cases h1:d.Kind<0
 ·rw[decide_eq_true h1,cond_true,decide_eq_false (by omega),Bool.false_and]
 rw[decide_eq_false h1,cond_false]
 by_cases h2:d.Kind>3
 ·rw[decide_eq_true h2,cond_true,decide_eq_false (by omega),Bool.false_and]
 rw[decide_eq_false h2,cond_false]
 by_cases h3:d.Length<0
 ·rw[decide_eq_true h3,cond_true,decide_eq_false (by omega),Bool.false_and]
 rw[decide_eq_false h3,cond_false]
 by_cases h4:d.Length>255
 ·rw[decide_eq_true h4,cond_true,decide_eq_false (p:=0<=d.Kind∧d.Kind<=3∧0<=d.Length∧d.Length<=255) (by omega),Bool.false_and]
 rw[decide_eq_false h4,cond_false,decide_eq_true (p:=0<=d.Kind∧d.Kind<=3∧0<=d.Length∧d.Length<=255) (by omega),Bool.true_and]
 by_cases h5:d.Kind=1
 ·rw[if_pos h5,beq_true h5,cond_true,jn_eq]
  by_cases h6:d.Length<=32
  ·rw[decide_eq_true h6,cond_true,ones_eq (by omega) (by omega) hN,bnd_eq,Bool.true_and,wU_eq]
   exact congrArg some (decide_eq_decide.2 (by omega))
  ·rw[decide_eq_false h6,cond_false,Bool.false_and]
 ·rw[if_neg h5,beq_false h5,cond_false]
  simp only[BEq.rfl,Bool.true_and]
  rfl
theorem gsizeH_eq (hN:1000<N) (d:THeader):QeA N d=some (sizeH d):=by
 rw[QeA,gvalidH_eq hN,bnd_eq,sizeH]
 cases h:validH d with
 | false=>rfl
 | true =>
  have:=validH_b h
  rw[Bool.not_true,cond_false,wI_id (n:=d.Length+1) (by omega) (by omega)]
  rfl
theorem gptrH_eq (hN:1000<N) (d:THeader) (i:Int):Qd5 N d i=some (ptrH d i):=by
 rw[Qd5,gvalidH_eq hN,bnd_eq,ptrH]
 cases h:validH d with
 | false=>rfl
 | true =>
  have hb:=validH_b h
  rw[Bool.not_true,cond_false,Bool.true_and]
  by_cases h1:i<0
  ·rw[decide_eq_true h1,cond_true,decide_eq_false (by omega),Bool.false_and]
  rw[decide_eq_false h1,cond_false]
  by_cases h2:i>=d.Length
  ·rw[decide_eq_true h2,cond_true,decide_eq_false (by omega),Bool.false_and]
  rw[decide_eq_false h2,cond_false,decide_eq_true (p:=0<=i∧i<d.Length) (by omega),Bool.true_and,wU_id (n:=i) (by omega) (by omega)]
  by_cases h3:d.Kind=2
  ·rw[beq_true h3,cond_true,decide_eq_true h3,Bool.true_or]
  rw[beq_false h3,cond_false,decide_eq_false h3,Bool.false_or]
  by_cases h4:d.Kind=1
  ·rw[beq_true h4,cond_true,decide_eq_true h4,Bool.true_and,grd_eq (by omega)]
  ·rw[beq_false h4,cond_false,decide_eq_false h4,Bool.false_and]
theorem gptrs_l1 (hN:1000<N) (d:THeader) (hv:validH d=true):∀ (n:Nat) (i:Int) (v:List Int),0<=i->i<=d.Length+1->(d.Length+1-i).toNat<n->v.length+(d.Length+1-i).toNat<=1000->Qbk N d (d.Length+1) n i v=some (v++ptrsFrom d (d.Length-i).toNat i)
 | 0,i,v,_,_,hn,_=>by omega
 | n+1,i,v,h0,h1,hn,hl=>by
  have hb:=validH_b hv
  rw[Qbk]
  by_cases h:i<d.Length+1
  ·rw[decide_eq_true h,cond_true,gptrH_eq hN,bnd_eq,wI_id (n:=i+1) (by omega) (by omega)]
   by_cases h2:i<d.Length
   ·obtain ⟨k,hk⟩:∃ k,(d.Length-i).toNat=k+1:=⟨(d.Length-i).toNat-1,by omega⟩
    have hk2:(d.Length-(i+1)).toNat=k:=by omega
    rw[hk,ptrsFrom]
    cases hp:ptrH d i
    ·rw[cond_false,gptrs_l1 hN d hv n (i+1) v (by omega) (by omega) (by omega) (by omega),hk2];simp
    ·rw[cond_true,grd_eq (by omega),gptrs_l1 hN d hv n (i+1) _ (by omega) (by omega) (by omega) (by rw[List.length_append];simp only[List.length_cons,List.length_nil];omega),hk2];simp
   ·have hp:ptrH d i=false:=by
     unfold ptrH
     rw[decide_eq_false (p:=0<=i∧i<d.Length) (by omega)];simp
    rw[hp,cond_false,gptrs_l1 hN d hv n (i+1) v (by omega) (by omega) (by omega) (by omega),show (d.Length-i).toNat=0 by omega,show (d.Length-(i+1)).toNat=0 by omega]
    rfl
  ·rw[decide_eq_false h,cond_false,show (d.Length-i).toNat=0 by omega]
   simp[ptrsFrom]
theorem gptrsH_eq (hN:1000<N) (d:THeader) (hv:validH d=true):Qbg N d=some (ptrsH d):=by
 have hb:=validH_b hv
 have hs:sizeH d=d.Length+1:=by unfold sizeH;rw[hv];rfl
 rw[Qbg,gsizeH_eq hN,bnd_eq,hs,gptrs_l1 hN d hv N 0 [] (by omega) (by omega) (by omega) (by simp only[List.length_nil];omega),bnd_eq,ptrsH,hv]
 simp
theorem refsF_map (d:THeader) (l0:List Int):∀ (l:List Int) (k:Nat),l=l0.drop k->refsF d k l=(ptrsFrom d l.length k).map fun i=>l0.getD i.toNat 0
 | [],k,_=>by simp[refsF,ptrsFrom]
 | f::fs,k,h=>by
  have hk:k<l0.length:=by
   apply Nat.lt_of_not_le
   intro hle
   rw[List.drop_eq_nil_of_le hle] at h;cases h
  rw[List.drop_eq_getElem_cons hk] at h
  obtain ⟨h1,h2⟩:=List.cons.inj h
  have ih:=refsF_map d l0 fs (k+1) h2
  rw[refsF,List.length_cons,ptrsFrom,List.map_append,ih]
  have hg:l0.getD k 0=f:=by rw[List.getD_eq_getElem?_getD,List.getElem?_eq_getElem hk,h1];rfl
  have e:((k+1:Nat):Int)=(k:Int)+1:=by omega
  rw[← e]
  split
  ·simp only[List.map_cons,List.map_nil,List.cons_append,List.nil_append,Int.toNat_natCast,hg]
  ·simp
theorem refsT_map {x:TThing} (hv:validH x.Header=true) (hl:(x.Fields.length:Int)=x.Header.Length):refsT x=(ptrsH x.Header).map fun i=>x.Fields.getD i.toNat 0:=by
 unfold refsT ptrsH
 rw[hv,refsF_map x.Header x.Fields x.Fields 0 (by simp),show x.Header.Length.toNat=x.Fields.length by omega]
 rfl
variable {w:TWorld} {k:Nat}
theorem known_eq (hw:WB k w) (hN:1000000<N) {l:List Int} (hl:l.length<=1000000):Qbu N w l=some (withinW w.Things.length l):=by
 have hk:=hw.kk
 have ht:=hw.things
 rw[Qbu,Qay,QaE]
 rw[idx_eq (p:=fun x=>decide (x>(w.Things.length:Int))) hl hN (fun n j x e=>by
  have hk:=lt_of_some e
  rw[Qah,dlt_true hk,cond_true,getI_nat,e,bnd_eq,QcD,bnd_eq,wI_succ (by omega),wU_id (by omega) (by omega)]) (fun n=>by rw[Qah,dlt_false,cond_false])]
 rw[bnd_eq,bnd_eq,findI_any,withinW,← any_not]
 simp only[Bool.not_not]
theorem formed_eq (hw:WB k w) (hN:1000000<N) {x:TThing} (hx:x.Fields.length<=1000):QcB N w x=some (thingV w.Things.length x):=by
 rw[QcB,gvalidH_eq (by omega),bnd_eq,thingV]
 cases hv:validH x.Header
 ·rfl
 rw[Bool.not_true,cond_false,Bool.true_and]
 cases (x.Header.Kind==0)
 rotate_left
 ·rfl
 rw[cond_false,Bool.not_false,Bool.true_and]
 by_cases hl:(x.Fields.length:Int)=x.Header.Length
 rotate_left
 ·rw[bne_true hl];rfl
 have hpl:=ptrsH_len x.Header
 rw[bne_false hl,cond_false,Bool.not_false,Bool.true_and,gptrsH_eq (by omega) _ hv,bnd_eq,QaO,Qa3]
 rw[idx_eq (l:=ptrsH x.Header) (p:=fun i:Int=>decide (x.Fields.getD i.toNat 0>(w.Things.length:Int))) (by omega) hN (fun n j i e=>by
  have hk:=lt_of_some e
  have hr:=ptrsH_rng (List.mem_of_getElem? e)
  rw[Qaj,dlt_true hk,cond_true,getI_nat,e,bnd_eq,Qcu,getI_of hr.1 (by omega),bnd_eq,known_eq hw hN (by simp),bnd_eq,bnd_eq,wI_succ (by omega)]
  have ge:x.Fields[i.toNat]'(by omega)=x.Fields.getD i.toNat 0:=by rw[List.getD_eq_getElem?_getD,List.getElem?_eq_getElem (by omega)];rfl
  rw[ge,withinW,List.all_cons,List.all_nil,Bool.and_true,Bool.not_not]) (fun n=>by rw[Qaj,dlt_false,cond_false])]
 rw[bnd_eq,bnd_eq,findI_any,refsT_map hv hl,withinW,List.all_map,← any_not]
 congr 3
 funext i
 simp
theorem gmark_eq (hm:w.Marks.length<=1000000) (hN:1000000<N) (id:Int):Qdx N w id=some (markI w.Marks id):=by
 rw[Qdx,Qaq]
 rw[idx_eq (p:=fun m:TMark=>m.Id==id) hm hN (fun n j x e=>by
  have hk:=lt_of_some e
  rw[Qad,dlt_true hk,cond_true,getI_nat,e,bnd_eq,QcZ,bnd_eq,wI_succ (by omega)]) (fun n=>by rw[Qad,dlt_false,cond_false])]
 rw[bnd_eq];rfl
end
end Go.Sx
namespace Go.Sx
section
variable {N:Nat} {w:TWorld} {k:Nat}
theorem marked_eq (hw:WB k w) (hN:1000000<N) (tw:tTWorld w):QcC N w=some (marksV w.Things.length w.Marks&&!decide (((w.Marks.length:Nat):Int)>64)):=by
 have hm:=hw.marks
 have h3:=allLoop (l:=w.Marks) (F:=QaZ N w) (q:=markQ w.Things.length w.Marks ()) (fun n k p e=>by
  have hk:=lt_of_some e
  have tp:=(tw.2.2.2.2.1 p (List.mem_of_getElem? e)).1.1
  have e0:(p.Id==0)=decide (p.Id<1):=by
   by_cases h:p.Id=0
   ·rw[beq_true h,decide_eq_true (by omega)]
   ·rw[beq_false h,decide_eq_false (by omega)]
  rw[QaZ,dlt_true hk,cond_true,getI_nat,e,bnd_eq,known_eq hw hN (by simp),bnd_eq,gmark_eq (by omega) hN,bnd_eq,wI_succ (by omega),e0,withinW,List.all_cons,List.all_nil,Bool.and_true]
  unfold markQ
  cases decide (p.Id<1)<;>cases decide (p.Id>(w.Things.length:Int))<;>cases (markI w.Marks p.Id != (k:Int))<;>cases decide (p.Count<1)<;>cases decide (p.Count>1000)<;>rfl) (fun n=>by rw[QaZ,dlt_false,cond_false]) (n:=N) (by omega)
 rw[QcC,h3,bnd_eq]
 show exK (bif marksV w.Things.length w.Marks then Ex.nxt () else Ex.ret false) _ _=_
 have e:decide (((w.Marks.length:Nat):Int)<=64) = !decide (((w.Marks.length:Nat):Int)>64):=by
  by_cases h:((w.Marks.length:Nat):Int)>64
  ·rw[decide_eq_true h,decide_eq_false (by omega)];rfl
  ·rw[decide_eq_false h,decide_eq_true (by omega)];rfl
 cases marksV w.Things.length w.Marks
 ·rw[cond_false,exK_ret];rfl
 ·rw[cond_true,exK_nxt,e];rfl
theorem contains0_eq {l:List Int} (hl:l.length<=1000000) (hN:1000000<N):QaQ N l 0=some (!l.all fun p=>!(p==0)):=by
 rw[QaQ,QbH]
 rw[idx_eq (p:=fun x:Int=>(0==x)) hl hN (fun n j x e=>by
  have hk:=lt_of_some e
  rw[Qax,dlt_true hk,cond_true,getI_nat,e,bnd_eq,wI_succ (by omega)]) (fun n=>by rw[Qax,dlt_false,cond_false])]
 rw[bnd_eq,findI_any,← any_not,Bool.not_not]
 congr 2
 funext x
 rw[Bool.not_not]
 by_cases h:x=0
 ·subst h;rfl
 ·rw[beq_false h,beq_false (fun e=>h e.symm)]
def sumL:List (List Int)->Nat
 | []=>0
 | l::ls=>l.length+sumL ls
theorem concat_l1 (ls:List (List Int)) (hl:ls.length<=1000):∀ (n k s:Nat),k<=ls.length->ls.length-k<n->s+sumL (ls.drop k)<=10000000->Qat N ls n (s:Int) (k:Int)=some (((s+sumL (ls.drop k):Nat):Int))
 | 0,k,s,_,hn,_=>by omega
 | n+1,k,s,hk,hn,hs=>by
  rw[Qat]
  by_cases h:k<ls.length
  ·rw[List.drop_eq_getElem_cons h,sumL] at hs ⊢
   rw[dlt_true h,cond_true,getI_nat,List.getElem?_eq_getElem h,bnd_eq,wI_id (n:=(s:Int)+((ls[k].length:Nat):Int)) (by omega) (by omega),decide_eq_false (by omega),cond_false,wI_succ (by omega)]
   have:=concat_l1 ls hl n (k+1) (s+ls[k].length) (by omega) (by omega) (by omega)
   rw[show (s:Int)+((ls[k].length:Nat):Int)=((s+ls[k].length:Nat):Int) by omega,this,Nat.add_assoc]
  ·obtain rfl:k=ls.length:=by omega
   rw[dlt_false,cond_false,List.drop_eq_nil_of_le (Nat.le_refl _)];simp[sumL]
theorem concat_l2 (ls:List (List Int)) (hl:ls.length<=1000):∀ (n k:Nat) (v:List Int),k<=ls.length->ls.length-k<n->v.length+sumL (ls.drop k)<=10000000->Qau N ls n (k:Int) v=some (v++(ls.drop k).flatten)
 | 0,k,v,_,hn,_=>by omega
 | n+1,k,v,hk,hn,hs=>by
  rw[Qau]
  by_cases h:k<ls.length
  ·rw[List.drop_eq_getElem_cons h,sumL] at hs
   rw[List.drop_eq_getElem_cons h,dlt_true h,cond_true,getI_nat,List.getElem?_eq_getElem h,bnd_eq,grd_eq (by omega),wI_succ (by omega),concat_l2 ls hl n (k+1) _ (by omega) (by omega) (by rw[List.length_append];omega),List.flatten_cons,List.append_assoc]
  ·obtain rfl:k=ls.length:=by omega
   rw[dlt_false,cond_false,List.drop_eq_nil_of_le (Nat.le_refl _)];simp
theorem concat_eq (ls:List (List Int)) (hl:ls.length<=1000) (hs:sumL ls<=10000000) (hN:1000000<N):Qar N ls=some ls.flatten:=by
 have h1:=concat_l1 (N:=N) ls hl N 0 0 (by omega) (by omega) (by rw[List.drop_zero];omega)
 have h2:=concat_l2 (N:=N) ls hl N 0 [] (by omega) (by omega) (by rw[List.drop_zero];simp;omega)
 rw[List.drop_zero] at h1 h2
 rw[show ((0:Nat):Int)=0 from rfl,Nat.zero_add] at h1
 rw[show ((0:Nat):Int)=0 from rfl,List.nil_append] at h2
 have hg:QaP N ((sumL ls:Nat):Int)=some []:=by
  rw[QaP,decide_eq_false (by omega),cond_false,wI_id (n:=(0:Int)) (by omega) (by omega),Int.sub_zero]
  have e:=wI_id (n:=((sumL ls:Nat):Int)) (by omega) (by omega)
  by_cases h:(wI ((sumL ls:Nat):Int))>0
  ·rw[decide_eq_true h,cond_true,grd_eq ⟨rfl,rfl⟩,grd_eq (by rw[e];omega),grd_eq (by rw[e];omega),grd_eq (by rw[e];omega),List.take_zero]
  ·rw[decide_eq_false h,cond_false]
 rw[Qar,h1,bnd_eq,hg,bnd_eq,h2,bnd_eq]
theorem within_app (n:Nat) (a b:List Int):withinW n (a++b)=(withinW n a&&withinW n b):=by
 unfold withinW;rw[List.all_append]
theorem gwval_eq (hw:WB k w) (hN:1000000<N) (tw:tTWorld w):Qdc N w=some (worldV w):=by
 have hk:=hw.kk
 have ht:=hw.things
 have hm:=hw.marks
 have hr:=hw.roots
 have ec:Qbd N w.Conf=some (vconf w.Conf):=by
  rw[← vconf_eq N w.Conf,Qbd,Qak]
 rw[Qdc,ec,bnd_eq,worldV]
 cases vconf w.Conf
 ·rfl
 rw[Bool.not_true,cond_false,glval_eq hw.loc hN,bnd_eq,Bool.true_and]
 cases hv1:locV w.Locals
 ·rfl
 rw[Bool.not_true,cond_false,gtval_eq hw.glo hN,bnd_eq,Bool.true_and]
 cases hv2:tabV w.Globals.Entries
 ·rfl
 rw[Bool.not_true,cond_false,gtval_eq hw.wea hN,bnd_eq,Bool.true_and]
 cases hv3:tabV w.Weaks.Entries
 ·rfl
 have g64:=liveT_of hv2
 have s1:=liveS_of hv1
 have s3:=liveT_of hv3
 rw[Bool.not_true,cond_false,Bool.true_and,gtrefs_eq hw.glo hN,bnd_eq,hv2,cond_true,contains0_eq (by omega) hN,bnd_eq]
 cases ((liveT w.Globals.Entries).all fun p=>!(p==0))
 ·cases decide (((w.Marks.length:Nat):Int)>64)<;>cases w.Things.all (thingV w.Things.length)<;>rfl
 rw[Bool.not_true,cond_false,Bool.true_and]
 have h1:=allLoop (l:=w.Things) (F:=Qcq N w) (q:=fun _=>thingV w.Things.length) (fun n k p e=>by
  have hk:=lt_of_some e
  have hpf:=hw.fields p (List.mem_of_getElem? e)
  rw[Qcq,dlt_true hk,cond_true,getI_nat,e,bnd_eq,formed_eq hw hN hpf,bnd_eq,wI_succ (by omega)]
  cases thingV w.Things.length p<;>rfl) (fun n=>by rw[Qcq,dlt_false,cond_false]) (n:=N) (by omega)
 rw[foldAll_all] at h1
 rw[h1,bnd_eq]
 cases w.Things.all (thingV w.Things.length)
 ·rw[cond_false,exK_ret];cases decide (((w.Marks.length:Nat):Int)>64)<;>rfl
 rw[cond_true,exK_nxt,glrefs_eq hw.loc hN,bnd_eq,hv1,cond_true,bnd_eq,gtrefs_eq hw.wea hN,bnd_eq,hv3,cond_true,concat_eq _ (by simp) (by simp only[sumL];omega) hN,bnd_eq,Bool.true_and]
 have ef:[w.Roots,liveS w.Locals.Slots,liveT w.Globals.Entries,liveT w.Weaks.Entries].flatten=w.Roots++(liveS w.Locals.Slots++(liveT w.Globals.Entries++liveT w.Weaks.Entries)):=by simp
 rw[ef,known_eq hw hN (by simp only[List.length_append];omega),bnd_eq,within_app,within_app,within_app,marked_eq hw hN tw,bnd_eq]
 cases decide (((w.Marks.length:Nat):Int)>64)<;>cases marksV w.Things.length w.Marks<;>cases withinW w.Things.length w.Roots<;>cases withinW w.Things.length (liveS w.Locals.Slots)<;>cases withinW w.Things.length (liveT w.Globals.Entries)<;>cases withinW w.Things.length (liveT w.Weaks.Entries)<;>rfl
end
end Go.Sx
namespace Go.Sx
section
variable {N:Nat}
variable {w:TWorld} {k:Nat}
end
end Go.Sx
namespace Go.Sx
section
variable {N:Nat} {w:TWorld} {k:Nat}
theorem told_l1 (hl:w.Things.length<=1000):∀ (n j:Nat) (v:List TThing),j<=w.Things.length->w.Things.length-j<n->v.length=j->Qcd N w n (j:Int) v=some (v++w.Things.drop j)
 | 0,j,v,_,hn,_=>by omega
 | n+1,j,v,hj,hn,hv=>by
  rw[Qcd]
  by_cases h:j<w.Things.length
  ·rw[dlt_true h,cond_true,getI_nat,List.getElem?_eq_getElem h,bnd_eq,bnd_eq,grd_eq (by omega),wI_succ (by omega),told_l1 hl n (j+1) _ (by omega) (by omega) (by rw[List.length_append];simp;omega),List.drop_eq_getElem_cons h,List.append_assoc]
   rfl
  ·obtain rfl:j=w.Things.length:=by omega
   rw[dlt_false,cond_false,List.drop_eq_nil_of_le (Nat.le_refl _),List.append_nil]
theorem told_l2 (y:List TThing) (hl:w.Marks.length<=1000):∀ (n j:Nat) (v:List TMark),j<=w.Marks.length->w.Marks.length-j<n->v.length=j->Qce N w y n (j:Int) v=some (v++w.Marks.drop j)
 | 0,j,v,_,hn,_=>by omega
 | n+1,j,v,hj,hn,hv=>by
  rw[Qce]
  by_cases h:j<w.Marks.length
  ·rw[dlt_true h,cond_true,getI_nat,List.getElem?_eq_getElem h,bnd_eq,bnd_eq,bnd_eq,grd_eq (by omega),wI_succ (by omega),told_l2 y hl n (j+1) _ (by omega) (by omega) (by rw[List.length_append];simp;omega),List.drop_eq_getElem_cons h,List.append_assoc]
   rfl
  ·obtain rfl:j=w.Marks.length:=by omega
   rw[dlt_false,cond_false,List.drop_eq_nil_of_le (Nat.le_refl _),List.append_nil]
theorem told_eq (hw:WB k w) (hN:1000000<N):QcY N w=some w:=by
 have hk:=hw.kk
 have ht:=hw.things
 have hm:=hw.marks
 have h1:=told_l1 (N:=N) (w:=w) (by omega) N 0 [] (by omega) (by omega) rfl
 have h2:=fun y=>told_l2 (N:=N) (w:=w) y hm N 0 [] (by omega) (by omega) rfl
 rw[show ((0:Nat):Int)=0 from rfl,List.drop_zero,List.nil_append] at h1
 simp only[show ((0:Nat):Int)=0 from rfl,List.drop_zero,List.nil_append] at h2
 rw[QcY,h1,bnd_eq,h2,bnd_eq]
end
def Wd (w:TWorld):Prop:=(∃ k,k<=200∧WB k w)∧tTWorld w
theorem QjJ {N:Nat} (hN:NB N) {raw:TWorld} (hr:raw.Things.length<N) (hr2:raw.Things.length<=140737488355328) (tr:tTWorld raw) (tape odd:List Int):Ok (QeL N raw tape odd) fun l=>l.length<=3∧∀ w∈l,Wd w:=by
 rw[QeL]
 refine Ok.bnd (play_ok hN tape) fun y1 e1 h1=>?_
 obtain ⟨k,hk,hp⟩:=h1
 refine Ok.bnd (twist_ok hp.wor (by omega) (t:=⟨odd,0⟩) ⟨by simp,by simp⟩) fun y2 e2 h2=>?_
 have t2:=Qjl (N:=N) hp.ty.2.1 y2 e2
 have p1:Wd y1.World:=⟨⟨k,by omega,hp.wor⟩,hp.ty.2.1⟩
 have p2:Wd y2.1:=⟨⟨k+1,by omega,h2.1⟩,t2⟩
 refine Ok.bnd (light_ok hr2 hr) fun b _ hb=>Ok.bif (fun hb1=>Ok.some ⟨by simp,fun w hw=>?_⟩) fun _=>Ok.some ⟨by simp,fun w hw=>?_⟩
 ·simp only[List.mem_cons,List.not_mem_nil,or_false] at hw
  rcases hw with rfl | rfl | rfl
  ·exact p1
  ·exact p2
  ·exact ⟨⟨100,by omega,hb hb1⟩,tr⟩
 ·simp only[List.mem_cons,List.not_mem_nil,or_false] at hw
  rcases hw with rfl | rfl
  ·exact p1
  ·exact p2
end Go.Sx
namespace Go.Sx
theorem passLoop {α:Type} {l:List α} {F:Nat->Int->Option (Ex Bool Unit)}
 (hstep:∀ (n:Nat) (k:Nat) (p:α),l[k]? = some p->F (n+1) (k:Int)=F n ((k+1:Nat):Int)) (hstop:∀ (n:Nat),F (n+1) (l.length:Int)=some (.nxt ())):∀ (n k:Nat),k<=l.length->l.length-k<n->F n (k:Int)=some (.nxt ())
 | 0,k,_,hn=>by omega
 | n+1,k,hk,hn=>by
  by_cases h:k<l.length
  ·rw[hstep n k _ (List.getElem?_eq_getElem h)]
   exact passLoop hstep hstop n (k+1) (by omega) (by omega)
  ·obtain rfl:k=l.length:=by omega
   exact hstop n
theorem passLoop0 {α:Type} {l:List α} {F:Nat->Int->Option (Ex Bool Unit)} {n:Nat} (hn:l.length<n)
 (hstep:∀ (n:Nat) (k:Nat) (p:α),l[k]? = some p->F (n+1) (k:Int)=F n ((k+1:Nat):Int)) (hstop:∀ (n:Nat),F (n+1) (l.length:Int)=some (.nxt ())):F n 0=some (.nxt ()) :=
 passLoop hstep hstop n 0 (by omega) (by omega)
theorem bne_self (a:Int):(a != a)=false:=by simp
theorem beqB_self (a:Bool):(a==a)=true:=by simp
theorem exN (raw:TWorld):∃ N,NB N∧raw.Things.length<N:=⟨10000001+raw.Things.length,by unfold NB;omega,by omega⟩
section
variable {N:Nat} {w:TWorld} {k:Nat}
theorem told_eq' (h1:w.Things.length<=1000) (h2:w.Marks.length<=1000) (hN:1000000<N):QcY N w=some w:=by
 have h1:=told_l1 (N:=N) (w:=w) h1 N 0 [] (by omega) (by omega) rfl
 have h2:=fun y=>told_l2 (N:=N) (w:=w) y h2 N 0 [] (by omega) (by omega) rfl
 rw[show ((0:Nat):Int)=0 from rfl,List.drop_zero,List.nil_append] at h1
 simp only[show ((0:Nat):Int)=0 from rfl,List.drop_zero,List.nil_append] at h2
 rw[QcY,h1,bnd_eq,h2,bnd_eq]
theorem given_l1:∀ (n:Nat) (i:Int) (v:List TThing),Qdk N w n i v=Qcd N w n i v
 | 0,_,_=>rfl
 | n+1,i,v=>by rw[Qdk,Qcd];simp only[given_l1 n]
theorem given_l2 (y:List TThing):∀ (n:Nat) (i:Int) (v:List TMark),Qdl N w y n i v=Qce N w y n i v
 | 0,_,_=>rfl
 | n+1,i,v=>by rw[Qdl,Qce];simp only[given_l2 y n]
theorem given_eq (hw:WB k w) (hN:1000000<N):QdX N w=some w:=by
 rw[← told_eq hw hN,QdX,QcY,given_l1]
 simp only[given_l2]
structure SB (w:TWorld):Prop where
 things:w.Things.length<=1000
 marks:w.Marks.length<=1000
 fields:∀ x∈w.Things,x.Fields.length<=1000
 loc:LBp w.Locals
 glo:TB w.Globals
 wea:TB w.Weaks
 roots:w.Roots.length<=1000
theorem WB.sb (hw:WB k w):SB w:=⟨by have:=hw.kk;have:=hw.things;omega,hw.marks,hw.fields,hw.loc,hw.glo,hw.wea,hw.roots⟩
theorem same01 {l:List Int} (hl:l.length<=1000000) (hN:1000000<N):QeU N l l=some true:=by
 rw[QeU,bne_self,cond_false,passLoop0 (l:=l) (F:=QcN N l l) (n:=N) (by omega) (fun n k p e=>?_) (fun n=>?_),bnd_eq,exK_nxt]
 ·have hk:=lt_of_some e
  rw[QcN,decide_eq_true (by omega),cond_true,getI_nat,e,bnd_eq,bnd_eq,bne_self,cond_false,wI_succ (by omega)]
 ·rw[QcN,decide_eq_false (by omega),cond_false]
theorem same14 {a:TLocals} (hl:LBp a) (hN:1000000<N):Qfq N a a=some true:=by
 unfold LBp at hl
 rw[Qfq,bne_self,cond_false,bne_self,cond_false,bne_self,cond_false,passLoop0 (l:=a.Slots) (F:=QcO N a a) (n:=N) (by omega) (fun n k p e=>?_) (fun n=>?_),bnd_eq,exK_nxt,passLoop0 (l:=a.Scopes) (F:=QcP N a a) (n:=N) (by omega) (fun n k p e=>?_) (fun n=>?_),bnd_eq,exK_nxt,passLoop0 (l:=a.Issued) (F:=QcQ N a a) (n:=N) (by omega) (fun n k p e=>?_) (fun n=>?_),bnd_eq,exK_nxt]
 ·have hk:=lt_of_some e
  rw[QcQ,decide_eq_true (by omega),cond_true,getI_nat,e,bnd_eq,bnd_eq,bne_self,cond_false,wI_succ (by omega)]
 ·rw[QcQ,decide_eq_false (by omega),cond_false]
 ·have hk:=lt_of_some e
  rw[QcP,decide_eq_true (by omega),cond_true,getI_nat,e,bnd_eq,bnd_eq,wI_succ (by omega)]
  simp only[beq_self_eq_true,Bool.and_self,Bool.not_true,cond_false]
 ·rw[QcP,decide_eq_false (by omega),cond_false]
 ·have hk:=lt_of_some e
  rw[QcO,decide_eq_true (by omega),cond_true,getI_nat,e,bnd_eq,bnd_eq,wI_succ (by omega)]
  simp only[beq_self_eq_true,Bool.and_self,Bool.not_true,cond_false]
 ·rw[QcO,decide_eq_false (by omega),cond_false]
theorem same15 {a:TTable} (hl:TB a) (hN:1000000<N):QeV N a a=some true:=by
 unfold TB at hl
 rw[QeV,bne_self,cond_false,passLoop0 (l:=a.Entries) (F:=QcR N a a) (n:=N) (by omega) (fun n k p e=>?_) (fun n=>?_),bnd_eq,exK_nxt]
 ·have hk:=lt_of_some e
  rw[QcR,decide_eq_true (by omega),cond_true,getI_nat,e,bnd_eq,bnd_eq,wI_succ (by omega)]
  simp only[beq_self_eq_true,Bool.and_self,Bool.not_true,cond_false]
 ·rw[QcR,decide_eq_false (by omega),cond_false]
theorem same21 {x:TWorld} (h:SB x) (hN:1000000<N):QeW N x x=some true:=by
 have h1:=h.things
 have h2:=h.marks
 have h3:=h.roots
 rw[QeW]
 simp only[beq_self_eq_true,Bool.and_self,Bool.not_true,cond_false,bne_self]
 rw[same14 h.loc hN,bnd_eq,same15 h.glo hN]
 simp only[Bool.not_true,cond_false,bnd_eq]
 rw[same15 h.wea hN,bnd_eq,same01 (by omega) hN]
 simp only[Bool.not_true,cond_false,bnd_eq]
 rw[passLoop0 (l:=x.Things) (F:=QcS N x x) (n:=N) (by omega) (fun n k p e=>?_) (fun n=>?_),bnd_eq,exK_nxt,passLoop0 (l:=x.Marks) (F:=QcT N x x) (n:=N) (by omega) (fun n k p e=>?_) (fun n=>?_),bnd_eq,exK_nxt]
 ·have hk:=lt_of_some e
  rw[QcT,decide_eq_true (by omega),cond_true,getI_nat,e,bnd_eq,bnd_eq,wI_succ (by omega)]
  simp only[beq_self_eq_true,Bool.and_self,Bool.not_true,cond_false]
 ·rw[QcT,decide_eq_false (by omega),cond_false]
 ·have hk:=lt_of_some e
  have hf:=h.fields p (List.mem_of_getElem? e)
  rw[QcS,decide_eq_true (by omega),cond_true,getI_nat,e,bnd_eq,bnd_eq,wI_succ (by omega)]
  simp only[beq_self_eq_true,Bool.and_self,Bool.not_true,cond_false]
  rw[bnd_eq,bnd_eq,same01 (by omega) hN,bnd_eq]
  simp only[Bool.not_true,cond_false]
 ·rw[QcS,decide_eq_false (by omega),cond_false]
theorem awake_true (m:Nat):QfH (m+60)=some true:=by kernel_rfl
end
end Go.Sx
namespace Go.Sx
def kidsW (N:Nat) (a0:TWorld) (x:Int):List Int:=match a0.Things[(x-1).toNat]? with
 | some t=>(match Qbg N t.Header with
  | some ps=>ps.map fun i=>t.Fields.getD i.toNat 0
  | none=>[])
 | none=>[]
inductive Rch (k:Int->List Int) (l:List Int):Int->Prop
 | root {x:Int}:x∈l->x≠0->Rch k l x
 | step {x y:Int}:Rch k l x->y∈k x->y≠0->Rch k l y
structure RFin (k:Int->List Int) (l:List Int) (n:Nat) (out:List Bool):Prop where
 len:out.length=n
 sound:∀ i:Nat,out[i]? = some true->Rch k l ((i:Int)+1)
 root:∀ x∈l,x≠0->out[(x-1).toNat]? = some true
 closed:∀ i:Nat,out[i]? = some true->∀ c∈k ((i:Int)+1),c≠0->out[(c-1).toNat]? = some true
theorem RFin.all {k:Int->List Int} {l:List Int} {n:Nat} {out:List Bool} (h:RFin k l n out) (hl:∀ x∈l,0<=x) (hk:∀ x,∀ c∈k x,0<=c):∀ {x:Int},Rch k l x->1<=x∧out[(x-1).toNat]? = some true:=by
 intro x hx
 induction hx with
 | root h1 h2=>exact ⟨by have:=hl _ h1;omega,h.root _ h1 h2⟩
 | @step x y h1 h2 h3 ih=>exact ⟨by have:=hk _ _ h2;omega,h.closed _ ih.2 _ (by have:=ih.1;rw[show (((x-1).toNat:Nat):Int)+1=x by omega];exact h2) h3⟩
theorem RFin.unique {k:Int->List Int} {l:List Int} {n:Nat} {a b:List Bool} (h:RFin k l n a) (g:RFin k l n b) (hl:∀ x∈l,0<=x) (hk:∀ x,∀ c∈k x,0<=c):a=b:=by
 have key:∀ {a b:List Bool},RFin k l n a->RFin k l n b->∀ i:Nat,a[i]? = some true->b[i]? = some true:=fun h g i hi=>by
  have:=(g.all hl hk (h.sound i hi)).2
  rwa[show ((i:Int)+1-1).toNat=i by omega] at this
 apply List.ext_getElem?
 intro i
 by_cases hi:i<n
 ·have h1:=List.getElem?_eq_getElem (show i<a.length by rw[h.len];exact hi)
  have h2:=List.getElem?_eq_getElem (show i<b.length by rw[g.len];exact hi)
  cases ha:a[i]'(by rw[h.len];exact hi) with
  | true=>rw[ha] at h1;rw[h1,key h g i h1]
  | false =>
   cases hb:b[i]'(by rw[g.len];exact hi) with
   | true=>rw[hb] at h2;have:=key g h i h2;rw[h1,ha] at this;cases this
   | false=>rw[h1,h2,ha,hb]
 ·rw[List.getElem?_eq_none (by rw[h.len];omega),List.getElem?_eq_none (by rw[g.len];omega)]
structure RDat (N:Nat) (a0:TWorld) (l:List Int):Prop where
 len:l.length<=140737488355328
 roots:∀ x∈l,0<=x∧x<=a0.Things.length
 thing:∀ t∈a0.Things,∃ ps:List Int,Qbg N t.Header=some ps∧Qcs N t=some (ps.map fun i=>t.Fields.getD i.toNat 0)∧ps.length<=140737488355328∧∀ i∈ps,0<=i∧i<t.Fields.length∧0<=t.Fields.getD i.toNat 0∧t.Fields.getD i.toNat 0<=a0.Things.length
theorem rchOK_dat {N:Nat} {a0:TWorld} {l:List Int} (h:rchOK N a0 l=true):RDat N a0 l:=by
 unfold rchOK at h
 simp only[Bool.and_eq_true,List.all_eq_true,decide_eq_true_eq] at h
 refine ⟨h.1.1,h.1.2,fun t ht=>?_⟩
 have:=h.2 t ht
 cases h1:Qbg N t.Header with
 | none=>rw[h1] at this;cases this
 | some ps =>
  cases h2:Qcs N t with
  | none=>rw[h1,h2] at this;cases this
  | some ks =>
   rw[h1,h2] at this
   simp only[Bool.and_eq_true,List.all_eq_true,decide_eq_true_eq,beq_iff_eq] at this
   exact ⟨ps,rfl,by rw[this.2],this.1.1,fun i hi=>by have:=this.1.2 i hi;exact ⟨this.1.1.1,this.1.1.2,this.1.2,this.2⟩⟩
section
variable {N:Nat} {a0:TWorld} {l:List Int}
theorem RDat.kid (h:RDat N a0 l) {x:Int} {c:Int} (hc:c∈kidsW N a0 x):0<=c∧c<=a0.Things.length:=by
 unfold kidsW at hc
 cases ht:a0.Things[(x-1).toNat]? with
 | none=>rw[ht] at hc;cases hc
 | some t =>
  obtain ⟨ps,h1,_,_,h3⟩:=h.thing t (List.mem_of_getElem? ht)
  rw[ht] at hc
  simp only[h1] at hc
  obtain ⟨i,hi,rfl⟩:=List.mem_map.1 hc
  exact ⟨(h3 i hi).2.2.1,(h3 i hi).2.2.2⟩
theorem RDat.kids (h:RDat N a0 l) {x:Int} {t:TThing} (ht:a0.Things[(x-1).toNat]? = some t):Qcs N t=some (kidsW N a0 x):=by
 obtain ⟨ps,h1,h2,_,_⟩:=h.thing t (List.mem_of_getElem? ht)
 rw[h2,kidsW,ht]
 simp only[h1]
theorem set_true {v:List Bool} {j i:Nat} (hj:j<v.length):(v.set j true)[i]? = some true↔i=j∨v[i]? = some true:=by
 rw[List.getElem?_set]
 split
 ·rename_i e;subst e;simp[hj]
 ·rename_i e;exact ⟨.inr,fun h=>h.resolve_left (Ne.symm e)⟩
theorem rchq_l1 (hd:RDat N a0 l) (hn:a0.Things.length<=140737488355328):∀ (f i:Nat) (v:List Bool) (q:List Int) (r:List Bool),Qai N a0 f (i:Int) v q=some r->i<=q.length->v.length=a0.Things.length->(∀ x∈l,x∈q)->(∀ x∈q,0<=x∧x<=a0.Things.length∧(x≠0->Rch (kidsW N a0) l x)) ->
 (∀ (j:Nat) x,j<i->q[j]? = some x->x≠0->v[(x-1).toNat]? = some true)->(∀ j:Nat,v[j]? = some true->Rch (kidsW N a0) l ((j:Int)+1)∧∀ c∈kidsW N a0 ((j:Int)+1),c∈q)->RFin (kidsW N a0) l a0.Things.length r
 | 0,i,v,q,r,h,_,_,_,_,_,_=>by cases h
 | f+1,i,v,q,r,h,hi,hv,hlq,hq,hdone,htrue=>by
  rw[Qai] at h
  by_cases hql:q.length<=140737488355328
  rotate_left
  ·unfold grd at h;rw[if_neg hql] at h;cases h
  rw[grd_eq hql] at h
  by_cases hlt:i<q.length
  ·have e:=List.getElem?_eq_getElem hlt
   have hx:=hq _ (List.getElem_mem hlt)
   generalize q[i]=x at e hx
   rw[decide_eq_true (by omega),cond_true,getI_nat,e] at h
   simp only[bnd_eq] at h
   have hw:wI ((i:Int)+1)=((i+1:Nat):Int):=by rw[wI_id (by omega) (by omega)];omega
   rw[hw] at h
   by_cases h0:x=0
   ·subst h0
    rw[show ((0:Int)==0)=true from rfl,cond_true] at h
    refine rchq_l1 hd hn f (i+1) v q r h (by omega) hv hlq hq (fun j y hj hy hy0=>?_) htrue
    rcases Nat.lt_or_ge j i with h1 | h1
    ·exact hdone j y h1 hy hy0
    ·obtain rfl:j=i:=by omega
     rw[e] at hy;exact absurd (Option.some.inj hy).symm hy0
   ·rw[show (x==0)=false by simpa using h0,cond_false,wU_id (by omega) (by omega)] at h
    have hj:(x-1).toNat<v.length:=by omega
    rw[getI_of (by omega) (by omega),bnd_eq] at h
    cases hb:v[(x-1).toNat] with
    | true =>
     rw[hb,cond_true] at h
     refine rchq_l1 hd hn f (i+1) v q r h (by omega) hv hlq hq (fun j y hj' hy hy0=>?_) htrue
     rcases Nat.lt_or_ge j i with h1 | h1
     ·exact hdone j y h1 hy hy0
     ·obtain rfl:j=i:=by omega
      rw[e] at hy;obtain rfl:=Option.some.inj hy
      rw[List.getElem?_eq_getElem hj,hb]
    | false =>
     rw[hb,cond_false] at h
     have ht:=List.getElem?_eq_getElem (show (x-1).toNat<a0.Things.length by omega)
     rw[getI_of (l:=a0.Things) (by omega) (by omega)] at h
     simp only[bnd_eq] at h
     rw[hd.kids ht,bnd_eq] at h
     by_cases hg:(q.length+(kidsW N a0 x).length)*8<=140737488355328
     rotate_left
     ·unfold grd at h;rw[if_neg hg] at h;cases h
     rw[grd_eq hg] at h
     have hR:Rch (kidsW N a0) l x:=hx.2.2 h0
     refine rchq_l1 hd hn f (i+1) _ _ r h (by rw[List.length_append];omega) (by rw[List.length_set];exact hv) (fun y hy=>List.mem_append_left _ (hlq y hy)) (fun y hy=>?_) (fun j y hj' hy hy0=>?_) (fun j hjt=>?_)
     ·rcases List.mem_append.1 hy with hy | hy
      ·exact hq y hy
      ·exact ⟨(hd.kid hy).1,(hd.kid hy).2,fun hy0=>.step hR hy hy0⟩
     ·rw[set_true hj]
      rcases Nat.lt_or_ge j i with h1 | h1
      ·rw[List.getElem?_append_left (by omega)] at hy
       exact .inr (hdone j y h1 hy hy0)
      ·obtain rfl:j=i:=by omega
       rw[List.getElem?_append_left hlt,e] at hy
       exact .inl (by rw[Option.some.inj hy])
     ·rw[set_true hj] at hjt
      rcases hjt with rfl | hjt
      ·have ex:(((x-1).toNat:Nat):Int)+1=x:=by omega
       rw[ex]
       exact ⟨hR,fun c hc=>List.mem_append_right _ hc⟩
      ·exact ⟨(htrue j hjt).1,fun c hc=>List.mem_append_left _ ((htrue j hjt).2 c hc)⟩
  ·rw[decide_eq_false (by omega),cond_false] at h
   obtain rfl:=Option.some.inj h
   have hall:∀ x∈q,x≠0->v[(x-1).toNat]? = some true:=fun x hx h0=>by
    obtain ⟨j,hj,rfl⟩:=List.getElem_of_mem hx
    exact hdone j _ (by omega) (List.getElem?_eq_getElem hj) h0
   exact ⟨hv,fun j hj=>(htrue j hj).1,fun x hx h0=>hall x (hlq x hx) h0,fun j hj c hc h0=>hall c ((htrue j hj).2 c hc) h0⟩
theorem reach_spec (hd:RDat N a0 l) (hn:a0.Things.length<=140737488355328) {r:List Bool} (h:Qai N a0 N 0 (List.replicate a0.Things.length false) l=some r):RFin (kidsW N a0) l a0.Things.length r :=
 rchq_l1 hd hn N 0 _ l r h (Nat.zero_le _) (by simp) (fun x hx=>hx) (fun x hx=>⟨(hd.roots x hx).1,(hd.roots x hx).2,.root hx⟩) (fun j x hj=>by omega) (fun j hj=>by rw[List.getElem?_replicate] at hj;split at hj<;>cases hj)
def cFal (out:List Bool):Nat:=out.countP (!·)
theorem cFal_set:∀ {out:List Bool} {j:Nat},out[j]? = some false->cFal (out.set j true)+1=cFal out
 | [],j,h=>by simp at h
 | b::out,0,h=>by
  simp only[List.getElem?_cons_zero,Option.some.injEq] at h
  subst h
  simp[cFal]
 | b::out,j+1,h=>by
  have:=cFal_set (out:=out) (j:=j) (by simpa using h)
  unfold cFal at this ⊢
  rw[List.set_cons_succ,List.countP_cons,List.countP_cons]
  omega
structure RInv (N:Nat) (a0:TWorld) (l:List Int) (out:List Bool) (F todo:List Int):Prop where
 len:out.length=a0.Things.length
 nodup:F.Nodup
 cnt:cFal out+F.length<=a0.Things.length
 mem:∀ x,x∈F∨x∈todo->1<=x∧x<=a0.Things.length∧out[(x-1).toNat]? = some true
 sound:∀ i:Nat,out[i]? = some true->Rch (kidsW N a0) l ((i:Int)+1)
 closed:∀ i:Nat,out[i]? = some true->((i:Int)+1)∈F∨((i:Int)+1)∈todo∨∀ c∈kidsW N a0 ((i:Int)+1),c≠0->out[(c-1).toNat]? = some true
def newIn (out:List Bool) (x:Int):Bool:=x != 0&&!(out.getD (x-1).toNat false)
def seeO (out:List Bool) (x:Int):List Bool:=if newIn out x then out.set (x-1).toNat true else out
def seeF (out:List Bool) (F:List Int) (x:Int):List Int:=if newIn out x then F++[x] else F
theorem seeO_true {out:List Bool} {x:Int} (h0:0<=x) (h1:x<=out.length) {i:Nat}:(seeO out x)[i]? = some true↔out[i]? = some true∨(x≠0∧i=(x-1).toNat):=by
 unfold seeO newIn
 by_cases hx:x=0
 ·subst hx;simp
 have hj:(x-1).toNat<out.length:=by omega
 have hx':(x != 0)=true:=by simpa using hx
 rw[hx',Bool.true_and,List.getD_eq_getElem?_getD,List.getElem?_eq_getElem hj,Option.getD_some]
 cases hb:out[(x-1).toNat] with
 | true =>
  simp only[Bool.not_true,Bool.false_eq_true,if_false]
  exact ⟨.inl,fun h=>h.elim id fun h=>by rw[h.2,List.getElem?_eq_getElem hj,hb]⟩
 | false =>
  simp only[Bool.not_false,if_true,set_true hj]
  exact ⟨fun h=>h.elim (fun h=>.inr ⟨hx,h⟩) .inl,fun h=>h.elim .inr fun h=>.inl h.2⟩
theorem see_count {out:List Bool} {F:List Int} {x:Int} (h0:0<=x) (h1:x<=out.length):cFal (seeO out x)+(seeF out F x).length=cFal out+F.length:=by
 unfold seeO seeF
 cases hn:newIn out x with
 | false=>rfl
 | true =>
  simp only[if_true,List.length_append,List.length_cons,List.length_nil]
  unfold newIn at hn
  simp only[Bool.and_eq_true,bne_iff_ne,ne_eq,Bool.not_eq_true'] at hn
  have hj:(x-1).toNat<out.length:=by omega
  have:out[(x-1).toNat]? = some false:=by
   rw[List.getD_eq_getElem?_getD] at hn
   rw[List.getElem?_eq_getElem hj] at hn ⊢
   simpa using hn.2
  have:=cFal_set this
  omega
theorem RInv.see {out:List Bool} {F todo:List Int} (h:RInv N a0 l out F todo) {x:Int} (h0:0<=x) (h1:x<=a0.Things.length) (hr:x≠0->Rch (kidsW N a0) l x):RInv N a0 l (seeO out x) (seeF out F x) todo:=by
 have hT:=@seeO_true out x h0 (by rw[h.len];exact h1)
 have hF:∀ y,y∈seeF out F x↔y∈F∨(newIn out x=true∧y=x):=fun y=>by
  unfold seeF
  split
  ·rename_i hn;simp[hn]
  ·rename_i hn;simp[hn]
 refine ⟨?_,?_,by rw[see_count h0 (by rw[h.len];exact h1)];exact h.cnt,fun y hy=>?_,fun i hi=>?_,fun i hi=>?_⟩
 ·unfold seeO;split
  ·rw[List.length_set];exact h.len
  ·exact h.len
 ·unfold seeF;split
  ·rename_i hn
   refine List.nodup_append.2 ⟨h.nodup,by simp,fun a ha b hb=>?_⟩
   simp only[List.mem_singleton] at hb
   subst hb
   rintro rfl
   have:=(h.mem a (.inl ha)).2.2
   unfold newIn at hn
   rw[List.getD_eq_getElem?_getD,this] at hn
   simp at hn
  ·exact h.nodup
 ·rw[hF] at hy
  rcases hy with (hy | ⟨hn,rfl⟩) | hy
  ·have:=h.mem y (.inl hy);exact ⟨this.1,this.2.1,hT.2 (.inl this.2.2)⟩
  ·have hy0:y≠0:=by unfold newIn at hn;simp at hn;exact hn.1
   exact ⟨by omega,h1,hT.2 (.inr ⟨hy0,rfl⟩)⟩
  ·have:=h.mem y (.inr hy);exact ⟨this.1,this.2.1,hT.2 (.inl this.2.2)⟩
 ·rcases hT.1 hi with hi | ⟨hx,rfl⟩
  ·exact h.sound i hi
  ·rw[show (((x-1).toNat:Nat):Int)+1=x by omega];exact hr hx
 ·have old:∀ i:Nat,out[i]? = some true->((i:Int)+1)∈seeF out F x∨((i:Int)+1)∈todo∨∀ c∈kidsW N a0 ((i:Int)+1),c≠0->(seeO out x)[(c-1).toNat]? = some true:=fun i hi=>by
   rcases h.closed i hi with h2 | h2 | h2
   ·exact .inl ((hF _).2 (.inl h2))
   ·exact .inr (.inl h2)
   ·exact .inr (.inr fun c hc h0=>hT.2 (.inl (h2 c hc h0)))
  by_cases ho:out[i]? = some true
  ·exact old i ho
  ·rcases hT.1 hi with hi | ⟨hx,rfl⟩
   ·exact absurd hi ho
   ·refine .inl ((hF _).2 (.inr ⟨?_,by omega⟩))
    unfold newIn
    have hj:(x-1).toNat<out.length:=by rw[h.len];omega
    rw[List.getD_eq_getElem?_getD,List.getElem?_eq_getElem hj,Option.getD_some]
    rw[List.getElem?_eq_getElem hj] at ho
    cases hb:out[(x-1).toNat] with
    | true=>rw[hb] at ho;exact absurd rfl ho
    | false=>simp[hx]
theorem RInv.start:RInv N a0 l (List.replicate a0.Things.length false) [] []:=by
 have no:∀ i:Nat,¬ (List.replicate a0.Things.length false)[i]? = some true:=fun i h=>by rw[List.getElem?_replicate] at h;split at h<;>cases h
 exact ⟨by simp,List.nodup_nil,by unfold cFal;rw[List.countP_replicate];simp,fun x h=>(by rcases h with h | h<;>cases h),fun i h=>absurd h (no i),fun i h=>absurd h (no i)⟩
theorem RInv.wave {out:List Bool} {F xs:List Int} (h:RInv N a0 l out F []) (hp:xs.Perm F):RInv N a0 l out [] xs:=by
 refine ⟨h.len,List.nodup_nil,by have:=h.cnt;simp;omega,fun x hx=>h.mem x (.inl ?_),h.sound,fun i hi=>?_⟩
 ·rcases hx with hx | hx
  ·cases hx
  ·exact hp.mem_iff.1 hx
 ·rcases h.closed i hi with h2 | h2 | h2
  ·exact .inr (.inl (hp.mem_iff.2 h2))
  ·cases h2
  ·exact .inr (.inr h2)
theorem RInv.next {out:List Bool} {F:List Int} {x:Int} {todo:List Int} (h:RInv N a0 l out F (x::todo)) (hk:∀ c∈kidsW N a0 x,c≠0->out[(c-1).toNat]? = some true):RInv N a0 l out F todo:=by
 refine ⟨h.len,h.nodup,h.cnt,fun y hy=>h.mem y (hy.elim .inl fun hy=>.inr (List.mem_cons_of_mem _ hy)),h.sound,fun i hi=>?_⟩
 rcases h.closed i hi with h2 | h2 | h2
 ·exact .inl h2
 ·rcases List.mem_cons.1 h2 with h3 | h3
  ·exact .inr (.inr (by rw[h3];exact hk))
  ·exact .inr (.inl h3)
 ·exact .inr (.inr h2)
theorem RInv.fin {out:List Bool} (h:RInv N a0 l out [] []) (hr:∀ x∈l,x≠0->out[(x-1).toNat]? = some true):RFin (kidsW N a0) l a0.Things.length out:=by
 refine ⟨h.len,h.sound,hr,fun i hi=>?_⟩
 rcases h.closed i hi with h2 | h2 | h2
 ·cases h2
 ·cases h2
 ·exact h2
theorem seeO_keep {out:List Bool} {x:Int} (h0:0<=x) (h1:x<=out.length) {i:Nat} (h:out[i]? = some true):(seeO out x)[i]? = some true:=(seeO_true h0 h1).2 (.inl h)
theorem seeO_new {out:List Bool} {x:Int} (h0:0<=x) (h1:x<=out.length) (hx:x≠0):(seeO out x)[(x-1).toNat]? = some true:=(seeO_true h0 h1).2 (.inr ⟨hx,rfl⟩)
end
end Go.Sx
namespace Go.Sx
section
variable {α:Type} {l:List α} {k:Nat} (f:α->α)
theorem tk_get (h:k<l.length):((l.take k).map f++l.drop k)[k]? = some l[k]:=by
 rw[List.getElem?_append_right (by simp;omega),List.length_map,List.length_take,Nat.min_eq_left (by omega),Nat.sub_self,List.getElem?_drop,Nat.add_zero,List.getElem?_eq_getElem h]
theorem tk_same (h:k<l.length) (e:f l[k]=l[k]):(l.take k).map f++l.drop k=(l.take (k+1)).map f++l.drop (k+1):=by
 rw[List.drop_eq_getElem_cons h,List.take_succ_eq_append_getElem h,List.map_append,List.map_cons,List.map_nil,List.append_assoc,e];rfl
theorem tk_set (h:k<l.length):((l.take k).map f++l.drop k).set k (f l[k])=(l.take (k+1)).map f++l.drop (k+1):=by
 rw[List.set_append_right _ _ (by simp;omega),List.length_map,List.length_take,Nat.min_eq_left (by omega),Nat.sub_self,List.drop_eq_getElem_cons h,List.set_cons_zero,List.take_succ_eq_append_getElem h,List.map_append,List.map_cons,List.map_nil,List.append_assoc];rfl
theorem tk_end:(l.take l.length).map f++l.drop l.length=l.map f:=by simp
end
def strongW (w:TWorld):List Int:=w.Roots++liveS w.Locals.Slots++liveT w.Globals.Entries++w.Marks.map (·.Id)
def phiC (seen:List Bool) (r:Int):Int:=if (r != 0&&!(seen.getD (r-1).toNat false))=true then 0 else r
def clrC (seen:List Bool) (e:TEntry):TEntry:=if e.Live=true then ⟨e.Gen,phiC seen e.Ref,e.Live⟩ else e
section
variable {N:Nat} {w:TWorld} {k:Nat}
theorem strong_l1 (hm:w.Marks.length<=1000):∀ (n j:Nat) (v:List Int),j<=w.Marks.length->w.Marks.length-j<n->v.length<=10000+j->Qbw N w n (j:Int) v=some (v++(w.Marks.drop j).map (·.Id))
 | 0,j,_,_,hn,_=>by omega
 | n+1,j,v,hj,hn,hv=>by
  rw[Qbw]
  by_cases h:j<w.Marks.length
  ·rw[dlt_true h,cond_true,getI_nat,List.getElem?_eq_getElem h,bnd_eq,grd_eq (by omega),wI_succ (by omega),strong_l1 hm n (j+1) _ (by omega) (by omega) (by rw[List.length_append];simp;omega),List.drop_eq_getElem_cons h,List.map_cons,List.append_assoc];rfl
  ·obtain rfl:j=w.Marks.length:=by omega
   rw[dlt_false,cond_false,List.drop_eq_nil_of_le (Nat.le_refl _)];simp
theorem strong_eq (hw:WB k w) (hN:1000000<N) (hf:WF w):Qdp N w=some (strongW w):=by
 have h1:=hw.roots
 have h2:=liveS_of hf.loc
 have h3:=liveT_of hf.glo
 have h4:=strong_l1 (N:=N) hw.marks N 0 (w.Roots++liveS w.Locals.Slots++liveT w.Globals.Entries) (by omega) (by have:=hw.marks;omega) (by rw[List.length_append,List.length_append];omega)
 rw[show ((0:Nat):Int)=0 from rfl,List.drop_zero] at h4
 rw[Qdp,grd_eq (by omega),lrefs_eq hw.loc hN,bnd_eq,hf.loc,cond_true,grd_eq (by omega),trefs_eq hw.glo hN,bnd_eq,hf.glo,cond_true,grd_eq (by omega),h4,bnd_eq];rfl
theorem strong_len (hw:WB k w) (hf:WF w):(strongW w).length<=10000:=by
 have h1:=hw.roots
 have h2:=liveS_of hf.loc
 have h3:=liveT_of hf.glo
 have h4:=hf.m64
 unfold strongW
 simp only[List.length_append,List.length_map]
 omega
theorem liveS_tU {l:List TSlot} (h:tL tTSlot l) {x:Int} (hx:x∈liveS l):tU x:=by
 unfold liveS at hx
 obtain ⟨p,hp,rfl⟩:=List.mem_map.1 hx
 exact h p (List.mem_filter.1 hp).1
theorem liveT_tU {l:List TEntry} (h:tL tTEntry l) {x:Int} (hx:x∈liveT l):tU x:=by
 unfold liveT at hx
 obtain ⟨p,hp,rfl⟩:=List.mem_map.1 hx
 exact h p (List.mem_filter.1 hp).1
theorem ptrsH_mem {d:THeader} {x:Int} (h:x∈ptrsH d):0<=x∧x<d.Length:=by
 unfold ptrsH at h
 split at h
 ·have:=ptrsFrom_mem h;omega
 ·cases h
theorem rch_ok (hw:WB k w) (hN:1000000<N) (hf:WF w) (tw:tTWorld w):rchOK N w (strongW w)=true:=by
 have hn:=strong_len hw hf
 obtain ⟨t1,t2,t3,_,t5,t6⟩:=tw
 unfold rchOK
 simp only[Bool.and_eq_true,List.all_eq_true,decide_eq_true_eq]
 refine ⟨⟨by omega,fun x hx=>?_⟩,fun t ht=>?_⟩
 ·unfold strongW at hx
  simp only[List.mem_append] at hx
  rcases hx with ((hx | hx) | hx) | hx
  ·exact ⟨(t6 x hx).1,hf.roots x hx⟩
  ·exact ⟨(liveS_tU t2 hx).1,hf.rloc x hx⟩
  ·exact ⟨(liveT_tU t3 hx).1,hf.rglo x hx⟩
  ·obtain ⟨m,hm,rfl⟩:=List.mem_map.1 hx
   obtain ⟨j,hj,rfl⟩:=List.getElem_of_mem hm
   have:=hf.mk_ (List.getElem?_eq_getElem hj)
   omega
 ·obtain ⟨f1,f2,f3,f4⟩:=hf.thing t ht
  have ff:=hw.fields t ht
  have e:=refsT_map f1 f3
  rw[gptrsH_eq (by omega) t.Header f1,wrefs_eq (by omega) hN,e]
  simp only[Bool.and_eq_true,List.all_eq_true,decide_eq_true_eq,beq_self_eq_true,and_true]
  have hl:(ptrsH t.Header).length<=1000:=by
   have:=refsF_len t.Header 0 t.Fields
   have e2:(refsT t).length=(ptrsH t.Header).length:=by rw[e,List.length_map]
   unfold refsT at e2
   omega
  refine ⟨by omega,fun i hi=>?_⟩
  have hm:=ptrsH_mem hi
  have hmem:t.Fields.getD i.toNat 0∈refsT t:=by rw[e];exact List.mem_map.2 ⟨i,hi,rfl⟩
  have h0:0<=t.Fields.getD i.toNat 0:=by
   rw[List.getD_eq_getElem?_getD,List.getElem?_eq_getElem (by omega),Option.getD_some]
   exact ((t1 t ht).2 _ (List.getElem_mem _)).1
  exact ⟨⟨⟨hm.1,by omega⟩,h0⟩,f4 _ hmem⟩
theorem reach_tot {l:List Int} (hd:RDat N w l) (hw:WB k w) (hN:1000000<N):∀ (f i:Nat) (v:List Bool) (q:List Int),i<=q.length->v.length=w.Things.length->(∀ x∈q,0<=x∧x<=w.Things.length)->q.length+1000*cFal v<=2000000->(q.length-i)+1001*cFal v<f->Ok (Qai N w f (i:Int) v q) fun r=>r.length=w.Things.length
 | 0,_,_,_,_,_,_,_,h=>by omega
 | f+1,i,v,q,hi,hv,hq,hb,hm=>by
  have hk:=hw.kk
  have ht:=hw.things
  rw[Qai,grd_eq (by omega)]
  by_cases hlt:i<q.length
  ·have e:=List.getElem?_eq_getElem hlt
   have hx:=hq _ (List.getElem_mem hlt)
   generalize q[i]=x at e hx
   rw[decide_eq_true (by omega),cond_true,getI_nat,e]
   simp only[bnd_eq]
   rw[wI_succ (by omega)]
   refine Ok.bif (fun _=>reach_tot hd hw hN f (i+1) v q (by omega) hv hq hb (by omega)) fun h0=>?_
   have h0:x≠0:=by simpa using h0
   rw[wU_id (by omega) (by omega)]
   have hj:(x-1).toNat<v.length:=by omega
   rw[getI_of (by omega) (by omega),bnd_eq]
   refine Ok.bif (fun _=>reach_tot hd hw hN f (i+1) v q (by omega) hv hq hb (by omega)) fun hb0=>?_
   have hc:=cFal_set (out:=v) (j:=(x-1).toNat) (by rw[List.getElem?_eq_getElem hj,hb0])
   have hg:=List.getElem?_eq_getElem (show (x-1).toNat<w.Things.length by omega)
   rw[getI_of (l:=w.Things) (by omega) (by omega)]
   simp only[bnd_eq]
   have hks:=hd.kids hg
   have hkl:(kidsW N w x).length<=1000:=by
    have hff:=hw.fields _ (List.mem_of_getElem? hg)
    rw[wrefs_eq (by omega) hN] at hks
    rw[← Option.some.inj hks]
    have:=refsF_len w.Things[(x-1).toNat].Header 0 w.Things[(x-1).toNat].Fields
    unfold refsT;omega
   rw[hks,bnd_eq,grd_eq (by omega)]
   refine reach_tot hd hw hN f (i+1) _ _ (by rw[List.length_append];omega) (by rw[List.length_set];exact hv) (fun y hy=>?_) (by rw[List.length_append];omega) (by rw[List.length_append];omega)
   rcases List.mem_append.1 hy with hy | hy
   ·exact hq y hy
   ·exact hd.kid hy
  ·rw[decide_eq_false (by omega),cond_false]
   exact Ok.some hv
theorem cFal_le (l:List Bool):cFal l<=l.length:=List.countP_le_length
theorem reached_eq (hw:WB k w) (hN:NB N) (tw:tTWorld w):∃ r,Qdm N w=some r∧Qb8 N w=some r∧r.length<=1000∧(worldV w=true->r.length=w.Things.length):=by
 have hk:=hw.kk
 have ht:=hw.things
 unfold NB at hN
 rw[Qdm,Qb8,gwval_eq hw (by omega) tw,wval_eq hw (by omega),bnd_eq,bnd_eq]
 cases hv:worldV w
 ·exact ⟨[],rfl,rfl,by simp,fun h=>by cases h⟩
 have hf:=worldV_wf hv
 have h2:=liveS_of hf.loc
 have h3:=liveT_of hf.glo
 have h1:=hw.roots
 have hR:=rch_ok hw (show 1000000<N by omega) hf tw
 have hd:=rchOK_dat hR
 have hsl:=strong_len hw hf
 obtain ⟨r,er,hr⟩:=reach_tot hd hw (show 1000000<N by omega) N 0 (List.replicate w.Things.length false) (strongW w) (by omega) (by simp) hd.roots (by have:=cFal_le (List.replicate w.Things.length false);rw[List.length_replicate] at this;omega) (by have:=cFal_le (List.replicate w.Things.length false);rw[List.length_replicate] at this;omega)
 rw[show ((0:Nat):Int)=0 from rfl] at er
 have e4:Qar N [w.Roots,liveS w.Locals.Slots,liveT w.Globals.Entries]=some (w.Roots++liveS w.Locals.Slots++liveT w.Globals.Entries):=by
  rw[concat_eq _ (by simp) (by simp[sumL];omega) (by omega)]
  simp
 refine ⟨r,?_,?_,by omega,fun _=>hr⟩
 ·rw[Bool.not_true,cond_false,glrefs_eq hw.loc (by omega),gtrefs_eq hw.glo (by omega),hf.loc,hf.glo,cond_true,cond_true,bnd_eq,bnd_eq,e4,bnd_eq]
  show grd (rchOK N w (strongW w)=true) (bnd (Qai N w N 0 _ (strongW w)) _)=_
  rw[grd_eq hR,er,bnd_eq]
 ·rw[Bool.not_true,cond_false,grd_eq (by omega),strong_eq hw (by omega) hf,bnd_eq,Int.toNat_natCast,er,bnd_eq]
theorem gcol_l1 {seen:List Bool} (hl:w.Weaks.Entries.length<=1000000) (hr:∀ e∈w.Weaks.Entries,e.Live=true->0<=e.Ref∧e.Ref<=seen.length) (hs:seen.length<=1000000):∀ (n j:Nat),j<=w.Weaks.Entries.length->w.Weaks.Entries.length-j<n->QaU N seen w n (j:Int) ((w.Weaks.Entries.take j).map (clrC seen)++w.Weaks.Entries.drop j)=some (w.Weaks.Entries.map (clrC seen))
 | 0,j,_,hn=>by omega
 | n+1,j,hj,hn=>by
  rw[QaU]
  by_cases h:j<w.Weaks.Entries.length
  ·have hre:=hr _ (List.getElem_mem h)
   have e1:=tk_set (clrC seen) h
   have e2:=tk_same (clrC seen) h
   rw[dlt_true h,cond_true,getI_nat,tk_get _ h]
   simp only[bnd_eq,Int.toNat_natCast,wI_succ (show j<=140737488355328 by omega)]
   have ih:=gcol_l1 hl hr hs n (j+1) (by omega) (by omega)
   generalize w.Weaks.Entries[j]=p at hre e1 e2
   cases hL:p.Live with
   | false=>rw[cond_false,e2 (by rw[clrC,if_neg (by rw[hL];simp)])];exact ih
   | true =>
    have hre:=hre hL
    rw[cond_true]
    by_cases h0:p.Ref=0
    ·rw[bne_false h0,cond_false,e2 (by rw[clrC,if_pos hL,phiC,if_neg (by simp[h0])])];exact ih
    ·have hj:(p.Ref-1).toNat<seen.length:=by omega
     have hg:seen.getD (p.Ref-1).toNat false=seen[(p.Ref-1).toNat]:=by rw[List.getD_eq_getElem?_getD,List.getElem?_eq_getElem hj];rfl
     rw[bne_true h0,cond_true,wU_id (by omega) (by omega),getI_of (by omega) (by omega),bnd_eq]
     cases hb:seen[(p.Ref-1).toNat] with
     | true=>rw[Bool.not_true,cond_false,e2 (by rw[clrC,if_pos hL,phiC,if_neg (by rw[hg,hb];simp)])];exact ih
     | false =>
      rw[Bool.not_false,cond_true]
      rw[clrC,if_pos hL,phiC,if_pos (by rw[hg,hb];simp[h0]),hL] at e1
      rw[e1];exact ih
  ·obtain rfl:j=w.Weaks.Entries.length:=by omega
   rw[dlt_false,cond_false,tk_end]
theorem rcol_l1 {seen:List Bool} {l:List Int} (hl:l.length<=1000000) (hr:∀ r∈l,0<=r∧r<=seen.length) (hs:seen.length<=1000000):∀ (n j:Nat),j<=l.length->l.length-j<n->Qal N w seen n (j:Int) ((l.take j).map (phiC seen)++l.drop j)=some (l.map (phiC seen))
 | 0,j,_,hn=>by omega
 | n+1,j,hj,hn=>by
  have hlen:((l.take j).map (phiC seen)++l.drop j).length=l.length:=by simp;omega
  rw[Qal,grd_eq (by omega),hlen]
  by_cases h:j<l.length
  ·have hre:=hr _ (List.getElem_mem h)
   have e1:=tk_set (phiC seen) h
   have e2:=tk_same (phiC seen) h
   rw[dlt_true h,cond_true,getI_nat,tk_get _ h]
   simp only[bnd_eq,Int.toNat_natCast,wI_succ (show j<=140737488355328 by omega)]
   have ih:=rcol_l1 hl hr hs n (j+1) (by omega) (by omega)
   generalize l[j]=p at hre e1 e2
   by_cases h0:p=0
   ·rw[bne_false h0,cond_false,e2 (by rw[phiC,if_neg (by simp[h0])])];exact ih
   ·have hj:(p-1).toNat<seen.length:=by omega
    have hg:seen.getD (p-1).toNat false=seen[(p-1).toNat]:=by rw[List.getD_eq_getElem?_getD,List.getElem?_eq_getElem hj];rfl
    rw[bne_true h0,cond_true,wU_id (by omega) (by omega),getI_of (by omega) (by omega),bnd_eq]
    cases hb:seen[(p-1).toNat] with
    | true=>rw[Bool.not_true,cond_false,e2 (by rw[phiC,if_neg (by rw[hg,hb];simp)])];exact ih
    | false =>
     rw[Bool.not_false,cond_true]
     rw[phiC,if_pos (by rw[hg,hb];simp[h0])] at e1
     rw[e1];exact ih
  ·obtain rfl:j=l.length:=by omega
   rw[dlt_false,cond_false,tk_end]
theorem liveT_app (a b:List TEntry):liveT (a++b)=liveT a++liveT b:=by unfold liveT;rw[List.filter_append,List.map_append]
theorem rmov_l1 {seen:List Bool} {l:List TEntry} (hl:l.length<=1000000):∀ (n j:Nat),j<=l.length->l.length-j<n->QaF N ((liveT l).map (phiC seen)) n ((liveT (l.take j)).length:Int) (j:Int) ((l.take j).map (clrC seen)++l.drop j)=some (l.map (clrC seen))
 | 0,j,_,hn=>by omega
 | n+1,j,hj,hn=>by
  have hlen:((l.take j).map (clrC seen)++l.drop j).length=l.length:=by simp;omega
  rw[QaF,grd_eq (by omega),hlen]
  by_cases h:j<l.length
  ·have e1:=tk_set (clrC seen) h
   have e2:=tk_same (clrC seen) h
   have e3:liveT (l.take (j+1))=liveT (l.take j)++liveT [l[j]]:=by rw[List.take_succ_eq_append_getElem h,liveT_app]
   have e4:liveT l=liveT (l.take j)++liveT [l[j]]++liveT (l.drop (j+1)):=by rw[← e3,← liveT_app,List.take_append_drop]
   have h5:=liveT_len (l.take j)
   have h6:(l.take j).length<=1000000:=by simp;omega
   rw[dlt_true h,cond_true,getI_nat,tk_get _ h]
   simp only[bnd_eq,Int.toNat_natCast,wI_succ (show j<=140737488355328 by omega),wI_succ (show (liveT (l.take j)).length<=140737488355328 by omega)]
   have ih:=rmov_l1 (seen:=seen) hl n (j+1) (by omega) (by omega)
   rw[e3] at ih
   generalize l[j]=p at e1 e2 e4 ih
   cases hL:p.Live with
   | false =>
    have e5:liveT [p]=[]:=by simp[liveT,hL]
    rw[e5,List.append_nil] at ih
    rw[cond_false,e2 (by rw[clrC,if_neg (by rw[hL];simp)])];exact ih
   | true =>
    have e5:liveT [p]=[p.Ref]:=by simp[liveT,hL]
    have e6:((liveT l).map (phiC seen))[(liveT (l.take j)).length]? = some (phiC seen p.Ref):=by
     rw[e4,e5,List.append_assoc,List.map_append,List.getElem?_append_right (by simp),List.length_map,Nat.sub_self];rfl
    rw[clrC,if_pos hL] at e1
    rw[e5,List.length_append] at ih
    rw[cond_true,getI_nat,e6,bnd_eq,← hL,e1];exact ih
  ·obtain rfl:j=l.length:=by omega
   rw[dlt_false,cond_false,tk_end]
theorem setI {l:List TThing} {j:Nat} (h:j<l.length):l.set j (TThing.mk l[j].Header l[j].Fields)=l:=by
 show l.set j l[j]=l
 exact List.set_getElem_self h
theorem copy_l1 (hl:w.Things.length<=1000):∀ (n j:Nat),j<=w.Things.length->w.Things.length-j<n->Qdn N w w.Things n (j:Int) w.Things=some w.Things
 | 0,j,_,hn=>by omega
 | n+1,j,hj,hn=>by
  rw[Qdn]
  by_cases h:j<w.Things.length
  ·rw[dlt_true h,cond_true,getI_nat,List.getElem?_eq_getElem h]
   simp only[bnd_eq,QaI,Int.toNat_natCast]
   rw[wI_succ (by omega),setI h]
   exact copy_l1 hl n (j+1) (by omega) (by omega)
  ·obtain rfl:j=w.Things.length:=by omega
   rw[dlt_false,cond_false]
theorem copy_eq (hw:WB k w) (hN:1000000<N):QeB N w=some w:=by
 have hk:=hw.kk
 have ht:=hw.things
 have h1:=copy_l1 (N:=N) (w:=w) (by omega) N 0 (by omega) (by omega)
 rw[show ((0:Nat):Int)=0 from rfl] at h1
 rw[QeB,QaK,bnd_eq,grd_eq (by omega),h1,bnd_eq,Qfc,Qd6,Qd6,QaT,QaI,QaL,QaC,Qb4,QaD,QaD]
 simp only[bnd_eq]
theorem collect_eq (hw:WB k w) (hN:NB N) (tw:tTWorld w):∃ r,Qcr N w=some r∧Qa4 N w=some r∧SB r.1:=by
 have hz:SB (TWorld.mk (TConf.mk 0 0) [] (TLocals.mk [] [] []) (TTable.mk []) (TTable.mk []) [] []):=⟨by simp,by simp,by simp,by unfold LBp;simp,by unfold TB;simp,by unfold TB;simp,by simp⟩
 have hs:=hw.sb
 have hk:=hw.kk
 have ht:=hw.things
 obtain ⟨seen,es,er,hsl,hsv⟩:=reached_eq hw hN tw
 unfold NB at hN
 have hwl:=hw.weaK
 rw[Qcr,Qa4,gwval_eq hw (by omega) tw,wval_eq hw (by omega),bnd_eq,bnd_eq]
 cases hv:worldV w
 ·exact ⟨_,rfl,rfl,hz⟩
 have hf:=worldV_wf hv
 have hsv:=hsv hv
 have h64:=liveT_of hf.wea
 obtain ⟨_,_,_,t4,_,_⟩:=tw
 have hrT:∀ r∈liveT w.Weaks.Entries,0<=r∧r<=seen.length:=fun r hr=>⟨(liveT_tU t4 hr).1,by have:=hf.rwea r hr;omega⟩
 have g1:=gcol_l1 (N:=N) (w:=w) (seen:=seen) (by omega) (fun e he hL=>hrT _ (liveT_mem he hL)) (by omega) N 0 (by omega) (by omega)
 have g2:=rcol_l1 (N:=N) (w:=w) (seen:=seen) (l:=liveT w.Weaks.Entries) (by omega) hrT (by omega) N 0 (by omega) (by omega)
 have g3:=rmov_l1 (N:=N) (seen:=seen) (l:=w.Weaks.Entries) (by omega) N 0 (by omega) (by omega)
 simp only[show ((0:Nat):Int)=0 from rfl,List.take_zero,List.map_nil,List.drop_zero,List.nil_append] at g1 g2 g3
 rw[show ((liveT []).length:Int)=0 from rfl] at g3
 refine ⟨(⟨w.Conf,w.Things,w.Locals,w.Globals,⟨w.Weaks.Entries.map (clrC seen)⟩,w.Marks,w.Roots⟩,0),?_,?_,?_⟩
 ·rw[Bool.not_true,cond_false,es,bnd_eq,copy_eq hw (by omega),bnd_eq,grd_eq (by omega),g1,bnd_eq]
 ·rw[Bool.not_true,cond_false,er,bnd_eq,trefs_eq hw.wea (by omega),bnd_eq,hf.wea,cond_true,g2,bnd_eq,QbZ,tval_eq hw.wea (by omega),bnd_eq,hf.wea,Bool.not_true,cond_false,trefs_eq hw.wea (by omega),bnd_eq,hf.wea,cond_true,grd_eq (by omega),List.length_map,bne_self,cond_false,grd_eq (by omega),g3,bnd_eq,bnd_eq]
 ·exact ⟨hs.things,hs.marks,hs.fields,hs.loc,hs.glo,by unfold TB;rw[List.length_map];omega,hs.roots⟩
theorem new_eq (c:TConf):∃ r,Qfv N c=some r∧Qc0 N c=some r∧SB r.1:=by
 have hz:∀ c,SB (TWorld.mk c [] (TLocals.mk [] [] []) (TTable.mk []) (TTable.mk []) [] []):=fun c=>⟨by simp,by simp,by simp,by unfold LBp;simp,by unfold TB;simp,by unfold TB;simp,by simp⟩
 have hp:Qbd N c=some (vconf c):=by
  have:=vconf_eq N c
  rw[Qak] at this
  rw[Qbd,this]
 rw[Qfv,Qc0,vconf_eq,hp,bnd_eq]
 cases vconf c
 ·exact ⟨_,rfl,rfl,hz _⟩
 ·exact ⟨_,rfl,rfl,hz _⟩
theorem sr_l1 {l:List Bool} (hl:l.length<=1000) (hN:1000000<N) (y5:List TWorld) (v6:Int) (p7:TWorld):Qaz N y5 l v6 p7 l N 0=some (.nxt ()):=by
 refine passLoop (l:=l) (F:=Qaz N y5 l v6 p7 l) (fun n k p e=>?_) (fun n=>?_) N 0 (by omega) (by omega)
 ·have hk:=lt_of_some e
  rw[Qaz,decide_eq_true (by omega),cond_true,getI_nat,e,bnd_eq,bnd_eq,beqB_self,Bool.not_true,cond_false,wI_succ (by omega)]
 ·rw[Qaz,decide_eq_false (by omega),cond_false]
theorem sr_l2 (hN:NB N) {y:List TWorld} (h3:y.length<=3) (hd:∀ w∈y,Wd w):QaA N y N 0=some (.nxt ()):=by
 have hN':=hN
 unfold NB at hN'
 refine passLoop (l:=y) (F:=QaA N y) (fun n k p e=>?_) (fun n=>?_) N 0 (by omega) (by omega)
 ·have hk:=lt_of_some e
  obtain ⟨⟨kk,_,hb⟩,tw⟩:=hd p (List.mem_of_getElem? e)
  obtain ⟨r,e1,e2,hr,_⟩:=reached_eq hb hN tw
  obtain ⟨z,e3,e4,hz⟩:=collect_eq hb hN tw
  rw[QaA,decide_eq_true (by omega),cond_true,getI_nat,e,bnd_eq,given_eq hb (by omega),bnd_eq,e1,e2,bnd_eq,bnd_eq,bne_self,cond_false,sr_l1 hr (by omega),bnd_eq,exK_nxt,bnd_eq,e3,e4,bnd_eq,bnd_eq,bne_self,cond_false,told_eq' hz.things hz.marks (by omega),bnd_eq,same21 hz (by omega),bnd_eq,wI_succ (by omega)]
  simp only[Bool.not_true,cond_false]
 ·rw[QaA,decide_eq_false (by omega),cond_false]
theorem shadowReaches_true (raw:TWorld) (tape odd:List Int) (c:TConf) (tr:tTWorld raw) (hl:raw.Things.length<=140737488355328):∃ N,Qcg N raw tape odd c=some true:=by
 obtain ⟨N,hN,hr⟩:=exN raw
 obtain ⟨ws,e2,h2,h3⟩:=QjJ hN hr hl tr tape odd
 refine ⟨N,?_⟩
 have hN':=hN
 unfold NB at hN'
 obtain ⟨m,rfl⟩:∃ m,N=m+60:=⟨N-60,by omega⟩
 obtain ⟨z,e3,e4,hz⟩:=new_eq (N:=m+60) c
 rw[Qcg,e3,e4,bnd_eq,bnd_eq,bne_self,cond_false,told_eq' hz.things hz.marks (by omega),bnd_eq,same21 hz (by omega),bnd_eq,Bool.not_true,cond_false,e2,bnd_eq,sr_l2 hN h2 h3,bnd_eq,exK_nxt,awake_true,bnd_eq]
end
end Go.Sx
