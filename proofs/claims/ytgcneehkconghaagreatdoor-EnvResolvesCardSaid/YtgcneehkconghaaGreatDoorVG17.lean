import Derived.Test.YtgcneehkconghaaGreatDoorVF
import Derived.Test.YtgcneehkconghaaGreatDoorVG6
import Derived.Test.YtgcneehkconghaaGreatDoorVG8
import Derived.Test.YtgcneehkconghaaGreatDoorVG10
import Derived.Test.YtgcneehkconghaaGreatDoorVG11
import Derived.Test.YtgcneehkconghaaGreatDoorVG12
import Derived.Test.YtgcneehkconghaaGreatDoorVG14
import Derived.Test.YtgcneehkconghaaGreatDoorVG15
import Derived.Test.YtgcneehkconghaaGreatDoorVG16
set_option linter.all false
namespace Go.Sx
open Go.Proofs
set_option maxRecDepth 10000
set_option maxHeartbeats 100000000
theorem g24:(∀ N (a0:Wn) (a1:Int),OK (Qek N a0 a1) 295 [.agg (e27 a0),.v (.int .i64 a1)] [] (λ r=>.agg (Xm9 r)) λ r=>[])/\(∀ N (a0:Wn) (a1:Int) (a2:Int) (a3:Int),OK (Qbm N a0 a1 a2 a3) 199 [.agg (e27 a0),.v (.int .u64 a1),.v (.int .i64 a2),.v (.int .u64 a3)] [] (λ r=>.tup [.agg (e27 r.1),.v (.int .i64 r.2)]) λ r=>[])/\(∀ N (a0:WM) (a1:Int) (a2:Int) (a3:Int) (a4:Int) (a5:Bool),OK (Qe1 N a0 a1 a2 a3 a4 a5) 113 [.agg (e43 a0),.v (.int .i64 a1),.v (.int .u64 a2),.v (.int .u64 a3),.v (.int .u64 a4),.v (.bool a5)] [] (λ r=>.v (.int .i64 r)) λ r=>[])/\(∀ N (a0:Wn) (a1:Wy),OK (QdX N a0 a1) 69 [.agg (e27 a0),.agg (e80 a1)] [] (λ r=>.tup [.agg (e27 r.1),.v (.int .u64 r.2.1),.v (.int .i64 r.2.2)]) λ r=>[]):=by
 refine ⟨λ N _ _=>rn Tryz.f295 [.cell 4 284] [] 57 (by kernel_rfl) ?_,λ N _ _ _ _=>rn Tryz.f199 [.cell 8 27,.tmp 9] [] 37 (by kernel_rfl) ?_,λ N _ _ _ _ _ _=>rn Tryz.f113 [.tmp 12] [] 78 (by kernel_rfl) ?_,λ N _ _=>rn Tryz.f69 [.cell 4 27,.tmp 5,.tmp 6] [] 61 (by kernel_rfl) ?_⟩<;>(rintro _ hw r hr C _ rfl hwf hf;simp only[Tryz.f295,Tryz.f199,Tryz.f113,Tryz.f69,Option.get!];(first|rw[Qek] at hr|rw[Qbm] at hr|rw[Qe1] at hr|rw[QdX] at hr);repeat' first
 |(refine El.el hr ?_;intro hr)
 |(with_reducible intro h;refine XA hr h ?_;intro hr)
 |with_reducible intro _
 |simp only[go_sem,simprocAttr,XK]
 |(with_reducible first|apply Xk|apply Xj|apply Xo|apply Xt|apply Xu)
 |((first|with_reducible refine Ym hr (by assumption) ?_ ?_|(with_reducible refine Yi hr ?_ ?_;rotate_left;intro p;rotate_right));(·simp only[go_sem,simprocAttr]);intro hp hn hd hr;(try have XK:=hd _ XG);(try simp only[go_sem,simprocAttr] at XK))
 |(refine Xp ?_ ?_;·first|assumption|omega)
 |(with_reducible first|refine CallX.c ?_ _|refine OK.c hr hw ?_ (λ y hr=>?_) _|refine Og hr hw ?_ (λ y hr=>?_) _)
 |refine db 295 1 hf 9 [(0,4,[]),(1,4,[]),(0,3,[]),(7,0,[]),(15,0,[]),(31,0,[]),(63,0,[]),(127,0,[]),(255,50176,[]),(511,50176,[]),(255,49920,[]),(2047,49152,[]),(4095,49152,[]),(8191,49152,[]),(255,16128,[]),(16639,16128,[]),(65535,0,[]),(131071,0,[])] rfl rfl (by kernel_rfl) ?_ _
 |refine db 69 3 hf 7 [(0,393219,[[],[448,512]]),(0,65539,[[],[448,512]]),(2,65539,[[],[448,512]]),(7,3,[[],[448,512]]),(15,3,[[],[448,512]]),(31,6291459,[[],[448,512]]),(31,5242883,[[],[448,512]]),(31,3145731,[[],[448,512]]),(0,8355842,[[448],[512]]),(0,8355841,[[512],[448]]),(831,6291456,[[448],[]]),(1919,4194304,[[512],[]]),(4095,0,[])] rfl rfl (by kernel_rfl) ?_ _
 |(refine Xn hr ?_;rintro rfl;with_reducible refine XM ?_)
 |exact Yw hr
 |fail)
@[reducible,instance] def QnH:=g24.1
@[reducible,instance] def QkZ:=g24.2.1
@[reducible,instance] def Qlo:=g24.2.2.1
@[reducible,instance] def Qoh:=g24.2.2.2
def Iwl (N : Nat) (a0 : Wn) (a1 : Int) (p1 : Wv) (r : List UI × Int) (l kk vh vi v4 v5 v6 : Nat) (rc : Loop) (n : Nat) (st : St) : Prop :=
  ∃ (at_ : Int) (out : List UI) (vp : Nat), QbD N a0 a1 p1 n at_ out = some r /\ st.n = 58 /\ st.t 0 = .clo (.yield l) [] [] /\ st.t 1 = .ept 51328 vh 6 0 0 /\ st.t 2 = .ept 51392 vi 1 0 0 /\ st.t 4 = .ept 25856 vp 4 0 0 /\ st.t 5 = .v (.int .i64 at_) /\
    st.s 51328 = some (vh, .arr true 27 6 [e27 a0] 0) /\ st.s 51392 = some (vi, .arr true 3 1 [[.v (.int .i64 a1)]] 0) /\ st.s 25856 = some (vp, .arr true 175 4 [XG p1] 0) /\
    st.s 256 = some (v4, .arr true 273 1 [[.nsl]] 0) /\ st.s 320 = some (v5, .arr true 49 1 [[.v (.int .i64 0)]] 0) /\ st.s 1 = some (kk + 1, .raw (.loop rc)) /\ st.s 2 = some (kk, .raw (.deferred (some []))) /\
    ((out = [] /\ st.s 384 = some (v6, .arr true 273 1 [[.nsl]] 0)) \/ ∃ vo, st.s 384 = some (v6, .arr true 273 1 [[.osl 26880 vo 4 0 out.length]] 0) /\ st.s 26880 = some (vo, .arr false 279 4 (out.map KR) 0))
def Qwl (a0 : Wn) (a1 : Int) (st : St) : Prop := ∃ vh vi v4 v5 v6 : Nat, st.n = 22 /\ st.t 11 = .clo (.func 365) [] [.ept 51328 vh 6 0 0, .ept 51392 vi 1 0 0] /\ st.t 4 = .ept 256 v4 1 0 0 /\ st.t 5 = .ept 320 v5 1 0 0 /\ st.t 6 = .ept 384 v6 1 0 0 /\
    st.s 51328 = some (vh, .arr true 27 6 [e27 a0] 0) /\ st.s 51392 = some (vi, .arr true 3 1 [[.v (.int .i64 a1)]] 0) /\ st.s 256 = some (v4, .arr true 273 1 [[.nsl]] 0) /\ st.s 320 = some (v5, .arr true 49 1 [[.v (.int .i64 0)]] 0) /\ st.s 384 = some (v6, .arr true 273 1 [[.nsl]] 0)
instance QmF : ∀ N (a0:Wn) (a1:Int),OK (Qfb N a0 a1) 292 [.agg (e27 a0),.v (.int .i64 a1)] [] (λ r=>.tup [.isl 279 4 (r.1.map KR),.v (.int .i64 r.2)]) λ r=>[] := by
  refine λ N a0 a1 => ⟨λ G hw r hr => ?_⟩
  rw [Qfb] at hr
  refine XbA (fn := Tryz.f292) (body := (Tryz.f292.body).get!) (rs := [.cell 4 273, .cell 5 49]) [] 22 (by kernel_rfl) (by kernel_rfl) (by kernel_rfl) (by kernel_rfl) (by kernel_rfl) (by simp) λ C x hG hlb hwf a w hrel => ?_
  subst hG
  simp only [Tryz.f292, Option.get!]
  refine Jf 5 _ none a w ?_
  simp only [Xby, W9, UA, Iv, Uw]
  refine VJ Xl8 [_, _] none a w ?_
  refine XaZ (Q := Qwl a0 a1) ?_ [_, _, _] none a w (Z1 (R' := Jd Tryz.prog (C.sub 0 x) λ _ => False) (λ a w h => by obtain ⟨_, _, hf⟩ := h; exact hf.elim) _ rfl _ _ _ (Yo 1000 _ hrel ?_))
  rotate_left
  · simp only [go_sem, simprocAttr, W9, UA, Iv, Uw]
    refine CallX.inl (f := 338) 800 (fn := Tryz.f338) (rs := [.tmp 4]) (nt := 6) 1000 (by kernel_rfl) (λ x => ?_) _
    simp only [Tryz.f338, Option.get!]
    simp only [go_sem, simprocAttr]
    refine ⟨7, 8, 2, 3, 4, ?_, ?_, ?_, ?_, ?_, ?_, ?_, ?_, ?_, ?_⟩ <;> first | rfl | (simp only [go_sem, simprocAttr, e27]; done)
  clear hrel a w
  rintro sO a w hrel ⟨vh, vi, v4, v5, v6, q0, q1, q2, q3, q4, q5, q6, q7, q8, q9⟩
  refine XhT (Xoa (C := C.sub 0 x) (gf := 365) (caps := [.ept 51328 vh 6 0 0, .ept 51392 vi 1 0 0]) rfl rfl hrel q1 1 2 (by decide) (fn := Tryz.f365) (nt := 58) (by kernel_rfl) 400 1000 ?_)
  intro l D rc y hst hpe hps hA hB hsz hkr hkd hO hb0
  have hrc : (⟨.ready, none, rc.fn, rc.tmps, rc.params, rc.assign, rc.body, rc.defers⟩ : Loop) = rc := by cases rc; simp only at hst hpe; rw [hst, hpe]
  have hsz2 : rc.tmps.size = 22 := hsz.trans q0
  -- behind the range
  have fin : ∀ (S : Heap) (K vo : Nat) (out : List UI) (a' : Act) (w' : World), r = (out, 0) → S 256 = some (v4, .arr true 273 1 [[.nsl]] 0) → S 320 = some (v5, .arr true 49 1 [[.v (.int .i64 0)]] 0) → S 2 = some (sO.k, .raw (.deferred (some []))) →
      ((out = [] /\ S 384 = some (v6, .arr true 273 1 [[.nsl]] 0)) \/ (S 384 = some (v6, .arr true 273 1 [[.osl 26880 vo 4 0 out.length]] 0) /\ S 26880 = some (vo, .arr false 279 4 (out.map KR) 0))) →
      Rel Tryz.prog ((C.sub 0 x).mk' y.2 D) ⟨sO.t, S, sO.n, K⟩ a' w' → sem Tryz.prog (C.sub 0 x) (λ a w => Jd Tryz.prog (C.sub 0 x) (VG Tryz.prog [.cell 4 273, .cell 5 49] [] 0 (Eqs (.tup [.isl 279 4 (r.1.map KR), .v (.int .i64 r.2)]) [])) a w \/
        XfW Tryz.prog (C.sub 0 x) (VG Tryz.prog [.cell 4 273, .cell 5 49] [] 0 (Eqs (.tup [.isl 279 4 (r.1.map KR), .v (.int .i64 r.2)]) [])) a w) (.blk 0 :: ((Xby 5 (Tryz.f292.body).get!).drop 3).map It.code) none a' w' := by
    intro S K vo out a' w' hr g1 g2 g3 g4 hrel'
    simp only [Tryz.f292, Option.get!, Xby, List.drop_succ_cons, WX, W9, UA]
    refine Kw (C := C.sub 0 x) (C' := (C.sub 0 x).mk' y.2 D) (R' := Jd Tryz.prog ((C.sub 0 x).mk' y.2 D) λ st => st.s 2 = some (sO.k, .raw (.deferred (some []))) /\ VG Tryz.prog [.cell 4 273, .cell 5 49] [] 0 (Eqs (.tup [.isl 279 4 (r.1.map KR), .v (.int .i64 r.2)]) []) ⟨st.t, upd st.s 2 (some (sO.k, .raw (.deferred none))), st.n, st.k⟩) rfl ?_ _ ?_ none a' w' (Yo 1000 _ hrel' ?_)
    · exact λ a w h => Or.inr ⟨D, 2, sO.k, y.2, hb0, hkd, h⟩
    · rfl
    subst hr
    rcases g4 with ⟨rfl, g4⟩ | ⟨g4, g5⟩
    · simp only [go_sem, simprocAttr, q0, q2, q3, q4, g1, g2, g3, g4]
      with_reducible refine XM ?_
      simp only [go_sem, simprocAttr, UA]
    · simp only [go_sem, simprocAttr, q0, q2, q3, q4, g1, g2, g3, g4, g5]
      with_reducible refine XM ?_
      simp only [go_sem, simprocAttr]
  simp only [Tryz.f365, Option.get!]
  repeat' first
    | (refine El.el hr ?_; clear hr; intro hr)
    | (with_reducible intro h; refine XA hr h ?_; clear hr; intro hr)
    | with_reducible intro _
    | simp only [go_sem, simprocAttr, q5, q6, XK]
    | (with_reducible first | apply Xk | apply Xj | apply Xo)
    | (refine Xp ?_ ?_; · first | assumption | omega)
    | ((with_reducible refine Yi hr ?_ ?_; rotate_left; intro p; rotate_right); (· simp only [go_sem, simprocAttr]); clear hr; intro hp hn hd hr; have XK := hd _ XG; simp only [go_sem, simprocAttr] at XK)
    | fail
  · refine Xn hr ?_
    intro hr
    refine ⟨rc, ?_, by rw [hst]; simp, .inl ⟨hpe, λ a' w' h => fin _ _ 0 [] a' w' hr.symm ?_ ?_ ?_ (.inl ⟨rfl, ?_⟩) h⟩⟩
    all_goals first | rfl | (simp only [go_sem, simprocAttr, q7, q8, q9]; done)
  all_goals
    clear hn hd XK hp
    refine LoopG.of (Iwl N a0 a1 p r l sO.k vh vi v4 v5 v6 rc) 1000 N ?_ ?_ _
    · refine ⟨0, [], sO.k + 2 + 1 + 1 + 1 + 1 + 1, hr, ?_, ?_, ?_, ?_, ?_, ?_, ?_, ?_, ?_, ?_, ?_, ?_, ?_, .inl ⟨rfl, ?_⟩⟩ <;> first | rfl | (simp only [go_sem, simprocAttr, q5, q6, q7, q8, q9, e27, XG]; done)
    clear hr
    rintro n st ⟨at_, out, vp, hr, f0, f1, f2, f3, f4, f5, f6, f7, f8, f9, f10, f11, f12, hor⟩
    obtain _ | n := n
    · rw [QbD] at hr; cases hr
    rw [QbD] at hr
    rcases hor with ⟨rfl, g⟩ | ⟨vo, g, g'⟩
    all_goals
      repeat' first
        | (refine El.el hr ?_; clear hr; intro hr)
        | (with_reducible intro h; refine XA hr h ?_; clear hr; intro hr)
        | with_reducible intro _
        | simp only [go_sem, simprocAttr, f0, f1, f2, f3, f4, f5, f6, f7, f8, f9, f10, f11, g, q2, q3, q4, hrc, e27, XG, KR, upd]
        | simp only [go_sem, simprocAttr, g']
        | (with_reducible first | apply Xk | apply Xj | apply Xo)
        | (refine Xp ?_ ?_; · first | assumption | omega)
        | (with_reducible first | refine CallX.c ?_ _ | refine OK.c hr hw ?_ (λ z hr => ?_) _)
        | (refine YieldX.of (l := l) (kr := 1) (v := sO.k + 1) (r := rc) (p1 := 12) (p2 := 13) sO.t 22 1000 ?_ hst hA hB hps (by decide) (by decide) rfl hkr hsz2 hO (λ x2 => ?_) _; · (simp only [go_sem, simprocAttr, f11]))
        | fail
    all_goals first
      | (refine ⟨n, WD _, _, _, vp, hr, ?_, ?_, ?_, ?_, ?_, ?_, ?_, ?_, ?_, ?_, ?_, ?_, ?_, .inr ?_⟩
         all_goals first
           | rfl
           | (simp only [go_sem, simprocAttr, f1, f2, f3, f4, f6, f7, f8, f9, f10, f11, f12, g, upd, hrc, e27, XG, KR, Wq, List.map_append, Uz, W5, UA, W9, Uw]; done))
      | (refine Xn hr ?_
         intro hr
         refine ⟨⟨.done, some .ret, rc.fn, rc.tmps, rc.params, rc.assign, rc.body, rc.defers⟩, ?_, by simp, .inr ⟨rfl, λ a' w' h => Or.inr ⟨D, 2, sO.k, y.2, hb0, hkd, _, h, ?_, ?_⟩⟩⟩
         rotate_right
         · subst hr
           simp only [go_sem, simprocAttr, f0, f1, f2, f3, f4, f9, f10, f11, f12, g, q0, q2, q3, q4, upd]
           with_reducible refine XM ?_
           simp only [go_sem, simprocAttr, UA]
         all_goals first
           | rfl
           | (simp only [go_sem, simprocAttr, f11, f12, upd]; done))
      | (refine Xn hr ?_
         intro hr
         refine ⟨rc, ?_, by rw [hst]; simp, .inl ⟨hpe, λ a' w' h => fin _ _ 0 [] a' w' hr.symm ?_ ?_ ?_ (.inl ⟨rfl, ?_⟩) h⟩⟩
         all_goals first
           | rfl
           | (simp only [go_sem, simprocAttr, f9, f10, f11, f12, g, upd]; done))
      | (refine Xn hr ?_
         intro hr
         refine ⟨rc, ?_, by rw [hst]; simp, .inl ⟨hpe, λ a' w' h => fin _ _ vo out a' w' hr.symm ?_ ?_ ?_ (.inr ⟨?_, ?_⟩) h⟩⟩
         all_goals first
           | rfl
           | (simp only [go_sem, simprocAttr, f9, f10, f11, f12, g, g', upd]; done))
      | trace_state

end Go.Sx
