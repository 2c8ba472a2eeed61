import Derived.Test.YtjmgebidnekjdaaGreatLG13
set_option linter.all false
namespace Go.Sx
open Go.Proofs
set_option maxRecDepth 10000
set_option maxHeartbeats 100000000
def Iwl (N : Nat) (a0 : Wv) (a1 : Int) (p1 : WM) (r : List U0 × Int) (l kk vh vi v4 v5 v6 : Nat) (rc : Loop) (n : Nat) (st : St) : Prop :=
  ∃ (at_ : Int) (out : List U0) (vp : Nat), QbV N a0 a1 p1 n at_ out = some r /\ st.n = 58 /\ st.t 0 = .clo (.yield l) [] [] /\ st.t 1 = .ept 51328 vh 6 0 0 /\ st.t 2 = .ept 51392 vi 1 0 0 /\ st.t 4 = .ept 25856 vp 4 0 0 /\ st.t 5 = .v (.int .i64 at_) /\
    st.s 51328 = some (vh, .arr true 27 6 [e27 a0] 0) /\ st.s 51392 = some (vi, .arr true 3 1 [[.v (.int .i64 a1)]] 0) /\ st.s 25856 = some (vp, .arr true 136 4 [Yp p1] 0) /\
    st.s 256 = some (v4, .arr true 265 1 [[.nsl]] 0) /\ st.s 320 = some (v5, .arr true 77 1 [[.v (.int .i64 0)]] 0) /\ st.s 1 = some (kk + 1, .raw (.loop rc)) /\ st.s 2 = some (kk, .raw (.deferred (some []))) /\
    ((out = [] /\ st.s 384 = some (v6, .arr true 265 1 [[.nsl]] 0)) \/ ∃ vo, st.s 384 = some (v6, .arr true 265 1 [[.osl 26880 vo 4 0 out.length]] 0) /\ st.s 26880 = some (vo, .arr false 271 4 (out.map Vj) 0))
def Qwl (a0 : Wv) (a1 : Int) (st : St) : Prop := ∃ vh vi v4 v5 v6 : Nat, st.n = 22 /\ st.t 11 = .clo (.func 270) [] [.ept 51328 vh 6 0 0, .ept 51392 vi 1 0 0] /\ st.t 4 = .ept 256 v4 1 0 0 /\ st.t 5 = .ept 320 v5 1 0 0 /\ st.t 6 = .ept 384 v6 1 0 0 /\
    st.s 51328 = some (vh, .arr true 27 6 [e27 a0] 0) /\ st.s 51392 = some (vi, .arr true 3 1 [[.v (.int .i64 a1)]] 0) /\ st.s 256 = some (v4, .arr true 265 1 [[.nsl]] 0) /\ st.s 320 = some (v5, .arr true 77 1 [[.v (.int .i64 0)]] 0) /\ st.s 384 = some (v6, .arr true 265 1 [[.nsl]] 0)
instance Qpa : ∀ N (a0:Wv) (a1:Int),OK (Qf2 N a0 a1) 228 [.agg (e27 a0),.v (.int .i64 a1)] [] (λ r=>.tup [.isl 271 4 (r.1.map Vj),.v (.int .i64 r.2)]) λ r=>[] := by
  refine λ N a0 a1 => ⟨λ G hw r hr => ?_⟩
  rw [Qf2] at hr
  refine Xb2 (fn := Tryz.f228) (body := (Tryz.f228.body).get!) (rs := [.cell 4 265, .cell 5 77]) [] 22 (by kernel_rfl) (by kernel_rfl) (by kernel_rfl) (by kernel_rfl) (by kernel_rfl) (by simp) λ C x hG hlb hwf a w hrel => ?_
  subst hG
  simp only [Tryz.f228, Option.get!]
  refine Jz 5 _ none a w ?_
  simp only [Xb0, WX, Uz, Ia, Ux]
  refine V8 Xnx [_, _] none a w ?_
  refine Xbt (Q := Qwl a0 a1) ?_ [_, _, _] none a w (Z8 (R' := Jx Tryz.prog (C.sub 0 x) λ _ => False) (λ a w h => by obtain ⟨_, _, hf⟩ := h; exact hf.elim) _ rfl _ _ _ (Yu 1000 _ hrel ?_))
  rotate_left
  · simp only [go_sem, simprocAttr, WX, Uz, Ia, Ux]
    refine CallX.inl (f := 255) 800 (fn := Tryz.f255) (rs := [.tmp 4]) (nt := 6) 1000 (by kernel_rfl) (λ x => ?_) _
    simp only [Tryz.f255, Option.get!]
    simp only [go_sem, simprocAttr]
    refine ⟨7, 8, 2, 3, 4, ?_, ?_, ?_, ?_, ?_, ?_, ?_, ?_, ?_, ?_⟩ <;> first | rfl | (simp only [go_sem, simprocAttr, e27]; done)
  clear hrel a w
  rintro sO a w hrel ⟨vh, vi, v4, v5, v6, q0, q1, q2, q3, q4, q5, q6, q7, q8, q9⟩
  refine XiW (XpM (C := C.sub 0 x) (gf := 270) (caps := [.ept 51328 vh 6 0 0, .ept 51392 vi 1 0 0]) rfl rfl hrel q1 1 2 (by decide) (fn := Tryz.f270) (nt := 58) (by kernel_rfl) 400 1000 ?_)
  intro l D rc y hst hpe hps hA hB hsz hkr hkd hO hb0
  have hrc : (⟨.ready, none, rc.fn, rc.tmps, rc.params, rc.assign, rc.body, rc.defers⟩ : Loop) = rc := by cases rc; simp only at hst hpe; rw [hst, hpe]
  have hsz2 : rc.tmps.size = 22 := hsz.trans q0
  -- behind the range
  have fin : ∀ (S : Heap) (K vo : Nat) (out : List U0) (a' : Act) (w' : World), r = (out, 0) → S 256 = some (v4, .arr true 265 1 [[.nsl]] 0) → S 320 = some (v5, .arr true 77 1 [[.v (.int .i64 0)]] 0) → S 2 = some (sO.k, .raw (.deferred (some []))) →
      ((out = [] /\ S 384 = some (v6, .arr true 265 1 [[.nsl]] 0)) \/ (S 384 = some (v6, .arr true 265 1 [[.osl 26880 vo 4 0 out.length]] 0) /\ S 26880 = some (vo, .arr false 271 4 (out.map Vj) 0))) →
      Rel Tryz.prog ((C.sub 0 x).mk' y.2 D) ⟨sO.t, S, sO.n, K⟩ a' w' → sem Tryz.prog (C.sub 0 x) (λ a w => Jx Tryz.prog (C.sub 0 x) (VM Tryz.prog [.cell 4 265, .cell 5 77] [] 0 (Eqs (.tup [.isl 271 4 (r.1.map Vj), .v (.int .i64 r.2)]) [])) a w \/
        XgE Tryz.prog (C.sub 0 x) (VM Tryz.prog [.cell 4 265, .cell 5 77] [] 0 (Eqs (.tup [.isl 271 4 (r.1.map Vj), .v (.int .i64 r.2)]) [])) a w) (.blk 0 :: ((Xb0 5 (Tryz.f228.body).get!).drop 3).map It.code) none a' w' := by
    intro S K vo out a' w' hr g1 g2 g3 g4 hrel'
    simp only [Tryz.f228, Option.get!, Xb0, List.drop_succ_cons, WP, WX, Uz]
    refine KI (C := C.sub 0 x) (C' := (C.sub 0 x).mk' y.2 D) (R' := Jx Tryz.prog ((C.sub 0 x).mk' y.2 D) λ st => st.s 2 = some (sO.k, .raw (.deferred (some []))) /\ VM Tryz.prog [.cell 4 265, .cell 5 77] [] 0 (Eqs (.tup [.isl 271 4 (r.1.map Vj), .v (.int .i64 r.2)]) []) ⟨st.t, upd st.s 2 (some (sO.k, .raw (.deferred none))), st.n, st.k⟩) rfl ?_ _ ?_ none a' w' (Yu 1000 _ hrel' ?_)
    · exact λ a w h => Or.inr ⟨D, 2, sO.k, y.2, hb0, hkd, h⟩
    · rfl
    subst hr
    rcases g4 with ⟨rfl, g4⟩ | ⟨g4, g5⟩
    · simp only [go_sem, simprocAttr, q0, q2, q3, q4, g1, g2, g3, g4]
      with_reducible refine XP ?_
      simp only [go_sem, simprocAttr, Uz]
    · simp only [go_sem, simprocAttr, q0, q2, q3, q4, g1, g2, g3, g4, g5]
      with_reducible refine XP ?_
      simp only [go_sem, simprocAttr]
  simp only [Tryz.f270, Option.get!]
  repeat' first
    | (refine El.el hr ?_; clear hr; intro hr)
    | (with_reducible intro h; refine Xx hr h ?_; clear hr; intro hr)
    | with_reducible intro _
    | simp only [go_sem, simprocAttr, q5, q6, XE]
    | (with_reducible first | apply Xh | apply Xg | apply Xr)
    | (refine Xs ?_ ?_; · first | assumption | omega)
    | ((with_reducible refine Yk hr ?_ ?_; rotate_left; intro p; rotate_right); (· simp only [go_sem, simprocAttr]); clear hr; intro hp hn hd hr; have XE := hd _ Yp; simp only [go_sem, simprocAttr] at XE)
    | fail
  · refine Xo hr ?_
    intro hr
    refine ⟨rc, ?_, by rw [hst]; simp, .inl ⟨hpe, λ a' w' h => fin _ _ 0 [] a' w' hr.symm ?_ ?_ ?_ (.inl ⟨rfl, ?_⟩) h⟩⟩
    all_goals first | rfl | (simp only [go_sem, simprocAttr, q7, q8, q9]; done)
  all_goals
    clear hn hd XE hp
    refine LoopG.of (Iwl N a0 a1 p r l sO.k vh vi v4 v5 v6 rc) 1000 N ?_ ?_ _
    · refine ⟨0, [], sO.k + 2 + 1 + 1 + 1 + 1 + 1, hr, ?_, ?_, ?_, ?_, ?_, ?_, ?_, ?_, ?_, ?_, ?_, ?_, ?_, .inl ⟨rfl, ?_⟩⟩ <;> first | rfl | (simp only [go_sem, simprocAttr, q5, q6, q7, q8, q9, e27, Yp]; done)
    clear hr
    rintro n st ⟨at_, out, vp, hr, f0, f1, f2, f3, f4, f5, f6, f7, f8, f9, f10, f11, f12, hor⟩
    obtain _ | n := n
    · rw [QbV] at hr; cases hr
    rw [QbV] at hr
    rcases hor with ⟨rfl, g⟩ | ⟨vo, g, g'⟩
    all_goals
      repeat' first
        | (refine El.el hr ?_; clear hr; intro hr)
        | (with_reducible intro h; refine Xx hr h ?_; clear hr; intro hr)
        | with_reducible intro _
        | simp only [go_sem, simprocAttr, f0, f1, f2, f3, f4, f5, f6, f7, f8, f9, f10, f11, g, q2, q3, q4, hrc, e27, Yp, Vj, upd]
        | simp only [go_sem, simprocAttr, g']
        | (with_reducible first | apply Xh | apply Xg | apply Xr)
        | (refine Xs ?_ ?_; · first | assumption | omega)
        | (with_reducible first | refine CallX.c ?_ _ | refine OK.c hr hw ?_ (λ z hr => ?_) _)
        | (refine YieldX.of (l := l) (kr := 1) (v := sO.k + 1) (r := rc) (p1 := 12) (p2 := 13) sO.t 22 1000 ?_ hst hA hB hps (by decide) (by decide) rfl hkr hsz2 hO (λ x2 => ?_) _; · (simp only [go_sem, simprocAttr, f11]))
        | fail
    all_goals first
      | (refine ⟨n, WH _, _, _, vp, hr, ?_, ?_, ?_, ?_, ?_, ?_, ?_, ?_, ?_, ?_, ?_, ?_, ?_, .inr ?_⟩
         all_goals first
           | rfl
           | (simp only [go_sem, simprocAttr, f1, f2, f3, f4, f6, f7, f8, f9, f10, f11, f12, g, upd, hrc, e27, Yp, Vj, Wp, IJ, UG, Uc, Uz, WX, Ux]; done))
      | (refine Xo hr ?_
         intro hr
         refine ⟨⟨.done, some .ret, rc.fn, rc.tmps, rc.params, rc.assign, rc.body, rc.defers⟩, ?_, by simp, .inr ⟨rfl, λ a' w' h => Or.inr ⟨D, 2, sO.k, y.2, hb0, hkd, _, h, ?_, ?_⟩⟩⟩
         rotate_right
         · subst hr
           simp only [go_sem, simprocAttr, f0, f1, f2, f3, f4, f9, f10, f11, f12, g, q0, q2, q3, q4, upd]
           with_reducible refine XP ?_
           simp only [go_sem, simprocAttr, Uz]
         all_goals first
           | rfl
           | (simp only [go_sem, simprocAttr, f11, f12, upd]; done))
      | (refine Xo hr ?_
         intro hr
         refine ⟨rc, ?_, by rw [hst]; simp, .inl ⟨hpe, λ a' w' h => fin _ _ 0 [] a' w' hr.symm ?_ ?_ ?_ (.inl ⟨rfl, ?_⟩) h⟩⟩
         all_goals first
           | rfl
           | (simp only [go_sem, simprocAttr, f9, f10, f11, f12, g, upd]; done))
      | (refine Xo hr ?_
         intro hr
         refine ⟨rc, ?_, by rw [hst]; simp, .inl ⟨hpe, λ a' w' h => fin _ _ vo out a' w' hr.symm ?_ ?_ ?_ (.inr ⟨?_, ?_⟩) h⟩⟩
         all_goals first
           | rfl
           | (simp only [go_sem, simprocAttr, f9, f10, f11, f12, g, g', upd]; done))
      | trace_state

end Go.Sx
