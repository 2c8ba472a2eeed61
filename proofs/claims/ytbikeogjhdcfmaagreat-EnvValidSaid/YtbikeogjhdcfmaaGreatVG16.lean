import Derived.Test.YtbikeogjhdcfmaaGreatVF
import Derived.Test.YtbikeogjhdcfmaaGreatVG5
import Derived.Test.YtbikeogjhdcfmaaGreatVG7
import Derived.Test.YtbikeogjhdcfmaaGreatVG9
import Derived.Test.YtbikeogjhdcfmaaGreatVG10
import Derived.Test.YtbikeogjhdcfmaaGreatVG11
import Derived.Test.YtbikeogjhdcfmaaGreatVG13
import Derived.Test.YtbikeogjhdcfmaaGreatVG14
import Derived.Test.YtbikeogjhdcfmaaGreatVG15
set_option linter.all false
namespace Go.Sx
open Go.Proofs
set_option maxRecDepth 10000
set_option maxHeartbeats 100000000
theorem g24:(∀ N (a0:Wn) (a1:Int),OK (Qel N a0 a1) 149 [.agg (e27 a0),.v (.int .i64 a1)] [] (λ r=>.agg (Xm4 r)) λ r=>[])/\(∀ N (a0:Wn) (a1:Int) (a2:Int) (a3:Int),OK (Qbj N a0 a1 a2 a3) 197 [.agg (e27 a0),.v (.int .u64 a1),.v (.int .i64 a2),.v (.int .u64 a3)] [] (λ r=>.tup [.agg (e27 r.1),.v (.int .i64 r.2)]) λ r=>[])/\(∀ N (a0:WM) (a1:Int) (a2:Int) (a3:Int) (a4:Int) (a5:Bool),OK (Qe9 N a0 a1 a2 a3 a4 a5) 131 [.agg (e59 a0),.v (.int .i64 a1),.v (.int .u64 a2),.v (.int .u64 a3),.v (.int .u64 a4),.v (.bool a5)] [] (λ r=>.v (.int .i64 r)) λ r=>[])/\(∀ N (a0:Wn) (a1:Wz),OK (QdX N a0 a1) 74 [.agg (e27 a0),.agg (e82 a1)] [] (λ r=>.tup [.agg (e27 r.1),.v (.int .u64 r.2.1),.v (.int .i64 r.2.2)]) λ r=>[]):=by
 refine ⟨λ N _ _=>rn Tryz.f149 [.cell 4 167] [] 57 (by kernel_rfl) ?_,λ N _ _ _ _=>rn Tryz.f197 [.cell 8 27,.tmp 9] [] 37 (by kernel_rfl) ?_,λ N _ _ _ _ _ _=>rn Tryz.f131 [.tmp 12] [] 78 (by kernel_rfl) ?_,λ N _ _=>rn Tryz.f74 [.cell 4 27,.tmp 5,.tmp 6] [] 61 (by kernel_rfl) ?_⟩<;>(rintro _ hw r hr C _ rfl hwf hf;simp only[Tryz.f149,Tryz.f197,Tryz.f131,Tryz.f74,Option.get!];(first|rw[Qel] at hr|rw[Qbj] at hr|rw[Qe9] at hr|rw[QdX] at hr);repeat' first
 |(refine El.el hr ?_;intro hr)
 |(with_reducible intro h;refine XB hr h ?_;intro hr)
 |with_reducible intro _
 |simp only[go_sem,simprocAttr,XK]
 |(with_reducible first|apply Xk|apply Xj|apply Xp|apply Xr|apply Xs)
 |((first|with_reducible refine Yk hr (by assumption) ?_ ?_|(with_reducible refine Yf hr ?_ ?_;rotate_left;intro p;rotate_right));(·simp only[go_sem,simprocAttr]);intro hp hn hd hr;(try have XK:=hd _ XF);(try simp only[go_sem,simprocAttr] at XK))
 |(refine Xq ?_ ?_;·first|assumption|omega)
 |(with_reducible first|refine CallX.c ?_ _|refine OK.c hr hw ?_ (λ y hr=>?_) _|refine Oe hr hw ?_ (λ y hr=>?_) _)
 |refine db 149 1 hf 9 [(0,4,[]),(1,4,[]),(0,3,[]),(7,0,[]),(15,0,[]),(31,0,[]),(63,0,[]),(127,0,[]),(255,50176,[]),(511,50176,[]),(255,49920,[]),(2047,49152,[]),(4095,49152,[]),(8191,49152,[]),(255,16128,[]),(16639,16128,[]),(65535,0,[]),(131071,0,[])] rfl rfl (by kernel_rfl) ?_ _
 |refine db 74 3 hf 7 [(0,393219,[[],[448,512]]),(0,65539,[[],[448,512]]),(2,65539,[[],[448,512]]),(7,3,[[],[448,512]]),(15,3,[[],[448,512]]),(31,6291459,[[],[448,512]]),(31,5242883,[[],[448,512]]),(31,3145731,[[],[448,512]]),(0,8355842,[[448],[512]]),(0,8355841,[[512],[448]]),(831,6291456,[[448],[]]),(1919,4194304,[[512],[]]),(4095,0,[])] rfl rfl (by kernel_rfl) ?_ _
 |(refine Xn hr ?_;rintro rfl;with_reducible refine XM ?_)
 |exact Yw hr
 |fail)
@[reducible,instance] def QnZ:=g24.1
@[reducible,instance] def Qle:=g24.2.1
@[reducible,instance] def QlD:=g24.2.2.1
@[reducible,instance] def Qox:=g24.2.2.2
def Iwl (N : Nat) (a0 : Wn) (a1 : Int) (p1 : Wv) (r : List UJ × Int) (l kk vh vi v4 v5 v6 : Nat) (rc : Loop) (n : Nat) (st : St) : Prop :=
  ∃ (at_ : Int) (out : List UJ) (vp : Nat), QbB N a0 a1 p1 n at_ out = some r /\ st.n = 58 /\ st.t 0 = .clo (.yield l) [] [] /\ st.t 1 = .ept 51328 vh 6 0 0 /\ st.t 2 = .ept 51392 vi 1 0 0 /\ st.t 4 = .ept 25856 vp 4 0 0 /\ st.t 5 = .v (.int .i64 at_) /\
    st.s 51328 = some (vh, .arr true 27 6 [e27 a0] 0) /\ st.s 51392 = some (vi, .arr true 3 1 [[.v (.int .i64 a1)]] 0) /\ st.s 25856 = some (vp, .arr true 108 4 [XF p1] 0) /\
    st.s 256 = some (v4, .arr true 156 1 [[.nsl]] 0) /\ st.s 320 = some (v5, .arr true 39 1 [[.v (.int .i64 0)]] 0) /\ st.s 1 = some (kk + 1, .raw (.loop rc)) /\ st.s 2 = some (kk, .raw (.deferred (some []))) /\
    ((out = [] /\ st.s 384 = some (v6, .arr true 156 1 [[.nsl]] 0)) \/ ∃ vo, st.s 384 = some (v6, .arr true 156 1 [[.osl 26880 vo 4 0 out.length]] 0) /\ st.s 26880 = some (vo, .arr false 162 4 (out.map KK) 0))
def Qwl (a0 : Wn) (a1 : Int) (st : St) : Prop := ∃ vh vi v4 v5 v6 : Nat, st.n = 22 /\ st.t 11 = .clo (.func 276) [] [.ept 51328 vh 6 0 0, .ept 51392 vi 1 0 0] /\ st.t 4 = .ept 256 v4 1 0 0 /\ st.t 5 = .ept 320 v5 1 0 0 /\ st.t 6 = .ept 384 v6 1 0 0 /\
    st.s 51328 = some (vh, .arr true 27 6 [e27 a0] 0) /\ st.s 51392 = some (vi, .arr true 3 1 [[.v (.int .i64 a1)]] 0) /\ st.s 256 = some (v4, .arr true 156 1 [[.nsl]] 0) /\ st.s 320 = some (v5, .arr true 39 1 [[.v (.int .i64 0)]] 0) /\ st.s 384 = some (v6, .arr true 156 1 [[.nsl]] 0)
instance QmS : ∀ N (a0:Wn) (a1:Int),OK (Qfj N a0 a1) 145 [.agg (e27 a0),.v (.int .i64 a1)] [] (λ r=>.tup [.isl 162 4 (r.1.map KK),.v (.int .i64 r.2)]) λ r=>[] := by
  refine λ N a0 a1 => ⟨λ G hw r hr => ?_⟩
  rw [Qfj] at hr
  refine Xbq (fn := Tryz.f145) (body := (Tryz.f145.body).get!) (rs := [.cell 4 156, .cell 5 39]) [] 22 (by kernel_rfl) (by kernel_rfl) (by kernel_rfl) (by kernel_rfl) (by kernel_rfl) (by simp) λ C x hG hlb hwf a w hrel => ?_
  subst hG
  simp only [Tryz.f145, Option.get!]
  refine Jb 5 _ none a w ?_
  simp only [Xbo, W7, UA, Ip, Uw]
  refine VE Xl5 [_, _] none a w ?_
  refine XaR (Q := Qwl a0 a1) ?_ [_, _, _] none a w (ZT (R' := K9 Tryz.prog (C.sub 0 x) λ _ => False) (λ a w h => by obtain ⟨_, _, hf⟩ := h; exact hf.elim) _ rfl _ _ _ (Yp 1000 _ hrel ?_))
  rotate_left
  · simp only [go_sem, simprocAttr, W7, UA, Ip, Uw]
    refine CallX.inl (f := 225) 800 (fn := Tryz.f225) (rs := [.tmp 4]) (nt := 6) 1000 (by kernel_rfl) (λ x => ?_) _
    simp only [Tryz.f225, Option.get!]
    simp only [go_sem, simprocAttr]
    refine ⟨7, 8, 2, 3, 4, ?_, ?_, ?_, ?_, ?_, ?_, ?_, ?_, ?_, ?_⟩ <;> first | rfl | (simp only [go_sem, simprocAttr, e27]; done)
  clear hrel a w
  rintro sO a w hrel ⟨vh, vi, v4, v5, v6, q0, q1, q2, q3, q4, q5, q6, q7, q8, q9⟩
  refine XhT (Xn0 (C := C.sub 0 x) (gf := 276) (caps := [.ept 51328 vh 6 0 0, .ept 51392 vi 1 0 0]) rfl rfl hrel q1 1 2 (by decide) (fn := Tryz.f276) (nt := 58) (by kernel_rfl) 400 1000 ?_)
  intro l D rc y hst hpe hps hA hB hsz hkr hkd hO hb0
  have hrc : (⟨.ready, none, rc.fn, rc.tmps, rc.params, rc.assign, rc.body, rc.defers⟩ : Loop) = rc := by cases rc; simp only at hst hpe; rw [hst, hpe]
  have hsz2 : rc.tmps.size = 22 := hsz.trans q0
  -- behind the range
  have fin : ∀ (S : Heap) (K vo : Nat) (out : List UJ) (a' : Act) (w' : World), r = (out, 0) → S 256 = some (v4, .arr true 156 1 [[.nsl]] 0) → S 320 = some (v5, .arr true 39 1 [[.v (.int .i64 0)]] 0) → S 2 = some (sO.k, .raw (.deferred (some []))) →
      ((out = [] /\ S 384 = some (v6, .arr true 156 1 [[.nsl]] 0)) \/ (S 384 = some (v6, .arr true 156 1 [[.osl 26880 vo 4 0 out.length]] 0) /\ S 26880 = some (vo, .arr false 162 4 (out.map KK) 0))) →
      Rel Tryz.prog ((C.sub 0 x).mk' y.2 D) ⟨sO.t, S, sO.n, K⟩ a' w' → sem Tryz.prog (C.sub 0 x) (λ a w => K9 Tryz.prog (C.sub 0 x) (VB Tryz.prog [.cell 4 156, .cell 5 39] [] 0 (Eqs (.tup [.isl 162 4 (r.1.map KK), .v (.int .i64 r.2)]) [])) a w \/
        XfV Tryz.prog (C.sub 0 x) (VB Tryz.prog [.cell 4 156, .cell 5 39] [] 0 (Eqs (.tup [.isl 162 4 (r.1.map KK), .v (.int .i64 r.2)]) [])) a w) (.blk 0 :: ((Xbo 5 (Tryz.f145.body).get!).drop 3).map It.code) none a' w' := by
    intro S K vo out a' w' hr g1 g2 g3 g4 hrel'
    simp only [Tryz.f145, Option.get!, Xbo, List.drop_succ_cons, WT, W7, UA]
    refine Kq (C := C.sub 0 x) (C' := (C.sub 0 x).mk' y.2 D) (R' := K9 Tryz.prog ((C.sub 0 x).mk' y.2 D) λ st => st.s 2 = some (sO.k, .raw (.deferred (some []))) /\ VB Tryz.prog [.cell 4 156, .cell 5 39] [] 0 (Eqs (.tup [.isl 162 4 (r.1.map KK), .v (.int .i64 r.2)]) []) ⟨st.t, upd st.s 2 (some (sO.k, .raw (.deferred none))), st.n, st.k⟩) rfl ?_ _ ?_ none a' w' (Yp 1000 _ hrel' ?_)
    · exact λ a w h => Or.inr ⟨D, 2, sO.k, y.2, hb0, hkd, h⟩
    · rfl
    subst hr
    rcases g4 with ⟨rfl, g4⟩ | ⟨g4, g5⟩
    · simp only [go_sem, simprocAttr, q0, q2, q3, q4, g1, g2, g3, g4]
      with_reducible refine XM ?_
      simp only [go_sem, simprocAttr, UA]
    · simp only [go_sem, simprocAttr, q0, q2, q3, q4, g1, g2, g3, g4, g5]
      with_reducible refine XM ?_
      simp only [go_sem, simprocAttr]
  simp only [Tryz.f276, Option.get!]
  repeat' first
    | (refine El.el hr ?_; clear hr; intro hr)
    | (with_reducible intro h; refine XB hr h ?_; clear hr; intro hr)
    | with_reducible intro _
    | simp only [go_sem, simprocAttr, q5, q6, XK]
    | (with_reducible first | apply Xk | apply Xj | apply Xp)
    | (refine Xq ?_ ?_; · first | assumption | omega)
    | ((with_reducible refine Yf hr ?_ ?_; rotate_left; intro p; rotate_right); (· simp only [go_sem, simprocAttr]); clear hr; intro hp hn hd hr; have XK := hd _ XF; simp only [go_sem, simprocAttr] at XK)
    | fail
  · refine Xn hr ?_
    intro hr
    refine ⟨rc, ?_, by rw [hst]; simp, .inl ⟨hpe, λ a' w' h => fin _ _ 0 [] a' w' hr.symm ?_ ?_ ?_ (.inl ⟨rfl, ?_⟩) h⟩⟩
    all_goals first | rfl | (simp only [go_sem, simprocAttr, q7, q8, q9]; done)
  all_goals
    clear hn hd XK hp
    refine LoopG.of (Iwl N a0 a1 p r l sO.k vh vi v4 v5 v6 rc) 1000 N ?_ ?_ _
    · refine ⟨0, [], sO.k + 2 + 1 + 1 + 1 + 1 + 1, hr, ?_, ?_, ?_, ?_, ?_, ?_, ?_, ?_, ?_, ?_, ?_, ?_, ?_, .inl ⟨rfl, ?_⟩⟩ <;> first | rfl | (simp only [go_sem, simprocAttr, q5, q6, q7, q8, q9, e27, XF]; done)
    clear hr
    rintro n st ⟨at_, out, vp, hr, f0, f1, f2, f3, f4, f5, f6, f7, f8, f9, f10, f11, f12, hor⟩
    obtain _ | n := n
    · rw [QbB] at hr; cases hr
    rw [QbB] at hr
    rcases hor with ⟨rfl, g⟩ | ⟨vo, g, g'⟩
    all_goals
      repeat' first
        | (refine El.el hr ?_; clear hr; intro hr)
        | (with_reducible intro h; refine XB hr h ?_; clear hr; intro hr)
        | with_reducible intro _
        | simp only [go_sem, simprocAttr, f0, f1, f2, f3, f4, f5, f6, f7, f8, f9, f10, f11, g, q2, q3, q4, hrc, e27, XF, KK, upd]
        | simp only [go_sem, simprocAttr, g']
        | (with_reducible first | apply Xk | apply Xj | apply Xp)
        | (refine Xq ?_ ?_; · first | assumption | omega)
        | (with_reducible first | refine CallX.c ?_ _ | refine OK.c hr hw ?_ (λ z hr => ?_) _)
        | (refine YieldX.of (l := l) (kr := 1) (v := sO.k + 1) (r := rc) (p1 := 12) (p2 := 13) sO.t 22 1000 ?_ hst hA hB hps (by decide) (by decide) rfl hkr hsz2 hO (λ x2 => ?_) _; · (simp only [go_sem, simprocAttr, f11]))
        | fail
    all_goals first
      | (refine ⟨n, WD _, _, _, vp, hr, ?_, ?_, ?_, ?_, ?_, ?_, ?_, ?_, ?_, ?_, ?_, ?_, ?_, .inr ?_⟩
         all_goals first
           | rfl
           | (simp only [go_sem, simprocAttr, f1, f2, f3, f4, f6, f7, f8, f9, f10, f11, f12, g, upd, hrc, e27, XF, KK, Wq, List.map_append, UM, Ub, UA, W7, Uw]; done))
      | (refine Xn hr ?_
         intro hr
         refine ⟨⟨.done, some .ret, rc.fn, rc.tmps, rc.params, rc.assign, rc.body, rc.defers⟩, ?_, by simp, .inr ⟨rfl, λ a' w' h => Or.inr ⟨D, 2, sO.k, y.2, hb0, hkd, _, h, ?_, ?_⟩⟩⟩
         rotate_right
         · subst hr
           simp only [go_sem, simprocAttr, f0, f1, f2, f3, f4, f9, f10, f11, f12, g, q0, q2, q3, q4, upd]
           with_reducible refine XM ?_
           simp only [go_sem, simprocAttr, UA]
         all_goals first
           | rfl
           | (simp only [go_sem, simprocAttr, f11, f12, upd]; done))
      | (refine Xn hr ?_
         intro hr
         refine ⟨rc, ?_, by rw [hst]; simp, .inl ⟨hpe, λ a' w' h => fin _ _ 0 [] a' w' hr.symm ?_ ?_ ?_ (.inl ⟨rfl, ?_⟩) h⟩⟩
         all_goals first
           | rfl
           | (simp only [go_sem, simprocAttr, f9, f10, f11, f12, g, upd]; done))
      | (refine Xn hr ?_
         intro hr
         refine ⟨rc, ?_, by rw [hst]; simp, .inl ⟨hpe, λ a' w' h => fin _ _ vo out a' w' hr.symm ?_ ?_ ?_ (.inr ⟨?_, ?_⟩) h⟩⟩
         all_goals first
           | rfl
           | (simp only [go_sem, simprocAttr, f9, f10, f11, f12, g, g', upd]; done))
      | trace_state

abbrev Qh4:=λ N (a0:Wn) (y1:List Int × Int) (Q:(List Int)→Prop) n (st:St)=>∃ (v2:Int) (v3:List Int) (ex:_),QaA N a0 y1 n v2 v3=some ex/\Q ex/\((∃ w2496 w64,st.n=42/\st.s 2496=some (w2496,.arr false 71 1 (v3.map e71) 0)/\st.t 1=.ept 64 w64 6 0 0/\st.t 4=.isl 71 1 (y1.1.map e71)/\st.t 5=.v (.int .i64 y1.2)/\st.t 6=.osl 2496 w2496 1 0 v3.length/\st.t 7=.v (.int .i64 v2)/\st.s 64=some (w64,.arr true 27 6 [e27 a0] 0))\/(∃ w64,(st.n=42/\st.t 1=.ept 64 w64 6 0 0/\st.t 4=.isl 71 1 (y1.1.map e71)/\st.t 5=.v (.int .i64 y1.2)/\st.t 6=.nsl/\st.t 7=.v (.int .i64 v2)/\st.s 64=some (w64,.arr true 27 6 [e27 a0] 0))/\v3=[]))
abbrev QiZ:=λ N (a0:Wn) (a1:Int) (a2:List Int) (Q:(Ex (Int × Bool) Unit)→Prop) n (st:St)=>∃ (v1:Int) (ex:_),Qb9 N a0 a1 a2 n v1=some ex/\Q ex/\((∃ w192,st.n=58/\st.t 1=.v (.int .i64 a1)/\st.t 3=.ept 192 w192 6 0 0/\st.t 13=.isl 71 1 (a2.map e71)/\st.t 14=.v (.int .i64 ((a2.length:Nat):Int))/\st.t 15=.v (.int .i64 v1)/\st.s 192=some (w192,.arr true 27 6 [e27 a0] 0)))
theorem g25:(∀ N (a0:Wn),OK (Qav N a0) 67 [.agg (e27 a0)] [] (λ r=>.tup [.isl 71 1 (r.1.map e71),.v (.int .i64 r.2)]) λ r=>[])/\(∀ N (a0:Wn) (a1:Int) (a2:List Int),OK (Qfk N a0 a1 a2) 220 [.agg (e27 a0),.v (.int .i64 a1),.isl 71 1 (a2.map e71)] [] (λ r=>.tup [.v (.int .u64 r.1),.v (.bool r.2)]) λ r=>[]):=by
 refine ⟨λ N _=>rn Tryz.f67 [.tmp 2,.tmp 3] [] 42 (by kernel_rfl) ?_,λ N _ _ _=>rn Tryz.f220 [.tmp 6,.tmp 7] [] 58 (by kernel_rfl) ?_⟩<;>(rintro _ hw r hr C _ rfl hwf hf;simp only[Tryz.f67,Tryz.f220,Option.get!];(first|rw[Qav] at hr|rw[Qfk] at hr);repeat' first
 |(refine El.el hr ?_;intro hr)
 |(with_reducible intro h;refine XB hr h ?_;intro hr)
 |with_reducible intro _
 |(refine Xn hr ?_;rintro rfl;have hr:=hk;clear hk)
 |simp only[go_sem,simprocAttr,E,XU,XK]
 |(with_reducible first|apply Xk|apply Xj|apply Xp|apply Xr|apply Xs)
 |((first|with_reducible refine Yk hr (by assumption) ?_ ?_|(with_reducible refine Yf hr ?_ ?_;rotate_left;intro p;rotate_right));(·simp only[go_sem,simprocAttr]);intro hp hn hd hr;(try have XU:=hd _ e71);(try simp only[go_sem,simprocAttr] at XU);(try have XK:=hd _ XF);(try simp only[go_sem,simprocAttr] at XK))
 |(refine Xq ?_ ?_;·first|assumption|omega)
 |(with_reducible first|refine CallX.c ?_ _|refine OK.c hr hw ?_ (λ y hr=>?_) _|refine Oe hr hw ?_ (λ y hr=>?_) _)
 |(with_reducible refine Xf (I:=Qh4 N _ _) hr 1000 N (λ ex hq hk=>⟨_,_,ex,hq,hk,?_⟩) ?_ _;rotate_left;clear hr;(try clear E);rintro n1 st ⟨v2,v3,ex,hr,hk,(⟨_,_,E⟩|⟨_,E,z0⟩)⟩<;>(try subst z0)<;>(obtain _|n1:=n1<;>rw[QaA] at hr))
 |refine ⟨_,WD _,_,_,_,hr,hk,?_⟩
 |(with_reducible refine Xf (I:=QiZ N _ _ _) hr 1000 N (λ ex hq hk=>⟨_,ex,hq,hk,?_⟩) ?_ _;rotate_left;clear hr;(try clear E);rintro n1 st ⟨v1,ex,hr,hk,⟨_,E⟩⟩<;>(obtain _|n1:=n1<;>rw[Qb9] at hr))
 |refine ⟨_,WD _,_,_,hr,hk,?_⟩
 |refine db 67 6 hf 8 [(0,491521,[[],[512]]),(0,81921,[[],[512]]),(0,49153,[[],[512]]),(6,16385,[[],[512]]),(14,16385,[[],[512]]),(31,1,[[],[512]]),(63,1,[[],[512]]),(127,2097153,[[],[512]]),(127,1048577,[[],[512]]),(0,4186112,[[512],[]]),(767,2097152,[[512],[]]),(2047,0,[])] rfl rfl (by kernel_rfl) ?_ _
 |refine db 220 5 hf 25 [(0,12,[]),(1,12,[]),(0,3,[]),(4,3,[]),(15,0,[]),(31,0,[]),(63,0,[])] rfl rfl (by kernel_rfl) ?_ _
 |(refine Xn hr ?_;rintro rfl;with_reducible refine XM ?_)
 |exact Yw hr
 |((first|refine XB (c:=true) hr rfl ?_|refine XB (c:=false) hr rfl ?_|refine XB hr (by assumption) ?_);intro hr)
 |fail)
@[reducible,instance] def QlE:=g25.1
@[reducible,instance] def QmT:=g25.2
end Go.Sx
