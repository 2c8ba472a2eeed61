import Derived.Test.YtggdbcmfjliibaaGreatNF
import Derived.Test.YtggdbcmfjliibaaGreatNG3
import Derived.Test.YtggdbcmfjliibaaGreatNG4
import Derived.Test.YtggdbcmfjliibaaGreatNG8
set_option linter.all false
namespace Go.Sx
open Go.Proofs
set_option maxRecDepth 10000
set_option maxHeartbeats 100000000
def Iwl (N : Nat) (a0 : THeap) (a1 : Int) (p1 : TPage) (r : List Tfound × Int) (l kk vh vi v4 v5 v6 : Nat) (rc : Loop) (n : Nat) (st : St) : Prop :=
  ∃ (at_ : Int) (out : List Tfound) (vp : Nat), walk_listed_l1 N a0 a1 p1 n at_ out = some r ∧ st.n = 58 ∧ st.t 0 = .clo (.yield l) [] [] ∧ st.t 1 = .ept 51328 vh 6 0 0 ∧ st.t 2 = .ept 51392 vi 1 0 0 ∧ st.t 4 = .ept 25856 vp 4 0 0 ∧ st.t 5 = .v (.int .i64 at_) ∧
    st.s 51328 = some (vh, .arr true 59 6 [e59 a0] 0) ∧ st.s 51392 = some (vi, .arr true 3 1 [[.v (.int .i64 a1)]] 0) ∧ st.s 25856 = some (vp, .arr true 154 4 [e154 p1] 0) ∧
    st.s 256 = some (v4, .arr true 227 1 [[.nsl]] 0) ∧ st.s 320 = some (v5, .arr true 26 1 [[.v (.int .i64 0)]] 0) ∧ st.s 1 = some (kk + 1, .raw (.loop rc)) ∧ st.s 2 = some (kk, .raw (.deferred (some []))) ∧
    ((out = [] ∧ st.s 384 = some (v6, .arr true 227 1 [[.nsl]] 0)) ∨ ∃ vo, st.s 384 = some (v6, .arr true 227 1 [[.osl 26880 vo 4 0 out.length]] 0) ∧ st.s 26880 = some (vo, .arr false 233 4 (out.map e233) 0))
def Qwl (a0 : THeap) (a1 : Int) (st : St) : Prop := ∃ vh vi v4 v5 v6 : Nat, st.n = 22 ∧ st.t 11 = .clo (.func 248) [] [.ept 51328 vh 6 0 0, .ept 51392 vi 1 0 0] ∧ st.t 4 = .ept 256 v4 1 0 0 ∧ st.t 5 = .ept 320 v5 1 0 0 ∧ st.t 6 = .ept 384 v6 1 0 0 ∧
    st.s 51328 = some (vh, .arr true 59 6 [e59 a0] 0) ∧ st.s 51392 = some (vi, .arr true 3 1 [[.v (.int .i64 a1)]] 0) ∧ st.s 256 = some (v4, .arr true 227 1 [[.nsl]] 0) ∧ st.s 320 = some (v5, .arr true 26 1 [[.v (.int .i64 0)]] 0) ∧ st.s 384 = some (v6, .arr true 227 1 [[.nsl]] 0)
instance walk_listed_i : ∀ N (a0:THeap) (a1:Int),OK (walk_listed N a0 a1) 177 [.agg (e59 a0),.v (.int .i64 a1)] [] (fun r=>.tup [.isl 233 4 (r.1.map e233),.v (.int .i64 r.2)]) fun r=>[] := by
  refine fun N a0 a1 => ⟨fun G hw r hr => ?_⟩
  rw [walk_listed] at hr
  refine acalls_of_mark (fn := Tryz.f177) (body := (Tryz.f177.body).get!) (rs := [.cell 4 227, .cell 5 26]) [] 22 (by kernel_rfl) (by kernel_rfl) (by kernel_rfl) (by kernel_rfl) (by kernel_rfl) (by simp) fun C x hG hlb hwf a w hrel => ?_
  subst hG
  simp only [Tryz.f177, Option.get!]
  refine sem_unroll 5 _ none a w ?_
  simp only [unroll, List.map_cons, List.map_nil, List.cons_append, List.nil_append]
  refine sem_tail sem_two [_, _] none a w ?_
  refine sem_cut (Q := Qwl a0 a1) ?_ [_, _, _] none a w (sem_mono (R' := RelP Tryz.prog (C.sub 0 x) fun _ => False) (fun a w h => by obtain ⟨_, _, hf⟩ := h; exact hf.elim) _ rfl _ _ _ (run_ok 1000 _ hrel ?_))
  rotate_left
  · simp only [go_sem, simprocAttr, List.map_cons, List.map_nil, List.cons_append, List.nil_append]
    refine CallX.inl (f := 217) 800 (fn := Tryz.f217) (rs := [.tmp 4]) (nt := 6) 1000 (by kernel_rfl) (fun x => ?_) _
    simp only [Tryz.f217, Option.get!]
    simp only [go_sem, simprocAttr]
    refine ⟨7, 8, 2, 3, 4, ?_, ?_, ?_, ?_, ?_, ?_, ?_, ?_, ?_, ?_⟩ <;> first | rfl | (simp only [go_sem, simprocAttr, e59]; done)
  clear hrel a w
  rintro sO a w hrel ⟨vh, vi, v4, v5, v6, q0, q1, q2, q3, q4, q5, q6, q7, q8, q9⟩
  refine sem_block (rangeF (C := C.sub 0 x) (gf := 248) (caps := [.ept 51328 vh 6 0 0, .ept 51392 vi 1 0 0]) rfl rfl hrel q1 1 2 (by decide) (fn := Tryz.f248) (nt := 58) (by kernel_rfl) 400 1000 ?_)
  intro l D rc y hst hpe hps hA hB hsz hkr hkd hO hb0
  have hrc : (⟨.ready, none, rc.fn, rc.tmps, rc.params, rc.assign, rc.body, rc.defers⟩ : Loop) = rc := by cases rc; simp only at hst hpe; rw [hst, hpe]
  have hsz2 : rc.tmps.size = 22 := hsz.trans q0
  -- behind the range
  have fin : ∀ (S : Heap) (K vo : Nat) (out : List Tfound) (a' : Act) (w' : World), r = (out, 0) → S 256 = some (v4, .arr true 227 1 [[.nsl]] 0) → S 320 = some (v5, .arr true 26 1 [[.v (.int .i64 0)]] 0) → S 2 = some (sO.k, .raw (.deferred (some []))) →
      ((out = [] ∧ S 384 = some (v6, .arr true 227 1 [[.nsl]] 0)) ∨ (S 384 = some (v6, .arr true 227 1 [[.osl 26880 vo 4 0 out.length]] 0) ∧ S 26880 = some (vo, .arr false 233 4 (out.map e233) 0))) →
      Rel Tryz.prog ((C.sub 0 x).mk' y.2 D) ⟨sO.t, S, sO.n, K⟩ a' w' → sem Tryz.prog (C.sub 0 x) (fun a w => RelP Tryz.prog (C.sub 0 x) (retP Tryz.prog [.cell 4 227, .cell 5 26] [] 0 (Eqs (.tup [.isl 233 4 (r.1.map e233), .v (.int .i64 r.2)]) [])) a w ∨
        Marked Tryz.prog (C.sub 0 x) (retP Tryz.prog [.cell 4 227, .cell 5 26] [] 0 (Eqs (.tup [.isl 233 4 (r.1.map e233), .v (.int .i64 r.2)]) [])) a w) (.blk 0 :: ((unroll 5 (Tryz.f177.body).get!).drop 3).map It.code) none a' w' := by
    intro S K vo out a' w' hr g1 g2 g3 g4 hrel'
    simp only [Tryz.f177, Option.get!, unroll, List.drop_succ_cons, List.drop_zero, List.map_cons, List.map_nil]
    refine sem_conv (C := C.sub 0 x) (C' := (C.sub 0 x).mk' y.2 D) (R' := RelP Tryz.prog ((C.sub 0 x).mk' y.2 D) fun st => st.s 2 = some (sO.k, .raw (.deferred (some []))) ∧ retP Tryz.prog [.cell 4 227, .cell 5 26] [] 0 (Eqs (.tup [.isl 233 4 (r.1.map e233), .v (.int .i64 r.2)]) []) ⟨st.t, upd st.s 2 (some (sO.k, .raw (.deferred none))), st.n, st.k⟩) rfl ?_ _ ?_ none a' w' (run_ok 1000 _ hrel' ?_)
    · exact fun a w h => Or.inr ⟨D, 2, sO.k, y.2, hb0, hkd, h⟩
    · rfl
    subst hr
    rcases g4 with ⟨rfl, g4⟩ | ⟨g4, g5⟩
    · simp only [go_sem, simprocAttr, q0, q2, q3, q4, g1, g2, g3, g4]
      with_reducible refine ret_k ?_
      simp only [go_sem, simprocAttr, List.map_nil]
    · simp only [go_sem, simprocAttr, q0, q2, q3, q4, g1, g2, g3, g4, g5]
      with_reducible refine ret_k ?_
      simp only [go_sem, simprocAttr]
  simp only [Tryz.f248, Option.get!]
  repeat' first
    | (refine El.el hr ?_; clear hr; intro hr)
    | (with_reducible intro h; refine bc_e hr h ?_; clear hr; intro hr)
    | with_reducible intro _
    | simp only [go_sem, simprocAttr, q5, q6, hl154]
    | (with_reducible first | apply guard_of_f | apply guard_of_t | apply cond_of)
    | (refine and_of' ?_ ?_; · first | assumption | omega)
    | ((with_reducible refine idx_e hr ?_ ?_; rotate_left; intro p; rotate_right); (· simp only [go_sem, simprocAttr]); clear hr; intro hp hn hd hr; have hl154 := hd _ e154; simp only [go_sem, simprocAttr] at hl154)
    | fail
  · refine some_e hr ?_
    intro hr
    refine ⟨rc, ?_, by rw [hst]; simp, .inl ⟨hpe, fun a' w' h => fin _ _ 0 [] a' w' hr.symm ?_ ?_ ?_ (.inl ⟨rfl, ?_⟩) h⟩⟩
    all_goals first | rfl | (simp only [go_sem, simprocAttr, q7, q8, q9]; done)
  all_goals
    clear hn hd hl154 hp
    refine LoopG.of (Iwl N a0 a1 p r l sO.k vh vi v4 v5 v6 rc) 1000 N ?_ ?_ _
    · refine ⟨0, [], sO.k + 2 + 1 + 1 + 1 + 1 + 1, hr, ?_, ?_, ?_, ?_, ?_, ?_, ?_, ?_, ?_, ?_, ?_, ?_, ?_, .inl ⟨rfl, ?_⟩⟩ <;> first | rfl | (simp only [go_sem, simprocAttr, q5, q6, q7, q8, q9, e59, e154]; done)
    clear hr
    rintro n st ⟨at_, out, vp, hr, f0, f1, f2, f3, f4, f5, f6, f7, f8, f9, f10, f11, f12, hor⟩
    obtain _ | n := n
    · rw [walk_listed_l1] at hr; cases hr
    rw [walk_listed_l1] at hr
    rcases hor with ⟨rfl, g⟩ | ⟨vo, g, g'⟩
    all_goals
      repeat' first
        | (refine El.el hr ?_; clear hr; intro hr)
        | (with_reducible intro h; refine bc_e hr h ?_; clear hr; intro hr)
        | with_reducible intro _
        | simp only [go_sem, simprocAttr, f0, f1, f2, f3, f4, f5, f6, f7, f8, f9, f10, f11, g, q2, q3, q4, hrc, e59, e154, e233, upd]
        | simp only [go_sem, simprocAttr, g']
        | (with_reducible first | apply guard_of_f | apply guard_of_t | apply cond_of)
        | (refine and_of' ?_ ?_; · first | assumption | omega)
        | (with_reducible first | refine CallX.c ?_ _ | refine OK.c hr hw ?_ (fun z hr => ?_) _)
        | (refine YieldX.of (l := l) (kr := 1) (v := sO.k + 1) (r := rc) (p1 := 12) (p2 := 13) sO.t 22 1000 ?_ hst hA hB hps (by decide) (by decide) rfl hkr hsz2 hO (fun x2 => ?_) _; · (simp only [go_sem, simprocAttr, f11]))
        | fail
    all_goals first
      | (refine ⟨n, Nat.lt_succ_self _, _, _, vp, hr, ?_, ?_, ?_, ?_, ?_, ?_, ?_, ?_, ?_, ?_, ?_, ?_, ?_, .inr ?_⟩
         all_goals first
           | rfl
           | (simp only [go_sem, simprocAttr, f1, f2, f3, f4, f6, f7, f8, f9, f10, f11, f12, g, upd, hrc, e59, e154, e233, List.length_append, List.map_append, List.length_nil, List.length_cons, List.map_nil, List.map_cons, List.nil_append]; done))
      | (refine some_e hr ?_
         intro hr
         refine ⟨⟨.done, some .ret, rc.fn, rc.tmps, rc.params, rc.assign, rc.body, rc.defers⟩, ?_, by simp, .inr ⟨rfl, fun a' w' h => Or.inr ⟨D, 2, sO.k, y.2, hb0, hkd, _, h, ?_, ?_⟩⟩⟩
         rotate_right
         · subst hr
           simp only [go_sem, simprocAttr, f0, f1, f2, f3, f4, f9, f10, f11, f12, g, q0, q2, q3, q4, upd]
           with_reducible refine ret_k ?_
           simp only [go_sem, simprocAttr, List.map_nil]
         all_goals first
           | rfl
           | (simp only [go_sem, simprocAttr, f11, f12, upd]; done))
      | (refine some_e hr ?_
         intro hr
         refine ⟨rc, ?_, by rw [hst]; simp, .inl ⟨hpe, fun a' w' h => fin _ _ 0 [] a' w' hr.symm ?_ ?_ ?_ (.inl ⟨rfl, ?_⟩) h⟩⟩
         all_goals first
           | rfl
           | (simp only [go_sem, simprocAttr, f9, f10, f11, f12, g, upd]; done))
      | (refine some_e hr ?_
         intro hr
         refine ⟨rc, ?_, by rw [hst]; simp, .inl ⟨hpe, fun a' w' h => fin _ _ vo out a' w' hr.symm ?_ ?_ ?_ (.inr ⟨?_, ?_⟩) h⟩⟩
         all_goals first
           | rfl
           | (simp only [go_sem, simprocAttr, f9, f10, f11, f12, g, g', upd]; done))
      | trace_state

abbrev I_audit_class_l1:=fun N (a0:THeap) (a1:Int) (a2:List Int) (Q:(Ex (Int × Bool) Unit)→Prop) n (st:St)=>∃ (v1:Int) (ex:_),audit_class_l1 N a0 a1 a2 n v1=some ex∧Q ex∧((∃ w192,st.n=58∧st.t 1=.v (.int .i64 a1)∧st.t 3=.ept 192 w192 6 0 0∧st.t 13=.isl 38 1 (a2.map e38)∧st.t 14=.v (.int .i64 ((a2.length:Nat):Int))∧st.t 15=.v (.int .i64 v1)∧st.s 192=some (w192,.arr true 59 6 [e59 a0] 0)))
instance audit_class_i:∀ N (a0:THeap) (a1:Int) (a2:List Int),OK (audit_class N a0 a1 a2) 212 [.agg (e59 a0),.v (.int .i64 a1),.isl 38 1 (a2.map e38)] [] (fun r=>.tup [.v (.int .u64 r.1),.v (.bool r.2)]) fun r=>[]:=by
 refine fun N _ _ _=>rn Tryz.f212 [.tmp 6,.tmp 7] [] 58 (by kernel_rfl) ?_<;>(rintro _ hw r hr C _ rfl hwf hf;simp only[Tryz.f212,Option.get!];(rw[audit_class] at hr);repeat' first
 |(refine El.el hr ?_;intro hr)
 |(with_reducible intro h;refine bc_e hr h ?_;intro hr)
 |with_reducible intro _
 |(refine some_e hr ?_;rintro rfl;have hr:=hk;clear hk)
 |simp only[go_sem,simprocAttr,E,hl38,hl154]
 |(with_reducible first|apply guard_of_f|apply guard_of_t|apply cond_of|apply doT_of_t|apply doT_of_f)
 |((first|with_reducible refine idx_s hr (by assumption) ?_ ?_|(with_reducible refine idx_e hr ?_ ?_;rotate_left;intro p;rotate_right));(·simp only[go_sem,simprocAttr]);intro hp hn hd hr;(try have hl38:=hd _ e38);(try simp only[go_sem,simprocAttr] at hl38);(try have hl154:=hd _ e154);(try simp only[go_sem,simprocAttr] at hl154))
 |(refine and_of' ?_ ?_;·first|assumption|omega)
 |(with_reducible first|refine CallX.c ?_ _|refine OK.c hr hw ?_ (fun y hr=>?_) _|refine OK.d hr hw ?_ (fun y hr=>?_) _)
 |(with_reducible refine loop_e (I:=I_audit_class_l1 N _ _ _) hr 1000 N (fun ex hq hk=>⟨_,ex,hq,hk,?_⟩) ?_ _;rotate_left;clear hr;(try clear E);rintro n1 st ⟨v1,ex,hr,hk,⟨_,E⟩⟩<;>(obtain _|n1:=n1<;>rw[audit_class_l1] at hr))
 |refine ⟨_,Nat.lt_succ_self _,_,_,hr,hk,?_⟩
 |refine db 212 5 hf 25 [(0,12,[]),(1,12,[]),(0,3,[]),(4,3,[]),(15,0,[]),(31,0,[]),(63,0,[])] rfl rfl (by kernel_rfl) ?_ _
 |(refine some_e hr ?_;rintro rfl;with_reducible refine ret_k ?_)
 |exact no_e hr
 |((first|refine bc_e (c:=true) hr rfl ?_|refine bc_e (c:=false) hr rfl ?_|refine bc_e hr (by assumption) ?_);intro hr)
 |fail)
end Go.Sx
