import Derived.Test.YtgdnaekdnmegbaaGreatDoorF
import Derived.Test.YtgdnaekdnmegbaaGreatDoorG0
import Derived.Test.YtgdnaekdnmegbaaGreatDoorG6
import Derived.Test.YtgdnaekdnmegbaaGreatDoorG18
import Derived.Test.YtgdnaekdnmegbaaGreatDoorG27
import Derived.Test.YtgdnaekdnmegbaaGreatDoorG28
set_option linter.all false
namespace Go.Sx
open Go.Proofs
set_option maxRecDepth 10000
set_option maxHeartbeats 100000000
abbrev I_law20_RulesFailed_l1:=fun N (y1:TPair) (y2:TWorld) (Q:(Ex Bool Unit)→Prop) n (st:St)=>∃ (v3:Int) (v4:List Int) (v5:Int) (ex:_),law20_RulesFailed_l1 N y1 y2 n v3 v4 v5=some ex∧Q ex∧((∃ w320 w448 w1088,st.n=103∧st.t 5=.ept 320 w320 24 0 0∧st.t 6=.ept 1088 w1088 2 0 0∧st.t 7=.ept 448 w448 10 0 0∧st.t 8=.v (.int .i64 v3)∧st.s 320=some (w320,.arr true 45 24 [[.v (.int .i64 y1.Env.Heap.Conf.PageWords),.v (.int .i64 y1.Env.Heap.Conf.Pages),.isl 37 1 (y1.Env.Heap.Words.map e37),.isl 260 4 (y1.Env.Heap.Pages.map e260),.v (.int .i64 y1.Env.Heap.Space),.v (.int .i64 y1.Env.Heap.Bump),.isl 179 3 (y1.Env.Locals.Slots.map e179),.isl 134 3 (y1.Env.Locals.Scopes.map e134),.isl 3 1 (y1.Env.Locals.Issued.map e3),.isl 148 3 (y1.Env.Globals.Entries.map e148),.isl 148 3 (y1.Env.Weaks.Entries.map e148),.isl 193 2 (y1.Env.Pins.map e193),.isl 37 1 (y1.Env.Roots.map e37),.v (.int .i64 y1.World.Conf.PageWords),.v (.int .i64 y1.World.Conf.Pages),.isl 99 4 (y1.World.Things.map e99),.isl 179 3 (y1.World.Locals.Slots.map e179),.isl 134 3 (y1.World.Locals.Scopes.map e134),.isl 3 1 (y1.World.Locals.Issued.map e3),.isl 148 3 (y1.World.Globals.Entries.map e148),.isl 148 3 (y1.World.Weaks.Entries.map e148),.isl 74 3 (y1.World.Marks.map e74),.isl 37 1 (y1.World.Roots.map e37),.isl 37 1 (y1.Words.map e37)]] 0)∧st.s 448=some (w448,.arr true 61 10 [[.v (.int .i64 y2.Conf.PageWords),.v (.int .i64 y2.Conf.Pages),.isl 100 4 (y2.Things.map e100),.isl 179 3 (y2.Locals.Slots.map e179),.isl 134 3 (y2.Locals.Scopes.map e134),.isl 3 1 (y2.Locals.Issued.map e3),.isl 148 3 (y2.Globals.Entries.map e148),.isl 148 3 (y2.Weaks.Entries.map e148),.isl 101 3 (y2.Marks.map e101),.isl 37 1 (y2.Roots.map e37)]] 0)∧st.s 1088=some (w1088,.arr true 49 2 [[.isl 3 1 (v4.map e3),.v (.int .i64 v5)]] 0)))
instance law20_RulesFailed_i:∀ N (a0:List Int) (a1:List Int),OK (law20_RulesFailed N a0 a1) 4 [.isl 3 1 (a0.map e3),.isl 3 1 (a1.map e3)] [] (fun r=>.v (.bool r)) fun r=>[]:=by
 refine fun N _ _=>rn Tryz.f4 [.tmp 4] [] 103 (by kernel_rfl) ?_<;>(rintro _ hw r hr C rfl hwf hf;simp only[Tryz.f4,Option.get!];(rw[law20_RulesFailed] at hr);repeat' first
 |(refine El.el hr ?_;intro hr)
 |(with_reducible intro h;refine bc_e hr h ?_;intro hr)
 |with_reducible intro _
 |(refine some_e hr ?_;rintro rfl;have hr:=hk;clear hk)
 |simp only[go_sem,simprocAttr,E]
 |(with_reducible first|apply guard_of_f|apply guard_of_t|apply cond_of|apply doT_of_t|apply doT_of_f)
 |(refine and_of' ?_ ?_;·first|assumption|omega)
 |with_reducible refine OK.c hr hw ?_ (fun y hr=>?_) _
 |with_reducible refine OK.d hr hw ?_ (fun y hr=>?_) _
 |(with_reducible refine loop_e (I:=I_law20_RulesFailed_l1 N _ _) hr 1000 N (fun ex hq hk=>⟨_,_,_,ex,hq,hk,?_⟩) ?_ _;rotate_left;clear hr;(try clear E);rintro n1 st ⟨v3,v4,v5,ex,hr,hk,⟨_,_,_,E⟩⟩<;>(obtain _|n1:=n1<;>rw[law20_RulesFailed_l1] at hr))
 |refine ⟨_,Nat.lt_succ_self _,_,_,_,_,hr,hk,?_⟩
 |refine db 4 8 hf [([],[],[29,30,31,32,33,34,35,36,38,39,40,41,42,43,44,45,46],[]),([],[],[28,31,32,33,34,35,36,38,39,40,41,42,43,44,45,46],[]),([1],[],[28,31,32,33,34,35,36,38,39,40,41,42,43,44,45,46],[]),([],[],[28,29,30,33,34,35,36,38,39,40,41,42,43,44,45,46],[]),([3],[],[28,29,30,33,34,35,36,38,39,40,41,42,43,44,45,46],[]),([],[],[28,29,30,31,32,35,36,38,39,40,41,42,43,44,45,46],[]),([5],[],[28,29,30,31,32,35,36,38,39,40,41,42,43,44,45,46],[]),([],[],[28,29,30,31,32,33,34,38,39,40,41,42,43,44,45,46],[]),([7],[],[28,29,30,31,32,33,34,38,39,40,41,42,43,44,45,46],[]),([0,1,2,3,4,5,6,7,8],[],[38,39,40,41,42,43,44,45,46],[]),([],[],[28,29,30,31,32,33,34,35,36,37,39,40,41,42,43,44,45,46],[]),([],[],[28,29,30,31,32,33,34,35,36,37,38,41,42,43,44,45,46],[]),([11],[],[28,29,30,31,32,33,34,35,36,37,38,41,42,43,44,45,46],[]),([],[],[28,29,30,31,32,33,34,35,36,37,38,39,40,43,44,45,46],[]),([13],[],[28,29,30,31,32,33,34,35,36,37,38,39,40,43,44,45,46],[]),([],[],[28,29,30,31,32,33,34,35,36,37,38,39,40,41,42,45,46],[]),([15],[],[28,29,30,31,32,33,34,35,36,37,38,39,40,41,42,45,46],[]),([],[],[28,29,30,31,32,33,34,35,36,37,38,39,40,41,42,43,44],[]),([17],[],[28,29,30,31,32,33,34,35,36,37,38,39,40,41,42,43,44],[]),([0,1,2,3,4,5,6,7,8,9,10,11,12,13,14,15,16,17,18],[],[],[]),([0,1,2,3,4,5,6,7,8,9,10,11,12,13,14,15,16,17,18,19],[],[],[]),([0,1,2,3,4,5,6,7,8,9,10,11,12,13,14,15,16,17,18,19,20],[],[],[])] rfl rfl (by kernel_rfl) ?_ _
 |(refine some_e hr ?_;rintro rfl;with_reducible refine ret_k ?_)
 |exact no_e hr
 |((first|refine bc_e (c:=true) hr rfl ?_|refine bc_e (c:=false) hr rfl ?_|refine bc_e hr (by assumption) ?_);intro hr)
 |fail)
end Go.Sx
