import Derived.Test.YtgdnaekdnmegbaaGreatDoorF
import Derived.Test.YtgdnaekdnmegbaaGreatDoorG4
import Derived.Test.YtgdnaekdnmegbaaGreatDoorG5
import Derived.Test.YtgdnaekdnmegbaaGreatDoorG7
import Derived.Test.YtgdnaekdnmegbaaGreatDoorG8
set_option linter.all false
namespace Go.Sx
open Go.Proofs
set_option maxRecDepth 10000
set_option maxHeartbeats 100000000
theorem g21:(∀ N (a0:THeap) (a1:Int) (a2:Int),OK (ref06_Word N a0 a1 a2) 253 [.agg (e40 a0),.v (.int .i64 a1),.v (.int .i64 a2)] [] (fun r=>.v (.int .u64 r)) fun r=>[])∧(∀ N (a0:THeap) (a1:Int) (a2:THeader),OK (ref05_Init N a0 a1 a2) 235 [.agg (e40 a0),.v (.int .u64 a1),.agg (e97 a2)] [] (fun r=>.tup [.agg (e40 r.1),.v (.int .i64 r.2)]) fun r=>[])∧(∀ N (a0:TWorld) (a1:Int),OK (ref20_Resolve N a0 a1) 17 [.agg (e36 a0),.v (.int .u64 a1)] [] (fun r=>.tup [.v (.int .u64 r.1),.v (.int .i64 r.2)]) fun r=>[])∧(∀ N (a0:Int) (a1:TWorld) (a2:TThing),OK (rules_World_formed_1_2 N a0 a1 a2) 112 [.v (.int .i64 a0),.ept 1000000 0 10 0 0,.ept 1000001 0 4 0 0] [.arr true 61 10 [[.v (.int .i64 a1.Conf.PageWords),.v (.int .i64 a1.Conf.Pages),.isl 100 4 (a1.Things.map e100),.isl 179 3 (a1.Locals.Slots.map e179),.isl 134 3 (a1.Locals.Scopes.map e134),.isl 3 1 (a1.Locals.Issued.map e3),.isl 148 3 (a1.Globals.Entries.map e148),.isl 148 3 (a1.Weaks.Entries.map e148),.isl 101 3 (a1.Marks.map e101),.isl 37 1 (a1.Roots.map e37)]] 0,.arr true 100 4 [[.v (.int .i64 a2.Header.Kind),.v (.int .i64 a2.Header.Length),.v (.int .u32 a2.Header.Map),.isl 37 1 (a2.Fields.map e37)]] 0] (fun r=>.v (.bool r)) fun r=>[.arr true 61 10 [[.v (.int .i64 a1.Conf.PageWords),.v (.int .i64 a1.Conf.Pages),.isl 100 4 (a1.Things.map e100),.isl 179 3 (a1.Locals.Slots.map e179),.isl 134 3 (a1.Locals.Scopes.map e134),.isl 3 1 (a1.Locals.Issued.map e3),.isl 148 3 (a1.Globals.Entries.map e148),.isl 148 3 (a1.Weaks.Entries.map e148),.isl 101 3 (a1.Marks.map e101),.isl 37 1 (a1.Roots.map e37)]] 0,.arr true 100 4 [[.v (.int .i64 a2.Header.Kind),.v (.int .i64 a2.Header.Length),.v (.int .u32 a2.Header.Map),.isl 37 1 (a2.Fields.map e37)]] 0])∧(∀ N (a0:TTable) (a1:Int) (a2:Int),OK (slots_check N a0 a1 a2) 162 [.agg (e32 a0),.v (.int .i64 a1),.v (.int .i64 a2)] [] (fun r=>.v (.int .i64 r)) fun r=>[])∧(∀ N (a0:TLocals) (a1:Int) (a2:Bool),OK (scope_open N a0 a1 a2) 192 [.agg (e29 a0),.v (.int .i64 a1),.v (.bool a2)] [] (fun r=>.tup [.agg (e29 r.1),.v (.int .i64 r.2)]) fun r=>[]):=by
 refine ⟨fun N _ _ _=>rn Tryz.f253 [.tmp 6] [] 11 (by kernel_rfl) ?_,fun N _ _ _=>rn Tryz.f235 [.cell 6 40,.tmp 7] [] 43 (by kernel_rfl) ?_,fun N _ _=>rn Tryz.f17 [.tmp 4,.tmp 5] [] 54 (by kernel_rfl) ?_,fun N _ _ _=>rn Tryz.f112 [.tmp 4] [] 14 (by kernel_rfl) ?_,fun N _ _ _=>rn Tryz.f162 [.tmp 6] [] 53 (by kernel_rfl) ?_,fun N _ _ _=>rn Tryz.f192 [.cell 6 29,.tmp 7] [] 51 (by kernel_rfl) ?_⟩<;>(rintro _ hw r hr C rfl hwf hf;simp only[Tryz.f253,Tryz.f235,Tryz.f17,Tryz.f112,Tryz.f162,Tryz.f192,Option.get!];(first|rw[ref06_Word] at hr|rw[ref05_Init] at hr|rw[ref20_Resolve] at hr|rw[rules_World_formed_1_2] at hr|rw[slots_check] at hr|rw[scope_open] at hr);repeat' first
 |(refine El.el hr ?_;intro hr)
 |(with_reducible intro h;refine bc_e hr h ?_;intro hr)
 |with_reducible intro _
 |simp only[go_sem,simprocAttr,hl37,hl148]
 |(with_reducible first|apply guard_of_f|apply guard_of_t|apply cond_of|apply doT_of_t|apply doT_of_f)
 |((first|with_reducible refine idx_s hr (by assumption) ?_ ?_|(with_reducible refine idx_e hr ?_ ?_;rotate_left;intro p;rotate_right));(·simp only[go_sem,simprocAttr]);intro hp hn hd hr;(try have hl37:=hd _ e37);(try simp only[go_sem,simprocAttr] at hl37);(try have hl148:=hd _ e148);(try simp only[go_sem,simprocAttr] at hl148))
 |(refine and_of' ?_ ?_;·first|assumption|omega)
 |with_reducible refine OK.c hr hw ?_ (fun y hr=>?_) _
 |with_reducible refine OK.d hr hw ?_ (fun y hr=>?_) _
 |refine db 235 4 hf [([],[],[27,28,29,30,31,32],[1856]),([0],[],[27,28,29,30,31,32],[1856]),([],[],[25,26,28,29,30,31,32],[1856]),([],[],[25,26,27,30,31],[]),([3],[1856],[25,26,27,30,31],[]),([],[],[25,26,27,28,29],[1856]),([5],[],[25,26,27,28,29],[1856]),([3,4,5,6],[1856],[25,26,27],[]),([0,1,2,3,4,5,6,7],[1856],[],[]),([0,1,2,3,4,5,6,7,8],[],[],[]),([0,1,2,3,4,5,6,7,8,9],[],[35],[]),([0,1,2,3,4,5,6,7,8,9],[],[10,34],[]),([0,1,2,3,4,5,6,7,8,9,10],[],[35],[]),([0,1,2,3,4,5,6,7,8,9,10,11,12],[],[],[])] rfl rfl (by kernel_rfl) ?_ _
 |refine db 112 1 hf [([],[],[6,7,8,9,10,11],[704]),([],[],[5,8],[]),([1],[],[5,8],[]),([],[],[5,6,7],[]),([1,2,3],[],[5],[]),([1,2,3,4],[],[5],[]),([1,2,3,4,5],[704],[5],[]),([0,1,2,3,4,5,6],[],[],[]),([0,1,2,3,4,5,6,7],[],[],[]),([0,1,2,3,4,5,6,7,8],[],[],[])] rfl rfl (by kernel_rfl) ?_ _
 |(refine some_e hr ?_;rintro rfl;with_reducible refine ret_k ?_)
 |exact no_e hr
 |fail)
@[reducible,instance] def ref06_Word_i:=g21.1
@[reducible,instance] def ref05_Init_i:=g21.2.1
@[reducible,instance] def ref20_Resolve_i:=g21.2.2.1
@[reducible,instance] def rules_World_formed_1_2_i:=g21.2.2.2.1
@[reducible,instance] def slots_check_i:=g21.2.2.2.2.1
@[reducible,instance] def scope_open_i:=g21.2.2.2.2.2
end Go.Sx
