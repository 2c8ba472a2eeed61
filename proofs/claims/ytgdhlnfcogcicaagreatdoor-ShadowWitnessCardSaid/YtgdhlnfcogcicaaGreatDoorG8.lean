import Derived.Test.YtgdhlnfcogcicaaGreatDoorF
import Derived.Test.YtgdhlnfcogcicaaGreatDoorG2
import Derived.Test.YtgdhlnfcogcicaaGreatDoorG4
import Derived.Test.YtgdhlnfcogcicaaGreatDoorG7
set_option linter.all false
namespace Go.Sx
open Go.Proofs
set_option maxRecDepth 10000
set_option maxHeartbeats 100000000
theorem g17:(∀ N (a0:TWorld) (a1:TThing),OK (rules_World_formed N a0 a1) 116 [.agg (e61 a0),.agg (e77 a1)] [] (fun r=>.v (.bool r)) fun r=>[])∧(∀ N (a0:Tasked),OK (rules_table_5 N a0) 149 [.agg (e173 a0)] [] (fun r=>.v (.int .i64 r)) fun r=>[]):=by
 refine ⟨fun N _ _=>rn Tryz.f116 [.tmp 4] [] 30 (by kernel_rfl) ?_,fun N _=>rn Tryz.f149 [.tmp 2] [] 5 (by kernel_rfl) ?_⟩<;>(rintro _ hw r hr C _ rfl hwf hf;simp only[Tryz.f116,Tryz.f149,Option.get!];(first|rw[rules_World_formed] at hr|rw[rules_table_5] at hr);repeat' first
 |(refine El.el hr ?_;intro hr)
 |(with_reducible intro h;refine bc_e hr h ?_;intro hr)
 |with_reducible intro _
 |simp only[go_sem,simprocAttr]
 |(with_reducible first|apply guard_of_f|apply guard_of_t|apply cond_of)
 |(refine and_of' ?_ ?_;·first|assumption|omega)
 |with_reducible refine CallX.c ?_ _
 |with_reducible refine OK.c hr hw ?_ (fun y hr=>?_) _
 |(refine some_e hr ?_;rintro rfl;with_reducible refine ret_k ?_)
 |exact no_e hr
 |fail)
@[reducible,instance] def rules_World_formed_i:=g17.1
@[reducible,instance] def rules_table_5_i:=g17.2
end Go.Sx
