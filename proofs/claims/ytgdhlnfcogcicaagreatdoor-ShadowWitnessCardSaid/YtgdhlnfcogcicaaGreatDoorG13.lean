import Derived.Test.YtgdhlnfcogcicaaGreatDoorF
import Derived.Test.YtgdhlnfcogcicaaGreatDoorG1
import Derived.Test.YtgdhlnfcogcicaaGreatDoorG2
import Derived.Test.YtgdhlnfcogcicaaGreatDoorG12
set_option linter.all false
namespace Go.Sx
open Go.Proofs
set_option maxRecDepth 10000
set_option maxHeartbeats 100000000
instance law21_ShadowWitness_i:∀ N (a0:TEnv) (a1:TEnv) (a2:Int) (a3:Int) (a4:Int),OK (law21_ShadowWitness N a0 a1 a2 a3 a4) 6 [.agg (e45 a0),.agg (e45 a1),.v (.int .i64 a2),.v (.int .u64 a3),.v (.int .i64 a4)] [] (fun r=>.v (.bool r)) fun r=>[]:=by
 refine fun N _ _ _ _ _=>rn Tryz.f6 [.tmp 10] [] 55 (by kernel_rfl) ?_<;>(rintro _ hw r hr C _ rfl hwf hf;simp only[Tryz.f6,Option.get!];(rw[law21_ShadowWitness] at hr);repeat' first
 |(refine El.el hr ?_;intro hr)
 |(with_reducible intro h;refine bc_e hr h ?_;intro hr)
 |with_reducible intro _
 |simp only[go_sem,simprocAttr]
 |(with_reducible first|apply guard_of_f|apply guard_of_t|apply cond_of)
 |(refine and_of' ?_ ?_;·first|assumption|omega)
 |with_reducible refine CallX.c ?_ _
 |with_reducible refine OK.c hr hw ?_ (fun y hr=>?_) _
 |(refine some_e hr ?_;rintro rfl;with_reducible refine ret_k ?_)
 |exact no_e hr
 |fail)
end Go.Sx
