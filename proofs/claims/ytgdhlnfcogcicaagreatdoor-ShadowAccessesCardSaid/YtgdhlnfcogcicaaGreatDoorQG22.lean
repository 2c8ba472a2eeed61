import Derived.Test.YtgdhlnfcogcicaaGreatDoorQF
import Derived.Test.YtgdhlnfcogcicaaGreatDoorQG5
import Derived.Test.YtgdhlnfcogcicaaGreatDoorQG6
import Derived.Test.YtgdhlnfcogcicaaGreatDoorQG20
set_option linter.all false
namespace Go.Sx
open Go.Proofs
set_option maxRecDepth 10000
set_option maxHeartbeats 100000000
instance ref18_Resolve_i:∀ N (a0:TEnv) (a1:Int),OK (ref18_Resolve N a0 a1) 218 [.agg (e45 a0),.v (.int .u64 a1)] [] (fun r=>.tup [.v (.int .u64 r.1),.v (.int .i64 r.2)]) fun r=>[]:=by
 refine fun N _ _=>rn Tryz.f218 [.tmp 4,.tmp 5] [] 54 (by kernel_rfl) ?_<;>(rintro _ hw r hr C _ rfl hwf hf;simp only[Tryz.f218,Option.get!];(rw[ref18_Resolve] at hr);repeat' first
 |(refine El.el hr ?_;intro hr)
 |(with_reducible intro h;refine bc_e hr h ?_;intro hr)
 |with_reducible intro _
 |simp only[go_sem,simprocAttr]
 |(with_reducible first|apply guard_of_f|apply guard_of_t|apply cond_of)
 |(refine and_of' ?_ ?_;·first|assumption|omega)
 |with_reducible refine CallX.c ?_ _
 |with_reducible refine OK.c hr hw ?_ (fun y hr=>?_) _
 |(refine some_e hr ?_;rintro rfl;with_reducible refine ret_k ?_)
 |exact no_e hr
 |fail)
end Go.Sx
