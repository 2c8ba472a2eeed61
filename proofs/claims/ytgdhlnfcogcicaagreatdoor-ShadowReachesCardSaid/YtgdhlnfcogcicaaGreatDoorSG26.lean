import Derived.Test.YtgdhlnfcogcicaaGreatDoorSF
import Derived.Test.YtgdhlnfcogcicaaGreatDoorSG3
import Derived.Test.YtgdhlnfcogcicaaGreatDoorSG11
import Derived.Test.YtgdhlnfcogcicaaGreatDoorSG15
import Derived.Test.YtgdhlnfcogcicaaGreatDoorSG16
import Derived.Test.YtgdhlnfcogcicaaGreatDoorSG23
import Derived.Test.YtgdhlnfcogcicaaGreatDoorSG25
set_option linter.all false
namespace Go.Sx
open Go.Proofs
set_option maxRecDepth 10000
set_option maxHeartbeats 100000000
instance QlM:∀ N (a0:TEnv) (a1:Int) (a2:Int) (a3:Int) (a4:Int),OK (QdV N a0 a1 a2 a3 a4) 136 [.agg (e45 a0),.v (.int .i64 a1),.v (.int .u64 a2),.v (.int .u64 a3),.v (.int .u64 a4)] [] (fun r=>.tup [.agg (e45 r.1),.v (.int .u64 r.2.1),.v (.int .i64 r.2.2)]) fun r=>[]:=by
 refine fun N _ _ _ _ _=>rn Tryz.f136 [.cell 10 45,.tmp 11,.tmp 12] [] 86 (by kernel_rfl) ?_<;>(rintro _ hw r hr C _ rfl hwf hf;simp only[Tryz.f136,Option.get!];(rw[QdV] at hr);repeat' first
 |(refine El.el hr ?_;intro hr)
 |(with_reducible intro h;refine bc_e hr h ?_;intro hr)
 |with_reducible intro _
 |simp only[go_sem,simprocAttr]
 |(with_reducible first|apply guard_of_f|apply guard_of_t|apply cond_of)
 |(refine and_of' ?_ ?_;·first|assumption|omega)
 |with_reducible refine CallX.c ?_ _
 |with_reducible refine OK.c hr hw ?_ (fun y hr=>?_) _
 |(refine some_e hr ?_;rintro rfl;with_reducible refine ret_k ?_)
 |exact no_e hr
 |fail)
end Go.Sx
