import Derived.Test.YtgdhlnfcogcicaaGreatDoorSF
import Derived.Test.YtgdhlnfcogcicaaGreatDoorSG3
import Derived.Test.YtgdhlnfcogcicaaGreatDoorSG8
import Derived.Test.YtgdhlnfcogcicaaGreatDoorSG9
import Derived.Test.YtgdhlnfcogcicaaGreatDoorSG11
import Derived.Test.YtgdhlnfcogcicaaGreatDoorSG14
import Derived.Test.YtgdhlnfcogcicaaGreatDoorSG22
import Derived.Test.YtgdhlnfcogcicaaGreatDoorSG23
set_option linter.all false
namespace Go.Sx
open Go.Proofs
set_option maxRecDepth 10000
set_option maxHeartbeats 100000000
theorem g42:(∀ N (a0:TEnv) (a1:THeader),OK (QdU N a0 a1) 214 [.agg (e45 a0),.agg (e75 a1)] [] (fun r=>.tup [.agg (e45 r.1),.v (.int .u64 r.2.1),.v (.int .i64 r.2.2)]) fun r=>[])∧(∀ N (a0:TEnv) (a1:Int),OK (QbV N a0 a1) 220 [.agg (e45 a0),.v (.int .u64 a1)] [] (fun r=>.tup [.v (.int .u64 r.1),.v (.int .i64 r.2)]) fun r=>[])∧(∀ N (a0:TEnv) (a1:Int) (a2:Int),OK (Qdv N a0 a1 a2) 139 [.agg (e45 a0),.v (.int .i64 a1),.v (.int .u64 a2)] [] (fun r=>.tup [.agg (e45 r.1),.v (.int .u64 r.2.1),.v (.int .i64 r.2.2)]) fun r=>[])∧(∀ N (a0:TEnv) (a1:Int) (a2:Int),OK (Qdw N a0 a1 a2) 140 [.agg (e45 a0),.v (.int .i64 a1),.v (.int .u64 a2)] [] (fun r=>.tup [.agg (e45 r.1),.v (.int .u64 r.2.1),.v (.int .i64 r.2.2)]) fun r=>[]):=by
 refine ⟨fun N _ _=>rn Tryz.f214 [.cell 4 45,.tmp 5,.tmp 6] [] 50 (by kernel_rfl) ?_,fun N _ _=>rn Tryz.f220 [.tmp 4,.tmp 5] [] 22 (by kernel_rfl) ?_,fun N _ _ _=>rn Tryz.f139 [.cell 6 45,.tmp 7,.tmp 8] [] 105 (by kernel_rfl) ?_,fun N _ _ _=>rn Tryz.f140 [.cell 6 45,.tmp 7,.tmp 8] [] 74 (by kernel_rfl) ?_⟩<;>(rintro _ hw r hr C _ rfl hwf hf;simp only[Tryz.f214,Tryz.f220,Tryz.f139,Tryz.f140,Option.get!];(first|rw[QdU] at hr|rw[QbV] at hr|rw[Qdv] at hr|rw[Qdw] at hr);repeat' first
 |(refine El.el hr ?_;intro hr)
 |(with_reducible intro h;refine bc_e hr h ?_;intro hr)
 |with_reducible intro _
 |simp only[go_sem,simprocAttr]
 |(with_reducible first|apply guard_of_f|apply guard_of_t|apply cond_of)
 |(refine and_of' ?_ ?_;·first|assumption|omega)
 |with_reducible refine CallX.c ?_ _
 |with_reducible refine OK.c hr hw ?_ (fun y hr=>?_) _
 |(refine some_e hr ?_;rintro rfl;with_reducible refine ret_k ?_)
 |exact no_e hr
 |fail)
@[reducible,instance] def QlI:=g42.1
@[reducible,instance] def QlJ:=g42.2.1
@[reducible,instance] def QkU:=g42.2.2.1
@[reducible,instance] def QkV:=g42.2.2.2
end Go.Sx
