import Derived.Test.YtgdhlnfcogcicaaGreatDoorSF
import Derived.Test.YtgdhlnfcogcicaaGreatDoorSG3
import Derived.Test.YtgdhlnfcogcicaaGreatDoorSG5
import Derived.Test.YtgdhlnfcogcicaaGreatDoorSG6
import Derived.Test.YtgdhlnfcogcicaaGreatDoorSG8
import Derived.Test.YtgdhlnfcogcicaaGreatDoorSG11
import Derived.Test.YtgdhlnfcogcicaaGreatDoorSG14
import Derived.Test.YtgdhlnfcogcicaaGreatDoorSG22
import Derived.Test.YtgdhlnfcogcicaaGreatDoorSG23
import Derived.Test.YtgdhlnfcogcicaaGreatDoorSG24
set_option linter.all false
namespace Go.Sx
open Go.Proofs
set_option maxRecDepth 10000
set_option maxHeartbeats 100000000
theorem g43:(∀ N (a0:TEnv) (a1:Int) (a2:Int) (a3:Int),OK (Qdu N a0 a1 a2 a3) 135 [.agg (e45 a0),.v (.int .i64 a1),.v (.int .u64 a2),.v (.int .u64 a3)] [] (fun r=>.tup [.agg (e45 r.1),.v (.int .u64 r.2.1),.v (.int .i64 r.2.2)]) fun r=>[])∧(∀ N (a0:TEnv) (a1:Int) (a2:Int) (a3:Bool),OK (Qc8 N a0 a1 a2 a3) 216 [.agg (e45 a0),.v (.int .u64 a1),.v (.int .u64 a2),.v (.bool a3)] [] (fun r=>.tup [.v (.int .u64 r.1),.v (.int .i64 r.2.1),.v (.int .i64 r.2.2)]) fun r=>[])∧(∀ N (a0:TEnv) (a1:Int) (a2:Int) (a3:Int),OK (QdW N a0 a1 a2 a3) 137 [.agg (e45 a0),.v (.int .i64 a1),.v (.int .u64 a2),.v (.int .u64 a3)] [] (fun r=>.tup [.agg (e45 r.1),.v (.int .u64 r.2.1),.v (.int .i64 r.2.2)]) fun r=>[])∧(∀ N (a0:TEnv) (a1:Int) (a2:Int),OK (QcL N a0 a1 a2) 138 [.agg (e45 a0),.v (.int .i64 a1),.v (.int .u64 a2)] [] (fun r=>.tup [.agg (e45 r.1),.v (.int .u64 r.2.1),.v (.int .i64 r.2.2)]) fun r=>[])∧(∀ N (a0:TEnv) (a1:Int) (a2:Int),OK (Qem N a0 a1 a2) 141 [.agg (e45 a0),.v (.int .i64 a1),.v (.int .u64 a2)] [] (fun r=>.tup [.agg (e45 r.1),.v (.int .u64 r.2.1),.v (.int .i64 r.2.2)]) fun r=>[]):=by
 refine ⟨fun N _ _ _ _=>rn Tryz.f135 [.cell 8 45,.tmp 9,.tmp 10] [] 84 (by kernel_rfl) ?_,fun N _ _ _ _=>rn Tryz.f216 [.tmp 8,.tmp 9,.tmp 10] [] 45 (by kernel_rfl) ?_,fun N _ _ _ _=>rn Tryz.f137 [.cell 8 45,.tmp 9,.tmp 10] [] 106 (by kernel_rfl) ?_,fun N _ _ _=>rn Tryz.f138 [.cell 6 45,.tmp 7,.tmp 8] [] 68 (by kernel_rfl) ?_,fun N _ _ _=>rn Tryz.f141 [.cell 6 45,.tmp 7,.tmp 8] [] 79 (by kernel_rfl) ?_⟩<;>(rintro _ hw r hr C _ rfl hwf hf;simp only[Tryz.f135,Tryz.f216,Tryz.f137,Tryz.f138,Tryz.f141,Option.get!];(first|rw[Qdu] at hr|rw[Qc8] at hr|rw[QdW] at hr|rw[QcL] at hr|rw[Qem] at hr);repeat' first
 |(refine El.el hr ?_;intro hr)
 |(with_reducible intro h;refine bc_e hr h ?_;intro hr)
 |with_reducible intro _
 |simp only[go_sem,simprocAttr]
 |(with_reducible first|apply guard_of_f|apply guard_of_t|apply cond_of|apply doT_of_t|apply doT_of_f)
 |(refine and_of' ?_ ?_;·first|assumption|omega)
 |with_reducible refine CallX.c ?_ _
 |with_reducible refine OK.c hr hw ?_ (fun y hr=>?_) _
 |refine db 137 9 hf [([],[],[47,48,49],[]),([],[],[46],[512]),([1],[],[46],[512]),([1,2],[],[46],[512]),([0],[512],[47,48,49],[]),([0,1,2,3,4],[],[],[]),([0,1,2,3,4,5],[],[],[])] rfl rfl (by kernel_rfl) ?_ _
 |refine db 137 10 hf [([],[],[51,52,53],[]),([],[],[50],[512]),([1],[],[50],[512]),([1,2],[],[50],[512]),([0],[512],[51,52,53],[]),([0,1,2,3,4],[],[],[]),([0,1,2,3,4,5],[],[],[])] rfl rfl (by kernel_rfl) ?_ _
 |(refine some_e hr ?_;rintro rfl;with_reducible refine ret_k ?_)
 |exact no_e hr
 |fail)
@[reducible,instance] def QkW:=g43.1
@[reducible,instance] def QlK:=g43.2.1
@[reducible,instance] def QlL:=g43.2.2.1
@[reducible,instance] def Qkw:=g43.2.2.2.1
@[reducible,instance] def Qmy:=g43.2.2.2.2
end Go.Sx
