import Derived.Test.YtgdnaekdnmegbaaGreatDoorF
import Derived.Test.YtgdnaekdnmegbaaGreatDoorG2
import Derived.Test.YtgdnaekdnmegbaaGreatDoorG4
import Derived.Test.YtgdnaekdnmegbaaGreatDoorG5
import Derived.Test.YtgdnaekdnmegbaaGreatDoorG7
import Derived.Test.YtgdnaekdnmegbaaGreatDoorG8
import Derived.Test.YtgdnaekdnmegbaaGreatDoorG12
import Derived.Test.YtgdnaekdnmegbaaGreatDoorG20
import Derived.Test.YtgdnaekdnmegbaaGreatDoorG21
import Derived.Test.YtgdnaekdnmegbaaGreatDoorG22
set_option linter.all false
namespace Go.Sx
open Go.Proofs
set_option maxRecDepth 10000
set_option maxHeartbeats 100000000
theorem g43:(∀ N (a0:TEnv) (a1:Int) (a2:Int) (a3:Int),OK (ref19_create N a0 a1 a2 a3) 130 [.agg (e43 a0),.v (.int .i64 a1),.v (.int .u64 a2),.v (.int .u64 a3)] [] (fun r=>.tup [.agg (e43 r.1),.v (.int .u64 r.2.1),.v (.int .i64 r.2.2)]) fun r=>[])∧(∀ N (a0:TEnv) (a1:Int) (a2:Int) (a3:Bool),OK (ref19_field N a0 a1 a2 a3) 177 [.agg (e43 a0),.v (.int .u64 a1),.v (.int .u64 a2),.v (.bool a3)] [] (fun r=>.tup [.v (.int .u64 r.1),.v (.int .i64 r.2.1),.v (.int .i64 r.2.2)]) fun r=>[])∧(∀ N (a0:TEnv) (a1:Int) (a2:Int) (a3:Int),OK (ref19_plain N a0 a1 a2 a3) 132 [.agg (e43 a0),.v (.int .i64 a1),.v (.int .u64 a2),.v (.int .u64 a3)] [] (fun r=>.tup [.agg (e43 r.1),.v (.int .u64 r.2.1),.v (.int .i64 r.2.2)]) fun r=>[])∧(∀ N (a0:TEnv) (a1:Int) (a2:Int),OK (ref19_lasting N a0 a1 a2) 133 [.agg (e43 a0),.v (.int .i64 a1),.v (.int .u64 a2)] [] (fun r=>.tup [.agg (e43 r.1),.v (.int .u64 r.2.1),.v (.int .i64 r.2.2)]) fun r=>[])∧(∀ N (a0:TEnv) (a1:Int) (a2:Int),OK (ref19_pins N a0 a1 a2) 136 [.agg (e43 a0),.v (.int .i64 a1),.v (.int .u64 a2)] [] (fun r=>.tup [.agg (e43 r.1),.v (.int .u64 r.2.1),.v (.int .i64 r.2.2)]) fun r=>[]):=by
 refine ⟨fun N _ _ _ _=>rn Tryz.f130 [.cell 8 43,.tmp 9,.tmp 10] [] 84 (by kernel_rfl) ?_,fun N _ _ _ _=>rn Tryz.f177 [.tmp 8,.tmp 9,.tmp 10] [] 45 (by kernel_rfl) ?_,fun N _ _ _ _=>rn Tryz.f132 [.cell 8 43,.tmp 9,.tmp 10] [] 106 (by kernel_rfl) ?_,fun N _ _ _=>rn Tryz.f133 [.cell 6 43,.tmp 7,.tmp 8] [] 68 (by kernel_rfl) ?_,fun N _ _ _=>rn Tryz.f136 [.cell 6 43,.tmp 7,.tmp 8] [] 79 (by kernel_rfl) ?_⟩<;>(rintro _ hw r hr C rfl hwf hf;simp only[Tryz.f130,Tryz.f177,Tryz.f132,Tryz.f133,Tryz.f136,Option.get!];(first|rw[ref19_create] at hr|rw[ref19_field] at hr|rw[ref19_plain] at hr|rw[ref19_lasting] at hr|rw[ref19_pins] at hr);repeat' first
 |(refine El.el hr ?_;intro hr)
 |(with_reducible intro h;refine bc_e hr h ?_;intro hr)
 |with_reducible intro _
 |simp only[go_sem,simprocAttr]
 |(with_reducible first|apply guard_of_f|apply guard_of_t|apply cond_of|apply doT_of_t|apply doT_of_f)
 |(refine and_of' ?_ ?_;·first|assumption|omega)
 |with_reducible refine OK.c hr hw ?_ (fun y hr=>?_) _
 |refine db 132 9 hf [([],[],[47,48,49],[]),([],[],[46],[512]),([1],[],[46],[512]),([1,2],[],[46],[512]),([0],[512],[47,48,49],[]),([0,1,2,3,4],[],[],[]),([0,1,2,3,4,5],[],[],[])] rfl rfl (by kernel_rfl) ?_ _
 |refine db 132 10 hf [([],[],[51,52,53],[]),([],[],[50],[512]),([1],[],[50],[512]),([1,2],[],[50],[512]),([0],[512],[51,52,53],[]),([0,1,2,3,4],[],[],[]),([0,1,2,3,4,5],[],[],[])] rfl rfl (by kernel_rfl) ?_ _
 |(refine some_e hr ?_;rintro rfl;with_reducible refine ret_k ?_)
 |exact no_e hr
 |fail)
@[reducible,instance] def ref19_create_i:=g43.1
@[reducible,instance] def ref19_field_i:=g43.2.1
@[reducible,instance] def ref19_plain_i:=g43.2.2.1
@[reducible,instance] def ref19_lasting_i:=g43.2.2.2.1
@[reducible,instance] def ref19_pins_i:=g43.2.2.2.2
end Go.Sx
