import Derived.Test.YtgdhlnfcogcicaaGreatDoorTF
import Derived.Test.YtgdhlnfcogcicaaGreatDoorTG3
import Derived.Test.YtgdhlnfcogcicaaGreatDoorTG6
import Derived.Test.YtgdhlnfcogcicaaGreatDoorTG7
import Derived.Test.YtgdhlnfcogcicaaGreatDoorTG9
import Derived.Test.YtgdhlnfcogcicaaGreatDoorTG11
import Derived.Test.YtgdhlnfcogcicaaGreatDoorTG13
import Derived.Test.YtgdhlnfcogcicaaGreatDoorTG17
import Derived.Test.YtgdhlnfcogcicaaGreatDoorTG27
import Derived.Test.YtgdhlnfcogcicaaGreatDoorTG30
import Derived.Test.YtgdhlnfcogcicaaGreatDoorTG31
set_option linter.all false
namespace Go.Sx
open Go.Proofs
set_option maxRecDepth 10000
set_option maxHeartbeats 100000000
theorem g43:(∀ N (a0:UX) (a1:Int) (a2:Int) (a3:Int),OK (Qeq N a0 a1 a2 a3) 135 [.agg (e45 a0),.v (.int .i64 a1),.v (.int .u64 a2),.v (.int .u64 a3)] [] (λ r=>.tup [.agg (e45 r.1),.v (.int .u64 r.2.1),.v (.int .i64 r.2.2)]) λ r=>[])/\(∀ N (a0:UX) (a1:Int) (a2:Int) (a3:Bool),OK (QdX N a0 a1 a2 a3) 216 [.agg (e45 a0),.v (.int .u64 a1),.v (.int .u64 a2),.v (.bool a3)] [] (λ r=>.tup [.v (.int .u64 r.1),.v (.int .i64 r.2.1),.v (.int .i64 r.2.2)]) λ r=>[])/\(∀ N (a0:UX) (a1:Int) (a2:Int) (a3:Int),OK (QeU N a0 a1 a2 a3) 137 [.agg (e45 a0),.v (.int .i64 a1),.v (.int .u64 a2),.v (.int .u64 a3)] [] (λ r=>.tup [.agg (e45 r.1),.v (.int .u64 r.2.1),.v (.int .i64 r.2.2)]) λ r=>[])/\(∀ N (a0:UX) (a1:Int) (a2:Int),OK (Qdw N a0 a1 a2) 138 [.agg (e45 a0),.v (.int .i64 a1),.v (.int .u64 a2)] [] (λ r=>.tup [.agg (e45 r.1),.v (.int .u64 r.2.1),.v (.int .i64 r.2.2)]) λ r=>[])/\(∀ N (a0:UX) (a1:Int) (a2:Int),OK (Qfo N a0 a1 a2) 141 [.agg (e45 a0),.v (.int .i64 a1),.v (.int .u64 a2)] [] (λ r=>.tup [.agg (e45 r.1),.v (.int .u64 r.2.1),.v (.int .i64 r.2.2)]) λ r=>[]):=by
 refine ⟨λ N _ _ _ _=>rn Tryz.f135 [.cell 8 45,.tmp 9,.tmp 10] [] 84 (by kernel_rfl) ?_,λ N _ _ _ _=>rn Tryz.f216 [.tmp 8,.tmp 9,.tmp 10] [] 45 (by kernel_rfl) ?_,λ N _ _ _ _=>rn Tryz.f137 [.cell 8 45,.tmp 9,.tmp 10] [] 106 (by kernel_rfl) ?_,λ N _ _ _=>rn Tryz.f138 [.cell 6 45,.tmp 7,.tmp 8] [] 68 (by kernel_rfl) ?_,λ N _ _ _=>rn Tryz.f141 [.cell 6 45,.tmp 7,.tmp 8] [] 79 (by kernel_rfl) ?_⟩<;>(rintro _ hw r hr C _ rfl hwf hf;simp only[Tryz.f135,Tryz.f216,Tryz.f137,Tryz.f138,Tryz.f141,Option.get!];(first|rw[Qeq] at hr|rw[QdX] at hr|rw[QeU] at hr|rw[Qdw] at hr|rw[Qfo] at hr);repeat' first
 |(refine El.el hr ?_;intro hr)
 |(with_reducible intro h;refine Xz hr h ?_;intro hr)
 |with_reducible intro _
 |simp only[go_sem,simprocAttr]
 |(with_reducible first|apply Xg|apply Xf|apply Xs|apply Xx|apply Xy)
 |(refine Xl ?_ ?_;·first|assumption|omega)
 |(with_reducible first|refine CallX.c ?_ _|refine OK.c hr hw ?_ (λ y hr=>?_) _)
 |refine db 137 9 hf 46 [(0,14,[]),(0,1,[[],[512]]),(2,1,[[],[512]]),(6,1,[[],[512]]),(1,14,[[512],[]]),(31,0,[]),(63,0,[])] rfl rfl (by kernel_rfl) ?_ _
 |refine db 137 10 hf 50 [(0,14,[]),(0,1,[[],[512]]),(2,1,[[],[512]]),(6,1,[[],[512]]),(1,14,[[512],[]]),(31,0,[]),(63,0,[])] rfl rfl (by kernel_rfl) ?_ _
 |(refine Xq hr ?_;rintro rfl;with_reducible refine XG ?_)
 |exact Yo hr
 |fail)
@[reducible,instance] def QmL:=g43.1
@[reducible,instance] def QnA:=g43.2.1
@[reducible,instance] def QnB:=g43.2.2.1
@[reducible,instance] def Qmh:=g43.2.2.2.1
@[reducible,instance] def Qop:=g43.2.2.2.2
end Go.Sx
