import Derived.Test.YtgcneehkconghaaGreatDoorVF
import Derived.Test.YtgcneehkconghaaGreatDoorVG1
import Derived.Test.YtgcneehkconghaaGreatDoorVG2
import Derived.Test.YtgcneehkconghaaGreatDoorVG3
import Derived.Test.YtgcneehkconghaaGreatDoorVG5
import Derived.Test.YtgcneehkconghaaGreatDoorVG7
import Derived.Test.YtgcneehkconghaaGreatDoorVG8
import Derived.Test.YtgcneehkconghaaGreatDoorVG9
import Derived.Test.YtgcneehkconghaaGreatDoorVG11
import Derived.Test.YtgcneehkconghaaGreatDoorVG12
import Derived.Test.YtgcneehkconghaaGreatDoorVG15
import Derived.Test.YtgcneehkconghaaGreatDoorVG17
import Derived.Test.YtgcneehkconghaaGreatDoorVG24
import Derived.Test.YtgcneehkconghaaGreatDoorVG25
import Derived.Test.YtgcneehkconghaaGreatDoorVG26
set_option linter.all false
namespace Go.Sx
open Go.Proofs
set_option maxRecDepth 10000
set_option maxHeartbeats 100000000
theorem g38:(∀ N (a0:W6) (a1:Int) (a2:Int) (a3:Int),OK (QcP N a0 a1 a2 a3) 106 [.agg (e38 a0),.v (.int .i64 a1),.v (.int .u64 a2),.v (.int .u64 a3)] [] (λ r=>.tup [.agg (e38 r.1),.v (.int .u64 r.2.1),.v (.int .i64 r.2.2)]) λ r=>[])/\(∀ N (a0:W6) (a1:Int) (a2:Int) (a3:Bool),OK (QcJ N a0 a1 a2 a3) 197 [.agg (e38 a0),.v (.int .u64 a1),.v (.int .u64 a2),.v (.bool a3)] [] (λ r=>.tup [.v (.int .u64 r.1),.v (.int .i64 r.2.1),.v (.int .i64 r.2.2)]) λ r=>[])/\(∀ N (a0:W6) (a1:Int) (a2:Int) (a3:Int),OK (Qdq N a0 a1 a2 a3) 108 [.agg (e38 a0),.v (.int .i64 a1),.v (.int .u64 a2),.v (.int .u64 a3)] [] (λ r=>.tup [.agg (e38 r.1),.v (.int .u64 r.2.1),.v (.int .i64 r.2.2)]) λ r=>[])/\(∀ N (a0:W6) (a1:Int) (a2:Int),OK (Qcu N a0 a1 a2) 109 [.agg (e38 a0),.v (.int .i64 a1),.v (.int .u64 a2)] [] (λ r=>.tup [.agg (e38 r.1),.v (.int .u64 r.2.1),.v (.int .i64 r.2.2)]) λ r=>[])/\(∀ N (a0:W6) (a1:Int) (a2:Int),OK (QdK N a0 a1 a2) 112 [.agg (e38 a0),.v (.int .i64 a1),.v (.int .u64 a2)] [] (λ r=>.tup [.agg (e38 r.1),.v (.int .u64 r.2.1),.v (.int .i64 r.2.2)]) λ r=>[])/\(∀ N (a0:W6) (a1:Int),OK (QfX N a0 a1) 7 [.agg (e38 a0),.v (.int .u64 a1)] [] (λ r=>.tup [.v (.int .u64 r.1),.v (.int .i64 r.2)]) λ r=>[])/\(∀ N (a0:W6) (a1:Wy),OK (QhI N a0 a1) 28 [.agg (e38 a0),.agg (e80 a1)] [] (λ r=>.tup [.agg (e38 r.1),.v (.int .u64 r.2.1),.v (.int .i64 r.2.2)]) λ r=>[]):=by
 refine ⟨λ N _ _ _ _=>rn Tryz.f106 [.cell 8 38,.tmp 9,.tmp 10] [] 84 (by kernel_rfl) ?_,λ N _ _ _ _=>rn Tryz.f197 [.tmp 8,.tmp 9,.tmp 10] [] 45 (by kernel_rfl) ?_,λ N _ _ _ _=>rn Tryz.f108 [.cell 8 38,.tmp 9,.tmp 10] [] 106 (by kernel_rfl) ?_,λ N _ _ _=>rn Tryz.f109 [.cell 6 38,.tmp 7,.tmp 8] [] 68 (by kernel_rfl) ?_,λ N _ _ _=>rn Tryz.f112 [.cell 6 38,.tmp 7,.tmp 8] [] 79 (by kernel_rfl) ?_,λ N _ _=>rn Tryz.f7 [.tmp 4,.tmp 5] [] 58 (by kernel_rfl) ?_,λ N _ _=>rn Tryz.f28 [.cell 4 38,.tmp 5,.tmp 6] [] 62 (by kernel_rfl) ?_⟩<;>(rintro _ hw r hr C _ rfl hwf hf;simp only[Tryz.f106,Tryz.f197,Tryz.f108,Tryz.f109,Tryz.f112,Tryz.f7,Tryz.f28,Option.get!];(first|rw[QcP] at hr|rw[QcJ] at hr|rw[Qdq] at hr|rw[Qcu] at hr|rw[QdK] at hr|rw[QfX] at hr|rw[QhI] at hr);repeat' first
 |(refine El.el hr ?_;intro hr)
 |(with_reducible intro h;refine XA hr h ?_;intro hr)
 |with_reducible intro _
 |simp only[go_sem,simprocAttr]
 |(with_reducible first|apply Xk|apply Xj|apply Xo|apply Xt|apply Xu)
 |(refine Xp ?_ ?_;·first|assumption|omega)
 |(with_reducible first|refine CallX.c ?_ _|refine OK.c hr hw ?_ (λ y hr=>?_) _)
 |refine db 108 9 hf 46 [(0,14,[]),(0,1,[[],[512]]),(2,1,[[],[512]]),(6,1,[[],[512]]),(1,14,[[512],[]]),(31,0,[]),(63,0,[])] rfl rfl (by kernel_rfl) ?_ _
 |refine db 108 10 hf 50 [(0,14,[]),(0,1,[[],[512]]),(2,1,[[],[512]]),(6,1,[[],[512]]),(1,14,[[512],[]]),(31,0,[]),(63,0,[])] rfl rfl (by kernel_rfl) ?_ _
 |(refine Xn hr ?_;rintro rfl;with_reducible refine XM ?_)
 |exact Yw hr
 |fail)
@[reducible,instance] def QlY:=g38.1
@[reducible,instance] def QmP:=g38.2.1
@[reducible,instance] def QmQ:=g38.2.2.1
@[reducible,instance] def Qlv:=g38.2.2.2.1
@[reducible,instance] def QnM:=g38.2.2.2.2.1
@[reducible,instance] def QmR:=g38.2.2.2.2.2.1
@[reducible,instance] def Qom:=g38.2.2.2.2.2.2
end Go.Sx
