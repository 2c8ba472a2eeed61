import Derived.Test.YtgcneehkconghaaGreatDoorVF
import Derived.Test.YtgcneehkconghaaGreatDoorVG2
import Derived.Test.YtgcneehkconghaaGreatDoorVG5
import Derived.Test.YtgcneehkconghaaGreatDoorVG7
import Derived.Test.YtgcneehkconghaaGreatDoorVG8
import Derived.Test.YtgcneehkconghaaGreatDoorVG9
import Derived.Test.YtgcneehkconghaaGreatDoorVG10
import Derived.Test.YtgcneehkconghaaGreatDoorVG11
import Derived.Test.YtgcneehkconghaaGreatDoorVG13
import Derived.Test.YtgcneehkconghaaGreatDoorVG15
import Derived.Test.YtgcneehkconghaaGreatDoorVG24
import Derived.Test.YtgcneehkconghaaGreatDoorVG25
set_option linter.all false
namespace Go.Sx
open Go.Proofs
set_option maxRecDepth 10000
set_option maxHeartbeats 100000000
theorem g37:(∀ N (a0:W6) (a1:Wy),OK (Qb2 N a0 a1) 195 [.agg (e38 a0),.agg (e80 a1)] [] (λ r=>.tup [.agg (e38 r.1),.v (.int .u64 r.2.1),.v (.int .i64 r.2.2)]) λ r=>[])/\(∀ N (a0:W6) (a1:Int),OK (QcI N a0 a1) 200 [.agg (e38 a0),.v (.int .u64 a1)] [] (λ r=>.tup [.v (.int .u64 r.1),.v (.int .i64 r.2)]) λ r=>[])/\(∀ N (a0:W6) (a1:Int) (a2:Int),OK (QcQ N a0 a1 a2) 110 [.agg (e38 a0),.v (.int .i64 a1),.v (.int .u64 a2)] [] (λ r=>.tup [.agg (e38 r.1),.v (.int .u64 r.2.1),.v (.int .i64 r.2.2)]) λ r=>[])/\(∀ N (a0:W6) (a1:Int) (a2:Int),OK (QcR N a0 a1 a2) 111 [.agg (e38 a0),.v (.int .i64 a1),.v (.int .u64 a2)] [] (λ r=>.tup [.agg (e38 r.1),.v (.int .u64 r.2.1),.v (.int .i64 r.2.2)]) λ r=>[])/\(∀ N (a0:W6),OK (Qfu N a0) 19 [.agg (e38 a0)] [] (λ r=>.v (.bool r)) λ r=>[]):=by
 refine ⟨λ N _ _=>rn Tryz.f195 [.cell 4 38,.tmp 5,.tmp 6] [] 50 (by kernel_rfl) ?_,λ N _ _=>rn Tryz.f200 [.tmp 4,.tmp 5] [] 22 (by kernel_rfl) ?_,λ N _ _ _=>rn Tryz.f110 [.cell 6 38,.tmp 7,.tmp 8] [] 105 (by kernel_rfl) ?_,λ N _ _ _=>rn Tryz.f111 [.cell 6 38,.tmp 7,.tmp 8] [] 74 (by kernel_rfl) ?_,λ N _=>rn Tryz.f19 [.tmp 2] [] 43 (by kernel_rfl) ?_⟩<;>(rintro _ hw r hr C _ rfl hwf hf;simp only[Tryz.f195,Tryz.f200,Tryz.f110,Tryz.f111,Tryz.f19,Option.get!];(first|rw[Qb2] at hr|rw[QcI] at hr|rw[QcQ] at hr|rw[QcR] at hr|rw[Qfu] at hr);repeat' first
 |(refine El.el hr ?_;intro hr)
 |(with_reducible intro h;refine XA hr h ?_;intro hr)
 |with_reducible intro _
 |simp only[go_sem,simprocAttr]
 |(with_reducible first|apply Xk|apply Xj|apply Xo|apply Xt|apply Xu)
 |(refine Xp ?_ ?_;·first|assumption|omega)
 |(with_reducible first|refine CallX.c ?_ _|refine OK.c hr hw ?_ (λ y hr=>?_) _|refine Og hr hw ?_ (λ y hr=>?_) _)
 |refine db 19 3 hf 33 [(0,508,[[],[2560]]),(1,508,[[],[2560]]),(0,51,[]),(4,51,[]),(0,15,[]),(16,15,[]),(60,3,[]),(124,3,[[2560],[]]),(252,3,[[2560],[]]),(511,0,[]),(1023,0,[])] rfl rfl (by kernel_rfl) ?_ _
 |(refine Xn hr ?_;rintro rfl;with_reducible refine XM ?_)
 |exact Yw hr
 |fail)
@[reducible,instance] def QmN:=g37.1
@[reducible,instance] def QmO:=g37.2.1
@[reducible,instance] def QlW:=g37.2.2.1
@[reducible,instance] def QlX:=g37.2.2.2.1
@[reducible,instance] def Qol:=g37.2.2.2.2
end Go.Sx
