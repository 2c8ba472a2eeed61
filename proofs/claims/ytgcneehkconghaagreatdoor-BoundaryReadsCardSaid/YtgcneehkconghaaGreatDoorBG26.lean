import Derived.Test.YtgcneehkconghaaGreatDoorBF
import Derived.Test.YtgcneehkconghaaGreatDoorBG1
import Derived.Test.YtgcneehkconghaaGreatDoorBG4
import Derived.Test.YtgcneehkconghaaGreatDoorBG6
import Derived.Test.YtgcneehkconghaaGreatDoorBG7
import Derived.Test.YtgcneehkconghaaGreatDoorBG8
import Derived.Test.YtgcneehkconghaaGreatDoorBG9
import Derived.Test.YtgcneehkconghaaGreatDoorBG10
import Derived.Test.YtgcneehkconghaaGreatDoorBG12
import Derived.Test.YtgcneehkconghaaGreatDoorBG14
import Derived.Test.YtgcneehkconghaaGreatDoorBG23
import Derived.Test.YtgcneehkconghaaGreatDoorBG25
set_option linter.all false
namespace Go.Sx
open Go.Proofs
set_option maxRecDepth 10000
set_option maxHeartbeats 100000000
theorem g38:(∀ N (a0:Uh) (a1:Ww),OK (Qeh N a0 a1) 195 [.agg (e38 a0),.agg (e80 a1)] [] (λ r=>.tup [.agg (e38 r.1),.v (.int .u64 r.2.1),.v (.int .i64 r.2.2)]) λ r=>[])/\(∀ N (a0:Uh) (a1:Int),OK (Qck N a0 a1) 200 [.agg (e38 a0),.v (.int .u64 a1)] [] (λ r=>.tup [.v (.int .u64 r.1),.v (.int .i64 r.2)]) λ r=>[])/\(∀ N (a0:Uh) (a1:Int) (a2:Int),OK (QdL N a0 a1 a2) 110 [.agg (e38 a0),.v (.int .i64 a1),.v (.int .u64 a2)] [] (λ r=>.tup [.agg (e38 r.1),.v (.int .u64 r.2.1),.v (.int .i64 r.2.2)]) λ r=>[])/\(∀ N (a0:Uh) (a1:Int) (a2:Int),OK (QdM N a0 a1 a2) 111 [.agg (e38 a0),.v (.int .i64 a1),.v (.int .u64 a2)] [] (λ r=>.tup [.agg (e38 r.1),.v (.int .u64 r.2.1),.v (.int .i64 r.2.2)]) λ r=>[])/\(∀ N (a0:Uh),OK (Qfo N a0) 19 [.agg (e38 a0)] [] (λ r=>.v (.bool r)) λ r=>[]):=by
 refine ⟨λ N _ _=>rn Tryz.f195 [.cell 4 38,.tmp 5,.tmp 6] [] 50 (by kernel_rfl) ?_,λ N _ _=>rn Tryz.f200 [.tmp 4,.tmp 5] [] 22 (by kernel_rfl) ?_,λ N _ _ _=>rn Tryz.f110 [.cell 6 38,.tmp 7,.tmp 8] [] 105 (by kernel_rfl) ?_,λ N _ _ _=>rn Tryz.f111 [.cell 6 38,.tmp 7,.tmp 8] [] 74 (by kernel_rfl) ?_,λ N _=>rn Tryz.f19 [.tmp 2] [] 43 (by kernel_rfl) ?_⟩<;>(rintro _ hw r hr C _ rfl hwf hf;simp only[Tryz.f195,Tryz.f200,Tryz.f110,Tryz.f111,Tryz.f19,Option.get!];(first|rw[Qeh] at hr|rw[Qck] at hr|rw[QdL] at hr|rw[QdM] at hr|rw[Qfo] at hr);repeat' first
 |(refine El.el hr ?_;intro hr)
 |(with_reducible intro h;refine Xw hr h ?_;intro hr)
 |with_reducible intro _
 |simp only[go_sem,simprocAttr]
 |(with_reducible first|apply Xg|apply Xf|apply Xo|apply Xt|apply Xu)
 |(refine Xp ?_ ?_;·first|assumption|omega)
 |(with_reducible first|refine CallX.c ?_ _|refine OK.c hr hw ?_ (λ y hr=>?_) _|refine IX hr hw ?_ (λ y hr=>?_) _)
 |refine db 19 3 hf 33 [(0,508,[[],[2560]]),(1,508,[[],[2560]]),(0,51,[]),(4,51,[]),(0,15,[]),(16,15,[]),(60,3,[]),(124,3,[[2560],[]]),(252,3,[[2560],[]]),(511,0,[]),(1023,0,[])] rfl rfl (by kernel_rfl) ?_ _
 |(refine Xn hr ?_;rintro rfl;with_reducible refine XF ?_)
 |exact Yj hr
 |fail)
@[reducible,instance] def Qm5:=g38.1
@[reducible,instance] def Qm6:=g38.2.1
@[reducible,instance] def Qmd:=g38.2.2.1
@[reducible,instance] def Qme:=g38.2.2.2.1
@[reducible,instance] def QoH:=g38.2.2.2.2
end Go.Sx
