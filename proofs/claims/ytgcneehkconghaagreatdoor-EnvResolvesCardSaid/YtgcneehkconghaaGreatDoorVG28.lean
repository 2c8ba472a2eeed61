import Derived.Test.YtgcneehkconghaaGreatDoorVF
import Derived.Test.YtgcneehkconghaaGreatDoorVG2
import Derived.Test.YtgcneehkconghaaGreatDoorVG8
import Derived.Test.YtgcneehkconghaaGreatDoorVG11
import Derived.Test.YtgcneehkconghaaGreatDoorVG16
import Derived.Test.YtgcneehkconghaaGreatDoorVG17
import Derived.Test.YtgcneehkconghaaGreatDoorVG25
import Derived.Test.YtgcneehkconghaaGreatDoorVG26
import Derived.Test.YtgcneehkconghaaGreatDoorVG27
set_option linter.all false
namespace Go.Sx
open Go.Proofs
set_option maxRecDepth 10000
set_option maxHeartbeats 100000000
theorem g39:(∀ N (a0:W6) (a1:Int) (a2:Int) (a3:Int) (a4:Int),OK (Qdp N a0 a1 a2 a3 a4) 107 [.agg (e38 a0),.v (.int .i64 a1),.v (.int .u64 a2),.v (.int .u64 a3),.v (.int .u64 a4)] [] (λ r=>.tup [.agg (e38 r.1),.v (.int .u64 r.2.1),.v (.int .i64 r.2.2)]) λ r=>[])/\(∀ N ,OK (Qgy N) 9 [] [] (λ r=>.v (.bool r)) λ r=>[]):=by
 refine ⟨λ N _ _ _ _ _=>rn Tryz.f107 [.cell 10 38,.tmp 11,.tmp 12] [] 86 (by kernel_rfl) ?_,λ N=>rn Tryz.f9 [.tmp 0] [] 32 (by kernel_rfl) ?_⟩<;>(rintro _ hw r hr C _ rfl hwf hf;simp only[Tryz.f107,Tryz.f9,Option.get!];(first|rw[Qdp] at hr|rw[Qgy] at hr);repeat' first
 |(refine El.el hr ?_;intro hr)
 |(with_reducible intro h;refine XA hr h ?_;intro hr)
 |with_reducible intro _
 |simp only[go_sem,simprocAttr]
 |(with_reducible first|apply Xk|apply Xj|apply Xo)
 |(refine Xp ?_ ?_;·first|assumption|omega)
 |(with_reducible first|refine CallX.c ?_ _|refine OK.c hr hw ?_ (λ y hr=>?_) _)
 |(refine Xn hr ?_;rintro rfl;with_reducible refine XM ?_)
 |exact Yw hr
 |fail)
@[reducible,instance] def QmS:=g39.1
@[reducible,instance] def QmT:=g39.2
end Go.Sx
