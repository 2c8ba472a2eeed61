import Derived.Test.YtgcneehkconghaaGreatDoorBF
import Derived.Test.YtgcneehkconghaaGreatDoorBG2
import Derived.Test.YtgcneehkconghaaGreatDoorBG13
import Derived.Test.YtgcneehkconghaaGreatDoorBG18
import Derived.Test.YtgcneehkconghaaGreatDoorBG25
import Derived.Test.YtgcneehkconghaaGreatDoorBG29
set_option linter.all false
namespace Go.Sx
open Go.Proofs
set_option maxRecDepth 10000
set_option maxHeartbeats 100000000
instance Qmg:∀ N (a0:Io) (a1:I4),OK (Qct N a0 a1) 15 [.agg (e45 a0),.agg (e65 a1)] [] (λ r=>.tup [.agg (e45 r.1),.v (.int .u64 r.2.1),.v (.int .i64 r.2.2)]) λ r=>[]:=by
 refine λ N _ _=>rn Tryz.f15 [.cell 4 45,.tmp 5,.tmp 6] [] 99 (by kernel_rfl) ?_<;>(rintro _ hw r hr C _ rfl hwf hf;simp only[Tryz.f15,Option.get!];(rw[Qct] at hr);repeat' first
 |(refine El.el hr ?_;intro hr)
 |(with_reducible intro h;refine Xw hr h ?_;intro hr)
 |with_reducible intro _
 |simp only[go_sem,simprocAttr]
 |(with_reducible first|apply Xg|apply Xf|apply Xo)
 |(refine Xp ?_ ?_;·first|assumption|omega)
 |(with_reducible first|refine CallX.c ?_ _|refine OK.c hr hw ?_ (λ y hr=>?_) _)
 |(refine Xn hr ?_;rintro rfl;with_reducible refine XF ?_)
 |exact Yj hr
 |fail)
end Go.Sx
