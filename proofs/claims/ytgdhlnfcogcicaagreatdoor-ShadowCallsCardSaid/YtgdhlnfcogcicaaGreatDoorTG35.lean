import Derived.Test.YtgdhlnfcogcicaaGreatDoorTF
import Derived.Test.YtgdhlnfcogcicaaGreatDoorTG4
import Derived.Test.YtgdhlnfcogcicaaGreatDoorTG16
import Derived.Test.YtgdhlnfcogcicaaGreatDoorTG21
import Derived.Test.YtgdhlnfcogcicaaGreatDoorTG29
import Derived.Test.YtgdhlnfcogcicaaGreatDoorTG34
set_option linter.all false
namespace Go.Sx
open Go.Proofs
set_option maxRecDepth 10000
set_option maxHeartbeats 100000000
instance QmM:∀ N (a0:IL) (a1:I4),OK (Qcv N a0 a1) 34 [.agg (e47 a0),.agg (e53 a1)] [] (λ r=>.tup [.agg (e47 r.1),.v (.int .u64 r.2.1),.v (.int .i64 r.2.2)]) λ r=>[]:=by
 refine λ N _ _=>rn Tryz.f34 [.cell 4 47,.tmp 5,.tmp 6] [] 99 (by kernel_rfl) ?_<;>(rintro _ hw r hr C _ rfl hwf hf;simp only[Tryz.f34,Option.get!];(rw[Qcv] at hr);repeat' first
 |(refine El.el hr ?_;intro hr)
 |(with_reducible intro h;refine Xz hr h ?_;intro hr)
 |with_reducible intro _
 |simp only[go_sem,simprocAttr]
 |(with_reducible first|apply Xg|apply Xf|apply Xs)
 |(refine Xl ?_ ?_;·first|assumption|omega)
 |(with_reducible first|refine CallX.c ?_ _|refine OK.c hr hw ?_ (λ y hr=>?_) _)
 |(refine Xq hr ?_;rintro rfl;with_reducible refine XG ?_)
 |exact Yo hr
 |fail)
end Go.Sx
