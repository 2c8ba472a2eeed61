import Derived.Test.YtgdhlnfcogcicaaGreatDoorTF
import Derived.Test.YtgdhlnfcogcicaaGreatDoorTG3
import Derived.Test.YtgdhlnfcogcicaaGreatDoorTG11
import Derived.Test.YtgdhlnfcogcicaaGreatDoorTG18
import Derived.Test.YtgdhlnfcogcicaaGreatDoorTG20
import Derived.Test.YtgdhlnfcogcicaaGreatDoorTG30
import Derived.Test.YtgdhlnfcogcicaaGreatDoorTG32
set_option linter.all false
namespace Go.Sx
open Go.Proofs
set_option maxRecDepth 10000
set_option maxHeartbeats 100000000
instance QnC:∀ N (a0:UX) (a1:Int) (a2:Int) (a3:Int) (a4:Int),OK (QeT N a0 a1 a2 a3 a4) 136 [.agg (e45 a0),.v (.int .i64 a1),.v (.int .u64 a2),.v (.int .u64 a3),.v (.int .u64 a4)] [] (λ r=>.tup [.agg (e45 r.1),.v (.int .u64 r.2.1),.v (.int .i64 r.2.2)]) λ r=>[]:=by
 refine λ N _ _ _ _ _=>rn Tryz.f136 [.cell 10 45,.tmp 11,.tmp 12] [] 86 (by kernel_rfl) ?_<;>(rintro _ hw r hr C _ rfl hwf hf;simp only[Tryz.f136,Option.get!];(rw[QeT] at hr);repeat' first
 |(refine El.el hr ?_;intro hr)
 |(with_reducible intro h;refine Xz hr h ?_;intro hr)
 |with_reducible intro _
 |simp only[go_sem,simprocAttr]
 |(with_reducible first|apply Xg|apply Xf|apply Xs)
 |(refine Xl ?_ ?_;·first|assumption|omega)
 |(with_reducible first|refine CallX.c ?_ _|refine OK.c hr hw ?_ (λ y hr=>?_) _)
 |(refine Xq hr ?_;rintro rfl;with_reducible refine XG ?_)
 |exact Yo hr
 |fail)
end Go.Sx
