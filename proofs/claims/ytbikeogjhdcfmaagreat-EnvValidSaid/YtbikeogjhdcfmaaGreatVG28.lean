import Derived.Test.YtbikeogjhdcfmaaGreatVF
import Derived.Test.YtbikeogjhdcfmaaGreatVG1
import Derived.Test.YtbikeogjhdcfmaaGreatVG13
import Derived.Test.YtbikeogjhdcfmaaGreatVG17
import Derived.Test.YtbikeogjhdcfmaaGreatVG23
import Derived.Test.YtbikeogjhdcfmaaGreatVG27
set_option linter.all false
namespace Go.Sx
open Go.Proofs
set_option maxRecDepth 10000
set_option maxHeartbeats 100000000
instance Qmd:∀ N (a0:Iv) (a1:Oi),OK (QbO N a0 a1) 46 [.agg (e61 a0),.agg (e97 a1)] [] (λ r=>.tup [.agg (e61 r.1),.v (.int .u64 r.2.1),.v (.int .i64 r.2.2)]) λ r=>[]:=by
 refine λ N _ _=>rn Tryz.f46 [.cell 4 61,.tmp 5,.tmp 6] [] 99 (by kernel_rfl) ?_<;>(rintro _ hw r hr C _ rfl hwf hf;simp only[Tryz.f46,Option.get!];(rw[QbO] at hr);repeat' first
 |(refine El.el hr ?_;intro hr)
 |(with_reducible intro h;refine XB hr h ?_;intro hr)
 |with_reducible intro _
 |simp only[go_sem,simprocAttr]
 |(with_reducible first|apply Xk|apply Xj|apply Xp)
 |(refine Xq ?_ ?_;·first|assumption|omega)
 |(with_reducible first|refine CallX.c ?_ _|refine OK.c hr hw ?_ (λ y hr=>?_) _)
 |(refine Xn hr ?_;rintro rfl;with_reducible refine XM ?_)
 |exact Yw hr
 |fail)
end Go.Sx
