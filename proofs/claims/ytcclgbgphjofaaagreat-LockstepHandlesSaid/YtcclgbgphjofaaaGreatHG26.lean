import Derived.Test.YtcclgbgphjofaaaGreatHG14
import Derived.Test.YtcclgbgphjofaaaGreatHG25
set_option linter.all false
namespace Go.Sx
open Go.Proofs
set_option maxRecDepth 10000
set_option maxHeartbeats 100000000
instance Qoe:∀N a0 a1,OK (QbN N a0 a1) 13 [.agg (e44 a0),.agg (e71 a1)] [] (λr=>.tup [.agg (e44 r.1),vu r.2.1,vi r.2.2]) λr=>[]:=by
 refineλN _ _=>rk Tryz.f13 ?_<;>(rintro _ hw r hr C _ rfl hwf hf;simp only[Tryz.f13,Option.get!];(rw[QbN]at hr);repeat' first
 |(refine El.el hr ?_;intro hr)
 |(with_reducible intro h;refine XH hr h ?_;intro hr)
 |with_reducible intro _
 |simp only[go_sem,simprocAttr]
 |(with_reducible first|apply Xk|apply Xj|apply XA)
 |(refine XB ?_ ?_;.first|assumption|omega)
 |(with_reducible first|refine CallX.c ?_ _|refine OK.c hr hw ?_ (λy hr=>?_) _)
 |(refine Xu hr ?_;rintro rfl;with_reducible refine X4 ?_)
 |exact Za hr
 |exact Yb hr
 |(apply Yc;assumption)
 |fail)
end Go.Sx
