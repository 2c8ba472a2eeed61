import Derived.Test.YtmpbhfnjjaocoaaGreatAG18
import Derived.Test.YtmpbhfnjjaocoaaGreatAG28
set_option linter.all false
namespace Go.Sx
open Go.Proofs
set_option maxRecDepth 10000
set_option maxHeartbeats 100000000
instance Qp7:∀N a0 a1,OK (Qb2 N a0 a1) 45 [.agg (e67 a0),.agg (XqE a1)] [] (λr=>.tup [.agg (e67 r.1),vu r.2.1,vi r.2.2]) λr=>[]:=by
 refineλN _ _=>rk Tryz.f45 [.cell 4 67,.tmp 5,.tmp 6] [] 99 ?_<;>(rintro _ hw r hr C _ rfl hwf hf;simp only[Tryz.f45,Option.get!];(rw[Qb2]at hr);repeat' first
 |(refine El.el hr ?_;clear hr;intro hr)
 |(with_reducible intro h;refine XB hr h ?_;clear hr;intro hr)
 |with_reducible intro _
 |simp only[go_sem,simprocAttr]
 |(with_reducible first|apply Xi|apply Xh|apply Xs)
 |(refine Xt ?_ ?_;.first|assumption|omega)
 |(with_reducible first|refine CallX.c ?_ _|refine OK.c hr hw ?_ (λy hr=>?_) _)
 |(refine Xn hr ?_;rintro rfl;with_reducible refine XP ?_)
 |exact Yw hr
 |fail)
end Go.Sx
