import Derived.Test.YtjmgebidnekjdaaGreatLG16
import Derived.Test.YtjmgebidnekjdaaGreatLG27
set_option linter.all false
namespace Go.Sx
open Go.Proofs
set_option maxRecDepth 10000
set_option maxHeartbeats 100000000
instance Qo9:∀ N a0 a1,OK (Qb6 N a0 a1) 17 [.agg (e46 a0),.agg (e81 a1)] [] (λ r=>.tup [.agg (e46 r.1),vu r.2.1,vi r.2.2]) λ r=>[]:=by
 refine λ N _ _=>rk Tryz.f17 [.cell 4 46,.tmp 5,.tmp 6] [] 99 ?_<;>(rintro _ hw r hr C _ rfl hwf hf;simp only[Tryz.f17,Option.get!];(rw[Qb6] at hr);repeat' first
 |(refine El.el hr ?_;intro hr)
 |(with_reducible intro h;refine Xx hr h ?_;intro hr)
 |with_reducible intro _
 |simp only[go_sem,simprocAttr]
 |(with_reducible first|apply Xh|apply Xg|apply Xr)
 |(refine Xs ?_ ?_;·first|assumption|omega)
 |(with_reducible first|refine CallX.c ?_ _|refine OK.c hr hw ?_ (λ y hr=>?_) _)
 |(refine Xo hr ?_;rintro rfl;with_reducible refine XP ?_)
 |exact Yw hr
 |exact XV hr
 |(apply XW;assumption)
 |fail)
end Go.Sx
