import Derived.Test.YtjmgebidnekjdaaGreatLG25
set_option linter.all false
namespace Go.Sx
open Go.Proofs
set_option maxRecDepth 10000
set_option maxHeartbeats 100000000
instance Qpb:∀ N a0 a1 a2 a3 a4,OK (QdM N a0 a1 a2 a3 a4) 91 [.agg (e38 a0),vi a1,vu a2,vu a3,vu a4] [] (λ r=>.tup [.agg (e38 r.1),vu r.2.1,vi r.2.2]) λ r=>[]:=by
 refine λ N _ _ _ _ _=>rk Tryz.f91 [.cell 10 38,.tmp 11,.tmp 12] [] 86 ?_<;>(rintro _ hw r hr C _ rfl hwf hf;simp only[Tryz.f91,Option.get!];(rw[QdM] at hr);repeat' first
 |(refine El.el hr ?_;intro hr)
 |(with_reducible intro h;refine Xx hr h ?_;intro hr)
 |with_reducible intro _
 |simp only[go_sem,simprocAttr]
 |(with_reducible first|apply Xh|apply Xg|apply Xr)
 |(refine Xs ?_ ?_;·first|assumption|omega)
 |(with_reducible first|refine CallX.c ?_ _|refine OK.c hr hw ?_ (λ y hr=>?_) _)
 |(refine Xo hr ?_;rintro rfl;with_reducible refine XP ?_)
 |exact Yw hr
 |exact XV hr
 |(apply XW;assumption)
 |fail)
end Go.Sx
