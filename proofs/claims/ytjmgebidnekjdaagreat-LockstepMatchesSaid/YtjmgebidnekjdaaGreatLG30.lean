import Derived.Test.YtjmgebidnekjdaaGreatLG24
import Derived.Test.YtjmgebidnekjdaaGreatLG29
set_option linter.all false
namespace Go.Sx
open Go.Proofs
set_option maxRecDepth 10000
set_option maxHeartbeats 100000000
instance Qpc:∀ N ,OK (Qhs N) 13 [] [] (λ r=>.v (.bool r)) λ r=>[]:=by
 refine λ N=>rk Tryz.f13 [.tmp 0] [] 20 ?_<;>(rintro _ hw r hr C _ rfl hwf hf;simp only[Tryz.f13,Option.get!];(rw[Qhs] at hr);repeat' first
 |(refine El.el hr ?_;intro hr)
 |(with_reducible intro h;refine Xx hr h ?_;intro hr)
 |with_reducible intro _
 |simp only[go_sem,simprocAttr]
 |(with_reducible first|apply Xh|apply Xg|apply Xr|apply Xt|apply Xu)
 |(refine Xs ?_ ?_;·first|assumption|omega)
 |(with_reducible first|refine CallX.c ?_ _|refine OK.c hr hw ?_ (λ y hr=>?_) _|refine Ol hr hw ?_ (λ y hr=>?_) _)
 |refine dc 13 2 hf 2 [(0,448,[]),(1,448,[]),(0,48,[]),(4,48,[]),(12,48,[]),(31,0,[]),(63,0,[]),(127,2048,[]),(127,1025,[]),(255,2048,[]),(1023,0,[])] ?_
 |(refine Xo hr ?_;rintro rfl;with_reducible refine XP ?_)
 |exact Yw hr
 |exact XV hr
 |(apply XW;assumption)
 |fail)
end Go.Sx
