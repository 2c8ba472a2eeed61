import Derived.Test.YtgcneehkconghaaGreatDoorVF
import Derived.Test.YtgcneehkconghaaGreatDoorVG5
import Derived.Test.YtgcneehkconghaaGreatDoorVG7
import Derived.Test.YtgcneehkconghaaGreatDoorVG31
set_option linter.all false
namespace Go.Sx
open Go.Proofs
set_option maxRecDepth 10000
set_option maxHeartbeats 100000000
instance QnO:∀ N (a0:W6) (a1:List Int) (a2:List Int),OK (Qgc N a0 a1 a2) 6 [.agg (e38 a0),.isl 3 1 (a1.map e3),.isl 3 1 (a2.map e3)] [] (λ r=>.isl 38 13 (r.map e38)) λ r=>[]:=by
 refine λ N _ _ _=>rn Tryz.f6 [.tmp 6] [] 26 (by kernel_rfl) ?_<;>(rintro _ hw r hr C _ rfl hwf hf;simp only[Tryz.f6,Option.get!];(rw[Qgc] at hr);repeat' first
 |(refine El.el hr ?_;intro hr)
 |(with_reducible intro h;refine XA hr h ?_;intro hr)
 |with_reducible intro _
 |simp only[go_sem,simprocAttr]
 |(with_reducible first|apply Xk|apply Xj|apply Xo|apply Xt|apply Xu)
 |(refine Xp ?_ ?_;·first|assumption|omega)
 |(with_reducible first|refine CallX.c ?_ _|refine OK.c hr hw ?_ (λ y hr=>?_) _|refine Og hr hw ?_ (λ y hr=>?_) _)
 |refine db 6 2 hf 12 [(0,62,[[],[1024]]),(0,29,[[],[1024]]),(0,3,[]),(4,3,[]),(12,3,[[1024],[]]),(30,1,[[1024],[]]),(63,0,[[1152],[]]),(127,0,[])] rfl rfl (by kernel_rfl) ?_ _
 |(refine Xn hr ?_;rintro rfl;with_reducible refine XM ?_)
 |exact Yw hr
 |fail)
end Go.Sx
