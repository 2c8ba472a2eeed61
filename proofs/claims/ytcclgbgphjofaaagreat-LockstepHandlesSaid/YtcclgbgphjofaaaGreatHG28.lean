import Derived.Test.YtcclgbgphjofaaaGreatHG22
import Derived.Test.YtcclgbgphjofaaaGreatHG27
set_option linter.all false
namespace Go.Sx
open Go.Proofs
set_option maxRecDepth 10000
set_option maxHeartbeats 100000000
instance Qoh:∀N,OK (Qg1 N) 10 [] [] (λr=>.v (.bool r)) λr=>[]:=by
 refineλN=>rk Tryz.f10 ?_<;>(rintro _ hw r hr C _ rfl hwf hf;simp only[Tryz.f10,Option.get!];(rw[Qg1]at hr);repeat' first
 |(refine El.el hr ?_;intro hr)
 |(with_reducible intro h;refine XH hr h ?_;intro hr)
 |with_reducible intro _
 |simp only[go_sem,simprocAttr]
 |(with_reducible first|apply Xk|apply Xj|apply XA|apply XF|apply XG)
 |(refine XB ?_ ?_;.first|assumption|omega)
 |(with_reducible first|refine CallX.c ?_ _|refine OK.c hr hw ?_ (λy hr=>?_) _|refine OK.d hr hw ?_ (λy hr=>?_) _)
 |refine dc 10 2 hf 2 [(0,448,[]),(1,448,[]),(0,48,[]),(4,48,[]),(12,48,[]),(31,0,[]),(63,0,[]),(127,2048,[]),(127,1025,[]),(255,2048,[]),(1023,0,[])] ?_
 |(refine Xu hr ?_;rintro rfl;with_reducible refine X4 ?_)
 |exact Za hr
 |exact Yb hr
 |(apply Yc;assumption)
 |fail)
end Go.Sx
