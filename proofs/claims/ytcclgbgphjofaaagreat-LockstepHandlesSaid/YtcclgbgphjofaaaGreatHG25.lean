import Derived.Test.YtcclgbgphjofaaaGreatHG24
set_option linter.all false
namespace Go.Sx
open Go.Proofs
set_option maxRecDepth 10000
set_option maxHeartbeats 100000000
instance Qol:∀N a0 a1 a2 a3 a4,OK (Qad N a0 a1 a2 a3 a4) 34 [.agg (e38 a0),vi a1,vu a2,vu a3,vu a4] [] (λr=>.tup [.agg (e38 r.1),vu r.2.1,vi r.2.2]) λr=>[]:=by
 refineλN _ _ _ _ _=>rk Tryz.f34 ?_<;>(rintro _ hw r hr C _ rfl hwf hf;simp only[Tryz.f34,Option.get!];(rw[Qad]at hr);repeat' first
 |(refine El.el hr ?_;intro hr)
 |(with_reducible intro h;refine XH hr h ?_;intro hr)
 |with_reducible intro _
 |simp only[go_sem,simprocAttr]
 |(with_reducible first|apply Xk|apply Xj|apply XA)
 |(refine XB ?_ ?_;.first|assumption|omega)
 |(with_reducible first|refine CallX.c ?_ _|refine OK.c hr hw ?_ (λy hr=>?_) _)
 |(refine Xu hr ?_;rintro rfl;with_reducible refine X4 ?_)
 |exact Za hr
 |exact Yb hr
 |(apply Yc;assumption)
 |fail)
end Go.Sx
