import Derived.Test.YtmpbhfnjjaocoaaGreatAG30
set_option linter.all false
namespace Go.Sx
open Go.Proofs
set_option maxRecDepth 10000
set_option maxHeartbeats 100000000
instance Qqc:∀N a0 a1 a2,OK (QhO N a0 a1 a2) 5 [.agg (e38 a0),s3 a1,s3 a2] [] (λr=>s38 r) λr=>[]:=by
 refineλN _ _ _=>rk Tryz.f5 [.tmp 6] [] 26 ?_<;>(rintro _ hw r hr C _ rfl hwf hf;have hse:=@Zw _ hw;simp only[Tryz.f5,Option.get!];(rw[QhO]at hr);repeat' first
 |(refine El.el hr ?_;clear hr;intro hr)
 |(with_reducible intro h;refine XB hr h ?_;clear hr;intro hr)
 |with_reducible intro _
 |simp only[go_sem,simprocAttr,hse]
 |(with_reducible first|apply Xi|apply Xh|apply Xs|apply Xq|apply Xr)
 |(refine Xt ?_ ?_;.first|assumption|omega)
 |(with_reducible first|refine CallX.c ?_ _|refine OK.c hr hw ?_ (λy hr=>?_) _|refine IM hr hw ?_ (λy hr=>?_) _)
 |refine dc 5 2 hf 12 [(0,62,[[],[1024]]),(0,29,[[],[1024]]),(0,3,[]),(4,3,[]),(12,3,[[1024],[]]),(30,1,[[1024],[]]),(63,0,[[1152],[]]),(127,0,[])] ?_
 |(refine Xn hr ?_;rintro rfl;with_reducible refine XP ?_)
 |exact Yw hr
 |fail)
end Go.Sx
