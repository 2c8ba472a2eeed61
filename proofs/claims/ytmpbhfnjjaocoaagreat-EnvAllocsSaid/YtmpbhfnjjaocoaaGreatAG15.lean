import Derived.Test.YtmpbhfnjjaocoaaGreatAG12
import Derived.Test.YtmpbhfnjjaocoaaGreatAG13
set_option linter.all false
namespace Go.Sx
open Go.Proofs
set_option maxRecDepth 10000
set_option maxHeartbeats 100000000
def g23:(∀N a0 a1,OK (Qb0 N a0 a1) 254 [.agg (e27 a0),vu a1] [] (λr=>.tup [.agg (e51 r.1),vi r.2]) λr=>[])/\(∀N a0 a1,OK (QbW N a0 a1) 42 [.agg (e27 a0),.agg (e51 a1)] [] (λr=>.tup [.agg (e27 r.1),vu r.2.1,vi r.2.2]) λr=>[])/\(∀N a0 a1,OK (Qes N a0 a1) 300 [.agg (e65 a0),vu a1] [] (λr=>.tup [vu r.1,vi r.2]) λr=>[])/\(∀N a0 a1 a2,OK (QfS N a0 a1 a2) 264 [.agg (e65 a0),vi a1,vu a2] [] (λr=>vi r) λr=>[])/\(∀N a0 a1 a2,OK (Qgg N a0 a1 a2) 266 [.agg (e65 a0),vi a1,vu a2] [] (λr=>vi r) λr=>[])/\(∀N a0,OK (Qgu N a0) 19 [.agg (e38 a0)] [] (λr=>s58 r) λr=>[])/\(∀N a0 c0,OK (QaV N a0 c0) 119 [s58 a0,.clo (.func 120) [] [.ept 1000000 0 1 0 0]] [.arr true 24 1 [[s58 c0]] 0] (λr=>.v (.bool r)) λr=>[.arr true 24 1 [[s58 c0]] 0]):=by
 refine⟨λN _ _=>rk Tryz.f254 [.cell 4 51,.tmp 5] [] 31 ?_,λN _ _=>rk Tryz.f42 [.cell 4 27,.tmp 5,.tmp 6] [] 58 ?_,λN _ _=>rk Tryz.f300 [.tmp 4,.tmp 5] [] 22 ?_,λN _ _ _=>rk Tryz.f264 [.tmp 6] [] 36 ?_,λN _ _ _=>rk Tryz.f266 [.tmp 6] [] 46 ?_,λN _=>rk Tryz.f19 [.tmp 2] [] 15 ?_,λN _ _=>rk Tryz.f119 [.tmp 4] [] 9 ?_⟩<;>(rintro _ hw r hr C _ rfl hwf hf;have hse:=@Zw _ hw;simp only[Tryz.f254,Tryz.f42,Tryz.f300,Tryz.f264,Tryz.f266,Tryz.f19,Tryz.f119,Option.get!];(first|rw[Qb0]at hr|rw[QbW]at hr|rw[Qes]at hr|rw[QfS]at hr|rw[Qgg]at hr|rw[Qgu]at hr|rw[QaV]at hr);repeat' first
 |(refine El.el hr ?_;clear hr;intro hr)
 |(with_reducible intro h;refine XB hr h ?_;clear hr;intro hr)
 |with_reducible intro _
 |simp only[go_sem,simprocAttr,hse]
 |(with_reducible first|apply Xi|apply Xh|apply Xs|apply Xq|apply Xr)
 |(refine Xt ?_ ?_;.first|assumption|omega)
 |(with_reducible first|refine CallX.c ?_ _|refine OK.c hr hw ?_ (λy hr=>?_) _|refine IM hr hw ?_ (λy hr=>?_) _)
 |refine dc 19 1 hf 3 [(0,1020,[]),(1,1020,[]),(0,355,[]),(4,355,[]),(12,355,[]),(0,287,[]),(32,287,[]),(124,259,[]),(0,255,[]),(508,3,[]),(1023,0,[[832],[]]),(2047,0,[[832],[]]),(4095,0,[])] ?_
 |(refine Xn hr ?_;rintro rfl;with_reducible refine XP ?_)
 |exact Yw hr
 |fail)
abbrev QpF:=g23.1
abbrev QpG:=g23.2.1
abbrev QnM:=g23.2.2.1
abbrev QlU:=g23.2.2.2.1
abbrev QmI:=g23.2.2.2.2.1
abbrev Qo8:=g23.2.2.2.2.2.1
abbrev Qfh:=g23.2.2.2.2.2.2
attribute [instance] QpF QpG QnM QlU QmI Qo8 Qfh
end Go.Sx
