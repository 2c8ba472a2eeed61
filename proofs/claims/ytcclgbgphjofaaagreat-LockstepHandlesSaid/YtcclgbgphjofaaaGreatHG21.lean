import Derived.Test.YtcclgbgphjofaaaGreatHG20
set_option linter.all false
namespace Go.Sx
open Go.Proofs
set_option maxRecDepth 10000
set_option maxHeartbeats 100000000
def g35:(∀N a0 a1,OK (Qeg N a0 a1) 142 [.agg (e38 a0),.agg (e84 a1)] [] (λr=>.tup [.agg (e38 r.1),vu r.2.1,vi r.2.2]) λr=>[])/\(∀N a0 a1,OK (QbQ N a0 a1) 148 [.agg (e38 a0),vu a1] [] (λr=>.tup [vu r.1,vi r.2]) λr=>[])/\(∀N a0 a1 a2,OK (Qc4 N a0 a1 a2) 81 [.agg (e38 a0),vi a1,vu a2] [] (λr=>.tup [.agg (e38 r.1),vu r.2.1,vi r.2.2]) λr=>[])/\(∀N a0 a1 a2,OK (QdN N a0 a1 a2) 82 [.agg (e38 a0),vi a1,vu a2] [] (λr=>.tup [.agg (e38 r.1),vu r.2.1,vi r.2.2]) λr=>[])/\(∀N a0,OK (Qf0 N a0) 15 [.agg (e38 a0)] [] (λr=>.v (.bool r)) λr=>[]):=by
 refine⟨λN _ _=>rk Tryz.f142 ?_,λN _ _=>rk Tryz.f148 ?_,λN _ _ _=>rk Tryz.f81 ?_,λN _ _ _=>rk Tryz.f82 ?_,λN _=>rk Tryz.f15 ?_⟩<;>(rintro _ hw r hr C _ rfl hwf hf;simp only[Tryz.f142,Tryz.f148,Tryz.f81,Tryz.f82,Tryz.f15,Option.get!];(first|rw[Qeg]at hr|rw[QbQ]at hr|rw[Qc4]at hr|rw[QdN]at hr|rw[Qf0]at hr);repeat' first
 |(refine El.el hr ?_;intro hr)
 |(with_reducible intro h;refine XH hr h ?_;intro hr)
 |with_reducible intro _
 |simp only[go_sem,simprocAttr]
 |(with_reducible first|apply Xk|apply Xj|apply XA|apply XF|apply XG)
 |(refine XB ?_ ?_;.first|assumption|omega)
 |(with_reducible first|refine CallX.c ?_ _|refine OK.c hr hw ?_ (λy hr=>?_) _|refine OK.d hr hw ?_ (λy hr=>?_) _)
 |refine dc 15 3 hf 33 [(0,508,[[],[2560]]),(1,508,[[],[2560]]),(0,51,[]),(4,51,[]),(0,15,[]),(16,15,[]),(60,3,[]),(124,3,[[2560],[]]),(252,3,[[2560],[]]),(511,0,[]),(1023,0,[])] ?_
 |(refine Xu hr ?_;rintro rfl;with_reducible refine X4 ?_)
 |exact Za hr
 |exact Yb hr
 |(apply Yc;assumption)
 |fail)
abbrev QmH:=g35.1
abbrev QmI:=g35.2.1
abbrev QlE:=g35.2.2.1
abbrev QlF:=g35.2.2.2.1
abbrev Qn2:=g35.2.2.2.2
attribute [instance] QmH QmI QlE QlF Qn2
end Go.Sx
