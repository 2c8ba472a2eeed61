import Derived.Test.YtcclgbgphjofaaaGreatHG21
set_option linter.all false
namespace Go.Sx
open Go.Proofs
set_option maxRecDepth 10000
set_option maxHeartbeats 100000000
def g36:(∀N a0 a1 a2 a3,OK (QdK N a0 a1 a2 a3) 77 [.agg (e38 a0),vi a1,vu a2,vu a3] [] (λr=>.tup [.agg (e38 r.1),vu r.2.1,vi r.2.2]) λr=>[])/\(∀N a0 a1 a2 a3,OK (QcS N a0 a1 a2 a3) 144 [.agg (e38 a0),vu a1,vu a2,.v (.bool a3)] [] (λr=>.tup [vu r.1,vi r.2.1,vi r.2.2]) λr=>[])/\(∀N a0 a1 a2 a3,OK (Qcv N a0 a1 a2 a3) 79 [.agg (e38 a0),vi a1,vu a2,vu a3] [] (λr=>.tup [.agg (e38 r.1),vu r.2.1,vi r.2.2]) λr=>[])/\(∀N a0 a1 a2,OK (Qde N a0 a1 a2) 80 [.agg (e38 a0),vi a1,vu a2] [] (λr=>.tup [.agg (e38 r.1),vu r.2.1,vi r.2.2]) λr=>[])/\(∀N a0 a1 a2,OK (QeM N a0 a1 a2) 83 [.agg (e38 a0),vi a1,vu a2] [] (λr=>.tup [.agg (e38 r.1),vu r.2.1,vi r.2.2]) λr=>[]):=by
 refine⟨λN _ _ _ _=>rk Tryz.f77 ?_,λN _ _ _ _=>rk Tryz.f144 ?_,λN _ _ _ _=>rk Tryz.f79 ?_,λN _ _ _=>rk Tryz.f80 ?_,λN _ _ _=>rk Tryz.f83 ?_⟩<;>(rintro _ hw r hr C _ rfl hwf hf;simp only[Tryz.f77,Tryz.f144,Tryz.f79,Tryz.f80,Tryz.f83,Option.get!];(first|rw[QdK]at hr|rw[QcS]at hr|rw[Qcv]at hr|rw[Qde]at hr|rw[QeM]at hr);repeat' first
 |(refine El.el hr ?_;intro hr)
 |(with_reducible intro h;refine XH hr h ?_;intro hr)
 |with_reducible intro _
 |simp only[go_sem,simprocAttr]
 |(with_reducible first|apply Xk|apply Xj|apply XA|apply XF|apply XG)
 |(refine XB ?_ ?_;.first|assumption|omega)
 |(with_reducible first|refine CallX.c ?_ _|refine OK.c hr hw ?_ (λy hr=>?_) _)
 |refine dc 79 9 hf 46 [(0,14,[]),(0,1,[[],[512]]),(2,1,[[],[512]]),(6,1,[[],[512]]),(1,14,[[512],[]]),(31,0,[]),(63,0,[])] ?_
 |refine dc 79 10 hf 50 [(0,14,[]),(0,1,[[],[512]]),(2,1,[[],[512]]),(6,1,[[],[512]]),(1,14,[[512],[]]),(31,0,[]),(63,0,[])] ?_
 |(refine Xu hr ?_;rintro rfl;with_reducible refine X4 ?_)
 |exact Za hr
 |exact Yb hr
 |(apply Yc;assumption)
 |fail)
abbrev QlG:=g36.1
abbrev QmJ:=g36.2.1
abbrev QmK:=g36.2.2.1
abbrev QkX:=g36.2.2.2.1
abbrev QnD:=g36.2.2.2.2
attribute [instance] QlG QmJ QmK QkX QnD
end Go.Sx
