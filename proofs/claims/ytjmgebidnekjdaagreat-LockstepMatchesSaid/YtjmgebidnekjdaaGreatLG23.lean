import Derived.Test.YtjmgebidnekjdaaGreatLG22
set_option linter.all false
namespace Go.Sx
open Go.Proofs
set_option maxRecDepth 10000
set_option maxHeartbeats 100000000
def g38:(∀ N a0 a1,OK (Qch N a0 a1) 149 [.agg (e38 a0),.agg (e72 a1)] [] (λ r=>.tup [.agg (e38 r.1),vu r.2.1,vi r.2.2]) λ r=>[])/\(∀ N a0 a1,OK (QcY N a0 a1) 155 [.agg (e38 a0),vu a1] [] (λ r=>.tup [vu r.1,vi r.2]) λ r=>[])/\(∀ N a0 a1 a2,OK (Qc8 N a0 a1 a2) 94 [.agg (e38 a0),vi a1,vu a2] [] (λ r=>.tup [.agg (e38 r.1),vu r.2.1,vi r.2.2]) λ r=>[])/\(∀ N a0 a1 a2,OK (Qc9 N a0 a1 a2) 95 [.agg (e38 a0),vi a1,vu a2] [] (λ r=>.tup [.agg (e38 r.1),vu r.2.1,vi r.2.2]) λ r=>[])/\(∀ N a0,OK (Qgn N a0) 21 [.agg (e38 a0)] [] (λ r=>.v (.bool r)) λ r=>[]):=by
 refine ⟨λ N _ _=>rk Tryz.f149 [.cell 4 38,.tmp 5,.tmp 6] [] 50 ?_,λ N _ _=>rk Tryz.f155 [.tmp 4,.tmp 5] [] 22 ?_,λ N _ _ _=>rk Tryz.f94 [.cell 6 38,.tmp 7,.tmp 8] [] 105 ?_,λ N _ _ _=>rk Tryz.f95 [.cell 6 38,.tmp 7,.tmp 8] [] 74 ?_,λ N _=>rk Tryz.f21 [.tmp 2] [] 43 ?_⟩<;>(rintro _ hw r hr C _ rfl hwf hf;simp only[Tryz.f149,Tryz.f155,Tryz.f94,Tryz.f95,Tryz.f21,Option.get!];(first|rw[Qch] at hr|rw[QcY] at hr|rw[Qc8] at hr|rw[Qc9] at hr|rw[Qgn] at hr);repeat' first
 |(refine El.el hr ?_;intro hr)
 |(with_reducible intro h;refine Xx hr h ?_;intro hr)
 |with_reducible intro _
 |simp only[go_sem,simprocAttr]
 |(with_reducible first|apply Xh|apply Xg|apply Xr|apply Xt|apply Xu)
 |(refine Xs ?_ ?_;·first|assumption|omega)
 |(with_reducible first|refine CallX.c ?_ _|refine OK.c hr hw ?_ (λ y hr=>?_) _|refine Ol hr hw ?_ (λ y hr=>?_) _)
 |refine dc 21 3 hf 33 [(0,508,[[],[2560]]),(1,508,[[],[2560]]),(0,51,[]),(4,51,[]),(0,15,[]),(16,15,[]),(60,3,[]),(124,3,[[2560],[]]),(252,3,[[2560],[]]),(511,0,[]),(1023,0,[])] ?_
 |(refine Xo hr ?_;rintro rfl;with_reducible refine XP ?_)
 |exact Yw hr
 |exact XV hr
 |(apply XW;assumption)
 |fail)
abbrev Qnw:=g38.1
abbrev Qnx:=g38.2.1
abbrev Qmp:=g38.2.2.1
abbrev Qmq:=g38.2.2.2.1
abbrev QoY:=g38.2.2.2.2
attribute [instance] Qnw Qnx Qmp Qmq QoY
end Go.Sx
