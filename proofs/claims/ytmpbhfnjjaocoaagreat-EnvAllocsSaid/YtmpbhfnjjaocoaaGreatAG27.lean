import Derived.Test.YtmpbhfnjjaocoaaGreatAG26
set_option linter.all false
namespace Go.Sx
open Go.Proofs
set_option maxRecDepth 10000
set_option maxHeartbeats 100000000
def g43:(∀N a0 a1 a2 a3 a4,OK (Qeq N a0 a1 a2 a3 a4) 176 [.agg (e38 a0),vi a1,vu a2,vu a3,vu a4] [] (λr=>.tup [.agg (e38 r.1),vu r.2.1,vi r.2.2]) λr=>[])/\(∀N a0 a1,OK (Qg3 N a0 a1) 12 [.agg (e38 a0),.agg (e51 a1)] [] (λr=>.tup [.agg (e38 r.1),vu r.2.1,vi r.2.2]) λr=>[]):=by
 refine⟨λN _ _ _ _ _=>rk Tryz.f176 [.cell 10 38,.tmp 11,.tmp 12] [] 86 ?_,λN _ _=>rk Tryz.f12 [.cell 4 38,.tmp 5,.tmp 6] [] 62 ?_⟩<;>(rintro _ hw r hr C _ rfl hwf hf;simp only[Tryz.f176,Tryz.f12,Option.get!];(first|rw[Qeq]at hr|rw[Qg3]at hr);repeat' first
 |(refine El.el hr ?_;clear hr;intro hr)
 |(with_reducible intro h;refine XB hr h ?_;clear hr;intro hr)
 |with_reducible intro _
 |simp only[go_sem,simprocAttr]
 |(with_reducible first|apply Xi|apply Xh|apply Xs)
 |(refine Xt ?_ ?_;.first|assumption|omega)
 |(with_reducible first|refine CallX.c ?_ _|refine OK.c hr hw ?_ (λy hr=>?_) _)
 |(refine Xn hr ?_;rintro rfl;with_reducible refine XP ?_)
 |exact Yw hr
 |fail)
abbrev Qn3:=g43.1
abbrev QpO:=g43.2
attribute [instance] Qn3 QpO
end Go.Sx
