import Derived.Test.YtmpbhfnjjaocoaaGreatAG27
set_option linter.all false
namespace Go.Sx
open Go.Proofs
set_option maxRecDepth 10000
set_option maxHeartbeats 100000000
def g44:(∀N a0 a1 a2 a3 a4,OK (QeZ N a0 a1 a2 a3 a4) 104 [.agg (e38 a0),vi a1,vu a2,vu a3,vu a4] [] (λr=>.tup [.agg (e38 r.1),vu r.2.1,vi r.2.2]) λr=>[])/\(∀N,OK (QhF N) 9 [] [] (λr=>.v (.bool r)) λr=>[]):=by
 refine⟨λN _ _ _ _ _=>rk Tryz.f104 [.cell 10 38,.tmp 11,.tmp 12] [] 105 ?_,λN=>rk Tryz.f9 [.tmp 0] [] 32 ?_⟩<;>(rintro _ hw r hr C _ rfl hwf hf;simp only[Tryz.f104,Tryz.f9,Option.get!];(first|rw[QeZ]at hr|rw[QhF]at hr);repeat' first
 |(refine El.el hr ?_;clear hr;intro hr)
 |(with_reducible intro h;refine XB hr h ?_;clear hr;intro hr)
 |with_reducible intro _
 |simp only[go_sem,simprocAttr]
 |(with_reducible first|apply Xi|apply Xh|apply Xs)
 |(refine Xt ?_ ?_;.first|assumption|omega)
 |(with_reducible first|refine CallX.c ?_ _|refine OK.c hr hw ?_ (λy hr=>?_) _)
 |(refine Xn hr ?_;rintro rfl;with_reducible refine XP ?_)
 |exact Yw hr
 |fail)
abbrev Qpf:=g44.1
abbrev Qn4:=g44.2
attribute [instance] Qpf Qn4
end Go.Sx
