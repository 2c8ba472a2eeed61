import Derived.Test.YtgbmffljpneflaaGreatDoorBG25
set_option linter.all false
namespace Go.Sx
open Go.Proofs
set_option maxRecDepth 10000
set_option maxHeartbeats 100000000
def g50:(∀N a0 a1 a2 a3 a4,OK (Qcx N a0 a1 a2 a3 a4) 26 [.agg (e38 a0),vi a1,vu a2,vu a3,vu a4] [] (λr=>.tup [.agg (e38 r.1),vu r.2.1,vi r.2.2]) λr=>[])/\(∀N a0 a1,OK (Qg7 N a0 a1) 216 [.agg (e38 a0),.agg (ZS a1)] [] (λr=>.tup [.agg (e38 r.1),vu r.2.1,vi r.2.2]) λr=>[]):=by
 refine⟨λN _ _ _ _ _=>rk Tryz.f26 ?_,λN _ _=>rk Tryz.f216 ?_⟩<;>(rintro _ hw r hr C _ rfl hwf hf;simp only[Tryz.f26,Tryz.f216,Option.get!];(first|rw[Qcx]at hr|rw[Qg7]at hr);repeat' first
 |(refine El.el hr ?_;clear hr;intro hr)
 |(with_reducible intro h;refine Xx hr h ?_;clear hr;intro hr)
 |with_reducible intro _
 |simp only[go_sem,simprocAttr]
 |(with_reducible first|apply Xi|apply Xh|apply Xs)
 |(refine Xt ?_ ?_;.first|assumption|omega)
 |(with_reducible first|refine CallX.c ?_ _|refine OK.c hr hw ?_ (λy hr=>?_) _)
 |(refine Xn hr ?_;rintro rfl;with_reducible refine XK ?_)
 |exact Yr hr
 |fail)
abbrev Qpp:=g50.1
abbrev Qrg:=g50.2
attribute [instance] Qpp Qrg
end Go.Sx
