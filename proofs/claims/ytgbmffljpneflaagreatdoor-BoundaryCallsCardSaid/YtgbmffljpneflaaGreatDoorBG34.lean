import Derived.Test.YtgbmffljpneflaaGreatDoorBG33
set_option linter.all false
namespace Go.Sx
open Go.Proofs
set_option maxRecDepth 10000
set_option maxHeartbeats 100000000
instance QrC:∀N,OK (QhE N) 12 [] [] (λr=>.v (.bool r)) λr=>[]:=by
 refineλN=>rk Tryz.f12 ?_<;>(rintro _ hw r hr C _ rfl hwf hf;simp only[Tryz.f12,Option.get!];(rw[QhE]at hr);repeat' first
 |(refine El.el hr ?_;clear hr;intro hr)
 |(with_reducible intro h;refine Xx hr h ?_;clear hr;intro hr)
 |with_reducible intro _
 |simp only[go_sem,simprocAttr]
 |(with_reducible first|apply Xi|apply Xh|apply Xs)
 |(refine Xt ?_ ?_;.first|assumption|omega)
 |(with_reducible first|refine CallX.c ?_ _|refine OK.c hr hw ?_ (λy hr=>?_) _)
 |(refine Xn hr ?_;rintro rfl;with_reducible refine XK ?_)
 |exact Yr hr
 |fail)
end Go.Sx
