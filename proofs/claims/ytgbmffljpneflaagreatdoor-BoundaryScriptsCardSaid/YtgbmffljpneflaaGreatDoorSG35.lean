import Derived.Test.YtgbmffljpneflaaGreatDoorSG34
set_option linter.all false
namespace Go.Sx
open Go.Proofs
set_option maxRecDepth 10000
set_option maxHeartbeats 100000000
instance Qrl:∀N,OK (Qij N) 12 [] [] (λr=>.v (.bool r)) λr=>[]:=by
 refineλN=>rk Tryz.f12 ?_<;>(rintro _ hw r hr C _ rfl hwf hf;simp only[Tryz.f12,Option.get!];(rw[Qij]at hr);repeat' first
 |(refine El.el hr ?_;clear hr;intro hr)
 |(with_reducible intro h;refine Xv hr h ?_;clear hr;intro hr)
 |with_reducible intro _
 |simp only[go_sem,simprocAttr]
 |(with_reducible first|apply Xi|apply Xh|apply Xo)
 |(refine Xp ?_ ?_;.first|assumption|omega)
 |(with_reducible first|refine CallX.c ?_ _|refine OK.c hr hw ?_ (λy hr=>?_) _)
 |(refine Xm hr ?_;rintro rfl;with_reducible refine XI ?_)
 |exact Ym hr
 |fail)
end Go.Sx
