import Derived.Test.YtgcneehkconghaaGreatDoorBF
import Derived.Test.YtgcneehkconghaaGreatDoorBG6
import Derived.Test.YtgcneehkconghaaGreatDoorBG28
import Derived.Test.YtgcneehkconghaaGreatDoorBG31
import Derived.Test.YtgcneehkconghaaGreatDoorBG32
set_option linter.all false
namespace Go.Sx
open Go.Proofs
set_option maxRecDepth 10000
set_option maxHeartbeats 100000000
instance QkG:∀ N (a0:List Int) (a1:Int) (a2:Int) (a3:Int),OK (QbV N a0 a1 a2 a3) 4 [.isl 3 1 (a0.map e3),.v (.int .u64 a1),.v (.int .u64 a2),.v (.int .i64 a3)] [] (λ r=>.v (.bool r)) λ r=>[]:=by
 refine λ N _ _ _ _=>rn Tryz.f4 [.tmp 8] [] 56 (by kernel_rfl) ?_<;>(rintro _ hw r hr C _ rfl hwf hf;simp only[Tryz.f4,Option.get!];(rw[QbV] at hr);repeat' first
 |(refine El.el hr ?_;intro hr)
 |(with_reducible intro h;refine Xw hr h ?_;intro hr)
 |with_reducible intro _
 |simp only[go_sem,simprocAttr,hl3,XQ]
 |(with_reducible first|apply Xg|apply Xf|apply Xo|apply Xt|apply Xu)
 |((first|with_reducible refine Yb hr (by assumption) ?_ ?_|(with_reducible refine X7 hr ?_ ?_;rotate_left;intro p;rotate_right));(·simp only[go_sem,simprocAttr]);intro hp hn hd hr;(try have hl3:=hd _ e3);(try simp only[go_sem,simprocAttr] at hl3);(try have XQ:=hd _ e39);(try simp only[go_sem,simprocAttr] at XQ))
 |(refine Xp ?_ ?_;·first|assumption|omega)
 |(with_reducible first|refine CallX.c ?_ _|refine OK.c hr hw ?_ (λ y hr=>?_) _|refine IX hr hw ?_ (λ y hr=>?_) _)
 |refine db 4 4 hf 12 [(0,536346625,[[],[768]]),(1,536346625,[[],[768]]),(0,536215553,[[],[768]]),(0,432930817,[[],[768]]),(8,432930817,[[],[768]]),(0,415105025,[[],[768]]),(0,410910721,[[],[768]]),(96,406716417,[[],[768]]),(248,403570689,[[],[768]]),(504,403570689,[[],[768]]),(0,134086657,[[],[768]]),(1024,134086657,[[],[768]]),(4095,1,[[],[768]]),(8191,1,[[],[768]]),(16383,6442450945,[[],[768]]),(16383,5368709121,[[],[768]]),(16383,3221225475,[[],[768]]),(0,8589869056,[[768],[]]),(163839,6442450944,[[768],[]]),(458751,4294967296,[]),(1048575,0,[])] rfl rfl (by kernel_rfl) ?_ _
 |(refine Xn hr ?_;rintro rfl;with_reducible refine XF ?_)
 |exact Yj hr
 |fail)
end Go.Sx
