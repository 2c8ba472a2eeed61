import Derived.Test.YtgcneehkconghaaGreatDoorBF
import Derived.Test.YtgcneehkconghaaGreatDoorBG0
import Derived.Test.YtgcneehkconghaaGreatDoorBG1
import Derived.Test.YtgcneehkconghaaGreatDoorBG3
import Derived.Test.YtgcneehkconghaaGreatDoorBG5
import Derived.Test.YtgcneehkconghaaGreatDoorBG8
import Derived.Test.YtgcneehkconghaaGreatDoorBG10
import Derived.Test.YtgcneehkconghaaGreatDoorBG19
import Derived.Test.YtgcneehkconghaaGreatDoorBG22
set_option linter.all false
namespace Go.Sx
open Go.Proofs
set_option maxRecDepth 10000
set_option maxHeartbeats 100000000
theorem g34:(∀ N (a0:Uh),OK (Qch N a0) 23 [.agg (e38 a0)] [] (λ r=>.v (.bool r)) λ r=>[])/\(∀ N (a0:Wo) (a1:List UE) (a2:Int),OK (Qdb N a0 a1 a2) 205 [.agg (e27 a0),.isl 119 2 (a1.map YT),.v (.int .u64 a2)] [] (λ r=>.tup [.agg (e27 r.1),.isl 119 2 (r.2.1.map YT),.v (.int .i64 r.2.2)]) λ r=>[])/\(∀ N (a0:Wo) (a1:List UE) (a2:Int),OK (Qfj N a0 a1 a2) 206 [.agg (e27 a0),.isl 119 2 (a1.map YT),.v (.int .u64 a2)] [] (λ r=>.tup [.agg (e27 r.1),.isl 119 2 (r.2.1.map YT),.v (.int .u64 r.2.2.1),.v (.int .i64 r.2.2.2)]) λ r=>[])/\(∀ N (a0:Wo),OK (QfC N a0) 123 [.agg (e27 a0)] [] (λ r=>.v (.bool r)) λ r=>[]):=by
 refine ⟨λ N _=>rn Tryz.f23 [.tmp 2] [] 52 (by kernel_rfl) ?_,λ N _ _ _=>rn Tryz.f205 [.cell 6 27,.tmp 7,.tmp 8] [] 54 (by kernel_rfl) ?_,λ N _ _ _=>rn Tryz.f206 [.cell 6 27,.tmp 7,.tmp 8,.tmp 9] [] 77 (by kernel_rfl) ?_,λ N _=>rn Tryz.f123 [.tmp 2] [] 7 (by kernel_rfl) ?_⟩<;>(rintro _ hw r hr C _ rfl hwf hf;simp only[Tryz.f23,Tryz.f205,Tryz.f206,Tryz.f123,Option.get!];(first|rw[Qch] at hr|rw[Qdb] at hr|rw[Qfj] at hr|rw[QfC] at hr);repeat' first
 |(refine El.el hr ?_;intro hr)
 |(with_reducible intro h;refine Xw hr h ?_;intro hr)
 |with_reducible intro _
 |simp only[go_sem,simprocAttr,Zd,Wz,WM,Uv]
 |(with_reducible first|apply Xg|apply Xf|apply Xo|apply Xt|apply Xu)
 |((first|with_reducible refine Yb hr (by assumption) ?_ ?_|(with_reducible refine X7 hr ?_ ?_;rotate_left;intro p;rotate_right));(·simp only[go_sem,simprocAttr,Wz,WM,Uv]);intro hp hn hd hr;(try have Zd:=hd _ YT);(try simp only[go_sem,simprocAttr] at Zd))
 |(refine Xp ?_ ?_;·first|assumption|omega)
 |(with_reducible first|refine CallX.c ?_ _|refine OK.c hr hw ?_ (λ y hr=>?_) _|refine IX hr hw ?_ (λ y hr=>?_) _)
 |refine db 23 6 hf 34 [(0,54,[[2176],[]]),(0,49,[[],[2176]]),(2,49,[[],[2176]]),(7,48,[[2176],[]]),(0,15,[[],[2176]]),(16,15,[[],[2176]]),(63,0,[]),(127,0,[[2176],[]]),(255,0,[])] rfl rfl (by kernel_rfl) ?_ _
 |refine db 23 7 hf 42 [(0,508,[[],[2176,3136]]),(1,508,[[],[2176,3136]]),(0,107,[]),(0,103,[]),(12,99,[[2176],[]]),(0,31,[[],[2176]]),(32,31,[[],[2176]]),(124,3,[[3136],[]]),(252,3,[[2176],[]]),(511,0,[]),(1023,0,[])] rfl rfl (by kernel_rfl) ?_ _
 |refine db 205 11 hf 42 [(0,122,[]),(0,121,[]),(3,120,[]),(0,55,[]),(0,15,[]),(16,15,[]),(56,7,[]),(127,0,[[1600],[]]),(255,0,[])] rfl rfl (by kernel_rfl) ?_ _
 |(refine Xn hr ?_;rintro rfl;with_reducible refine XF ?_)
 |exact Yj hr
 |with_reducible refine Xly (λ hi=>?_) (λ hi=>?_)
 |(exfalso;omega)
 |fail)
@[reducible,instance] def Qm4:=g34.1
@[reducible,instance] def QlF:=g34.2.1
@[reducible,instance] def QoF:=g34.2.2.1
@[reducible,instance] def Qn9:=g34.2.2.2
end Go.Sx
