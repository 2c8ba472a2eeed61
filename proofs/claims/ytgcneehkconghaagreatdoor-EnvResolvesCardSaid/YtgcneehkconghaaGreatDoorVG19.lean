import Derived.Test.YtgcneehkconghaaGreatDoorVF
import Derived.Test.YtgcneehkconghaaGreatDoorVG1
import Derived.Test.YtgcneehkconghaaGreatDoorVG2
import Derived.Test.YtgcneehkconghaaGreatDoorVG7
import Derived.Test.YtgcneehkconghaaGreatDoorVG8
import Derived.Test.YtgcneehkconghaaGreatDoorVG9
import Derived.Test.YtgcneehkconghaaGreatDoorVG11
import Derived.Test.YtgcneehkconghaaGreatDoorVG12
import Derived.Test.YtgcneehkconghaaGreatDoorVG14
import Derived.Test.YtgcneehkconghaaGreatDoorVG17
set_option linter.all false
namespace Go.Sx
open Go.Proofs
set_option maxRecDepth 10000
set_option maxHeartbeats 100000000
instance QnI:∀ N (a0:WM) (a1:Int) (a2:Int) (a3:Int) (a4:Int) (a5:Ol),OK (QeT N a0 a1 a2 a3 a4 a5) 44 [.agg (e43 a0),.v (.int .i64 a1),.v (.int .u64 a2),.v (.int .u64 a3),.v (.int .u64 a4),.agg (Xou a5)] [] (λ r=>.tup [.agg (e43 r.1),.v (.int .u64 r.2.1),.v (.int .i64 r.2.2)]) λ r=>[]:=by
 refine λ N _ _ _ _ _ _=>rn Tryz.f44 [.cell 12 43,.tmp 13,.tmp 14] [] 234 (by kernel_rfl) ?_<;>(rintro _ hw r hr C _ rfl hwf hf;simp only[Tryz.f44,Option.get!];(rw[QeT] at hr);repeat' first
 |(refine El.el hr ?_;intro hr)
 |(with_reducible intro h;refine XA hr h ?_;intro hr)
 |with_reducible intro _
 |simp only[go_sem,simprocAttr,XR,Z5]
 |(with_reducible first|apply Xk|apply Xj|apply Xo|apply Xt|apply Xu)
 |((first|with_reducible refine Ym hr (by assumption) ?_ ?_|(with_reducible refine Yi hr ?_ ?_;rotate_left;intro p;rotate_right));(·simp only[go_sem,simprocAttr]);intro hp hn hd hr;(try have XR:=hd _ e39);(try simp only[go_sem,simprocAttr] at XR);(try have Z5:=hd _ XaB);(try simp only[go_sem,simprocAttr] at Z5))
 |(refine Xp ?_ ?_;·first|assumption|omega)
 |(with_reducible first|refine CallX.c ?_ _|refine OK.c hr hw ?_ (λ y hr=>?_) _|refine Og hr hw ?_ (λ y hr=>?_) _)
 |refine db 44 16 hf 76 [(0,1014,[[4864],[5312,5440]]),(0,1009,[[],[4864,5312,5440]]),(2,1009,[[],[4864,5312,5440]]),(7,1008,[[4864],[5312,5440]]),(0,239,[[],[4864,5312]]),(0,31,[[],[4864]]),(32,31,[[],[4864]]),(96,31,[[5312],[4864]]),(240,15,[[],[4864]]),(496,15,[[5312,5440],[4864]]),(1023,0,[[4864],[]]),(2047,0,[]),(4095,0,[[384],[]])] rfl rfl (by kernel_rfl) ?_ _
 |refine db 44 27 hf 142 [(0,2046,[]),(0,281,[]),(2,281,[]),(0,263,[]),(8,263,[]),(30,257,[]),(62,257,[]),(126,257,[]),(0,255,[]),(510,1,[]),(1022,1,[]),(2047,0,[]),(4095,0,[]),(8191,8192,[]),(8191,4096,[[],[384]]),(16383,8192,[[384],[]]),(65535,0,[])] rfl rfl (by kernel_rfl) ?_ _
 |(refine Xn hr ?_;rintro rfl;with_reducible refine XM ?_)
 |exact Yw hr
 |fail)
end Go.Sx
