import Derived.Test.YtgcneehkconghaaGreatDoorVF
import Derived.Test.YtgcneehkconghaaGreatDoorVG0
import Derived.Test.YtgcneehkconghaaGreatDoorVG5
import Derived.Test.YtgcneehkconghaaGreatDoorVG7
import Derived.Test.YtgcneehkconghaaGreatDoorVG8
import Derived.Test.YtgcneehkconghaaGreatDoorVG9
import Derived.Test.YtgcneehkconghaaGreatDoorVG10
import Derived.Test.YtgcneehkconghaaGreatDoorVG11
import Derived.Test.YtgcneehkconghaaGreatDoorVG12
import Derived.Test.YtgcneehkconghaaGreatDoorVG13
set_option linter.all false
namespace Go.Sx
open Go.Proofs
set_option maxRecDepth 10000
set_option maxHeartbeats 100000000
theorem g20:(∀ N (a0:Wn) (a1:Int),OK (Qbq N a0 a1) 201 [.agg (e27 a0),.v (.int .u64 a1)] [] (λ r=>.tup [.agg (e80 r.1),.v (.int .i64 r.2)]) λ r=>[])/\(∀ N (a0:Wn) (a1:Wy),OK (QbM N a0 a1) 280 [.agg (e27 a0),.agg (e80 a1)] [] (λ r=>.tup [.agg (e27 r.1),.v (.int .u64 r.2.1),.v (.int .i64 r.2.2)]) λ r=>[])/\(∀ N (a0:WM) (a1:Int),OK (QdU N a0 a1) 287 [.agg (e43 a0),.v (.int .u64 a1)] [] (λ r=>.tup [.v (.int .u64 r.1),.v (.int .i64 r.2)]) λ r=>[])/\(∀ N (a0:WM) (a1:Int) (a2:Int),OK (Qe0 N a0 a1 a2) 209 [.agg (e43 a0),.v (.int .i64 a1),.v (.int .u64 a2)] [] (λ r=>.v (.int .i64 r)) λ r=>[])/\(∀ N (a0:WM) (a1:Int) (a2:Int),OK (Qfq N a0 a1 a2) 211 [.agg (e43 a0),.v (.int .i64 a1),.v (.int .u64 a2)] [] (λ r=>.v (.int .i64 r)) λ r=>[])/\(∀ N (a0:List Int) (c0:List Int),OK (QaO N a0 c0) 134 [.isl 39 1 (a0.map e39),.clo (.func 135) [] [.ept 1000000 0 1 0 0]] [.arr true 24 1 [[.isl 39 1 (c0.map e39)]] 0] (λ r=>.v (.bool r)) λ r=>[.arr true 24 1 [[.isl 39 1 (c0.map e39)]] 0])/\(∀ N (a0:W6),OK (Qgh N a0) 55 [.agg (e38 a0)] [] (λ r=>.isl 39 1 (r.map e39)) λ r=>[])/\(∀ N (a0:WI) (a1:Int) (a2:Int),OK (Qf5 N a0 a1 a2) 22 [.agg (e35 a0),.v (.int .i64 a1),.v (.int .i64 a2)] [] (λ r=>.tup [.v (.int .u64 r.1),.v (.int .i64 r.2)]) λ r=>[]):=by
 refine ⟨λ N _ _=>rn Tryz.f201 [.cell 4 80,.tmp 5] [] 31 (by kernel_rfl) ?_,λ N _ _=>rn Tryz.f280 [.cell 4 27,.tmp 5,.tmp 6] [] 58 (by kernel_rfl) ?_,λ N _ _=>rn Tryz.f287 [.tmp 4,.tmp 5] [] 22 (by kernel_rfl) ?_,λ N _ _ _=>rn Tryz.f209 [.tmp 6] [] 36 (by kernel_rfl) ?_,λ N _ _ _=>rn Tryz.f211 [.tmp 6] [] 46 (by kernel_rfl) ?_,λ N _ _=>rn Tryz.f134 [.tmp 4] [] 9 (by kernel_rfl) ?_,λ N _=>rn Tryz.f55 [.tmp 2] [] 15 (by kernel_rfl) ?_,λ N _ _ _=>rn Tryz.f22 [.tmp 6,.tmp 7] [] 22 (by kernel_rfl) ?_⟩<;>(rintro _ hw r hr C _ rfl hwf hf;simp only[Tryz.f201,Tryz.f280,Tryz.f287,Tryz.f209,Tryz.f211,Tryz.f134,Tryz.f55,Tryz.f22,Option.get!];(first|rw[Qbq] at hr|rw[QbM] at hr|rw[QdU] at hr|rw[Qe0] at hr|rw[Qfq] at hr|rw[QaO] at hr|rw[Qgh] at hr|rw[Qf5] at hr);repeat' first
 |(refine El.el hr ?_;intro hr)
 |(with_reducible intro h;refine XA hr h ?_;intro hr)
 |with_reducible intro _
 |simp only[go_sem,simprocAttr,YJ]
 |(with_reducible first|apply Xk|apply Xj|apply Xo|apply Xt|apply Xu)
 |((first|with_reducible refine Ym hr (by assumption) ?_ ?_|(with_reducible refine Yi hr ?_ ?_;rotate_left;intro p;rotate_right));(·simp only[go_sem,simprocAttr]);intro hp hn hd hr;(try have YJ:=hd _ Yz);(try simp only[go_sem,simprocAttr] at YJ))
 |(refine Xp ?_ ?_;·first|assumption|omega)
 |(with_reducible first|refine CallX.c ?_ _|refine OK.c hr hw ?_ (λ y hr=>?_) _|refine Og hr hw ?_ (λ y hr=>?_) _)
 |refine db 55 1 hf 3 [(0,1020,[]),(1,1020,[]),(0,355,[]),(4,355,[]),(12,355,[]),(0,287,[]),(32,287,[]),(124,259,[]),(0,255,[]),(508,3,[]),(1023,0,[[832],[]]),(2047,0,[[832],[]]),(4095,0,[])] rfl rfl (by kernel_rfl) ?_ _
 |(refine Xn hr ?_;rintro rfl;with_reducible refine XM ?_)
 |exact Yw hr
 |fail)
@[reducible,instance] def Qod:=g20.1
@[reducible,instance] def Qoe:=g20.2.1
@[reducible,instance] def QmA:=g20.2.2.1
@[reducible,instance] def Qln:=g20.2.2.2.1
@[reducible,instance] def QlP:=g20.2.2.2.2.1
@[reducible,instance] def Qhk:=g20.2.2.2.2.2.1
@[reducible,instance] def QnE:=g20.2.2.2.2.2.2.1
@[reducible,instance] def Qof:=g20.2.2.2.2.2.2.2
end Go.Sx
