import Derived.Test.YtgdhlnfcogcicaaGreatDoorTF
import Derived.Test.YtgdhlnfcogcicaaGreatDoorTG3
import Derived.Test.YtgdhlnfcogcicaaGreatDoorTG4
import Derived.Test.YtgdhlnfcogcicaaGreatDoorTG6
import Derived.Test.YtgdhlnfcogcicaaGreatDoorTG7
import Derived.Test.YtgdhlnfcogcicaaGreatDoorTG9
import Derived.Test.YtgdhlnfcogcicaaGreatDoorTG10
set_option linter.all false
namespace Go.Sx
open Go.Proofs
set_option maxRecDepth 10000
set_option maxHeartbeats 100000000
theorem g12:(∀ N (a0:Ir),OK (QbX N a0) 32 [.ept 1000000 0 2 0 0] [.arr true 51 2 [[.isl 3 1 (a0.L.map e3),.v (.int .i64 a0.at_)]] 0] (λ r=>.agg (e47 r.1)) λ r=>[.arr true 51 2 [[.isl 3 1 (r.2.L.map e3),.v (.int .i64 r.2.at_)]] 0])/\(∀ N (a0:Ws) (a1:Int),OK (Qcj N a0 a1) 186 [.agg (e29 a0),.v (.int .u64 a1)] [] (λ r=>.v (.int .i64 r)) λ r=>[])/\(∀ N (a0:Wm) (a1:Int),OK (Qbc N a0 a1) 46 [.agg (e36 a0),.v (.int .u64 a1)] [] (λ r=>.tup [.agg (e36 r.1),.v (.int .u64 r.2)]) λ r=>[])/\(∀ N (a0:Wz) (a1:Int) (a2:Int),OK (Qg2 N a0 a1 a2) 298 [.agg (e42 a0),.v (.int .i64 a1),.v (.int .i64 a2)] [] (λ r=>.v (.int .u64 r)) λ r=>[])/\(∀ N (a0:W9) (a1:Int),OK (QeP N a0 a1) 211 [.agg (KH a0),.v (.int .u64 a1)] [] (λ r=>.v (.int .u64 r)) λ r=>[])/\(∀ N (a0:UX) (a1:Int),OK (Qcl N a0 a1) 215 [.agg (e45 a0),.v (.int .u64 a1)] [] (λ r=>.tup [.agg (e45 r.1),.v (.int .u64 r.2.1),.v (.int .i64 r.2.2)]) λ r=>[])/\(∀ N (a0:WC),OK (QcZ N a0) 114 [.agg (e32 a0)] [] (λ r=>.v (.bool r)) λ r=>[])/\(∀ N (a0:Ut) (a1:WE),OK (Qgc N a0 a1) 224 [.agg (e23 a0),.agg (e75 a1)] [] (λ r=>.v (.bool r)) λ r=>[]):=by
 refine ⟨λ N _=>rn Tryz.f32 [.cell 2 47] [] 36 (by kernel_rfl) ?_,λ N _ _=>rn Tryz.f186 [.tmp 4] [] 20 (by kernel_rfl) ?_,λ N _ _=>rn Tryz.f46 [.cell 4 36,.tmp 5] [] 35 (by kernel_rfl) ?_,λ N _ _ _=>rn Tryz.f298 [.tmp 6] [] 27 (by kernel_rfl) ?_,λ N _ _=>rn Tryz.f211 [.tmp 4] [] 28 (by kernel_rfl) ?_,λ N _ _=>rn Tryz.f215 [.cell 4 45,.tmp 5,.tmp 6] [] 43 (by kernel_rfl) ?_,λ N _=>rn Tryz.f114 [.tmp 2] [] 13 (by kernel_rfl) ?_,λ N _ _=>rn Tryz.f224 [.tmp 4] [] 19 (by kernel_rfl) ?_⟩<;>(rintro _ hw r hr C _ rfl hwf hf;simp only[Tryz.f32,Tryz.f186,Tryz.f46,Tryz.f298,Tryz.f211,Tryz.f215,Tryz.f114,Tryz.f224,Option.get!];(first|rw[QbX] at hr|rw[Qcj] at hr|rw[Qbc] at hr|rw[Qg2] at hr|rw[QeP] at hr|rw[Qcl] at hr|rw[QcZ] at hr|rw[Qgc] at hr);repeat' first
 |(refine El.el hr ?_;intro hr)
 |(with_reducible intro h;refine Xz hr h ?_;intro hr)
 |with_reducible intro _
 |simp only[go_sem,simprocAttr]
 |(with_reducible first|apply Xg|apply Xf|apply Xs|apply Xx|apply Xy)
 |(refine Xl ?_ ?_;·first|assumption|omega)
 |(with_reducible first|refine CallX.c ?_ _|refine OK.c hr hw ?_ (λ y hr=>?_) _|refine Oy hr hw ?_ (λ y hr=>?_) _)
 |refine db 224 1 hf 13 [(0,0,[]),(1,0,[]),(3,0,[]),(7,0,[]),(15,0,[]),(31,0,[]),(63,0,[]),(127,0,[]),(255,6,[]),(255,1,[]),(767,1,[]),(2047,0,[]),(4095,0,[]),(8191,0,[]),(16383,0,[])] rfl rfl (by kernel_rfl) ?_ _
 |(refine Xq hr ?_;rintro rfl;with_reducible refine XG ?_)
 |exact Yo hr
 |fail)
@[reducible,instance] def Qk0:=g12.1
@[reducible,instance] def Qna:=g12.2.1
@[reducible,instance] def Qnb:=g12.2.2.1
@[reducible,instance] def Qn5:=g12.2.2.2.1
@[reducible,instance] def Qnc:=g12.2.2.2.2.1
@[reducible,instance] def Qnd:=g12.2.2.2.2.2.1
@[reducible,instance] def Qne:=g12.2.2.2.2.2.2.1
@[reducible,instance] def Qn6:=g12.2.2.2.2.2.2.2
end Go.Sx
