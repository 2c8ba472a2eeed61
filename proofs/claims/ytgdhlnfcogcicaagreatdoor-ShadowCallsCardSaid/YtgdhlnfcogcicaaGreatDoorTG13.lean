import Derived.Test.YtgdhlnfcogcicaaGreatDoorTF
import Derived.Test.YtgdhlnfcogcicaaGreatDoorTG3
import Derived.Test.YtgdhlnfcogcicaaGreatDoorTG4
import Derived.Test.YtgdhlnfcogcicaaGreatDoorTG6
import Derived.Test.YtgdhlnfcogcicaaGreatDoorTG7
import Derived.Test.YtgdhlnfcogcicaaGreatDoorTG9
import Derived.Test.YtgdhlnfcogcicaaGreatDoorTG10
set_option linter.all false
namespace Go.Sx
open Go.Proofs
set_option maxRecDepth 10000
set_option maxHeartbeats 100000000
theorem g13:(∀ N (a0:Ut) (a1:WE),OK (QdK N a0 a1) 185 [.agg (e23 a0),.agg (e75 a1)] [] (λ r=>.v (.bool r)) λ r=>[])/\(∀ N (a0:Ws) (a1:Int),OK (QdL N a0 a1) 50 [.agg (e29 a0),.v (.int .i64 a1)] [] (λ r=>.tup [.agg (e29 r.1),.v (.int .i64 r.2)]) λ r=>[])/\(∀ N (a0:Ws) (a1:Int) (a2:Int),OK (Qc2 N a0 a1 a2) 107 [.agg (e29 a0),.v (.int .i64 a1),.v (.int .i64 a2)] [] (λ r=>.tup [.agg (e29 r.1),.v (.int .i64 r.2)]) λ r=>[])/\(∀ N (a0:W9) (a1:Int),OK (Qfb N a0 a1) 252 [.agg (KH a0),.v (.int .u64 a1)] [] (λ r=>.agg (e75 r)) λ r=>[])/\(∀ N (a0:Ut) (a1:List W4) (a2:Int) (a3:Int) (a4:Int),OK (Qgn N a0 a1 a2 a3 a4) 287 [.agg (e23 a0),.isl 306 4 (a1.map Ym),.v (.int .i64 a2),.v (.int .i64 a3),.v (.int .i64 a4)] [] (λ r=>.tup [.isl 306 4 (r.1.map Ym),.v (.int .i64 r.2)]) λ r=>[])/\(∀ N (a0:Wz) (a1:Int) (a2:Int),OK (Qcn N a0 a1 a2) 258 [.agg (e42 a0),.v (.int .u64 a1),.v (.int .i64 a2)] [] (λ r=>.agg (e42 r)) λ r=>[])/\(∀ N (a0:Wm) (a1:List Int),OK (QbV N a0 a1) 117 [.agg (e61 a0),.isl 37 1 (a1.map e37)] [] (λ r=>.v (.bool r)) λ r=>[])/\(∀ N (a0:UI),OK (Qas N a0) 175 [.agg (XfT a0)] [] (λ r=>.tup [.v (.int .u64 r.1),.v (.int .i64 r.2)]) λ r=>[]):=by
 refine ⟨λ N _ _=>rn Tryz.f185 [.tmp 4] [] 19 (by kernel_rfl) ?_,λ N _ _=>rn Tryz.f50 [.cell 4 29,.tmp 5] [] 11 (by kernel_rfl) ?_,λ N _ _ _=>rn Tryz.f107 [.cell 6 29,.tmp 7] [] 33 (by kernel_rfl) ?_,λ N _ _=>rn Tryz.f252 [.cell 4 75] [] 23 (by kernel_rfl) ?_,λ N _ _ _ _ _=>rn Tryz.f287 [.tmp 10,.tmp 11] [] 37 (by kernel_rfl) ?_,λ N _ _ _=>rn Tryz.f258 [.cell 6 42] [] 25 (by kernel_rfl) ?_,λ N _ _=>rn Tryz.f117 [.tmp 4] [] 9 (by kernel_rfl) ?_,λ N _=>rn Tryz.f175 [.tmp 2,.tmp 3] [] 35 (by kernel_rfl) ?_⟩<;>(rintro _ hw r hr C _ rfl hwf hf;have hgw:=hw;unfold GW at hgw;simp only[Tryz.f185,Tryz.f50,Tryz.f107,Tryz.f252,Tryz.f287,Tryz.f258,Tryz.f117,Tryz.f175,Option.get!];(first|rw[QdK] at hr|rw[QdL] at hr|rw[Qc2] at hr|rw[Qfb] at hr|rw[Qgn] at hr|rw[Qcn] at hr|rw[QbV] at hr|rw[Qas] at hr);repeat' first
 |(refine El.el hr ?_;intro hr)
 |(with_reducible intro h;refine Xz hr h ?_;intro hr)
 |with_reducible intro _
 |simp only[go_sem,simprocAttr,XeZ,Yx,Yn,hgw]
 |(with_reducible first|apply Xg|apply Xf|apply Xs|apply Xx|apply Xy)
 |((first|with_reducible refine Ye hr (by assumption) ?_ ?_|(with_reducible refine Yd hr ?_ ?_;rotate_left;intro p;rotate_right));(·simp only[go_sem,simprocAttr,hgw]);intro hp hn hd hr;(try have Yx:=hd _ X4);(try simp only[go_sem,simprocAttr] at Yx);(try have Yn:=hd _ Ym);(try simp only[go_sem,simprocAttr] at Yn))
 |(refine Xl ?_ ?_;·first|assumption|omega)
 |(with_reducible first|refine CallX.c ?_ _|refine OK.c hr hw ?_ (λ y hr=>?_) _|refine Oy hr hw ?_ (λ y hr=>?_) _)
 |with_reducible refine OI 6 ?_ _
 |with_reducible refine LoopU.s 1000 ?_ _
 |refine db 185 1 hf 13 [(0,0,[]),(1,0,[]),(3,0,[]),(7,0,[]),(15,0,[]),(31,0,[]),(63,0,[]),(127,0,[]),(255,6,[]),(255,1,[]),(767,1,[]),(2047,0,[]),(4095,0,[]),(8191,0,[]),(16383,0,[])] rfl rfl (by kernel_rfl) ?_ _
 |refine db 258 2 hf 12 [(0,284,[]),(1,284,[]),(0,267,[]),(0,263,[]),(12,259,[]),(31,256,[]),(63,256,[]),(127,256,[]),(0,255,[]),(511,0,[]),(1023,0,[]),(2047,0,[]),(4095,0,[[448],[]])] rfl rfl (by kernel_rfl) ?_ _
 |(refine Xq hr ?_;rintro rfl;with_reducible refine XG ?_)
 |exact Yo hr
 |fail)
@[reducible,instance] def Qn8:=g13.1
@[reducible,instance] def Qn9:=g13.2.1
@[reducible,instance] def QmA:=g13.2.2.1
@[reducible,instance] def QoH:=g13.2.2.2.1
@[reducible,instance] def Qnh:=g13.2.2.2.2.1
@[reducible,instance] def Qni:=g13.2.2.2.2.2.1
@[reducible,instance] def QkN:=g13.2.2.2.2.2.2.1
@[reducible,instance] def QlT:=g13.2.2.2.2.2.2.2
end Go.Sx
