import Derived.Test.YtgdhlnfcogcicaaGreatDoorTF
import Derived.Test.YtgdhlnfcogcicaaGreatDoorTG6
import Derived.Test.YtgdhlnfcogcicaaGreatDoorTG9
import Derived.Test.YtgdhlnfcogcicaaGreatDoorTG10
import Derived.Test.YtgdhlnfcogcicaaGreatDoorTG11
import Derived.Test.YtgdhlnfcogcicaaGreatDoorTG12
import Derived.Test.YtgdhlnfcogcicaaGreatDoorTG13
import Derived.Test.YtgdhlnfcogcicaaGreatDoorTG15
set_option linter.all false
namespace Go.Sx
open Go.Proofs
set_option maxRecDepth 10000
set_option maxHeartbeats 100000000
theorem g18:(∀ N (a0:Wm) (a1:Int),OK (QdR N a0 a1) 187 [.agg (e36 a0),.v (.int .u64 a1)] [] (λ r=>.tup [.v (.int .u64 r.1),.v (.int .i64 r.2)]) λ r=>[])/\(∀ N (a0:Wm) (a1:Int) (a2:Int),OK (Qfu N a0 a1 a2) 96 [.agg (e36 a0),.v (.int .i64 a1),.v (.int .u64 a2)] [] (λ r=>.v (.int .i64 r)) λ r=>[])/\(∀ N (a0:Wm) (a1:Int) (a2:Int),OK (QfV N a0 a1 a2) 98 [.agg (e36 a0),.v (.int .i64 a1),.v (.int .u64 a2)] [] (λ r=>.v (.int .i64 r)) λ r=>[])/\(∀ N (a0:Wz) (a1:Int),OK (Qc3 N a0 a1) 221 [.agg (e42 a0),.v (.int .u64 a1)] [] (λ r=>.tup [.agg (e75 r.1),.v (.int .i64 r.2)]) λ r=>[])/\(∀ N (a0:Wz) (a1:WE),OK (Qfc N a0 a1) 255 [.agg (e42 a0),.agg (e75 a1)] [] (λ r=>.tup [.agg (e42 r.1),.v (.int .u64 r.2.1),.v (.int .i64 r.2.2)]) λ r=>[])/\(∀ N (a0:WC) (a1:Int) (a2:Int),OK (Qf1 N a0 a1 a2) 169 [.agg (e32 a0),.v (.int .i64 a1),.v (.int .i64 a2)] [] (λ r=>.tup [.v (.int .u64 r.1),.v (.int .i64 r.2)]) λ r=>[])/\(∀ N (a0:Ws) (a1:Int),OK (QbM N a0 a1) 154 [.agg (e29 a0),.v (.int .u64 a1)] [] (λ r=>.v (.int .i64 r)) λ r=>[])/\(∀ N (a0:Ws) (a1:Int),OK (Qfr N a0 a1) 90 [.agg (e29 a0),.v (.int .i64 a1)] [] (λ r=>.tup [.agg (e29 r.1),.v (.int .i64 r.2)]) λ r=>[])/\(∀ N (a0:Ws) (a1:Int) (a2:Int),OK (Qdb N a0 a1 a2) 177 [.agg (e29 a0),.v (.int .i64 a1),.v (.int .i64 a2)] [] (λ r=>.tup [.agg (e29 r.1),.v (.int .i64 r.2)]) λ r=>[])/\(∀ N (a0:WC) (a1:Int) (a2:Int),OK (Qbn N a0 a1 a2) 178 [.agg (e32 a0),.v (.int .i64 a1),.v (.int .i64 a2)] [] (λ r=>.tup [.agg (e32 r.1),.v (.int .i64 r.2)]) λ r=>[]):=by
 refine ⟨λ N _ _=>rn Tryz.f187 [.tmp 4,.tmp 5] [] 22 (by kernel_rfl) ?_,λ N _ _ _=>rn Tryz.f96 [.tmp 6] [] 36 (by kernel_rfl) ?_,λ N _ _ _=>rn Tryz.f98 [.tmp 6] [] 46 (by kernel_rfl) ?_,λ N _ _=>rn Tryz.f221 [.cell 4 75,.tmp 5] [] 31 (by kernel_rfl) ?_,λ N _ _=>rn Tryz.f255 [.cell 4 42,.tmp 5,.tmp 6] [] 58 (by kernel_rfl) ?_,λ N _ _ _=>rn Tryz.f169 [.tmp 6,.tmp 7] [] 22 (by kernel_rfl) ?_,λ N _ _=>rn Tryz.f154 [.tmp 4] [] 20 (by kernel_rfl) ?_,λ N _ _=>rn Tryz.f90 [.cell 4 29,.tmp 5] [] 11 (by kernel_rfl) ?_,λ N _ _ _=>rn Tryz.f177 [.cell 6 29,.tmp 7] [] 34 (by kernel_rfl) ?_,λ N _ _ _=>rn Tryz.f178 [.cell 6 32,.tmp 7] [] 30 (by kernel_rfl) ?_⟩<;>(rintro _ hw r hr C _ rfl hwf hf;simp only[Tryz.f187,Tryz.f96,Tryz.f98,Tryz.f221,Tryz.f255,Tryz.f169,Tryz.f154,Tryz.f90,Tryz.f177,Tryz.f178,Option.get!];(first|rw[QdR] at hr|rw[Qfu] at hr|rw[QfV] at hr|rw[Qc3] at hr|rw[Qfc] at hr|rw[Qf1] at hr|rw[QbM] at hr|rw[Qfr] at hr|rw[Qdb] at hr|rw[Qbn] at hr);repeat' first
 |(refine El.el hr ?_;intro hr)
 |(with_reducible intro h;refine Xz hr h ?_;intro hr)
 |with_reducible intro _
 |simp only[go_sem,simprocAttr,Yw,Yx]
 |(with_reducible first|apply Xg|apply Xf|apply Xs|apply Xx|apply Xy)
 |((first|with_reducible refine Ye hr (by assumption) ?_ ?_|(with_reducible refine Yd hr ?_ ?_;rotate_left;intro p;rotate_right));(·simp only[go_sem,simprocAttr]);intro hp hn hd hr;(try have Yw:=hd _ XC);(try simp only[go_sem,simprocAttr] at Yw);(try have Yx:=hd _ X4);(try simp only[go_sem,simprocAttr] at Yx))
 |(refine Xl ?_ ?_;·first|assumption|omega)
 |(with_reducible first|refine CallX.c ?_ _|refine OK.c hr hw ?_ (λ y hr=>?_) _)
 |refine db 177 5 hf 23 [(0,60,[]),(1,60,[]),(0,59,[]),(0,231,[[],[1408]]),(8,231,[[],[1408]]),(0,223,[[],[1408]]),(7,56,[]),(71,56,[]),(199,56,[[1408],[]]),(511,0,[]),(1023,0,[]),(2047,0,[[1408],[]])] rfl rfl (by kernel_rfl) ?_ _
 |refine db 178 5 hf 19 [(0,60,[]),(1,60,[]),(0,59,[]),(0,231,[[],[1152]]),(8,231,[[],[1152]]),(0,223,[[],[1152]]),(7,56,[]),(71,56,[]),(199,56,[[1152],[]]),(511,0,[]),(1023,0,[]),(2047,0,[[1152],[]])] rfl rfl (by kernel_rfl) ?_ _
 |(refine Xq hr ?_;rintro rfl;with_reducible refine XG ?_)
 |exact Yo hr
 |fail)
@[reducible,instance] def Qnn:=g18.1
@[reducible,instance] def QlY:=g18.2.1
@[reducible,instance] def QmC:=g18.2.2.1
@[reducible,instance] def QoN:=g18.2.2.2.1
@[reducible,instance] def QoO:=g18.2.2.2.2.1
@[reducible,instance] def QoP:=g18.2.2.2.2.2.1
@[reducible,instance] def Qno:=g18.2.2.2.2.2.2.1
@[reducible,instance] def Qoj:=g18.2.2.2.2.2.2.2.1
@[reducible,instance] def QmD:=g18.2.2.2.2.2.2.2.2.1
@[reducible,instance] def QmE:=g18.2.2.2.2.2.2.2.2.2
end Go.Sx
