import Derived.Test.YtgdhlnfcogcicaaGreatDoorTF
import Derived.Test.YtgdhlnfcogcicaaGreatDoorTG6
import Derived.Test.YtgdhlnfcogcicaaGreatDoorTG10
import Derived.Test.YtgdhlnfcogcicaaGreatDoorTG12
import Derived.Test.YtgdhlnfcogcicaaGreatDoorTG15
import Derived.Test.YtgdhlnfcogcicaaGreatDoorTG16
import Derived.Test.YtgdhlnfcogcicaaGreatDoorTG17
import Derived.Test.YtgdhlnfcogcicaaGreatDoorTG18
set_option linter.all false
namespace Go.Sx
open Go.Proofs
set_option maxRecDepth 10000
set_option maxHeartbeats 100000000
theorem g22:(∀ N (a0:Wm) (a1:Int) (a2:Int) (a3:Int) (a4:Int) (a5:Bool),OK (Qex N a0 a1 a2 a3 a4 a5) 43 [.agg (e36 a0),.v (.int .i64 a1),.v (.int .u64 a2),.v (.int .u64 a3),.v (.int .u64 a4),.v (.bool a5)] [] (λ r=>.v (.int .i64 r)) λ r=>[])/\(∀ N (a0:Wz) (a1:Int),OK (QgB N a0 a1) 279 [.agg (e42 a0),.v (.int .i64 a1)] [] (λ r=>.agg (XlY r)) λ r=>[])/\(∀ N (a0:Wz) (a1:Int) (a2:Int) (a3:Int),OK (Qcg N a0 a1 a2 a3) 219 [.agg (e42 a0),.v (.int .u64 a1),.v (.int .i64 a2),.v (.int .u64 a3)] [] (λ r=>.tup [.agg (e42 r.1),.v (.int .i64 r.2)]) λ r=>[])/\(∀ N (a0:Wm) (a1:W5),OK (Qc7 N a0 a1) 116 [.agg (e61 a0),.agg (e77 a1)] [] (λ r=>.v (.bool r)) λ r=>[])/\(∀ N (a0:UQ),OK (QaW N a0) 145 [.agg (Kh a0)] [] (λ r=>.tup [.v (.int .u64 r.1),.agg (e75 r.2.1),.v (.int .i64 r.2.2)]) λ r=>[])/\(∀ N (a0:UQ),OK (Qfx N a0) 146 [.agg (Kh a0)] [] (λ r=>.v (.int .i64 r)) λ r=>[])/\(∀ N (a0:UQ),OK (Qfy N a0) 148 [.agg (Kh a0)] [] (λ r=>.v (.int .i64 r)) λ r=>[])/\(∀ N (a0:UQ),OK (Qfz N a0) 149 [.agg (Kh a0)] [] (λ r=>.v (.int .i64 r)) λ r=>[])/\(∀ N (a0:UQ),OK (QfB N a0) 152 [.agg (Kh a0)] [] (λ r=>.v (.int .i64 r)) λ r=>[])/\(∀ N (a0:UQ),OK (QfC N a0) 153 [.agg (Kh a0)] [] (λ r=>.v (.int .i64 r)) λ r=>[])/\(∀ N (a0:UQ) (a1:Int),OK (Qby N a0 a1) 159 [.agg (Kh a0),.v (.int .i64 a1)] [] (λ r=>.v (.int .i64 r)) λ r=>[])/\(∀ N (a0:UQ),OK (QeJ N a0) 163 [.agg (Kh a0)] [] (λ r=>.v (.int .i64 r)) λ r=>[]):=by
 refine ⟨λ N _ _ _ _ _ _=>rn Tryz.f43 [.tmp 12] [] 78 (by kernel_rfl) ?_,λ N _ _=>rn Tryz.f279 [.cell 4 330] [] 57 (by kernel_rfl) ?_,λ N _ _ _ _=>rn Tryz.f219 [.cell 8 42,.tmp 9] [] 37 (by kernel_rfl) ?_,λ N _ _=>rn Tryz.f116 [.tmp 4] [] 30 (by kernel_rfl) ?_,λ N _=>rn Tryz.f145 [.tmp 2,.cell 3 75,.tmp 4] [] 33 (by kernel_rfl) ?_,λ N _=>rn Tryz.f146 [.tmp 2] [] 5 (by kernel_rfl) ?_,λ N _=>rn Tryz.f148 [.tmp 2] [] 5 (by kernel_rfl) ?_,λ N _=>rn Tryz.f149 [.tmp 2] [] 5 (by kernel_rfl) ?_,λ N _=>rn Tryz.f152 [.tmp 2] [] 24 (by kernel_rfl) ?_,λ N _=>rn Tryz.f153 [.tmp 2] [] 21 (by kernel_rfl) ?_,λ N _ _=>rn Tryz.f159 [.tmp 4] [] 33 (by kernel_rfl) ?_,λ N _=>rn Tryz.f163 [.tmp 2] [] 30 (by kernel_rfl) ?_⟩<;>(rintro _ hw r hr C _ rfl hwf hf;simp only[Tryz.f43,Tryz.f279,Tryz.f219,Tryz.f116,Tryz.f145,Tryz.f146,Tryz.f148,Tryz.f149,Tryz.f152,Tryz.f153,Tryz.f159,Tryz.f163,Option.get!];(first|rw[Qex] at hr|rw[QgB] at hr|rw[Qcg] at hr|rw[Qc7] at hr|rw[QaW] at hr|rw[Qfx] at hr|rw[Qfy] at hr|rw[Qfz] at hr|rw[QfB] at hr|rw[QfC] at hr|rw[Qby] at hr|rw[QeJ] at hr);repeat' first
 |(refine El.el hr ?_;intro hr)
 |(with_reducible intro h;refine Xz hr h ?_;intro hr)
 |with_reducible intro _
 |simp only[go_sem,simprocAttr,Y5,Yn]
 |(with_reducible first|apply Xg|apply Xf|apply Xs|apply Xx|apply Xy)
 |((first|with_reducible refine Ye hr (by assumption) ?_ ?_|(with_reducible refine Yd hr ?_ ?_;rotate_left;intro p;rotate_right));(·simp only[go_sem,simprocAttr]);intro hp hn hd hr;(try have Y5:=hd _ e77);(try simp only[go_sem,simprocAttr] at Y5);(try have Yn:=hd _ Ym);(try simp only[go_sem,simprocAttr] at Yn))
 |(refine Xl ?_ ?_;·first|assumption|omega)
 |(with_reducible first|refine CallX.c ?_ _|refine OK.c hr hw ?_ (λ y hr=>?_) _)
 |refine db 279 1 hf 9 [(0,4,[]),(1,4,[]),(0,3,[]),(7,0,[]),(15,0,[]),(31,0,[]),(63,0,[]),(127,0,[]),(255,50176,[]),(511,50176,[]),(255,49920,[]),(2047,49152,[]),(4095,49152,[]),(8191,49152,[]),(255,16128,[]),(16639,16128,[]),(65535,0,[]),(131071,0,[])] rfl rfl (by kernel_rfl) ?_ _
 |refine db 145 6 hf 2 [(0,2139095040,[]),(0,205520897,[]),(2,205520897,[]),(6,205520897,[]),(0,62914561,[]),(16,62914561,[]),(62,4194305,[]),(126,4194305,[]),(254,4194305,[]),(1,2139095040,[]),(1023,0,[[192],[]]),(2047,0,[])] rfl rfl (by kernel_rfl) ?_ _
 |(refine Xq hr ?_;rintro rfl;with_reducible refine XG ?_)
 |exact Yo hr
 |fail)
@[reducible,instance] def Ql0:=g22.1
@[reducible,instance] def Qom:=g22.2.1
@[reducible,instance] def Qlo:=g22.2.2.1
@[reducible,instance] def QkI:=g22.2.2.2.1
@[reducible,instance] def QkJ:=g22.2.2.2.2.1
@[reducible,instance] def Ql1:=g22.2.2.2.2.2.1
@[reducible,instance] def Ql2:=g22.2.2.2.2.2.2.1
@[reducible,instance] def Ql3:=g22.2.2.2.2.2.2.2.1
@[reducible,instance] def Ql4:=g22.2.2.2.2.2.2.2.2.1
@[reducible,instance] def Ql5:=g22.2.2.2.2.2.2.2.2.2.1
@[reducible,instance] def QkF:=g22.2.2.2.2.2.2.2.2.2.2.1
@[reducible,instance] def Qk2:=g22.2.2.2.2.2.2.2.2.2.2.2
end Go.Sx
