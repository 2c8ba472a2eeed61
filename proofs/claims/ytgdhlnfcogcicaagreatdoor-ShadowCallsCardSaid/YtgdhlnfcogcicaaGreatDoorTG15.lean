import Derived.Test.YtgdhlnfcogcicaaGreatDoorTF
import Derived.Test.YtgdhlnfcogcicaaGreatDoorTG3
import Derived.Test.YtgdhlnfcogcicaaGreatDoorTG4
import Derived.Test.YtgdhlnfcogcicaaGreatDoorTG6
import Derived.Test.YtgdhlnfcogcicaaGreatDoorTG7
import Derived.Test.YtgdhlnfcogcicaaGreatDoorTG8
import Derived.Test.YtgdhlnfcogcicaaGreatDoorTG9
import Derived.Test.YtgdhlnfcogcicaaGreatDoorTG10
import Derived.Test.YtgdhlnfcogcicaaGreatDoorTG11
import Derived.Test.YtgdhlnfcogcicaaGreatDoorTG12
import Derived.Test.YtgdhlnfcogcicaaGreatDoorTG13
set_option linter.all false
namespace Go.Sx
open Go.Proofs
set_option maxRecDepth 10000
set_option maxHeartbeats 100000000
theorem g16:(∀ N (a0:Wm) (a1:Int) (a2:Int) (a3:Int) (a4:Bool),OK (Qft N a0 a1 a2 a3 a4) 94 [.agg (e36 a0),.v (.int .i64 a1),.v (.int .u64 a2),.v (.int .u64 a3),.v (.bool a4)] [] (λ r=>.v (.int .i64 r)) λ r=>[])/\(∀ N (a0:Wm) (a1:Int),OK (Qay N a0 a1) 44 [.agg (e36 a0),.v (.int .u64 a1)] [] (λ r=>.tup [.v (.int .u64 r.1),.v (.int .i64 r.2)]) λ r=>[])/\(∀ N (a0:Wm) (a1:Int),OK (Qcs N a0 a1) 49 [.agg (e36 a0),.v (.int .u64 a1)] [] (λ r=>.agg (e36 r)) λ r=>[])/\(∀ N (a0:Wz) (a1:Int),OK (QbU N a0 a1) 257 [.agg (e42 a0),.v (.int .u64 a1)] [] (λ r=>.tup [.agg (e75 r.1),.v (.int .i64 r.2)]) λ r=>[])/\(∀ N (a0:Wz) (a1:Int) (a2:Int),OK (QgA N a0 a1 a2) 296 [.agg (e42 a0),.v (.int .i64 a1),.v (.int .i64 a2)] [] (λ r=>.v (.int .u64 r)) λ r=>[])/\(∀ N (a0:Wz) (a1:Int) (a2:Int),OK (QeR N a0 a1 a2) 276 [.agg (e42 a0),.v (.int .i64 a1),.v (.int .i64 a2)] [] (λ r=>.tup [.agg (e42 r.1),.v (.int .u64 r.2.1),.v (.bool r.2.2)]) λ r=>[])/\(∀ N (a0:Wz) (a1:Int) (a2:WE),OK (Qfn N a0 a1 a2) 277 [.agg (e42 a0),.v (.int .u64 a1),.agg (e75 a2)] [] (λ r=>.tup [.agg (e42 r.1),.v (.int .i64 r.2)]) λ r=>[])/\(∀ N (a0:Int) (a1:Wm) (a2:W5),OK (Qc0 N a0 a1 a2) 201 [.v (.int .i64 a0),.ept 1000000 0 10 0 0,.ept 1000001 0 4 0 0] [.arr true 61 10 [[.v (.int .i64 a1.Conf.PageWords),.v (.int .i64 a1.Conf.Pages),.isl 77 4 (a1.Things.map e77),.isl 210 3 (a1.Locals.Slots.map X4),.isl 159 3 (a1.Locals.Scopes.map X9),.isl 3 1 (a1.Locals.Issued.map e3),.isl 132 3 (a1.Globals.Entries.map XC),.isl 132 3 (a1.Weaks.Entries.map XC),.isl 116 3 (a1.Marks.map Yv),.isl 37 1 (a1.Roots.map e37)]] 0,.arr true 77 4 [[.v (.int .i64 a2.Header.Kind),.v (.int .i64 a2.Header.Length),.v (.int .u32 a2.Header.Map),.isl 37 1 (a2.Fields.map e37)]] 0] (λ r=>.v (.bool r)) λ r=>[.arr true 61 10 [[.v (.int .i64 a1.Conf.PageWords),.v (.int .i64 a1.Conf.Pages),.isl 77 4 (a1.Things.map e77),.isl 210 3 (a1.Locals.Slots.map X4),.isl 159 3 (a1.Locals.Scopes.map X9),.isl 3 1 (a1.Locals.Issued.map e3),.isl 132 3 (a1.Globals.Entries.map XC),.isl 132 3 (a1.Weaks.Entries.map XC),.isl 116 3 (a1.Marks.map Yv),.isl 37 1 (a1.Roots.map e37)]] 0,.arr true 77 4 [[.v (.int .i64 a2.Header.Kind),.v (.int .i64 a2.Header.Length),.v (.int .u32 a2.Header.Map),.isl 37 1 (a2.Fields.map e37)]] 0])/\(∀ N (a0:Ws) (a1:Int) (a2:Int),OK (Qgw N a0 a1 a2) 168 [.agg (e29 a0),.v (.int .i64 a1),.v (.int .i64 a2)] [] (λ r=>.tup [.v (.int .u64 r.1),.v (.int .i64 r.2)]) λ r=>[])/\(∀ N (a0:WC) (a1:Int) (a2:Int),OK (QeV N a0 a1 a2) 228 [.agg (e32 a0),.v (.int .i64 a1),.v (.int .i64 a2)] [] (λ r=>.v (.int .i64 r)) λ r=>[])/\(∀ N (a0:Ws) (a1:Int),OK (Qbx N a0 a1) 174 [.agg (e29 a0),.v (.int .u64 a1)] [] (λ r=>.tup [.agg (e29 r.1),.v (.int .i64 r.2.1),.v (.int .i64 r.2.2.1),.v (.int .i64 r.2.2.2)]) λ r=>[])/\(∀ N (a0:Ws) (a1:Int) (a2:Bool),OK (Qg4 N a0 a1 a2) 179 [.agg (e29 a0),.v (.int .i64 a1),.v (.bool a2)] [] (λ r=>.tup [.agg (e29 r.1),.v (.int .i64 r.2)]) λ r=>[])/\(∀ N (a0:Ws),OK (Qf2 N a0) 91 [.agg (e29 a0)] [] (λ r=>.tup [.agg (e29 r.1),.v (.int .i64 r.2)]) λ r=>[]):=by
 refine ⟨λ N _ _ _ _ _=>rn Tryz.f94 [.tmp 10] [] 41 (by kernel_rfl) ?_,λ N _ _=>rn Tryz.f44 [.tmp 4,.tmp 5] [] 54 (by kernel_rfl) ?_,λ N _ _=>rn Tryz.f49 [.cell 4 36] [] 52 (by kernel_rfl) ?_,λ N _ _=>rn Tryz.f257 [.cell 4 75,.tmp 5] [] 96 (by kernel_rfl) ?_,λ N _ _ _=>rn Tryz.f296 [.tmp 6] [] 11 (by kernel_rfl) ?_,λ N _ _ _=>rn Tryz.f276 [.cell 6 42,.tmp 7,.tmp 8] [] 49 (by kernel_rfl) ?_,λ N _ _ _=>rn Tryz.f277 [.cell 6 42,.tmp 7] [] 43 (by kernel_rfl) ?_,λ N _ _ _=>rn Tryz.f201 [.tmp 4] [] 14 (by kernel_rfl) ?_,λ N _ _ _=>rn Tryz.f168 [.tmp 6,.tmp 7] [] 62 (by kernel_rfl) ?_,λ N _ _ _=>rn Tryz.f228 [.tmp 6] [] 53 (by kernel_rfl) ?_,λ N _ _=>rn Tryz.f174 [.cell 4 29,.tmp 5,.tmp 6,.tmp 7] [] 71 (by kernel_rfl) ?_,λ N _ _ _=>rn Tryz.f179 [.cell 6 29,.tmp 7] [] 51 (by kernel_rfl) ?_,λ N _=>rn Tryz.f91 [.cell 2 29,.tmp 3] [] 29 (by kernel_rfl) ?_⟩<;>(rintro _ hw r hr C _ rfl hwf hf;simp only[Tryz.f94,Tryz.f44,Tryz.f49,Tryz.f257,Tryz.f296,Tryz.f276,Tryz.f277,Tryz.f201,Tryz.f168,Tryz.f228,Tryz.f174,Tryz.f179,Tryz.f91,Option.get!];(first|rw[Qft] at hr|rw[Qay] at hr|rw[Qcs] at hr|rw[QbU] at hr|rw[QgA] at hr|rw[QeR] at hr|rw[Qfn] at hr|rw[Qc0] at hr|rw[Qgw] at hr|rw[QeV] at hr|rw[Qbx] at hr|rw[Qg4] at hr|rw[Qf2] at hr);repeat' first
 |(refine El.el hr ?_;intro hr)
 |(with_reducible intro h;refine Xz hr h ?_;intro hr)
 |with_reducible intro _
 |simp only[go_sem,simprocAttr,hl3,XQ,Yw,YU,Yx,Yn]
 |(with_reducible first|apply Xg|apply Xf|apply Xs|apply Xx|apply Xy)
 |((first|with_reducible refine Ye hr (by assumption) ?_ ?_|(with_reducible refine Yd hr ?_ ?_;rotate_left;intro p;rotate_right));(·simp only[go_sem,simprocAttr]);intro hp hn hd hr;(try have hl3:=hd _ e3);(try simp only[go_sem,simprocAttr] at hl3);(try have XQ:=hd _ e37);(try simp only[go_sem,simprocAttr] at XQ);(try have Yw:=hd _ XC);(try simp only[go_sem,simprocAttr] at Yw);(try have YU:=hd _ X9);(try simp only[go_sem,simprocAttr] at YU);(try have Yx:=hd _ X4);(try simp only[go_sem,simprocAttr] at Yx);(try have Yn:=hd _ Ym);(try simp only[go_sem,simprocAttr] at Yn))
 |(refine Xl ?_ ?_;·first|assumption|omega)
 |(with_reducible first|refine CallX.c ?_ _|refine OK.c hr hw ?_ (λ y hr=>?_) _|refine Oy hr hw ?_ (λ y hr=>?_) _)
 |refine db 276 2 hf 17 [(0,0,[]),(1,0,[]),(3,0,[]),(7,104,[]),(15,104,[]),(31,104,[]),(7,231,[]),(127,224,[]),(7,31,[]),(263,31,[]),(831,24,[]),(2047,0,[]),(4095,0,[])] rfl rfl (by kernel_rfl) ?_ _
 |refine db 276 5 hf 41 [(0,254,[]),(0,29,[[],[384]]),(0,3,[[],[384]]),(4,3,[[],[384]]),(12,3,[[],[384]]),(30,1,[[],[384]]),(62,1,[[],[384]]),(126,1,[[],[384]]),(1,254,[[384],[]]),(511,0,[]),(1023,0,[])] rfl rfl (by kernel_rfl) ?_ _
 |refine db 277 4 hf 10 [(0,8257536,[[],[1856]]),(1,8257536,[[],[1856]]),(0,8224768,[[],[1856]]),(0,3375104,[]),(8,3375104,[[1856],[]]),(0,1015808,[[],[1856]]),(32,1015808,[[],[1856]]),(120,229376,[[1856],[]]),(255,0,[[1856],[]]),(511,0,[]),(1023,33554432,[]),(1023,16777217,[]),(2047,33554432,[]),(8191,0,[])] rfl rfl (by kernel_rfl) ?_ _
 |refine db 201 1 hf 5 [(0,126,[[],[704]]),(0,9,[]),(2,9,[]),(0,7,[]),(14,1,[]),(30,1,[]),(62,1,[[704],[]]),(127,0,[]),(255,0,[]),(511,0,[])] rfl rfl (by kernel_rfl) ?_ _
 |refine db 174 6 hf 27 [(0,1012,[]),(1,1012,[]),(0,1011,[]),(7,1008,[]),(0,79,[]),(16,79,[]),(0,63,[]),(112,15,[]),(240,15,[]),(496,15,[]),(1023,0,[]),(2047,0,[])] rfl rfl (by kernel_rfl) ?_ _
 |refine db 174 11 hf 5 [(0,527765581332480,[]),(1,527765581332480,[]),(3,527765581332480,[]),(0,30786325577729,[]),(8,30786325577729,[]),(24,30786325577729,[]),(56,30786325577729,[]),(7,527765581332480,[]),(255,0,[])] rfl rfl (by kernel_rfl) ?_ _
 |(refine Xq hr ?_;rintro rfl;with_reducible refine XG ?_)
 |exact Yo hr
 |fail)
@[reducible,instance] def QlV:=g16.1
@[reducible,instance] def QlW:=g16.2.1
@[reducible,instance] def QmB:=g16.2.2.1
@[reducible,instance] def QoV:=g16.2.2.2.1
@[reducible,instance] def Qoe:=g16.2.2.2.2.1
@[reducible,instance] def Qnk:=g16.2.2.2.2.2.1
@[reducible,instance] def Qof:=g16.2.2.2.2.2.2.1
@[reducible,instance] def Qkx:=g16.2.2.2.2.2.2.2.1
@[reducible,instance] def QoJ:=g16.2.2.2.2.2.2.2.2.1
@[reducible,instance] def Qnl:=g16.2.2.2.2.2.2.2.2.2.1
@[reducible,instance] def QoK:=g16.2.2.2.2.2.2.2.2.2.2.1
@[reducible,instance] def Qog:=g16.2.2.2.2.2.2.2.2.2.2.2.1
@[reducible,instance] def QoL:=g16.2.2.2.2.2.2.2.2.2.2.2.2
end Go.Sx
