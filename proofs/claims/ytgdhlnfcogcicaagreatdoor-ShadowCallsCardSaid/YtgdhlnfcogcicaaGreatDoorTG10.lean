import Derived.Test.YtgdhlnfcogcicaaGreatDoorTF
import Derived.Test.YtgdhlnfcogcicaaGreatDoorTG6
import Derived.Test.YtgdhlnfcogcicaaGreatDoorTG7
import Derived.Test.YtgdhlnfcogcicaaGreatDoorTG8
set_option linter.all false
namespace Go.Sx
open Go.Proofs
set_option maxRecDepth 10000
set_option maxHeartbeats 100000000
theorem g10:(∀ N (a0:Ut),OK (QfT N a0) 76 [.agg (e23 a0)] [] (λ r=>.tup [.agg (e45 r.1),.v (.int .i64 r.2)]) λ r=>[])/\(∀ N (a0:Int),OK (QbA N a0) 101 [.v (.int .u64 a0)] [] (λ r=>.tup [.agg (XfT r.1),.v (.int .i64 r.2)]) λ r=>[])/\(∀ N (a0:Ws) (a1:Int) (a2:Bool),OK (Qf8 N a0 a1 a2) 109 [.agg (e29 a0),.v (.int .i64 a1),.v (.bool a2)] [] (λ r=>.tup [.agg (e29 r.1),.v (.int .i64 r.2)]) λ r=>[])/\(∀ N (a0:Wm) (a1:Int) (a2:Int),OK (Qb6 N a0 a1 a2) 48 [.agg (e36 a0),.v (.int .i64 a1),.v (.int .u64 a2)] [] (λ r=>.tup [.agg (e36 r.1),.v (.int .u64 r.2)]) λ r=>[])/\(∀ N (a0:Wm) (a1:Int) (a2:Int) (a3:Int),OK (QdM N a0 a1 a2 a3) 52 [.agg (e36 a0),.v (.int .i64 a1),.v (.int .u64 a2),.v (.int .u64 a3)] [] (λ r=>.tup [.agg (e36 r.1),.v (.int .u64 r.2)]) λ r=>[])/\(∀ N (a0:Int),OK (QbB N a0) 267 [.v (.int .u64 a0)] [] (λ r=>.tup [.agg (e75 r.1),.v (.bool r.2)]) λ r=>[])/\(∀ N (a0:List Int) (a1:Int) (a2:Int),OK (QcY N a0 a1 a2) 256 [.isl 37 1 (a0.map e37),.v (.int .u64 a1),.v (.int .u64 a2)] [] (λ r=>.tup [.isl 37 1 (r.1.map e37),.v (.int .i64 r.2)]) λ r=>[])/\(∀ N (a0:List Int) (a1:Int) (a2:Int) (a3:Int),OK (Qfi N a0 a1 a2 a3) 269 [.isl 37 1 (a0.map e37),.v (.int .u64 a1),.v (.int .u64 a2),.v (.int .i64 a3)] [] (λ r=>.tup [.isl 37 1 (r.1.map e37),.v (.int .i64 r.2)]) λ r=>[])/\(∀ N (a0:List Int),OK (Qa5 N a0) 192 [.isl 3 1 (a0.map e3),.clo (.func 193) [] []] [] (λ r=>.v (.bool r)) λ r=>[])/\(∀ N (a0:WE),OK (QfJ N a0) 122 [.agg (e75 a0)] [] (λ r=>.v (.int .i64 r)) λ r=>[])/\(∀ N (a0:List Int) (c0:Wm),OK (QaO N a0 c0) 202 [.isl 37 1 (a0.map e37),.clo (.func 203) [] [.ept 1000000 0 10 0 0]] [.arr true 61 10 [[.v (.int .i64 c0.Conf.PageWords),.v (.int .i64 c0.Conf.Pages),.isl 77 4 (c0.Things.map e77),.isl 210 3 (c0.Locals.Slots.map X4),.isl 159 3 (c0.Locals.Scopes.map X9),.isl 3 1 (c0.Locals.Issued.map e3),.isl 132 3 (c0.Globals.Entries.map XC),.isl 132 3 (c0.Weaks.Entries.map XC),.isl 116 3 (c0.Marks.map Yv),.isl 37 1 (c0.Roots.map e37)]] 0] (λ r=>.v (.bool r)) λ r=>[.arr true 61 10 [[.v (.int .i64 c0.Conf.PageWords),.v (.int .i64 c0.Conf.Pages),.isl 77 4 (c0.Things.map e77),.isl 210 3 (c0.Locals.Slots.map X4),.isl 159 3 (c0.Locals.Scopes.map X9),.isl 3 1 (c0.Locals.Issued.map e3),.isl 132 3 (c0.Globals.Entries.map XC),.isl 132 3 (c0.Weaks.Entries.map XC),.isl 116 3 (c0.Marks.map Yv),.isl 37 1 (c0.Roots.map e37)]] 0])/\(∀ N (a0:Int),OK (Qbm N a0) 167 [.v (.int .u64 a0)] [] (λ r=>.tup [.agg (XfT r.1),.v (.int .i64 r.2)]) λ r=>[])/\(∀ N (a0:Ws) (a1:Int),OK (QgD N a0 a1) 180 [.agg (e29 a0),.v (.int .i64 a1)] [] (λ r=>.agg (e29 r)) λ r=>[]):=by
 refine ⟨λ N _=>rn Tryz.f76 [.cell 2 45,.tmp 3] [] 14 (by kernel_rfl) ?_,λ N _=>rn Tryz.f101 [.cell 2 193,.tmp 3] [] 35 (by kernel_rfl) ?_,λ N _ _ _=>rn Tryz.f109 [.cell 6 29,.tmp 7] [] 48 (by kernel_rfl) ?_,λ N _ _ _=>rn Tryz.f48 [.cell 6 36,.tmp 7] [] 46 (by kernel_rfl) ?_,λ N _ _ _ _=>rn Tryz.f52 [.cell 8 36,.tmp 9] [] 77 (by kernel_rfl) ?_,λ N _=>rn Tryz.f267 [.cell 2 75,.tmp 3] [] 33 (by kernel_rfl) ?_,λ N _ _ _=>rn Tryz.f256 [.tmp 6,.tmp 7] [] 15 (by kernel_rfl) ?_,λ N _ _ _ _=>rn Tryz.f269 [.tmp 8,.tmp 9] [] 28 (by kernel_rfl) ?_,λ N _=>rn Tryz.f192 [.tmp 4] [] 9 (by kernel_rfl) ?_,λ N _=>rn Tryz.f122 [.tmp 2] [] 9 (by kernel_rfl) ?_,λ N _ _=>rn Tryz.f202 [.tmp 4] [] 9 (by kernel_rfl) ?_,λ N _=>rn Tryz.f167 [.cell 2 193,.tmp 3] [] 37 (by kernel_rfl) ?_,λ N _ _=>rn Tryz.f180 [.cell 4 29] [] 23 (by kernel_rfl) ?_⟩<;>(rintro _ hw r hr C _ rfl hwf hf;have hgw:=hw;unfold GW at hgw;simp only[Tryz.f76,Tryz.f101,Tryz.f109,Tryz.f48,Tryz.f52,Tryz.f267,Tryz.f256,Tryz.f269,Tryz.f192,Tryz.f122,Tryz.f202,Tryz.f167,Tryz.f180,Option.get!];(first|rw[QfT] at hr|rw[QbA] at hr|rw[Qf8] at hr|rw[Qb6] at hr|rw[QdM] at hr|rw[QbB] at hr|rw[QcY] at hr|rw[Qfi] at hr|rw[Qa5] at hr|rw[QfJ] at hr|rw[QaO] at hr|rw[Qbm] at hr|rw[QgD] at hr);repeat' first
 |(refine El.el hr ?_;intro hr)
 |(with_reducible intro h;refine Xz hr h ?_;intro hr)
 |with_reducible intro _
 |simp only[go_sem,simprocAttr,XeZ,XQ,Jg,YU,hgw,WO,Uo,Io]
 |(with_reducible first|apply Xg|apply Xf|apply Xs|apply Xx|apply Xy)
 |((first|with_reducible refine Ye hr (by assumption) ?_ ?_|(with_reducible refine Yd hr ?_ ?_;rotate_left;intro p;rotate_right));(·simp only[go_sem,simprocAttr,hgw,WO,Uo,Io]);intro hp hn hd hr;(try have XQ:=hd _ e37);(try simp only[go_sem,simprocAttr] at XQ);(try have Jg:=hd _ e96);(try simp only[go_sem,simprocAttr] at Jg);(try have YU:=hd _ X9);(try simp only[go_sem,simprocAttr] at YU))
 |(refine Xl ?_ ?_;·first|assumption|omega)
 |(with_reducible refine XhZ hr ?_ ?_;(·simp only[go_sem]);intro p hp hn hd hr;(try have XQ:=hd _ e37);(try simp only[go_sem,simprocAttr] at XQ);(try have Jg:=hd _ e96);(try simp only[go_sem,simprocAttr] at Jg);(try have YU:=hd _ X9);(try simp only[go_sem,simprocAttr] at YU))
 |(with_reducible first|refine CallX.c ?_ _|refine OK.c hr hw ?_ (λ y hr=>?_) _)
 |with_reducible refine OI 6 ?_ _
 |with_reducible refine LoopU.s 1000 ?_ _
 |refine db 109 7 hf 34 [(0,2038,[[2176],[2816]]),(0,2033,[[],[2176,2816]]),(2,2033,[[],[2176,2816]]),(7,2032,[[2176],[2816]]),(0,399,[[],[2176]]),(16,399,[[],[2176]]),(48,399,[[],[2176]]),(0,383,[[],[2176]]),(0,255,[[],[2176]]),(496,15,[[],[2176]]),(1008,15,[[2816],[2176]]),(2047,0,[[2176],[]]),(4095,0,[]),(8191,0,[[192],[]])] rfl rfl (by kernel_rfl) ?_ _
 |refine db 52 6 hf 37 [(0,500,[]),(1,500,[]),(0,499,[]),(7,496,[]),(0,207,[]),(16,207,[]),(0,63,[]),(64,63,[]),(240,15,[]),(511,0,[[896],[]]),(1023,0,[]),(2047,0,[[256],[]])] rfl rfl (by kernel_rfl) ?_ _
 |refine db 52 10 hf 60 [(0,126,[]),(0,9,[[],[512]]),(2,9,[[],[512]]),(0,7,[[],[512]]),(14,1,[[],[512]]),(30,1,[[],[512]]),(62,1,[[],[512]]),(1,126,[[512],[]]),(255,0,[])] rfl rfl (by kernel_rfl) ?_ _
 |refine db 167 6 hf 6 [(0,33423361,[[],[384]]),(1,33423361,[[],[384]]),(3,33423361,[[],[384]]),(7,33423361,[[],[384]]),(0,31580161,[[],[384]]),(16,31580161,[[],[384]]),(48,31580161,[[],[384]]),(112,31580161,[[],[384]]),(0,2088961,[[],[384]]),(256,2088961,[[],[384]]),(768,2088961,[[],[384]]),(1792,2088961,[[],[384]]),(4095,1,[[],[384]]),(0,67100672,[[384],[]]),(16383,0,[[384],[]])] rfl rfl (by kernel_rfl) ?_ _
 |refine db 180 2 hf 7 [(0,7932,[]),(1,7932,[]),(0,7699,[]),(4,7699,[]),(0,7695,[]),(28,7683,[]),(60,7683,[]),(124,7683,[]),(255,7680,[]),(0,2559,[]),(512,2559,[]),(0,10239,[[],[128]]),(3584,8703,[[],[128]]),(2047,6144,[]),(10239,6144,[[128],[]]),(32767,0,[]),(65535,0,[[128],[]])] rfl rfl (by kernel_rfl) ?_ _
 |(refine Xq hr ?_;rintro rfl;with_reducible refine XG ?_)
 |exact Yo hr
 |with_reducible refine Xme (λ hi=>?_) (λ hi=>?_)
 |(exfalso;omega)
 |fail)
@[reducible,instance] def QoG:=g10.1
@[reducible,instance] def Qmu:=g10.2.1
@[reducible,instance] def Qn2:=g10.2.2.1
@[reducible,instance] def QlQ:=g10.2.2.2.1
@[reducible,instance] def Qn3:=g10.2.2.2.2.1
@[reducible,instance] def Qmv:=g10.2.2.2.2.2.1
@[reducible,instance] def Qm8:=g10.2.2.2.2.2.2.1
@[reducible,instance] def Qn4:=g10.2.2.2.2.2.2.2.1
@[reducible,instance] def Qh6:=g10.2.2.2.2.2.2.2.2.1
@[reducible,instance] def Qm9:=g10.2.2.2.2.2.2.2.2.2.1
@[reducible,instance] def QhH:=g10.2.2.2.2.2.2.2.2.2.2.1
@[reducible,instance] def QlR:=g10.2.2.2.2.2.2.2.2.2.2.2.1
@[reducible,instance] def Qmw:=g10.2.2.2.2.2.2.2.2.2.2.2.2
end Go.Sx
