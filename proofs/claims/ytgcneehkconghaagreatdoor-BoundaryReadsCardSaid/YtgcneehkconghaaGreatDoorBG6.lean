import Derived.Test.YtgcneehkconghaaGreatDoorBF
import Derived.Test.YtgcneehkconghaaGreatDoorBG0
import Derived.Test.YtgcneehkconghaaGreatDoorBG1
import Derived.Test.YtgcneehkconghaaGreatDoorBG2
import Derived.Test.YtgcneehkconghaaGreatDoorBG3
import Derived.Test.YtgcneehkconghaaGreatDoorBG4
import Derived.Test.YtgcneehkconghaaGreatDoorBG5
set_option linter.all false
namespace Go.Sx
open Go.Proofs
set_option maxRecDepth 10000
set_option maxHeartbeats 100000000
theorem g13:(∀ N (a0:Int),OK (Qbu N a0) 298 [.v (.int .u64 a0)] [] (λ r=>.tup [.agg (e80 r.1),.v (.bool r.2)]) λ r=>[])/\(∀ N (a0:WV) (a1:Int),OK (Qdt N a0 a1) 325 [.agg (Kg a0),.v (.int .i64 a1)] [] (λ r=>.tup [.agg (Kg r.1),.v (.int .u64 r.2.1),.v (.bool r.2.2)]) λ r=>[])/\(∀ N (a0:Wo) (a1:Int),OK (Qef N a0 a1) 332 [.agg (e27 a0),.v (.int .i64 a1)] [] (λ r=>.tup [.agg (e27 r.1),.v (.int .u64 r.2.1),.v (.bool r.2.2)]) λ r=>[])/\(∀ N (a0:Wy) (a1:Int) (a2:Int),OK (QbY N a0 a1 a2) 204 [.agg (e35 a0),.v (.int .i64 a1),.v (.int .i64 a2)] [] (λ r=>.tup [.agg (e35 r.1),.v (.int .i64 r.2)]) λ r=>[])/\(∀ N (a0:WI) (a1:Int) (a2:Int),OK (Qdd N a0 a1 a2) 118 [.agg (e43 a0),.v (.int .i64 a1),.v (.int .u64 a2)] [] (λ r=>.tup [.agg (e43 r.1),.v (.int .u64 r.2)]) λ r=>[])/\(∀ N (a0:WX) (a1:Int),OK (Qd5 N a0 a1) 151 [.agg (e23 a0),.v (.int .i64 a1)] [] (λ r=>.v (.int .i64 r)) λ r=>[])/\(∀ N (a0:List Int) (a1:Int),OK (Qd6 N a0 a1) 320 [.isl 39 1 (a0.map e39),.v (.int .u64 a1)] [] (λ r=>.tup [.v (.int .u64 r.1),.v (.int .i64 r.2)]) λ r=>[])/\(∀ N (a0:List Int),OK (Qa5 N a0) 125 [.isl 3 1 (a0.map e3),.clo (.func 126) [] []] [] (λ r=>.v (.bool r)) λ r=>[])/\(∀ N (a0:Int),OK (Qe1 N a0) 20 [.v (.int .u64 a0)] [] (λ r=>.tup [.agg (e70 r.1),.v (.int .i64 r.2)]) λ r=>[])/\(∀ N (a0:Uh) (a1:Uh),OK (Qgk N a0 a1) 12 [.agg (e38 a0),.agg (e38 a1)] [] (λ r=>.v (.bool r)) λ r=>[]):=by
 refine ⟨λ N _=>rn Tryz.f298 [.cell 2 80,.tmp 3] [] 33 (by kernel_rfl) ?_,λ N _ _=>rn Tryz.f325 [.cell 4 232,.tmp 5,.tmp 6] [] 111 (by kernel_rfl) ?_,λ N _ _=>rn Tryz.f332 [.cell 4 27,.tmp 5,.tmp 6] [] 108 (by kernel_rfl) ?_,λ N _ _ _=>rn Tryz.f204 [.cell 6 35,.tmp 7] [] 26 (by kernel_rfl) ?_,λ N _ _ _=>rn Tryz.f118 [.cell 6 43,.tmp 7] [] 46 (by kernel_rfl) ?_,λ N _ _=>rn Tryz.f151 [.tmp 4] [] 33 (by kernel_rfl) ?_,λ N _ _=>rn Tryz.f320 [.tmp 4,.tmp 5] [] 21 (by kernel_rfl) ?_,λ N _=>rn Tryz.f125 [.tmp 4] [] 9 (by kernel_rfl) ?_,λ N _=>rn Tryz.f20 [.cell 2 70,.tmp 3] [] 37 (by kernel_rfl) ?_,λ N _ _=>rn Tryz.f12 [.tmp 4] [] 45 (by kernel_rfl) ?_⟩<;>(rintro _ hw r hr C _ rfl hwf hf;have hgw:=hw;unfold GW at hgw;simp only[Tryz.f298,Tryz.f325,Tryz.f332,Tryz.f204,Tryz.f118,Tryz.f151,Tryz.f320,Tryz.f125,Tryz.f20,Tryz.f12,Option.get!];(first|rw[Qbu] at hr|rw[Qdt] at hr|rw[Qef] at hr|rw[QbY] at hr|rw[Qdd] at hr|rw[Qd5] at hr|rw[Qd6] at hr|rw[Qa5] at hr|rw[Qe1] at hr|rw[Qgk] at hr);repeat' first
 |(refine El.el hr ?_;intro hr)
 |(with_reducible intro h;refine Xw hr h ?_;intro hr)
 |with_reducible intro _
 |simp only[go_sem,simprocAttr,XnT,hl3,XQ,XE,hgw,Wz,WM,Uv]
 |(with_reducible first|apply Xg|apply Xf|apply Xo|apply Xt|apply Xu)
 |((first|with_reducible refine Yb hr (by assumption) ?_ ?_|(with_reducible refine X7 hr ?_ ?_;rotate_left;intro p;rotate_right));(·simp only[go_sem,simprocAttr,hgw,Wz,WM,Uv]);intro hp hn hd hr;(try have hl3:=hd _ e3);(try simp only[go_sem,simprocAttr] at hl3);(try have XQ:=hd _ e39);(try simp only[go_sem,simprocAttr] at XQ);(try have XE:=hd _ XB);(try simp only[go_sem,simprocAttr] at XE))
 |(refine Xp ?_ ?_;·first|assumption|omega)
 |(with_reducible refine Xfd hr ?_ ?_;(·simp only[go_sem]);intro p hp hn hd hr;(try have hl3:=hd _ e3);(try simp only[go_sem,simprocAttr] at hl3);(try have XQ:=hd _ e39);(try simp only[go_sem,simprocAttr] at XQ);(try have XE:=hd _ XB);(try simp only[go_sem,simprocAttr] at XE))
 |(with_reducible first|refine CallX.c ?_ _|refine OK.c hr hw ?_ (λ y hr=>?_) _)
 |with_reducible refine Oi 6 ?_ _
 |with_reducible refine LoopU.s 1000 ?_ _
 |refine db 325 4 hf 23 [(0,0,[]),(1,0,[]),(3,0,[]),(7,250360,[]),(15,250360,[]),(31,250360,[]),(7,249959,[]),(71,249959,[]),(7,249887,[]),(263,249887,[]),(967,249863,[]),(1991,249863,[]),(4095,249856,[]),(8191,249856,[]),(16383,249856,[]),(7,249855,[]),(65535,245760,[]),(7,16383,[]),(131079,16383,[]),(393223,16383,[]),(917511,16383,[]),(2097151,0,[]),(4194303,0,[])] rfl rfl (by kernel_rfl) ?_ _
 |refine db 325 11 hf 78 [(0,16286,[]),(0,16257,[]),(2,16257,[]),(6,16257,[]),(14,16257,[]),(31,16256,[]),(63,16256,[]),(0,1151,[]),(128,1151,[]),(384,1151,[]),(0,1023,[]),(1920,127,[]),(3968,127,[]),(8064,127,[]),(16383,0,[]),(32767,0,[]),(65535,0,[])] rfl rfl (by kernel_rfl) ?_ _
 |refine db 325 12 hf 94 [(0,8184,[]),(1,8184,[]),(3,8184,[]),(0,8183,[]),(0,2191,[]),(16,2191,[]),(48,2191,[]),(0,2175,[]),(240,2063,[]),(496,2063,[]),(1008,2063,[]),(0,2047,[]),(4080,15,[]),(8191,0,[]),(16383,0,[]),(32767,0,[[640,4160],[]])] rfl rfl (by kernel_rfl) ?_ _
 |refine db 332 5 hf 27 [(0,0,[]),(1,0,[]),(3,0,[]),(7,196,[]),(15,196,[]),(7,195,[]),(63,192,[]),(127,192,[]),(255,192,[]),(7,63,[]),(519,63,[]),(2047,0,[]),(4095,0,[]),(8191,0,[]),(16383,3809280,[]),(32767,3809280,[]),(16383,3807232,[]),(131071,3801088,[]),(262143,3801088,[]),(524287,3801088,[]),(16383,3799040,[]),(2097151,3670016,[]),(16383,522240,[]),(4210687,522240,[]),(12599295,522240,[]),(33554431,0,[]),(67108863,0,[]),(134217727,0,[]),(268435455,67108864,[]),(268435455,33554432,[]),(1073741823,0,[]),(2147483647,0,[])] rfl rfl (by kernel_rfl) ?_ _
 |refine db 332 11 hf 79 [(0,4046,[]),(0,4033,[]),(2,4033,[]),(6,4033,[]),(15,4032,[]),(31,4032,[]),(0,319,[]),(64,319,[]),(0,255,[]),(448,63,[]),(960,63,[]),(1984,63,[]),(4095,0,[]),(8191,0,[]),(16383,0,[])] rfl rfl (by kernel_rfl) ?_ _
 |refine db 332 12 hf 93 [(0,2044,[]),(1,2044,[]),(0,2043,[]),(0,551,[]),(8,551,[]),(0,543,[]),(56,519,[]),(120,519,[]),(248,519,[]),(0,511,[]),(1016,7,[]),(2047,0,[]),(4095,0,[]),(8191,0,[[704,4672],[]])] rfl rfl (by kernel_rfl) ?_ _
 |refine db 20 6 hf 6 [(0,33423361,[[],[384]]),(1,33423361,[[],[384]]),(3,33423361,[[],[384]]),(7,33423361,[[],[384]]),(0,31580161,[[],[384]]),(16,31580161,[[],[384]]),(48,31580161,[[],[384]]),(112,31580161,[[],[384]]),(0,2088961,[[],[384]]),(256,2088961,[[],[384]]),(768,2088961,[[],[384]]),(1792,2088961,[[],[384]]),(4095,1,[[],[384]]),(0,67100672,[[384],[]]),(16383,0,[[384],[]])] rfl rfl (by kernel_rfl) ?_ _
 |(refine Xn hr ?_;rintro rfl;with_reducible refine XF ?_)
 |exact Yj hr
 |fail)
@[reducible,instance] def QlW:=g13.1
@[reducible,instance] def QmA:=g13.2.1
@[reducible,instance] def QmB:=g13.2.2.1
@[reducible,instance] def QlX:=g13.2.2.2.1
@[reducible,instance] def Qlp:=g13.2.2.2.2.1
@[reducible,instance] def Qoo:=g13.2.2.2.2.2.1
@[reducible,instance] def Qnz:=g13.2.2.2.2.2.2.1
@[reducible,instance] def Qh0:=g13.2.2.2.2.2.2.2.1
@[reducible,instance] def Qlq:=g13.2.2.2.2.2.2.2.2.1
@[reducible,instance] def QnA:=g13.2.2.2.2.2.2.2.2.2
end Go.Sx
