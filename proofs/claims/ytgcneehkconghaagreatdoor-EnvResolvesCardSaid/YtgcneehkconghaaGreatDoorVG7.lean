import Derived.Test.YtgcneehkconghaaGreatDoorVF
import Derived.Test.YtgcneehkconghaaGreatDoorVG0
import Derived.Test.YtgcneehkconghaaGreatDoorVG1
import Derived.Test.YtgcneehkconghaaGreatDoorVG2
import Derived.Test.YtgcneehkconghaaGreatDoorVG3
import Derived.Test.YtgcneehkconghaaGreatDoorVG4
import Derived.Test.YtgcneehkconghaaGreatDoorVG5
import Derived.Test.YtgcneehkconghaaGreatDoorVG6
set_option linter.all false
namespace Go.Sx
open Go.Proofs
set_option maxRecDepth 10000
set_option maxHeartbeats 100000000
theorem g13:(∀ N (a0:Int),OK (QbK N a0) 298 [.v (.int .u64 a0)] [] (λ r=>.tup [.agg (e80 r.1),.v (.bool r.2)]) λ r=>[])/\(∀ N (a0:W0) (a1:Int),OK (QdO N a0 a1) 325 [.agg (KC a0),.v (.int .i64 a1)] [] (λ r=>.tup [.agg (KC r.1),.v (.int .u64 r.2.1),.v (.bool r.2.2)]) λ r=>[])/\(∀ N (a0:Wn) (a1:Int),OK (Qdn N a0 a1) 332 [.agg (e27 a0),.v (.int .i64 a1)] [] (λ r=>.tup [.agg (e27 r.1),.v (.int .u64 r.2.1),.v (.bool r.2.2)]) λ r=>[])/\(∀ N (a0:WI) (a1:Int) (a2:Int),OK (Qcj N a0 a1 a2) 204 [.agg (e35 a0),.v (.int .i64 a1),.v (.int .i64 a2)] [] (λ r=>.tup [.agg (e35 r.1),.v (.int .i64 r.2)]) λ r=>[])/\(∀ N (a0:WM) (a1:Int) (a2:Int),OK (Qdz N a0 a1 a2) 118 [.agg (e43 a0),.v (.int .i64 a1),.v (.int .u64 a2)] [] (λ r=>.tup [.agg (e43 r.1),.v (.int .u64 r.2)]) λ r=>[])/\(∀ N (a0:W6) (a1:UU),OK (Qfr N a0 a1) 17 [.agg (e38 a0),.ept 1000000 0 2 0 0] [.arr true 60 2 [[.isl 3 1 (a1.L.map e3),.v (.int .i64 a1.at_)]] 0] (λ r=>.agg (e38 r.1)) λ r=>[.arr true 60 2 [[.isl 3 1 (r.2.L.map e3),.v (.int .i64 r.2.at_)]] 0])/\(∀ N (a0:Int),OK (Qe3 N a0) 351 [.v (.int .u64 a0)] [] (λ r=>.tup [.agg (e80 r.1),.v (.bool r.2)]) λ r=>[])/\(∀ N (a0:List UN) (a1:Int),OK (Qe4 N a0 a1) 218 [.isl 119 2 (a0.map Zc),.v (.int .u64 a1)] [] (λ r=>.v (.int .i64 r)) λ r=>[])/\(∀ N (a0:List (List Int)),OK (QfH N a0) 54 [.isl 24 1 (a0.map e24)] [] (λ r=>.isl 39 1 (r.map e39)) λ r=>[])/\(∀ N (a0:W6),OK (Qhp N a0) 29 [.agg (e38 a0)] [] (λ r=>.agg (e38 r)) λ r=>[]):=by
 refine ⟨λ N _=>rn Tryz.f298 [.cell 2 80,.tmp 3] [] 33 (by kernel_rfl) ?_,λ N _ _=>rn Tryz.f325 [.cell 4 232,.tmp 5,.tmp 6] [] 111 (by kernel_rfl) ?_,λ N _ _=>rn Tryz.f332 [.cell 4 27,.tmp 5,.tmp 6] [] 108 (by kernel_rfl) ?_,λ N _ _ _=>rn Tryz.f204 [.cell 6 35,.tmp 7] [] 26 (by kernel_rfl) ?_,λ N _ _ _=>rn Tryz.f118 [.cell 6 43,.tmp 7] [] 46 (by kernel_rfl) ?_,λ N _ _=>rn Tryz.f17 [.cell 4 38] [] 129 (by kernel_rfl) ?_,λ N _=>rn Tryz.f351 [.cell 2 80,.tmp 3] [] 40 (by kernel_rfl) ?_,λ N _ _=>rn Tryz.f218 [.tmp 4] [] 8 (by kernel_rfl) ?_,λ N _=>rn Tryz.f54 [.tmp 2] [] 5 (by kernel_rfl) ?_,λ N _=>rn Tryz.f29 [.cell 2 38] [] 22 (by kernel_rfl) ?_⟩<;>(rintro _ hw r hr C _ rfl hwf hf;simp only[Tryz.f298,Tryz.f325,Tryz.f332,Tryz.f204,Tryz.f118,Tryz.f17,Tryz.f351,Tryz.f218,Tryz.f54,Tryz.f29,Option.get!];(first|rw[QbK] at hr|rw[QdO] at hr|rw[Qdn] at hr|rw[Qcj] at hr|rw[Qdz] at hr|rw[Qfr] at hr|rw[Qe3] at hr|rw[Qe4] at hr|rw[QfH] at hr|rw[Qhp] at hr);repeat' first
 |(refine El.el hr ?_;intro hr)
 |(with_reducible intro h;refine XA hr h ?_;intro hr)
 |with_reducible intro _
 |simp only[go_sem,simprocAttr,hl3,XR,Yk,XK]
 |(with_reducible first|apply Xk|apply Xj|apply Xo|apply Xt|apply Xu)
 |((first|with_reducible refine Ym hr (by assumption) ?_ ?_|(with_reducible refine Yi hr ?_ ?_;rotate_left;intro p;rotate_right));(·simp only[go_sem,simprocAttr]);intro hp hn hd hr;(try have hl3:=hd _ e3);(try simp only[go_sem,simprocAttr] at hl3);(try have XR:=hd _ e39);(try simp only[go_sem,simprocAttr] at XR);(try have Yk:=hd _ Zm);(try simp only[go_sem,simprocAttr] at Yk);(try have XK:=hd _ XG);(try simp only[go_sem,simprocAttr] at XK))
 |(refine Xp ?_ ?_;·first|assumption|omega)
 |(with_reducible refine Xgw hr ?_ ?_;(·simp only[go_sem]);intro p hp hn hd hr;(try have hl3:=hd _ e3);(try simp only[go_sem,simprocAttr] at hl3);(try have XR:=hd _ e39);(try simp only[go_sem,simprocAttr] at XR);(try have Yk:=hd _ Zm);(try simp only[go_sem,simprocAttr] at Yk);(try have XK:=hd _ XG);(try simp only[go_sem,simprocAttr] at XK))
 |(with_reducible first|refine CallX.c ?_ _|refine OK.c hr hw ?_ (λ y hr=>?_) _|refine Og hr hw ?_ (λ y hr=>?_) _)
 |refine db 325 4 hf 23 [(0,0,[]),(1,0,[]),(3,0,[]),(7,250360,[]),(15,250360,[]),(31,250360,[]),(7,249959,[]),(71,249959,[]),(7,249887,[]),(263,249887,[]),(967,249863,[]),(1991,249863,[]),(4095,249856,[]),(8191,249856,[]),(16383,249856,[]),(7,249855,[]),(65535,245760,[]),(7,16383,[]),(131079,16383,[]),(393223,16383,[]),(917511,16383,[]),(2097151,0,[]),(4194303,0,[])] rfl rfl (by kernel_rfl) ?_ _
 |refine db 325 11 hf 78 [(0,16286,[]),(0,16257,[]),(2,16257,[]),(6,16257,[]),(14,16257,[]),(31,16256,[]),(63,16256,[]),(0,1151,[]),(128,1151,[]),(384,1151,[]),(0,1023,[]),(1920,127,[]),(3968,127,[]),(8064,127,[]),(16383,0,[]),(32767,0,[]),(65535,0,[])] rfl rfl (by kernel_rfl) ?_ _
 |refine db 325 12 hf 94 [(0,8184,[]),(1,8184,[]),(3,8184,[]),(0,8183,[]),(0,2191,[]),(16,2191,[]),(48,2191,[]),(0,2175,[]),(240,2063,[]),(496,2063,[]),(1008,2063,[]),(0,2047,[]),(4080,15,[]),(8191,0,[]),(16383,0,[]),(32767,0,[[640,4160],[]])] rfl rfl (by kernel_rfl) ?_ _
 |refine db 332 5 hf 27 [(0,0,[]),(1,0,[]),(3,0,[]),(7,196,[]),(15,196,[]),(7,195,[]),(63,192,[]),(127,192,[]),(255,192,[]),(7,63,[]),(519,63,[]),(2047,0,[]),(4095,0,[]),(8191,0,[]),(16383,3809280,[]),(32767,3809280,[]),(16383,3807232,[]),(131071,3801088,[]),(262143,3801088,[]),(524287,3801088,[]),(16383,3799040,[]),(2097151,3670016,[]),(16383,522240,[]),(4210687,522240,[]),(12599295,522240,[]),(33554431,0,[]),(67108863,0,[]),(134217727,0,[]),(268435455,67108864,[]),(268435455,33554432,[]),(1073741823,0,[]),(2147483647,0,[])] rfl rfl (by kernel_rfl) ?_ _
 |refine db 332 11 hf 79 [(0,4046,[]),(0,4033,[]),(2,4033,[]),(6,4033,[]),(15,4032,[]),(31,4032,[]),(0,319,[]),(64,319,[]),(0,255,[]),(448,63,[]),(960,63,[]),(1984,63,[]),(4095,0,[]),(8191,0,[]),(16383,0,[])] rfl rfl (by kernel_rfl) ?_ _
 |refine db 332 12 hf 93 [(0,2044,[]),(1,2044,[]),(0,2043,[]),(0,551,[]),(8,551,[]),(0,543,[]),(56,519,[]),(120,519,[]),(248,519,[]),(0,511,[]),(1016,7,[]),(2047,0,[]),(4095,0,[]),(8191,0,[[704,4672],[]])] rfl rfl (by kernel_rfl) ?_ _
 |refine db 17 11 hf 46 [(0,3640,[[],[1000000]]),(1,3640,[[],[1000000]]),(3,3640,[[],[1000000]]),(0,535,[]),(0,527,[]),(24,519,[[1000000],[]]),(63,3584,[[],[1000000]]),(127,3584,[[],[1000000]]),(255,3584,[[],[1000000]]),(0,511,[[],[1000000]]),(568,455,[[1000000],[]]),(1592,455,[]),(4095,0,[]),(8191,0,[]),(16383,0,[]),(32767,0,[[2496],[]])] rfl rfl (by kernel_rfl) ?_ _
 |refine db 351 4 hf 6 [(0,267386881,[[],[384]]),(1,267386881,[[],[384]]),(3,267386881,[[],[384]]),(7,267386881,[[],[384]]),(0,252641281,[[],[384]]),(16,252641281,[[],[384]]),(48,252641281,[[],[384]]),(112,252641281,[[],[384]]),(0,16711681,[[],[384]]),(256,16711681,[[],[384]]),(768,16711681,[[],[384]]),(1792,16711681,[[],[384]]),(4095,1,[[],[384]]),(0,536805376,[[384],[]]),(16383,0,[[384],[]])] rfl rfl (by kernel_rfl) ?_ _
 |refine db 29 1 hf 3 [(0,112344,[]),(1,112344,[]),(3,112344,[]),(0,112327,[]),(8,112327,[]),(31,112320,[]),(0,112191,[]),(64,112191,[]),(255,112128,[]),(0,111103,[]),(512,111103,[]),(2047,110592,[]),(0,102399,[]),(4096,102399,[]),(16383,98304,[[1088],[]]),(0,32767,[[],[1088]]),(32768,32767,[[],[1088]]),(131071,0,[[1280],[]]),(262143,0,[]),(524287,0,[[128],[]])] rfl rfl (by kernel_rfl) ?_ _
 |(refine Xn hr ?_;rintro rfl;with_reducible refine XM ?_)
 |exact Yw hr
 |fail)
@[reducible,instance] def QlH:=g13.1
@[reducible,instance] def Qmi:=g13.2.1
@[reducible,instance] def Qmj:=g13.2.2.1
@[reducible,instance] def QlI:=g13.2.2.2.1
@[reducible,instance] def Qlc:=g13.2.2.2.2.1
@[reducible,instance] def Qn2:=g13.2.2.2.2.2.1
@[reducible,instance] def Qld:=g13.2.2.2.2.2.2.1
@[reducible,instance] def Qle:=g13.2.2.2.2.2.2.2.1
@[reducible,instance] def Qnd:=g13.2.2.2.2.2.2.2.2.1
@[reducible,instance] def Qne:=g13.2.2.2.2.2.2.2.2.2
end Go.Sx
