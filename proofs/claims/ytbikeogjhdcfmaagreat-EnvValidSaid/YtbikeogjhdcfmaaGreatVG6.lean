import Derived.Test.YtbikeogjhdcfmaaGreatVF
import Derived.Test.YtbikeogjhdcfmaaGreatVG1
import Derived.Test.YtbikeogjhdcfmaaGreatVG2
import Derived.Test.YtbikeogjhdcfmaaGreatVG3
import Derived.Test.YtbikeogjhdcfmaaGreatVG4
import Derived.Test.YtbikeogjhdcfmaaGreatVG5
set_option linter.all false
namespace Go.Sx
open Go.Proofs
set_option maxRecDepth 10000
set_option maxHeartbeats 100000000
theorem g12:(∀ N (a0:WQ),OK (Qcd N a0) 5 [.agg (e23 a0)] [] (λ r=>.tup [.agg (e38 r.1),.v (.int .i64 r.2)]) λ r=>[])/\(∀ N (a0:Int),OK (QbJ N a0) 153 [.v (.int .u64 a0)] [] (λ r=>.tup [.agg (e82 r.1),.v (.bool r.2)]) λ r=>[])/\(∀ N (a0:WY) (a1:Int),OK (QdQ N a0 a1) 295 [.agg (Kv a0),.v (.int .i64 a1)] [] (λ r=>.tup [.agg (Kv r.1),.v (.int .u64 r.2.1),.v (.bool r.2.2)]) λ r=>[])/\(∀ N (a0:Wn) (a1:Int),OK (Qdo N a0 a1) 300 [.agg (e27 a0),.v (.int .i64 a1)] [] (λ r=>.tup [.agg (e27 r.1),.v (.int .u64 r.2.1),.v (.bool r.2.2)]) λ r=>[])/\(∀ N (a0:WG) (a1:Int) (a2:Int),OK (Qcl N a0 a1 a2) 204 [.agg (e35 a0),.v (.int .i64 a1),.v (.int .i64 a2)] [] (λ r=>.tup [.agg (e35 r.1),.v (.int .i64 r.2)]) λ r=>[])/\(∀ N (a0:WM) (a1:Int) (a2:Int),OK (QdC N a0 a1 a2) 136 [.agg (e59 a0),.v (.int .i64 a1),.v (.int .u64 a2)] [] (λ r=>.tup [.agg (e59 r.1),.v (.int .u64 r.2)]) λ r=>[])/\(∀ N (a0:W8) (a1:UU),OK (Qfy N a0 a1) 21 [.agg (e38 a0),.ept 1000000 0 2 0 0] [.arr true 66 2 [[.isl 3 1 (a1.L.map e3),.v (.int .i64 a1.at_)]] 0] (λ r=>.agg (e38 r.1)) λ r=>[.arr true 66 2 [[.isl 3 1 (r.2.L.map e3),.v (.int .i64 r.2.at_)]] 0])/\(∀ N (a0:List Int),OK (Qa9 N a0) 53 [.isl 3 1 (a0.map e3),.clo (.func 54) [] []] [] (λ r=>.v (.bool r)) λ r=>[])/\(∀ N (a0:Int),OK (Qfd N a0) 273 [.v (.int .u64 a0)] [] (λ r=>.tup [.agg (e82 r.1),.v (.bool r.2)]) λ r=>[])/\(∀ N (a0:List UG) (a1:Int),OK (Qfe N a0 a1) 85 [.isl 77 2 (a0.map e77),.v (.int .u64 a1)] [] (λ r=>.v (.int .i64 r)) λ r=>[]):=by
 refine ⟨λ N _=>rn Tryz.f5 [.cell 2 38,.tmp 3] [] 14 (by kernel_rfl) ?_,λ N _=>rn Tryz.f153 [.cell 2 82,.tmp 3] [] 33 (by kernel_rfl) ?_,λ N _ _=>rn Tryz.f295 [.cell 4 257,.tmp 5,.tmp 6] [] 111 (by kernel_rfl) ?_,λ N _ _=>rn Tryz.f300 [.cell 4 27,.tmp 5,.tmp 6] [] 108 (by kernel_rfl) ?_,λ N _ _ _=>rn Tryz.f204 [.cell 6 35,.tmp 7] [] 26 (by kernel_rfl) ?_,λ N _ _ _=>rn Tryz.f136 [.cell 6 59,.tmp 7] [] 46 (by kernel_rfl) ?_,λ N _ _=>rn Tryz.f21 [.cell 4 38] [] 129 (by kernel_rfl) ?_,λ N _=>rn Tryz.f53 [.tmp 4] [] 9 (by kernel_rfl) ?_,λ N _=>rn Tryz.f273 [.cell 2 82,.tmp 3] [] 40 (by kernel_rfl) ?_,λ N _ _=>rn Tryz.f85 [.tmp 4] [] 8 (by kernel_rfl) ?_⟩<;>(rintro _ hw r hr C _ rfl hwf hf;simp only[Tryz.f5,Tryz.f153,Tryz.f295,Tryz.f300,Tryz.f204,Tryz.f136,Tryz.f21,Tryz.f53,Tryz.f273,Tryz.f85,Option.get!];(first|rw[Qcd] at hr|rw[QbJ] at hr|rw[QdQ] at hr|rw[Qdo] at hr|rw[Qcl] at hr|rw[QdC] at hr|rw[Qfy] at hr|rw[Qa9] at hr|rw[Qfd] at hr|rw[Qfe] at hr);repeat' first
 |(refine El.el hr ?_;intro hr)
 |(with_reducible intro h;refine XB hr h ?_;intro hr)
 |with_reducible intro _
 |simp only[go_sem,simprocAttr,hl3,XU,ZB,XK]
 |(with_reducible first|apply Xk|apply Xj|apply Xp|apply Xr|apply Xs)
 |((first|with_reducible refine Yk hr (by assumption) ?_ ?_|(with_reducible refine Yf hr ?_ ?_;rotate_left;intro p;rotate_right));(·simp only[go_sem,simprocAttr]);intro hp hn hd hr;(try have hl3:=hd _ e3);(try simp only[go_sem,simprocAttr] at hl3);(try have XU:=hd _ e71);(try simp only[go_sem,simprocAttr] at XU);(try have ZB:=hd _ e88);(try simp only[go_sem,simprocAttr] at ZB);(try have XK:=hd _ XF);(try simp only[go_sem,simprocAttr] at XK))
 |(refine Xq ?_ ?_;·first|assumption|omega)
 |(with_reducible refine Xm9 hr ?_ ?_;(·simp only[go_sem]);intro p hp hn hd hr;(try have hl3:=hd _ e3);(try simp only[go_sem,simprocAttr] at hl3);(try have XU:=hd _ e71);(try simp only[go_sem,simprocAttr] at XU);(try have ZB:=hd _ e88);(try simp only[go_sem,simprocAttr] at ZB);(try have XK:=hd _ XF);(try simp only[go_sem,simprocAttr] at XK))
 |(with_reducible first|refine CallX.c ?_ _|refine OK.c hr hw ?_ (λ y hr=>?_) _|refine Oe hr hw ?_ (λ y hr=>?_) _)
 |refine db 295 4 hf 23 [(0,0,[]),(1,0,[]),(3,0,[]),(7,250360,[]),(15,250360,[]),(31,250360,[]),(7,249959,[]),(71,249959,[]),(7,249887,[]),(263,249887,[]),(967,249863,[]),(1991,249863,[]),(4095,249856,[]),(8191,249856,[]),(16383,249856,[]),(7,249855,[]),(65535,245760,[]),(7,16383,[]),(131079,16383,[]),(393223,16383,[]),(917511,16383,[]),(2097151,0,[]),(4194303,0,[])] rfl rfl (by kernel_rfl) ?_ _
 |refine db 295 11 hf 78 [(0,16286,[]),(0,16257,[]),(2,16257,[]),(6,16257,[]),(14,16257,[]),(31,16256,[]),(63,16256,[]),(0,1151,[]),(128,1151,[]),(384,1151,[]),(0,1023,[]),(1920,127,[]),(3968,127,[]),(8064,127,[]),(16383,0,[]),(32767,0,[]),(65535,0,[])] rfl rfl (by kernel_rfl) ?_ _
 |refine db 295 12 hf 94 [(0,8184,[]),(1,8184,[]),(3,8184,[]),(0,8183,[]),(0,2191,[]),(16,2191,[]),(48,2191,[]),(0,2175,[]),(240,2063,[]),(496,2063,[]),(1008,2063,[]),(0,2047,[]),(4080,15,[]),(8191,0,[]),(16383,0,[]),(32767,0,[[640,4160],[]])] rfl rfl (by kernel_rfl) ?_ _
 |refine db 300 5 hf 27 [(0,0,[]),(1,0,[]),(3,0,[]),(7,196,[]),(15,196,[]),(7,195,[]),(63,192,[]),(127,192,[]),(255,192,[]),(7,63,[]),(519,63,[]),(2047,0,[]),(4095,0,[]),(8191,0,[]),(16383,3809280,[]),(32767,3809280,[]),(16383,3807232,[]),(131071,3801088,[]),(262143,3801088,[]),(524287,3801088,[]),(16383,3799040,[]),(2097151,3670016,[]),(16383,522240,[]),(4210687,522240,[]),(12599295,522240,[]),(33554431,0,[]),(67108863,0,[]),(134217727,0,[]),(268435455,67108864,[]),(268435455,33554432,[]),(1073741823,0,[]),(2147483647,0,[])] rfl rfl (by kernel_rfl) ?_ _
 |refine db 300 11 hf 79 [(0,4046,[]),(0,4033,[]),(2,4033,[]),(6,4033,[]),(15,4032,[]),(31,4032,[]),(0,319,[]),(64,319,[]),(0,255,[]),(448,63,[]),(960,63,[]),(1984,63,[]),(4095,0,[]),(8191,0,[]),(16383,0,[])] rfl rfl (by kernel_rfl) ?_ _
 |refine db 300 12 hf 93 [(0,2044,[]),(1,2044,[]),(0,2043,[]),(0,551,[]),(8,551,[]),(0,543,[]),(56,519,[]),(120,519,[]),(248,519,[]),(0,511,[]),(1016,7,[]),(2047,0,[]),(4095,0,[]),(8191,0,[[704,4672],[]])] rfl rfl (by kernel_rfl) ?_ _
 |refine db 21 11 hf 46 [(0,3640,[[],[1000000]]),(1,3640,[[],[1000000]]),(3,3640,[[],[1000000]]),(0,535,[]),(0,527,[]),(24,519,[[1000000],[]]),(63,3584,[[],[1000000]]),(127,3584,[[],[1000000]]),(255,3584,[[],[1000000]]),(0,511,[[],[1000000]]),(568,455,[[1000000],[]]),(1592,455,[]),(4095,0,[]),(8191,0,[]),(16383,0,[]),(32767,0,[[2496],[]])] rfl rfl (by kernel_rfl) ?_ _
 |refine db 273 4 hf 6 [(0,267386881,[[],[384]]),(1,267386881,[[],[384]]),(3,267386881,[[],[384]]),(7,267386881,[[],[384]]),(0,252641281,[[],[384]]),(16,252641281,[[],[384]]),(48,252641281,[[],[384]]),(112,252641281,[[],[384]]),(0,16711681,[[],[384]]),(256,16711681,[[],[384]]),(768,16711681,[[],[384]]),(1792,16711681,[[],[384]]),(4095,1,[[],[384]]),(0,536805376,[[384],[]]),(16383,0,[[384],[]])] rfl rfl (by kernel_rfl) ?_ _
 |(refine Xn hr ?_;rintro rfl;with_reducible refine XM ?_)
 |exact Yw hr
 |fail)
@[reducible,instance] def Qok:=g12.1
@[reducible,instance] def QlV:=g12.2.1
@[reducible,instance] def Qmw:=g12.2.2.1
@[reducible,instance] def Qmx:=g12.2.2.2.1
@[reducible,instance] def QlW:=g12.2.2.2.2.1
@[reducible,instance] def Qls:=g12.2.2.2.2.2.1
@[reducible,instance] def Qol:=g12.2.2.2.2.2.2.1
@[reducible,instance] def Qh0:=g12.2.2.2.2.2.2.2.1
@[reducible,instance] def Qlt:=g12.2.2.2.2.2.2.2.2.1
@[reducible,instance] def Qlu:=g12.2.2.2.2.2.2.2.2.2
end Go.Sx
