import Derived.Test.YtbikeogjhdcfmaaGreatVF
import Derived.Test.YtbikeogjhdcfmaaGreatVG0
import Derived.Test.YtbikeogjhdcfmaaGreatVG1
import Derived.Test.YtbikeogjhdcfmaaGreatVG2
set_option linter.all false
namespace Go.Sx
open Go.Proofs
set_option maxRecDepth 10000
set_option maxHeartbeats 100000000
theorem g6:(∀ N (a0:WQ),OK (Qhx N a0) 14 [.agg (e23 a0)] [] (λ r=>.tup [.agg (e27 r.1),.v (.int .i64 r.2)]) λ r=>[])/\(∀ N (a0:WQ),OK (Qft N a0) 77 [.agg (e23 a0)] [] (λ r=>.tup [.agg (e59 r.1),.v (.int .i64 r.2)]) λ r=>[])/\(∀ N (a0:List Int) (a1:Int),OK (Qfh N a0 a1) 234 [.isl 71 1 (a0.map e71),.v (.int .u64 a1)] [] (λ r=>.tup [.v (.int .i64 r.1),.v (.int .i64 r.2)]) λ r=>[])/\(∀ N (a0:WQ) (a1:Int) (a2:Int),OK (Qbq N a0 a1 a2) 233 [.agg (e23 a0),.v (.int .i64 a1),.v (.int .i64 a2)] [] (λ r=>.tup [.v (.int .u64 r.1),.v (.int .i64 r.2)]) λ r=>[])/\(∀ N (a0:WY) (a1:Int),OK (QdZ N a0 a1) 257 [.agg (Kv a0),.v (.int .i64 a1)] [] (λ r=>.v (.bool r)) λ r=>[])/\(∀ N (a0:Iy),OK (Qbr N a0) 201 [.agg (Xm5 a0)] [] (λ r=>.tup [.v (.int .u64 r.1),.v (.int .i64 r.2)]) λ r=>[])/\(∀ N (a0:Iv) (a1:UU),OK (Qbk N a0 a1) 83 [.agg (e61 a0),.ept 1000000 0 2 0 0] [.arr true 66 2 [[.isl 3 1 (a1.L.map e3),.v (.int .i64 a1.at_)]] 0] (λ r=>.v (.int .u64 r.1)) λ r=>[.arr true 66 2 [[.isl 3 1 (r.2.L.map e3),.v (.int .i64 r.2.at_)]] 0])/\(∀ N (a0:Wv) (a1:WQ),OK (Qdi N a0 a1) 237 [.agg (Xfy a0),.agg (e23 a1)] [] (λ r=>.v (.bool r)) λ r=>[])/\(∀ N (a0:WQ) (a1:Int),OK (QfO N a0 a1) 86 [.agg (e23 a0),.v (.int .u64 a1)] [] (λ r=>.tup [.v (.int .i64 r.1),.v (.int .i64 r.2.1),.v (.int .i64 r.2.2)]) λ r=>[])/\(∀ N (a0:Int) (a1:Int),OK (Qfp N a0 a1) 95 [.v (.int .u64 a0),.v (.int .u64 a1)] [] (λ r=>.v (.bool r)) λ r=>[])/\(∀ N (a0:Ww),OK (QgO N a0) 106 [.agg (e32 a0)] [] (λ r=>.agg (e32 r)) λ r=>[])/\(∀ N (a0:WQ),OK (QfV N a0) 241 [.agg (e23 a0)] [] (λ r=>.v (.int .i64 r)) λ r=>[])/\(∀ N (a0:Wn) (a1:List Int) (a2:Int),OK (QfX N a0 a1 a2) 168 [.agg (e27 a0),.isl 71 1 (a1.map e71),.v (.int .i64 a2)] [] (λ r=>.tup [.agg (e27 r.1),.v (.int .i64 r.2)]) λ r=>[]):=by
 refine ⟨λ N _=>rn Tryz.f14 [.cell 2 27,.tmp 3] [] 29 (by kernel_rfl) ?_,λ N _=>rn Tryz.f77 [.cell 2 59,.tmp 3] [] 10 (by kernel_rfl) ?_,λ N _ _=>rn Tryz.f234 [.tmp 4,.tmp 5] [] 17 (by kernel_rfl) ?_,λ N _ _ _=>rn Tryz.f233 [.tmp 6,.tmp 7] [] 37 (by kernel_rfl) ?_,λ N _ _=>rn Tryz.f257 [.tmp 4] [] 39 (by kernel_rfl) ?_,λ N _=>rn Tryz.f201 [.tmp 2,.tmp 3] [] 20 (by kernel_rfl) ?_,λ N _ _=>rn Tryz.f83 [.tmp 4] [] 53 (by kernel_rfl) ?_,λ N _ _=>rn Tryz.f237 [.tmp 4] [] 23 (by kernel_rfl) ?_,λ N _ _=>rn Tryz.f86 [.tmp 4,.tmp 5,.tmp 6] [] 37 (by kernel_rfl) ?_,λ N _ _=>rn Tryz.f95 [.tmp 4] [] 17 (by kernel_rfl) ?_,λ N _=>rn Tryz.f106 [.cell 2 32] [] 13 (by kernel_rfl) ?_,λ N _=>rn Tryz.f241 [.tmp 2] [] 9 (by kernel_rfl) ?_,λ N _ _ _=>rn Tryz.f168 [.cell 6 27,.tmp 7] [] 19 (by kernel_rfl) ?_⟩<;>(rintro _ hw r hr C _ rfl hwf hf;simp only[Tryz.f14,Tryz.f77,Tryz.f234,Tryz.f233,Tryz.f257,Tryz.f201,Tryz.f83,Tryz.f237,Tryz.f86,Tryz.f95,Tryz.f106,Tryz.f241,Tryz.f168,Option.get!];(first|rw[Qhx] at hr|rw[Qft] at hr|rw[Qfh] at hr|rw[Qbq] at hr|rw[QdZ] at hr|rw[Qbr] at hr|rw[Qbk] at hr|rw[Qdi] at hr|rw[QfO] at hr|rw[Qfp] at hr|rw[QgO] at hr|rw[QfV] at hr|rw[QfX] at hr);repeat' first
 |(refine El.el hr ?_;intro hr)
 |(with_reducible intro h;refine XB hr h ?_;intro hr)
 |with_reducible intro _
 |simp only[go_sem,simprocAttr,XU,XK]
 |(with_reducible first|apply Xk|apply Xj|apply Xp|apply Xr|apply Xs)
 |((first|with_reducible refine Yk hr (by assumption) ?_ ?_|(with_reducible refine Yf hr ?_ ?_;rotate_left;intro p;rotate_right));(·simp only[go_sem,simprocAttr]);intro hp hn hd hr;(try have XU:=hd _ e71);(try simp only[go_sem,simprocAttr] at XU);(try have XK:=hd _ XF);(try simp only[go_sem,simprocAttr] at XK))
 |(refine Xq ?_ ?_;·first|assumption|omega)
 |(with_reducible first|refine CallX.c ?_ _|refine OK.c hr hw ?_ (λ y hr=>?_) _|refine Oe hr hw ?_ (λ y hr=>?_) _)
 |refine db 14 6 hf 23 [(0,30,[[],[1728]]),(0,29,[[],[1728]]),(0,3,[]),(4,3,[]),(12,3,[[1728],[]]),(31,0,[]),(63,0,[[128],[]]),(127,0,[])] rfl rfl (by kernel_rfl) ?_ _
 |refine db 83 6 hf 20 [(0,924,[[],[1000000]]),(1,924,[[],[1000000]]),(0,139,[]),(0,135,[]),(12,131,[[1000000],[]]),(31,896,[[],[1000000]]),(63,896,[[],[1000000]]),(0,127,[[],[1000000]]),(156,99,[[1000000],[]]),(412,99,[]),(1023,0,[]),(2047,0,[])] rfl rfl (by kernel_rfl) ?_ _
 |refine db 83 10 hf 35 [(0,28,[[],[1000000]]),(1,28,[[],[1000000]]),(0,11,[]),(0,7,[]),(12,3,[[1000000],[]]),(31,0,[]),(63,0,[]),(127,0,[])] rfl rfl (by kernel_rfl) ?_ _
 |refine db 83 11 hf 42 [(0,508,[[],[1000000]]),(1,508,[[],[1000000]]),(0,243,[[],[1000000]]),(4,243,[[],[1000000]]),(0,111,[]),(0,31,[]),(32,31,[]),(112,15,[[1000000],[]]),(252,3,[]),(511,0,[]),(1023,0,[]),(2047,0,[])] rfl rfl (by kernel_rfl) ?_ _
 |refine db 86 6 hf 4 [(0,8254390272,[]),(0,8086618112,[]),(2,8086618112,[]),(7,8053063680,[]),(0,3724541953,[]),(0,1040187393,[]),(32,1040187393,[]),(112,503316481,[]),(15,8053063680,[]),(511,0,[]),(1023,0,[])] rfl rfl (by kernel_rfl) ?_ _
 |refine db 106 1 hf 3 [(0,216,[]),(1,216,[]),(3,216,[[320],[]]),(0,199,[[],[320]]),(8,199,[[],[320]]),(31,192,[[512],[]]),(0,63,[[],[320,512]]),(64,63,[[],[320,512]]),(255,0,[[704],[]]),(511,0,[]),(1023,0,[[128],[]])] rfl rfl (by kernel_rfl) ?_ _
 |(refine Xn hr ?_;rintro rfl;with_reducible refine XM ?_)
 |exact Yw hr
 |fail)
@[reducible,instance] def QoG:=g6.1
@[reducible,instance] def Qof:=g6.2.1
@[reducible,instance] def Qmq:=g6.2.2.1
@[reducible,instance] def Qlo:=g6.2.2.2.1
@[reducible,instance] def Qk6:=g6.2.2.2.2.1
@[reducible,instance] def QlP:=g6.2.2.2.2.2.1
@[reducible,instance] def Qk7:=g6.2.2.2.2.2.2.1
@[reducible,instance] def QkP:=g6.2.2.2.2.2.2.2.1
@[reducible,instance] def QoK:=g6.2.2.2.2.2.2.2.2.1
@[reducible,instance] def QkW:=g6.2.2.2.2.2.2.2.2.2.1
@[reducible,instance] def Qlp:=g6.2.2.2.2.2.2.2.2.2.2.1
@[reducible,instance] def Qnq:=g6.2.2.2.2.2.2.2.2.2.2.2.1
@[reducible,instance] def Qk8:=g6.2.2.2.2.2.2.2.2.2.2.2.2
theorem g7:(∀ N (a0:WQ),OK (Qeg N a0) 15 [.agg (e23 a0)] [] (λ r=>.tup [.agg (e27 r.1),.v (.int .i64 r.2)]) λ r=>[])/\(∀ N (a0:WQ),OK (QbI N a0) 277 [.agg (e23 a0)] [] (λ r=>.v (.int .i64 r)) λ r=>[])/\(∀ N (a0:Wz),OK (Qcg N a0) 235 [.agg (e82 a0)] [] (λ r=>.tup [.v (.int .u64 r.1),.v (.int .i64 r.2)]) λ r=>[])/\(∀ N (a0:List Int) (a1:Int) (a2:Int),OK (QcN N a0 a1 a2) 282 [.isl 71 1 (a0.map e71),.v (.int .u64 a1),.v (.int .i64 a2)] [] (λ r=>.tup [.isl 71 1 (r.1.map e71),.v (.int .i64 r.2)]) λ r=>[])/\(∀ N (a0:List Wv) (a1:Int) (a2:Int),OK (Qbx N a0 a1 a2) 308 [.isl 108 4 (a0.map XF),.v (.int .i64 a1),.v (.int .i64 a2)] [] (λ r=>.tup [.fsl 108 4 (r.1.map XF),.v (.int .i64 r.2)]) λ r=>[])/\(∀ N (a0:WG) (a1:Int) (a2:Int),OK (Qdt N a0 a1 a2) 215 [.agg (e35 a0),.v (.int .i64 a1),.v (.int .i64 a2)] [] (λ r=>.tup [.v (.int .u64 r.1),.v (.int .i64 r.2)]) λ r=>[])/\(∀ N (a0:W8),OK (Qfa N a0) 22 [.agg (e38 a0)] [] (λ r=>.v (.bool r)) λ r=>[])/\(∀ N (a0:Wz),OK (QcV N a0) 102 [.agg (e82 a0)] [] (λ r=>.v (.bool r)) λ r=>[])/\(∀ N (a0:List Int) (a1:Int),OK (QgE N a0 a1) 275 [.isl 71 1 (a0.map e71),.v (.int .u64 a1)] [] (λ r=>.tup [.v (.int .i64 r.1),.v (.int .i64 r.2)]) λ r=>[])/\(∀ N (a0:List Int) (a1:Int),OK (Qa6 N a0 a1) 26 [.isl 71 1 (a0.map e71),.v (.int .u64 a1)] [] (λ r=>.v (.bool r)) λ r=>[])/\(∀ N (a0:WG),OK (Qgs N a0) 107 [.agg (e35 a0)] [] (λ r=>.agg (e35 r)) λ r=>[])/\(∀ N (a0:Int) (a1:Int),OK (Qer N a0 a1) 286 [.v (.int .u64 a0),.v (.int .i64 a1)] [] (λ r=>.v (.bool r)) λ r=>[]):=by
 refine ⟨λ N _=>rn Tryz.f15 [.cell 2 27,.tmp 3] [] 19 (by kernel_rfl) ?_,λ N _=>rn Tryz.f277 [.tmp 2] [] 9 (by kernel_rfl) ?_,λ N _=>rn Tryz.f235 [.tmp 2,.tmp 3] [] 22 (by kernel_rfl) ?_,λ N _ _ _=>rn Tryz.f282 [.tmp 6,.tmp 7] [] 29 (by kernel_rfl) ?_,λ N _ _ _=>rn Tryz.f308 [.tmp 6,.tmp 7] [1216] 22 (by kernel_rfl) ?_,λ N _ _ _=>rn Tryz.f215 [.tmp 6,.tmp 7] [] 57 (by kernel_rfl) ?_,λ N _=>rn Tryz.f22 [.tmp 2] [] 53 (by kernel_rfl) ?_,λ N _=>rn Tryz.f102 [.tmp 2] [] 43 (by kernel_rfl) ?_,λ N _ _=>rn Tryz.f275 [.tmp 4,.tmp 5] [] 17 (by kernel_rfl) ?_,λ N _ _=>rn Tryz.f26 [.tmp 4] [] 9 (by kernel_rfl) ?_,λ N _=>rn Tryz.f107 [.cell 2 35] [] 7 (by kernel_rfl) ?_,λ N _ _=>rn Tryz.f286 [.tmp 4] [] 10 (by kernel_rfl) ?_⟩<;>(rintro _ hw r hr C _ rfl hwf hf;simp only[Tryz.f15,Tryz.f277,Tryz.f235,Tryz.f282,Tryz.f308,Tryz.f215,Tryz.f22,Tryz.f102,Tryz.f275,Tryz.f26,Tryz.f107,Tryz.f286,Option.get!];(first|rw[Qeg] at hr|rw[QbI] at hr|rw[Qcg] at hr|rw[QcN] at hr|rw[Qbx] at hr|rw[Qdt] at hr|rw[Qfa] at hr|rw[QcV] at hr|rw[QgE] at hr|rw[Qa6] at hr|rw[Qgs] at hr|rw[Qer] at hr);repeat' first
 |(refine El.el hr ?_;intro hr)
 |(with_reducible intro h;refine XB hr h ?_;intro hr)
 |with_reducible intro _
 |simp only[go_sem,simprocAttr,Z8,Wy,WN,Uz]
 |(with_reducible first|apply Xk|apply Xj|apply Xp|apply Xr|apply Xs)
 |((first|with_reducible refine Yk hr (by assumption) ?_ ?_|(with_reducible refine Yf hr ?_ ?_;rotate_left;intro p;rotate_right));(·simp only[go_sem,simprocAttr,Wy,WN,Uz]);intro hp hn hd hr;(try have Z8:=hd _ e92);(try simp only[go_sem,simprocAttr] at Z8))
 |(refine Xq ?_ ?_;·first|assumption|omega)
 |(with_reducible first|refine CallX.c ?_ _|refine OK.c hr hw ?_ (λ y hr=>?_) _|refine Oe hr hw ?_ (λ y hr=>?_) _)
 |refine db 15 3 hf 8 [(0,1022,[[],[896,1088]]),(0,921,[[],[1088]]),(2,921,[[],[1088]]),(0,903,[[],[1088]]),(8,903,[[],[1088]]),(30,897,[[],[1088]]),(62,897,[[896],[1088]]),(0,127,[[],[896]]),(128,127,[[],[896]]),(384,127,[[1088],[896]]),(1023,0,[]),(2047,0,[[128],[]]),(4095,0,[])] rfl rfl (by kernel_rfl) ?_ _
 |refine db 102 4 hf 28 [(0,0,[]),(1,0,[]),(3,0,[]),(7,0,[]),(15,56,[]),(31,56,[]),(63,56,[]),(15,7,[]),(143,7,[]),(399,7,[]),(1023,0,[]),(2047,0,[]),(4095,0,[])] rfl rfl (by kernel_rfl) ?_ _
 |(refine Xn hr ?_;rintro rfl;with_reducible refine XM ?_)
 |exact Yw hr
 |fail)
@[reducible,instance] def Qog:=g7.1
@[reducible,instance] def QkQ:=g7.2.1
@[reducible,instance] def QlQ:=g7.2.2.1
@[reducible,instance] def Qnr:=g7.2.2.2.1
@[reducible,instance] def Qmr:=g7.2.2.2.2.1
@[reducible,instance] def Qoh:=g7.2.2.2.2.2.1
@[reducible,instance] def Qlq:=g7.2.2.2.2.2.2.1
@[reducible,instance] def QlR:=g7.2.2.2.2.2.2.2.1
@[reducible,instance] def Qms:=g7.2.2.2.2.2.2.2.2.1
@[reducible,instance] def Qi8:=g7.2.2.2.2.2.2.2.2.2.1
@[reducible,instance] def QlS:=g7.2.2.2.2.2.2.2.2.2.2.1
@[reducible,instance] def Qoi:=g7.2.2.2.2.2.2.2.2.2.2.2
theorem g8:(∀ N (a0:UU),OK (Qc9 N a0) 76 [.ept 1000000 0 2 0 0] [.arr true 66 2 [[.isl 3 1 (a0.L.map e3),.v (.int .i64 a0.at_)]] 0] (λ r=>.agg (e23 r.1)) λ r=>[.arr true 66 2 [[.isl 3 1 (r.2.L.map e3),.v (.int .i64 r.2.at_)]] 0])/\(∀ N (a0:WQ) (a1:Int),OK (Qda N a0 a1) 101 [.agg (e23 a0),.v (.int .u64 a1)] [] (λ r=>.tup [.v (.int .i64 r.1),.v (.int .i64 r.2.1),.v (.int .i64 r.2.2)]) λ r=>[])/\(∀ N (a0:Wz),OK (Qcq N a0) 154 [.agg (e82 a0)] [] (λ r=>.v (.int .i64 r)) λ r=>[])/\(∀ N (a0:Wz) (a1:Int),OK (QbT N a0 a1) 232 [.agg (e82 a0),.v (.int .i64 a1)] [] (λ r=>.v (.bool r)) λ r=>[])/\(∀ N (a0:WQ),OK (QdT N a0) 309 [.agg (e23 a0)] [] (λ r=>.v (.int .i64 r)) λ r=>[])/\(∀ N (a0:WM) (a1:Int),OK (Qgn N a0 a1) 218 [.agg (e59 a0),.v (.int .u64 a1)] [] (λ r=>.v (.int .i64 r)) λ r=>[])/\(∀ N (a0:WQ),OK (QcU N a0) 156 [.agg (e23 a0)] [] (λ r=>.v (.int .i64 r)) λ r=>[])/\(∀ N (a0:WQ) (a1:Int) (a2:Int),OK (Qd5 N a0 a1 a2) 112 [.agg (e23 a0),.v (.int .i64 a1),.v (.int .i64 a2)] [] (λ r=>.tup [.v (.int .u64 r.1),.v (.int .i64 r.2)]) λ r=>[])/\(∀ N (a0:List Int) (a1:Int) (a2:Int),OK (Qgp N a0 a1 a2) 269 [.isl 71 1 (a0.map e71),.v (.int .u64 a1),.v (.int .i64 a2)] [] (λ r=>.tup [.fsl 71 1 (r.1.map e71),.v (.int .i64 r.2)]) λ r=>[])/\(∀ N (a0:Wn),OK (Qhp N a0) 105 [.agg (e27 a0)] [] (λ r=>.agg (e27 r)) λ r=>[])/\(∀ N (a0:List Wv) (a1:Int) (a2:List Wv),OK (Qge N a0 a1 a2) 244 [.isl 108 4 (a0.map XF),.v (.int .i64 a1),.isl 108 4 (a2.map XF)] [] (λ r=>.tup [.fsl 108 4 (r.1.map XF),.v (.int .i64 r.2)]) λ r=>[])/\(∀ N (a0:List Int) (a1:Int) (a2:List Int),OK (Qf8 N a0 a1 a2) 167 [.isl 71 1 (a0.map e71),.v (.int .u64 a1),.isl 71 1 (a2.map e71)] [] (λ r=>.tup [.isl 71 1 (r.1.map e71),.v (.int .i64 r.2)]) λ r=>[]):=by
 refine ⟨λ N _=>rn Tryz.f76 [.cell 2 23] [] 14 (by kernel_rfl) ?_,λ N _ _=>rn Tryz.f101 [.tmp 4,.tmp 5,.tmp 6] [] 35 (by kernel_rfl) ?_,λ N _=>rn Tryz.f154 [.tmp 2] [] 9 (by kernel_rfl) ?_,λ N _ _=>rn Tryz.f232 [.tmp 4] [] 35 (by kernel_rfl) ?_,λ N _=>rn Tryz.f309 [.tmp 2] [] 9 (by kernel_rfl) ?_,λ N _ _=>rn Tryz.f218 [.tmp 4] [] 8 (by kernel_rfl) ?_,λ N _=>rn Tryz.f156 [.tmp 2] [] 9 (by kernel_rfl) ?_,λ N _ _ _=>rn Tryz.f112 [.tmp 6,.tmp 7] [] 39 (by kernel_rfl) ?_,λ N _ _ _=>rn Tryz.f269 [.tmp 6,.tmp 7] [1728] 28 (by kernel_rfl) ?_,λ N _=>rn Tryz.f105 [.cell 2 27] [] 12 (by kernel_rfl) ?_,λ N _ _ _=>rn Tryz.f244 [.tmp 6,.tmp 7] [1920] 37 (by kernel_rfl) ?_,λ N _ _ _=>rn Tryz.f167 [.tmp 6,.tmp 7] [] 29 (by kernel_rfl) ?_⟩<;>(rintro _ hw r hr C _ rfl hwf hf;simp only[Tryz.f76,Tryz.f101,Tryz.f154,Tryz.f232,Tryz.f309,Tryz.f218,Tryz.f156,Tryz.f112,Tryz.f269,Tryz.f105,Tryz.f244,Tryz.f167,Option.get!];(first|rw[Qc9] at hr|rw[Qda] at hr|rw[Qcq] at hr|rw[QbT] at hr|rw[QdT] at hr|rw[Qgn] at hr|rw[QcU] at hr|rw[Qd5] at hr|rw[Qgp] at hr|rw[Qhp] at hr|rw[Qge] at hr|rw[Qf8] at hr);repeat' first
 |(refine El.el hr ?_;intro hr)
 |(with_reducible intro h;refine XB hr h ?_;intro hr)
 |with_reducible intro _
 |simp only[go_sem,simprocAttr,hl3,Wy,WN,Uz]
 |(with_reducible first|apply Xk|apply Xj|apply Xp|apply Xr|apply Xs)
 |((first|with_reducible refine Yk hr (by assumption) ?_ ?_|(with_reducible refine Yf hr ?_ ?_;rotate_left;intro p;rotate_right));(·simp only[go_sem,simprocAttr,Wy,WN,Uz]);intro hp hn hd hr;(try have hl3:=hd _ e3);(try simp only[go_sem,simprocAttr] at hl3))
 |(refine Xq ?_ ?_;·first|assumption|omega)
 |(with_reducible first|refine CallX.c ?_ _|refine OK.c hr hw ?_ (λ y hr=>?_) _|refine Oe hr hw ?_ (λ y hr=>?_) _)
 |refine db 76 1 hf 3 [(0,998,[[192],[512,1000000]]),(0,97,[[],[192,512]]),(2,97,[[1000000],[192,512]]),(7,992,[[],[512,1000000]]),(15,992,[[],[512,1000000]]),(0,223,[[512],[192,1000000]]),(0,63,[[],[192,512,1000000]]),(70,57,[[1000000],[192,512]]),(230,25,[[],[192]]),(486,25,[[],[192]]),(1023,0,[]),(2047,0,[[128],[]])] rfl rfl (by kernel_rfl) ?_ _
 |refine db 101 6 hf 4 [(0,2063597568,[]),(0,2021654528,[]),(2,2021654528,[]),(7,2013265920,[]),(0,931135489,[]),(0,260046849,[]),(32,260046849,[]),(112,125829121,[]),(15,2013265920,[]),(511,0,[]),(1023,0,[])] rfl rfl (by kernel_rfl) ?_ _
 |refine db 105 1 hf 3 [(0,24,[]),(1,24,[]),(3,24,[[320],[]]),(0,7,[[],[320]]),(8,7,[[],[320]]),(31,64,[[512],[]]),(31,32,[[],[512]]),(127,0,[[64],[]]),(255,0,[]),(511,0,[[64],[]])] rfl rfl (by kernel_rfl) ?_ _
 |(refine Xn hr ?_;rintro rfl;with_reducible refine XM ?_)
 |exact Yw hr
 |rw[U3 (by simp;omega)]
 |fail)
@[reducible,instance] def Qk9:=g8.1
@[reducible,instance] def QoH:=g8.2.1
@[reducible,instance] def Qns:=g8.2.2.1
@[reducible,instance] def Qlr:=g8.2.2.2.1
@[reducible,instance] def Qmt:=g8.2.2.2.2.1
@[reducible,instance] def QlT:=g8.2.2.2.2.2.1
@[reducible,instance] def QkX:=g8.2.2.2.2.2.2.1
@[reducible,instance] def QlU:=g8.2.2.2.2.2.2.2.1
@[reducible,instance] def Qnt:=g8.2.2.2.2.2.2.2.2.1
@[reducible,instance] def Qmu:=g8.2.2.2.2.2.2.2.2.2.1
@[reducible,instance] def Qoj:=g8.2.2.2.2.2.2.2.2.2.2.1
@[reducible,instance] def Qmv:=g8.2.2.2.2.2.2.2.2.2.2.2
end Go.Sx
