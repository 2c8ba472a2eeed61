import Derived.Test.YtgcneehkconghaaGreatDoorBF
import Derived.Test.YtgcneehkconghaaGreatDoorBG0
import Derived.Test.YtgcneehkconghaaGreatDoorBG1
import Derived.Test.YtgcneehkconghaaGreatDoorBG2
set_option linter.all false
namespace Go.Sx
open Go.Proofs
set_option maxRecDepth 10000
set_option maxHeartbeats 100000000
theorem g8:(∀ N (a0:WX),OK (Qfg N a0) 38 [.agg (e23 a0)] [] (λ r=>.tup [.agg (e43 r.1),.v (.int .i64 r.2)]) λ r=>[])/\(∀ N (a0:List Int) (a1:Int),OK (Qe4 N a0 a1) 329 [.isl 39 1 (a0.map e39),.v (.int .u64 a1)] [] (λ r=>.tup [.v (.int .i64 r.1),.v (.int .i64 r.2)]) λ r=>[])/\(∀ N (a0:WX) (a1:Int) (a2:Int),OK (QbD N a0 a1 a2) 342 [.agg (e23 a0),.v (.int .i64 a1),.v (.int .i64 a2)] [] (λ r=>.tup [.v (.int .u64 r.1),.v (.int .i64 r.2)]) λ r=>[])/\(∀ N (a0:WV) (a1:Int),OK (QdE N a0 a1) 274 [.agg (Kg a0),.v (.int .i64 a1)] [] (λ r=>.v (.bool r)) λ r=>[])/\(∀ N (a0:UR),OK (Qbk N a0) 66 [.agg (e70 a0)] [] (λ r=>.tup [.v (.int .u64 r.1),.v (.int .i64 r.2)]) λ r=>[])/\(∀ N (a0:Io) (a1:U7),OK (Qbc N a0 a1) 45 [.agg (e45 a0),.ept 1000000 0 2 0 0] [.arr true 60 2 [[.isl 3 1 (a1.L.map e3),.v (.int .i64 a1.at_)]] 0] (λ r=>.v (.int .u64 r.1)) λ r=>[.arr true 60 2 [[.isl 3 1 (r.2.L.map e3),.v (.int .i64 r.2.at_)]] 0])/\(∀ N (a0:Ww),OK (Qcv N a0) 150 [.agg (e80 a0)] [] (λ r=>.v (.bool r)) λ r=>[])/\(∀ N (a0:List Int) (a1:Int),OK (Qgw N a0 a1) 355 [.isl 39 1 (a0.map e39),.v (.int .u64 a1)] [] (λ r=>.tup [.v (.int .i64 r.1),.v (.int .i64 r.2)]) λ r=>[])/\(∀ N (a0:List Int) (a1:Int),OK (Qa1 N a0 a1) 51 [.isl 39 1 (a0.map e39),.v (.int .u64 a1)] [] (λ r=>.v (.bool r)) λ r=>[])/\(∀ N (a0:Wq),OK (QfS N a0) 72 [.agg (e32 a0)] [] (λ r=>.agg (e32 r)) λ r=>[])/\(∀ N (a0:WX),OK (Qhx N a0) 304 [.agg (e23 a0)] [] (λ r=>.v (.int .i64 r)) λ r=>[])/\(∀ N (a0:Wo) (a1:List Int) (a2:Int),OK (Qgs N a0 a1 a2) 242 [.agg (e27 a0),.isl 39 1 (a1.map e39),.v (.int .i64 a2)] [] (λ r=>.tup [.agg (e27 r.1),.v (.int .i64 r.2)]) λ r=>[]):=by
 refine ⟨λ N _=>rn Tryz.f38 [.cell 2 43,.tmp 3] [] 10 (by kernel_rfl) ?_,λ N _ _=>rn Tryz.f329 [.tmp 4,.tmp 5] [] 17 (by kernel_rfl) ?_,λ N _ _ _=>rn Tryz.f342 [.tmp 6,.tmp 7] [] 37 (by kernel_rfl) ?_,λ N _ _=>rn Tryz.f274 [.tmp 4] [] 39 (by kernel_rfl) ?_,λ N _=>rn Tryz.f66 [.tmp 2,.tmp 3] [] 20 (by kernel_rfl) ?_,λ N _ _=>rn Tryz.f45 [.tmp 4] [] 53 (by kernel_rfl) ?_,λ N _=>rn Tryz.f150 [.tmp 2] [] 43 (by kernel_rfl) ?_,λ N _ _=>rn Tryz.f355 [.tmp 4,.tmp 5] [] 17 (by kernel_rfl) ?_,λ N _ _=>rn Tryz.f51 [.tmp 4] [] 9 (by kernel_rfl) ?_,λ N _=>rn Tryz.f72 [.cell 2 32] [] 13 (by kernel_rfl) ?_,λ N _=>rn Tryz.f304 [.tmp 2] [] 9 (by kernel_rfl) ?_,λ N _ _ _=>rn Tryz.f242 [.cell 6 27,.tmp 7] [] 19 (by kernel_rfl) ?_⟩<;>(rintro _ hw r hr C _ rfl hwf hf;simp only[Tryz.f38,Tryz.f329,Tryz.f342,Tryz.f274,Tryz.f66,Tryz.f45,Tryz.f150,Tryz.f355,Tryz.f51,Tryz.f72,Tryz.f304,Tryz.f242,Option.get!];(first|rw[Qfg] at hr|rw[Qe4] at hr|rw[QbD] at hr|rw[QdE] at hr|rw[Qbk] at hr|rw[Qbc] at hr|rw[Qcv] at hr|rw[Qgw] at hr|rw[Qa1] at hr|rw[QfS] at hr|rw[Qhx] at hr|rw[Qgs] at hr);repeat' first
 |(refine El.el hr ?_;intro hr)
 |(with_reducible intro h;refine Xw hr h ?_;intro hr)
 |with_reducible intro _
 |simp only[go_sem,simprocAttr,XQ,XE]
 |(with_reducible first|apply Xg|apply Xf|apply Xo|apply Xt|apply Xu)
 |((first|with_reducible refine Yb hr (by assumption) ?_ ?_|(with_reducible refine X7 hr ?_ ?_;rotate_left;intro p;rotate_right));(·simp only[go_sem,simprocAttr]);intro hp hn hd hr;(try have XQ:=hd _ e39);(try simp only[go_sem,simprocAttr] at XQ);(try have XE:=hd _ XB);(try simp only[go_sem,simprocAttr] at XE))
 |(refine Xp ?_ ?_;·first|assumption|omega)
 |(with_reducible first|refine CallX.c ?_ _|refine OK.c hr hw ?_ (λ y hr=>?_) _|refine IX hr hw ?_ (λ y hr=>?_) _)
 |refine db 45 6 hf 20 [(0,924,[[],[1000000]]),(1,924,[[],[1000000]]),(0,139,[]),(0,135,[]),(12,131,[[1000000],[]]),(31,896,[[],[1000000]]),(63,896,[[],[1000000]]),(0,127,[[],[1000000]]),(156,99,[[1000000],[]]),(412,99,[]),(1023,0,[]),(2047,0,[])] rfl rfl (by kernel_rfl) ?_ _
 |refine db 45 10 hf 35 [(0,28,[[],[1000000]]),(1,28,[[],[1000000]]),(0,11,[]),(0,7,[]),(12,3,[[1000000],[]]),(31,0,[]),(63,0,[]),(127,0,[])] rfl rfl (by kernel_rfl) ?_ _
 |refine db 45 11 hf 42 [(0,508,[[],[1000000]]),(1,508,[[],[1000000]]),(0,243,[[],[1000000]]),(4,243,[[],[1000000]]),(0,111,[]),(0,31,[]),(32,31,[]),(112,15,[[1000000],[]]),(252,3,[]),(511,0,[]),(1023,0,[]),(2047,0,[])] rfl rfl (by kernel_rfl) ?_ _
 |refine db 150 4 hf 28 [(0,0,[]),(1,0,[]),(3,0,[]),(7,0,[]),(15,56,[]),(31,56,[]),(63,56,[]),(15,7,[]),(143,7,[]),(399,7,[]),(1023,0,[]),(2047,0,[]),(4095,0,[])] rfl rfl (by kernel_rfl) ?_ _
 |refine db 72 1 hf 3 [(0,216,[]),(1,216,[]),(3,216,[[320],[]]),(0,199,[[],[320]]),(8,199,[[],[320]]),(31,192,[[512],[]]),(0,63,[[],[320,512]]),(64,63,[[],[320,512]]),(255,0,[[704],[]]),(511,0,[]),(1023,0,[[128],[]])] rfl rfl (by kernel_rfl) ?_ _
 |(refine Xn hr ?_;rintro rfl;with_reducible refine XF ?_)
 |exact Yj hr
 |fail)
@[reducible,instance] def Qoj:=g8.1
@[reducible,instance] def Qmr:=g8.2.1
@[reducible,instance] def Qlm:=g8.2.2.1
@[reducible,instance] def Qk5:=g8.2.2.2.1
@[reducible,instance] def QlP:=g8.2.2.2.2.1
@[reducible,instance] def Qk6:=g8.2.2.2.2.2.1
@[reducible,instance] def QlQ:=g8.2.2.2.2.2.2.1
@[reducible,instance] def Qms:=g8.2.2.2.2.2.2.2.1
@[reducible,instance] def Qi8:=g8.2.2.2.2.2.2.2.2.1
@[reducible,instance] def Qln:=g8.2.2.2.2.2.2.2.2.2.1
@[reducible,instance] def Qnt:=g8.2.2.2.2.2.2.2.2.2.2.1
@[reducible,instance] def Qk7:=g8.2.2.2.2.2.2.2.2.2.2.2
theorem g6:(∀ N (a0:U7),OK (Qeq N a0) 36 [.ept 1000000 0 2 0 0] [.arr true 60 2 [[.isl 3 1 (a0.L.map e3),.v (.int .i64 a0.at_)]] 0] (λ r=>.agg (e23 r.1)) λ r=>[.arr true 60 2 [[.isl 3 1 (r.2.L.map e3),.v (.int .i64 r.2.at_)]] 0])/\(∀ N (a0:WX),OK (Qbt N a0) 323 [.agg (e23 a0)] [] (λ r=>.v (.int .i64 r)) λ r=>[])/\(∀ N (a0:Ww),OK (Qb2 N a0) 279 [.agg (e80 a0)] [] (λ r=>.v (.int .i64 r)) λ r=>[])/\(∀ N (a0:Ww) (a1:Int),OK (QbF N a0 a1) 278 [.agg (e80 a0),.v (.int .i64 a1)] [] (λ r=>.v (.bool r)) λ r=>[])/\(∀ N (a0:List Wx) (a1:Int) (a2:Int),OK (Qds N a0 a1 a2) 357 [.isl 175 4 (a0.map XB),.v (.int .i64 a1),.v (.int .i64 a2)] [] (λ r=>.tup [.fsl 175 4 (r.1.map XB),.v (.int .i64 r.2)]) λ r=>[])/\(∀ N (a0:Wy) (a1:Int) (a2:Int),OK (Qc3 N a0 a1 a2) 26 [.agg (e35 a0),.v (.int .i64 a1),.v (.int .i64 a2)] [] (λ r=>.tup [.v (.int .u64 r.1),.v (.int .i64 r.2)]) λ r=>[])/\(∀ N (a0:WX),OK (Qcu N a0) 235 [.agg (e23 a0)] [] (λ r=>.v (.int .i64 r)) λ r=>[])/\(∀ N (a0:WX) (a1:Int) (a2:Int),OK (QdO N a0 a1 a2) 155 [.agg (e23 a0),.v (.int .i64 a1),.v (.int .i64 a2)] [] (λ r=>.tup [.v (.int .u64 r.1),.v (.int .i64 r.2)]) λ r=>[])/\(∀ N (a0:List Int) (a1:Int) (a2:Int),OK (Qf7 N a0 a1 a2) 362 [.isl 39 1 (a0.map e39),.v (.int .u64 a1),.v (.int .i64 a2)] [] (λ r=>.tup [.fsl 39 1 (r.1.map e39),.v (.int .i64 r.2)]) λ r=>[])/\(∀ N (a0:UR),OK (Qfp N a0) 57 [.agg (e70 a0)] [] (λ r=>.v (.bool r)) λ r=>[])/\(∀ N (a0:Wy),OK (Qfq N a0) 73 [.agg (e35 a0)] [] (λ r=>.agg (e35 r)) λ r=>[])/\(∀ N (a0:Int) (a1:Int),OK (QhQ N a0 a1) 345 [.v (.int .u64 a0),.v (.int .i64 a1)] [] (λ r=>.v (.bool r)) λ r=>[])/\(∀ N (a0:Wq),OK (Qhn N a0) 251 [.agg (e32 a0)] [] (λ r=>.agg [.fsl 115 3 (r.Slots.map Zg),.isl 98 3 (r.Scopes.map e98),.fsl 3 1 (r.Issued.map e3)]) λ r=>[]):=by
 refine ⟨λ N _=>rn Tryz.f36 [.cell 2 23] [] 14 (by kernel_rfl) ?_,λ N _=>rn Tryz.f323 [.tmp 2] [] 9 (by kernel_rfl) ?_,λ N _=>rn Tryz.f279 [.tmp 2] [] 9 (by kernel_rfl) ?_,λ N _ _=>rn Tryz.f278 [.tmp 4] [] 35 (by kernel_rfl) ?_,λ N _ _ _=>rn Tryz.f357 [.tmp 6,.tmp 7] [1216] 22 (by kernel_rfl) ?_,λ N _ _ _=>rn Tryz.f26 [.tmp 6,.tmp 7] [] 57 (by kernel_rfl) ?_,λ N _=>rn Tryz.f235 [.tmp 2] [] 9 (by kernel_rfl) ?_,λ N _ _ _=>rn Tryz.f155 [.tmp 6,.tmp 7] [] 39 (by kernel_rfl) ?_,λ N _ _ _=>rn Tryz.f362 [.tmp 6,.tmp 7] [1728] 28 (by kernel_rfl) ?_,λ N _=>rn Tryz.f57 [.tmp 2] [] 37 (by kernel_rfl) ?_,λ N _=>rn Tryz.f73 [.cell 2 35] [] 7 (by kernel_rfl) ?_,λ N _ _=>rn Tryz.f345 [.tmp 4] [] 10 (by kernel_rfl) ?_,λ N _=>rn Tryz.f251 [.cell 2 32] [320,704] 13 (by kernel_rfl) ?_⟩<;>(rintro _ hw r hr C _ rfl hwf hf;have hgw:=hw;unfold GW at hgw;simp only[Tryz.f36,Tryz.f323,Tryz.f279,Tryz.f278,Tryz.f357,Tryz.f26,Tryz.f235,Tryz.f155,Tryz.f362,Tryz.f57,Tryz.f73,Tryz.f345,Tryz.f251,Option.get!];(first|rw[Qeq] at hr|rw[Qbt] at hr|rw[Qb2] at hr|rw[QbF] at hr|rw[Qds] at hr|rw[Qc3] at hr|rw[Qcu] at hr|rw[QdO] at hr|rw[Qf7] at hr|rw[Qfp] at hr|rw[Qfq] at hr|rw[QhQ] at hr|rw[Qhn] at hr);repeat' first
 |(refine El.el hr ?_;intro hr)
 |(with_reducible intro h;refine Xw hr h ?_;intro hr)
 |with_reducible intro _
 |simp only[go_sem,simprocAttr,hl3,Ye,hgw,Wz,WM,Uv]
 |(with_reducible first|apply Xg|apply Xf|apply Xo|apply Xt|apply Xu)
 |((first|with_reducible refine Yb hr (by assumption) ?_ ?_|(with_reducible refine X7 hr ?_ ?_;rotate_left;intro p;rotate_right));(·simp only[go_sem,simprocAttr,hgw,Wz,WM,Uv]);intro hp hn hd hr;(try have hl3:=hd _ e3);(try simp only[go_sem,simprocAttr] at hl3);(try have Ye:=hd _ Ym);(try simp only[go_sem,simprocAttr] at Ye))
 |(refine Xp ?_ ?_;·first|assumption|omega)
 |(with_reducible refine Xfd hr ?_ ?_;(·simp only[go_sem]);intro p hp hn hd hr;(try have hl3:=hd _ e3);(try simp only[go_sem,simprocAttr] at hl3);(try have Ye:=hd _ Ym);(try simp only[go_sem,simprocAttr] at Ye))
 |(with_reducible first|refine CallX.c ?_ _|refine OK.c hr hw ?_ (λ y hr=>?_) _|refine IX hr hw ?_ (λ y hr=>?_) _)
 |refine db 36 1 hf 3 [(0,998,[[192],[512,1000000]]),(0,97,[[],[192,512]]),(2,97,[[1000000],[192,512]]),(7,992,[[],[512,1000000]]),(15,992,[[],[512,1000000]]),(0,223,[[512],[192,1000000]]),(0,63,[[],[192,512,1000000]]),(70,57,[[1000000],[192,512]]),(230,25,[[],[192]]),(486,25,[[],[192]]),(1023,0,[]),(2047,0,[[128],[]])] rfl rfl (by kernel_rfl) ?_ _
 |refine db 57 3 hf 21 [(0,56,[]),(1,56,[]),(3,56,[]),(0,7,[]),(8,7,[]),(24,7,[]),(63,0,[]),(127,0,[]),(255,14336,[]),(511,14336,[]),(1023,14336,[]),(255,1792,[]),(2303,1792,[]),(6399,1792,[]),(16383,0,[]),(32767,0,[]),(65535,0,[])] rfl rfl (by kernel_rfl) ?_ _
 |refine db 251 1 hf 3 [(0,216,[]),(1,216,[]),(3,216,[[320],[]]),(0,199,[[],[320]]),(8,199,[[],[320]]),(31,192,[[512],[]]),(0,63,[[],[320,512]]),(64,63,[[],[320,512]]),(255,0,[[704],[]]),(511,0,[]),(1023,0,[[128],[]])] rfl rfl (by kernel_rfl) ?_ _
 |(refine Xn hr ?_;rintro rfl;with_reducible refine XF ?_)
 |exact Yj hr
 |fail)
@[reducible,instance] def Qk8:=g6.1
@[reducible,instance] def QkO:=g6.2.1
@[reducible,instance] def Qnu:=g6.2.2.1
@[reducible,instance] def Qlo:=g6.2.2.2.1
@[reducible,instance] def Qmt:=g6.2.2.2.2.1
@[reducible,instance] def Qok:=g6.2.2.2.2.2.1
@[reducible,instance] def QkV:=g6.2.2.2.2.2.2.1
@[reducible,instance] def QlR:=g6.2.2.2.2.2.2.2.1
@[reducible,instance] def Qnv:=g6.2.2.2.2.2.2.2.2.1
@[reducible,instance] def QlS:=g6.2.2.2.2.2.2.2.2.2.1
@[reducible,instance] def QlT:=g6.2.2.2.2.2.2.2.2.2.2.1
@[reducible,instance] def Qol:=g6.2.2.2.2.2.2.2.2.2.2.2.1
@[reducible,instance] def Qmu:=g6.2.2.2.2.2.2.2.2.2.2.2.2
theorem g7:(∀ N (a0:WX),OK (QfX N a0) 97 [.agg (e23 a0)] [] (λ r=>.tup [.agg (e27 r.1),.v (.int .i64 r.2)]) λ r=>[])/\(∀ N (a0:WX) (a1:Int),OK (QcM N a0 a1) 234 [.agg (e23 a0),.v (.int .u64 a1)] [] (λ r=>.tup [.v (.int .i64 r.1),.v (.int .i64 r.2.1),.v (.int .i64 r.2.2)]) λ r=>[])/\(∀ N (a0:Ww),OK (Qco N a0) 276 [.agg (e80 a0)] [] (λ r=>.tup [.v (.int .u64 r.1),.v (.int .i64 r.2)]) λ r=>[])/\(∀ N (a0:List Int) (a1:Int) (a2:Int),OK (Qcq N a0 a1 a2) 358 [.isl 39 1 (a0.map e39),.v (.int .u64 a1),.v (.int .i64 a2)] [] (λ r=>.tup [.isl 39 1 (r.1.map e39),.v (.int .i64 r.2)]) λ r=>[])/\(∀ N (a0:WX),OK (Qe5 N a0) 359 [.agg (e23 a0)] [] (λ r=>.v (.int .i64 r)) λ r=>[])/\(∀ N (a0:WI) (a1:Int),OK (Qf6 N a0 a1) 216 [.agg (e43 a0),.v (.int .u64 a1)] [] (λ r=>.v (.int .i64 r)) λ r=>[])/\(∀ N (a0:Wx) (a1:WX),OK (QcV N a0 a1) 300 [.agg (Xeo a0),.agg (e23 a1)] [] (λ r=>.v (.bool r)) λ r=>[])/\(∀ N (a0:WX) (a1:Int),OK (QfA N a0 a1) 219 [.agg (e23 a0),.v (.int .u64 a1)] [] (λ r=>.tup [.v (.int .i64 r.1),.v (.int .i64 r.2.1),.v (.int .i64 r.2.2)]) λ r=>[])/\(∀ N (a0:Int) (a1:Int),OK (Qfb N a0 a1) 228 [.v (.int .u64 a0),.v (.int .u64 a1)] [] (λ r=>.v (.bool r)) λ r=>[])/\(∀ N (a0:Wo),OK (Qgz N a0) 71 [.agg (e27 a0)] [] (λ r=>.agg (e27 r)) λ r=>[])/\(∀ N (a0:List Wx) (a1:Int) (a2:List Wx),OK (Qhd N a0 a1 a2) 307 [.isl 175 4 (a0.map XB),.v (.int .i64 a1),.isl 175 4 (a2.map XB)] [] (λ r=>.tup [.fsl 175 4 (r.1.map XB),.v (.int .i64 r.2)]) λ r=>[])/\(∀ N (a0:List Int) (a1:Int) (a2:List Int),OK (Qhl N a0 a1 a2) 241 [.isl 39 1 (a0.map e39),.v (.int .u64 a1),.isl 39 1 (a2.map e39)] [] (λ r=>.tup [.isl 39 1 (r.1.map e39),.v (.int .i64 r.2)]) λ r=>[]):=by
 refine ⟨λ N _=>rn Tryz.f97 [.cell 2 27,.tmp 3] [] 19 (by kernel_rfl) ?_,λ N _ _=>rn Tryz.f234 [.tmp 4,.tmp 5,.tmp 6] [] 35 (by kernel_rfl) ?_,λ N _=>rn Tryz.f276 [.tmp 2,.tmp 3] [] 22 (by kernel_rfl) ?_,λ N _ _ _=>rn Tryz.f358 [.tmp 6,.tmp 7] [] 29 (by kernel_rfl) ?_,λ N _=>rn Tryz.f359 [.tmp 2] [] 9 (by kernel_rfl) ?_,λ N _ _=>rn Tryz.f216 [.tmp 4] [] 8 (by kernel_rfl) ?_,λ N _ _=>rn Tryz.f300 [.tmp 4] [] 23 (by kernel_rfl) ?_,λ N _ _=>rn Tryz.f219 [.tmp 4,.tmp 5,.tmp 6] [] 37 (by kernel_rfl) ?_,λ N _ _=>rn Tryz.f228 [.tmp 4] [] 17 (by kernel_rfl) ?_,λ N _=>rn Tryz.f71 [.cell 2 27] [] 12 (by kernel_rfl) ?_,λ N _ _ _=>rn Tryz.f307 [.tmp 6,.tmp 7] [1920] 37 (by kernel_rfl) ?_,λ N _ _ _=>rn Tryz.f241 [.tmp 6,.tmp 7] [] 29 (by kernel_rfl) ?_⟩<;>(rintro _ hw r hr C _ rfl hwf hf;simp only[Tryz.f97,Tryz.f234,Tryz.f276,Tryz.f358,Tryz.f359,Tryz.f216,Tryz.f300,Tryz.f219,Tryz.f228,Tryz.f71,Tryz.f307,Tryz.f241,Option.get!];(first|rw[QfX] at hr|rw[QcM] at hr|rw[Qco] at hr|rw[Qcq] at hr|rw[Qe5] at hr|rw[Qf6] at hr|rw[QcV] at hr|rw[QfA] at hr|rw[Qfb] at hr|rw[Qgz] at hr|rw[Qhd] at hr|rw[Qhl] at hr);repeat' first
 |(refine El.el hr ?_;intro hr)
 |(with_reducible intro h;refine Xw hr h ?_;intro hr)
 |with_reducible intro _
 |simp only[go_sem,simprocAttr,Wz,WM,Uv]
 |(with_reducible first|apply Xg|apply Xf|apply Xo|apply Xt|apply Xu)
 |(refine Xp ?_ ?_;·first|assumption|omega)
 |(with_reducible first|refine CallX.c ?_ _|refine OK.c hr hw ?_ (λ y hr=>?_) _|refine IX hr hw ?_ (λ y hr=>?_) _)
 |refine db 97 3 hf 8 [(0,1022,[[],[896,1088]]),(0,921,[[],[1088]]),(2,921,[[],[1088]]),(0,903,[[],[1088]]),(8,903,[[],[1088]]),(30,897,[[],[1088]]),(62,897,[[896],[1088]]),(0,127,[[],[896]]),(128,127,[[],[896]]),(384,127,[[1088],[896]]),(1023,0,[]),(2047,0,[[128],[]]),(4095,0,[])] rfl rfl (by kernel_rfl) ?_ _
 |refine db 234 6 hf 4 [(0,2063597568,[]),(0,2021654528,[]),(2,2021654528,[]),(7,2013265920,[]),(0,931135489,[]),(0,260046849,[]),(32,260046849,[]),(112,125829121,[]),(15,2013265920,[]),(511,0,[]),(1023,0,[])] rfl rfl (by kernel_rfl) ?_ _
 |refine db 219 6 hf 4 [(0,8254390272,[]),(0,8086618112,[]),(2,8086618112,[]),(7,8053063680,[]),(0,3724541953,[]),(0,1040187393,[]),(32,1040187393,[]),(112,503316481,[]),(15,8053063680,[]),(511,0,[]),(1023,0,[])] rfl rfl (by kernel_rfl) ?_ _
 |refine db 71 1 hf 3 [(0,24,[]),(1,24,[]),(3,24,[[320],[]]),(0,7,[[],[320]]),(8,7,[[],[320]]),(31,64,[[512],[]]),(31,32,[[],[512]]),(127,0,[[64],[]]),(255,0,[]),(511,0,[[64],[]])] rfl rfl (by kernel_rfl) ?_ _
 |(refine Xn hr ?_;rintro rfl;with_reducible refine XF ?_)
 |exact Yj hr
 |rw[UX (by simp;omega)]
 |fail)
@[reducible,instance] def Qom:=g7.1
@[reducible,instance] def QoM:=g7.2.1
@[reducible,instance] def QlU:=g7.2.2.1
@[reducible,instance] def Qnw:=g7.2.2.2.1
@[reducible,instance] def Qmv:=g7.2.2.2.2.1
@[reducible,instance] def QlV:=g7.2.2.2.2.2.1
@[reducible,instance] def QkP:=g7.2.2.2.2.2.2.1
@[reducible,instance] def QoP:=g7.2.2.2.2.2.2.2.1
@[reducible,instance] def QkW:=g7.2.2.2.2.2.2.2.2.1
@[reducible,instance] def Qmw:=g7.2.2.2.2.2.2.2.2.2.1
@[reducible,instance] def Qon:=g7.2.2.2.2.2.2.2.2.2.2.1
@[reducible,instance] def Qmx:=g7.2.2.2.2.2.2.2.2.2.2.2
end Go.Sx
