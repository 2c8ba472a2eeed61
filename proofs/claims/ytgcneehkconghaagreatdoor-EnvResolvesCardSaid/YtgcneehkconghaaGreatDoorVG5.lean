import Derived.Test.YtgcneehkconghaaGreatDoorVF
import Derived.Test.YtgcneehkconghaaGreatDoorVG0
import Derived.Test.YtgcneehkconghaaGreatDoorVG1
import Derived.Test.YtgcneehkconghaaGreatDoorVG2
set_option linter.all false
namespace Go.Sx
open Go.Proofs
set_option maxRecDepth 10000
set_option maxHeartbeats 100000000
theorem g6:(∀ N (a0:UU),OK (Qc8 N a0) 36 [.ept 1000000 0 2 0 0] [.arr true 60 2 [[.isl 3 1 (a0.L.map e3),.v (.int .i64 a0.at_)]] 0] (λ r=>.agg (e23 r.1)) λ r=>[.arr true 60 2 [[.isl 3 1 (r.2.L.map e3),.v (.int .i64 r.2.at_)]] 0])/\(∀ N (a0:WT),OK (QbJ N a0) 323 [.agg (e23 a0)] [] (λ r=>.v (.int .i64 r)) λ r=>[])/\(∀ N (a0:Wy),OK (Qco N a0) 279 [.agg (e80 a0)] [] (λ r=>.v (.int .i64 r)) λ r=>[])/\(∀ N (a0:Wy) (a1:Int),OK (QbU N a0 a1) 278 [.agg (e80 a0),.v (.int .i64 a1)] [] (λ r=>.v (.bool r)) λ r=>[])/\(∀ N (a0:List Wv) (a1:Int) (a2:Int),OK (QbB N a0 a1 a2) 357 [.isl 175 4 (a0.map XG),.v (.int .i64 a1),.v (.int .i64 a2)] [] (λ r=>.tup [.fsl 175 4 (r.1.map XG),.v (.int .i64 r.2)]) λ r=>[])/\(∀ N (a0:WI) (a1:Int) (a2:Int),OK (Qds N a0 a1 a2) 26 [.agg (e35 a0),.v (.int .i64 a1),.v (.int .i64 a2)] [] (λ r=>.tup [.v (.int .u64 r.1),.v (.int .i64 r.2)]) λ r=>[])/\(∀ N (a0:W6),OK (Qe2 N a0) 18 [.agg (e38 a0)] [] (λ r=>.v (.bool r)) λ r=>[])/\(∀ N (a0:Wy),OK (QcT N a0) 150 [.agg (e80 a0)] [] (λ r=>.v (.bool r)) λ r=>[])/\(∀ N (a0:List Int) (a1:Int),OK (Qgv N a0 a1) 355 [.isl 39 1 (a0.map e39),.v (.int .u64 a1)] [] (λ r=>.tup [.v (.int .i64 r.1),.v (.int .i64 r.2)]) λ r=>[])/\(∀ N (a0:List Int) (a1:Int),OK (Qa9 N a0 a1) 51 [.isl 39 1 (a0.map e39),.v (.int .u64 a1)] [] (λ r=>.v (.bool r)) λ r=>[])/\(∀ N (a0:Wn),OK (Qhf N a0) 71 [.agg (e27 a0)] [] (λ r=>.agg (e27 r)) λ r=>[])/\(∀ N (a0:List Wv) (a1:Int) (a2:List Wv),OK (Qf6 N a0 a1 a2) 307 [.isl 175 4 (a0.map XG),.v (.int .i64 a1),.isl 175 4 (a2.map XG)] [] (λ r=>.tup [.fsl 175 4 (r.1.map XG),.v (.int .i64 r.2)]) λ r=>[])/\(∀ N (a0:List Int) (a1:Int) (a2:List Int),OK (QfY N a0 a1 a2) 241 [.isl 39 1 (a0.map e39),.v (.int .u64 a1),.isl 39 1 (a2.map e39)] [] (λ r=>.tup [.isl 39 1 (r.1.map e39),.v (.int .i64 r.2)]) λ r=>[]):=by
 refine ⟨λ N _=>rn Tryz.f36 [.cell 2 23] [] 14 (by kernel_rfl) ?_,λ N _=>rn Tryz.f323 [.tmp 2] [] 9 (by kernel_rfl) ?_,λ N _=>rn Tryz.f279 [.tmp 2] [] 9 (by kernel_rfl) ?_,λ N _ _=>rn Tryz.f278 [.tmp 4] [] 35 (by kernel_rfl) ?_,λ N _ _ _=>rn Tryz.f357 [.tmp 6,.tmp 7] [1216] 22 (by kernel_rfl) ?_,λ N _ _ _=>rn Tryz.f26 [.tmp 6,.tmp 7] [] 57 (by kernel_rfl) ?_,λ N _=>rn Tryz.f18 [.tmp 2] [] 53 (by kernel_rfl) ?_,λ N _=>rn Tryz.f150 [.tmp 2] [] 43 (by kernel_rfl) ?_,λ N _ _=>rn Tryz.f355 [.tmp 4,.tmp 5] [] 17 (by kernel_rfl) ?_,λ N _ _=>rn Tryz.f51 [.tmp 4] [] 9 (by kernel_rfl) ?_,λ N _=>rn Tryz.f71 [.cell 2 27] [] 12 (by kernel_rfl) ?_,λ N _ _ _=>rn Tryz.f307 [.tmp 6,.tmp 7] [1920] 37 (by kernel_rfl) ?_,λ N _ _ _=>rn Tryz.f241 [.tmp 6,.tmp 7] [] 29 (by kernel_rfl) ?_⟩<;>(rintro _ hw r hr C _ rfl hwf hf;simp only[Tryz.f36,Tryz.f323,Tryz.f279,Tryz.f278,Tryz.f357,Tryz.f26,Tryz.f18,Tryz.f150,Tryz.f355,Tryz.f51,Tryz.f71,Tryz.f307,Tryz.f241,Option.get!];(first|rw[Qc8] at hr|rw[QbJ] at hr|rw[Qco] at hr|rw[QbU] at hr|rw[QbB] at hr|rw[Qds] at hr|rw[Qe2] at hr|rw[QcT] at hr|rw[Qgv] at hr|rw[Qa9] at hr|rw[Qhf] at hr|rw[Qf6] at hr|rw[QfY] at hr);repeat' first
 |(refine El.el hr ?_;intro hr)
 |(with_reducible intro h;refine XA hr h ?_;intro hr)
 |with_reducible intro _
 |simp only[go_sem,simprocAttr,hl3,YJ,Wz,WO,UL]
 |(with_reducible first|apply Xk|apply Xj|apply Xo|apply Xt|apply Xu)
 |((first|with_reducible refine Ym hr (by assumption) ?_ ?_|(with_reducible refine Yi hr ?_ ?_;rotate_left;intro p;rotate_right));(·simp only[go_sem,simprocAttr,Wz,WO,UL]);intro hp hn hd hr;(try have hl3:=hd _ e3);(try simp only[go_sem,simprocAttr] at hl3);(try have YJ:=hd _ Yz);(try simp only[go_sem,simprocAttr] at YJ))
 |(refine Xp ?_ ?_;·first|assumption|omega)
 |(with_reducible first|refine CallX.c ?_ _|refine OK.c hr hw ?_ (λ y hr=>?_) _|refine Og hr hw ?_ (λ y hr=>?_) _)
 |refine db 36 1 hf 3 [(0,998,[[192],[512,1000000]]),(0,97,[[],[192,512]]),(2,97,[[1000000],[192,512]]),(7,992,[[],[512,1000000]]),(15,992,[[],[512,1000000]]),(0,223,[[512],[192,1000000]]),(0,63,[[],[192,512,1000000]]),(70,57,[[1000000],[192,512]]),(230,25,[[],[192]]),(486,25,[[],[192]]),(1023,0,[]),(2047,0,[[128],[]])] rfl rfl (by kernel_rfl) ?_ _
 |refine db 150 4 hf 28 [(0,0,[]),(1,0,[]),(3,0,[]),(7,0,[]),(15,56,[]),(31,56,[]),(63,56,[]),(15,7,[]),(143,7,[]),(399,7,[]),(1023,0,[]),(2047,0,[]),(4095,0,[])] rfl rfl (by kernel_rfl) ?_ _
 |refine db 71 1 hf 3 [(0,24,[]),(1,24,[]),(3,24,[[320],[]]),(0,7,[[],[320]]),(8,7,[[],[320]]),(31,64,[[512],[]]),(31,32,[[],[512]]),(127,0,[[64],[]]),(255,0,[]),(511,0,[[64],[]])] rfl rfl (by kernel_rfl) ?_ _
 |(refine Xn hr ?_;rintro rfl;with_reducible refine XM ?_)
 |exact Yw hr
 |rw[U3 (by simp;omega)]
 |fail)
@[reducible,instance] def QkR:=g6.1
@[reducible,instance] def QkB:=g6.2.1
@[reducible,instance] def Qm9:=g6.2.2.1
@[reducible,instance] def Qk8:=g6.2.2.2.1
@[reducible,instance] def Qmc:=g6.2.2.2.2.1
@[reducible,instance] def QnX:=g6.2.2.2.2.2.1
@[reducible,instance] def Qk9:=g6.2.2.2.2.2.2.1
@[reducible,instance] def QlA:=g6.2.2.2.2.2.2.2.1
@[reducible,instance] def Qmd:=g6.2.2.2.2.2.2.2.2.1
@[reducible,instance] def QiZ:=g6.2.2.2.2.2.2.2.2.2.1
@[reducible,instance] def Qme:=g6.2.2.2.2.2.2.2.2.2.2.1
@[reducible,instance] def QnY:=g6.2.2.2.2.2.2.2.2.2.2.2.1
@[reducible,instance] def Qmf:=g6.2.2.2.2.2.2.2.2.2.2.2.2
theorem g8:(∀ N (a0:WT),OK (Qfm N a0) 38 [.agg (e23 a0)] [] (λ r=>.tup [.agg (e43 r.1),.v (.int .i64 r.2)]) λ r=>[])/\(∀ N (a0:List Int) (a1:Int),OK (Qfa N a0 a1) 329 [.isl 39 1 (a0.map e39),.v (.int .u64 a1)] [] (λ r=>.tup [.v (.int .i64 r.1),.v (.int .i64 r.2)]) λ r=>[])/\(∀ N (a0:WT) (a1:Int) (a2:Int),OK (Qbu N a0 a1 a2) 342 [.agg (e23 a0),.v (.int .i64 a1),.v (.int .i64 a2)] [] (λ r=>.tup [.v (.int .u64 r.1),.v (.int .i64 r.2)]) λ r=>[])/\(∀ N (a0:W0) (a1:Int),OK (QdZ N a0 a1) 274 [.agg (KC a0),.v (.int .i64 a1)] [] (λ r=>.v (.bool r)) λ r=>[])/\(∀ N (a0:U8),OK (Qbv N a0) 66 [.agg (e70 a0)] [] (λ r=>.tup [.v (.int .u64 r.1),.v (.int .i64 r.2)]) λ r=>[])/\(∀ N (a0:Ig) (a1:UU),OK (Qbn N a0 a1) 45 [.agg (e45 a0),.ept 1000000 0 2 0 0] [.arr true 60 2 [[.isl 3 1 (a1.L.map e3),.v (.int .i64 a1.at_)]] 0] (λ r=>.v (.int .u64 r.1)) λ r=>[.arr true 60 2 [[.isl 3 1 (r.2.L.map e3),.v (.int .i64 r.2.at_)]] 0])/\(∀ N (a0:Wv) (a1:WT),OK (Qdg N a0 a1) 300 [.agg (Xfz a0),.agg (e23 a1)] [] (λ r=>.v (.bool r)) λ r=>[])/\(∀ N (a0:WT) (a1:Int),OK (QfD N a0 a1) 219 [.agg (e23 a0),.v (.int .u64 a1)] [] (λ r=>.tup [.v (.int .i64 r.1),.v (.int .i64 r.2.1),.v (.int .i64 r.2.2)]) λ r=>[])/\(∀ N (a0:Int) (a1:Int),OK (Qfh N a0 a1) 228 [.v (.int .u64 a0),.v (.int .u64 a1)] [] (λ r=>.v (.bool r)) λ r=>[])/\(∀ N (a0:WT),OK (Qid N a0) 67 [.agg (e23 a0)] [] (λ r=>.tup [.agg (e27 r.1),.v (.int .i64 r.2)]) λ r=>[])/\(∀ N (a0:WI),OK (Qgj N a0) 73 [.agg (e35 a0)] [] (λ r=>.agg (e35 r)) λ r=>[])/\(∀ N (a0:Int) (a1:Int),OK (Qep N a0 a1) 345 [.v (.int .u64 a0),.v (.int .i64 a1)] [] (λ r=>.v (.bool r)) λ r=>[]):=by
 refine ⟨λ N _=>rn Tryz.f38 [.cell 2 43,.tmp 3] [] 10 (by kernel_rfl) ?_,λ N _ _=>rn Tryz.f329 [.tmp 4,.tmp 5] [] 17 (by kernel_rfl) ?_,λ N _ _ _=>rn Tryz.f342 [.tmp 6,.tmp 7] [] 37 (by kernel_rfl) ?_,λ N _ _=>rn Tryz.f274 [.tmp 4] [] 39 (by kernel_rfl) ?_,λ N _=>rn Tryz.f66 [.tmp 2,.tmp 3] [] 20 (by kernel_rfl) ?_,λ N _ _=>rn Tryz.f45 [.tmp 4] [] 53 (by kernel_rfl) ?_,λ N _ _=>rn Tryz.f300 [.tmp 4] [] 23 (by kernel_rfl) ?_,λ N _ _=>rn Tryz.f219 [.tmp 4,.tmp 5,.tmp 6] [] 37 (by kernel_rfl) ?_,λ N _ _=>rn Tryz.f228 [.tmp 4] [] 17 (by kernel_rfl) ?_,λ N _=>rn Tryz.f67 [.cell 2 27,.tmp 3] [] 29 (by kernel_rfl) ?_,λ N _=>rn Tryz.f73 [.cell 2 35] [] 7 (by kernel_rfl) ?_,λ N _ _=>rn Tryz.f345 [.tmp 4] [] 10 (by kernel_rfl) ?_⟩<;>(rintro _ hw r hr C _ rfl hwf hf;simp only[Tryz.f38,Tryz.f329,Tryz.f342,Tryz.f274,Tryz.f66,Tryz.f45,Tryz.f300,Tryz.f219,Tryz.f228,Tryz.f67,Tryz.f73,Tryz.f345,Option.get!];(first|rw[Qfm] at hr|rw[Qfa] at hr|rw[Qbu] at hr|rw[QdZ] at hr|rw[Qbv] at hr|rw[Qbn] at hr|rw[Qdg] at hr|rw[QfD] at hr|rw[Qfh] at hr|rw[Qid] at hr|rw[Qgj] at hr|rw[Qep] at hr);repeat' first
 |(refine El.el hr ?_;intro hr)
 |(with_reducible intro h;refine XA hr h ?_;intro hr)
 |with_reducible intro _
 |simp only[go_sem,simprocAttr,XR,XK]
 |(with_reducible first|apply Xk|apply Xj|apply Xo|apply Xt|apply Xu)
 |((first|with_reducible refine Ym hr (by assumption) ?_ ?_|(with_reducible refine Yi hr ?_ ?_;rotate_left;intro p;rotate_right));(·simp only[go_sem,simprocAttr]);intro hp hn hd hr;(try have XR:=hd _ e39);(try simp only[go_sem,simprocAttr] at XR);(try have XK:=hd _ XG);(try simp only[go_sem,simprocAttr] at XK))
 |(refine Xp ?_ ?_;·first|assumption|omega)
 |(with_reducible first|refine CallX.c ?_ _|refine OK.c hr hw ?_ (λ y hr=>?_) _|refine Og hr hw ?_ (λ y hr=>?_) _)
 |refine db 45 6 hf 20 [(0,924,[[],[1000000]]),(1,924,[[],[1000000]]),(0,139,[]),(0,135,[]),(12,131,[[1000000],[]]),(31,896,[[],[1000000]]),(63,896,[[],[1000000]]),(0,127,[[],[1000000]]),(156,99,[[1000000],[]]),(412,99,[]),(1023,0,[]),(2047,0,[])] rfl rfl (by kernel_rfl) ?_ _
 |refine db 45 10 hf 35 [(0,28,[[],[1000000]]),(1,28,[[],[1000000]]),(0,11,[]),(0,7,[]),(12,3,[[1000000],[]]),(31,0,[]),(63,0,[]),(127,0,[])] rfl rfl (by kernel_rfl) ?_ _
 |refine db 45 11 hf 42 [(0,508,[[],[1000000]]),(1,508,[[],[1000000]]),(0,243,[[],[1000000]]),(4,243,[[],[1000000]]),(0,111,[]),(0,31,[]),(32,31,[]),(112,15,[[1000000],[]]),(252,3,[]),(511,0,[]),(1023,0,[]),(2047,0,[])] rfl rfl (by kernel_rfl) ?_ _
 |refine db 219 6 hf 4 [(0,8254390272,[]),(0,8086618112,[]),(2,8086618112,[]),(7,8053063680,[]),(0,3724541953,[]),(0,1040187393,[]),(32,1040187393,[]),(112,503316481,[]),(15,8053063680,[]),(511,0,[]),(1023,0,[])] rfl rfl (by kernel_rfl) ?_ _
 |refine db 67 6 hf 23 [(0,30,[[],[1728]]),(0,29,[[],[1728]]),(0,3,[]),(4,3,[]),(12,3,[[1728],[]]),(31,0,[]),(63,0,[[128],[]]),(127,0,[])] rfl rfl (by kernel_rfl) ?_ _
 |(refine Xn hr ?_;rintro rfl;with_reducible refine XM ?_)
 |exact Yw hr
 |fail)
@[reducible,instance] def QnZ:=g8.1
@[reducible,instance] def Qmg:=g8.2.1
@[reducible,instance] def Qla:=g8.2.2.1
@[reducible,instance] def QkS:=g8.2.2.2.1
@[reducible,instance] def QlB:=g8.2.2.2.2.1
@[reducible,instance] def QkT:=g8.2.2.2.2.2.1
@[reducible,instance] def QkC:=g8.2.2.2.2.2.2.1
@[reducible,instance] def Qou:=g8.2.2.2.2.2.2.2.1
@[reducible,instance] def QkH:=g8.2.2.2.2.2.2.2.2.1
@[reducible,instance] def Qoq:=g8.2.2.2.2.2.2.2.2.2.1
@[reducible,instance] def QlC:=g8.2.2.2.2.2.2.2.2.2.2.1
@[reducible,instance] def Qn0:=g8.2.2.2.2.2.2.2.2.2.2.2
end Go.Sx
