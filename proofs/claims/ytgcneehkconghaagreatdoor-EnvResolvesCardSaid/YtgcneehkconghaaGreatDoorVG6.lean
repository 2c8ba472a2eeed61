import Derived.Test.YtgcneehkconghaaGreatDoorVF
import Derived.Test.YtgcneehkconghaaGreatDoorVG0
import Derived.Test.YtgcneehkconghaaGreatDoorVG1
import Derived.Test.YtgcneehkconghaaGreatDoorVG2
set_option linter.all false
namespace Go.Sx
open Go.Proofs
set_option maxRecDepth 10000
set_option maxHeartbeats 100000000
theorem g7:(∀ N (a0:WT),OK (Qfl N a0) 97 [.agg (e23 a0)] [] (λ r=>.tup [.agg (e27 r.1),.v (.int .i64 r.2)]) λ r=>[])/\(∀ N (a0:WT) (a1:Int),OK (Qc9 N a0 a1) 234 [.agg (e23 a0),.v (.int .u64 a1)] [] (λ r=>.tup [.v (.int .i64 r.1),.v (.int .i64 r.2.1),.v (.int .i64 r.2.2)]) λ r=>[])/\(∀ N (a0:Wy),OK (Qcg N a0) 276 [.agg (e80 a0)] [] (λ r=>.tup [.v (.int .u64 r.1),.v (.int .i64 r.2)]) λ r=>[])/\(∀ N (a0:List Int) (a1:Int) (a2:Int),OK (QcM N a0 a1 a2) 358 [.isl 39 1 (a0.map e39),.v (.int .u64 a1),.v (.int .i64 a2)] [] (λ r=>.tup [.isl 39 1 (r.1.map e39),.v (.int .i64 r.2)]) λ r=>[])/\(∀ N (a0:WT),OK (QdR N a0) 359 [.agg (e23 a0)] [] (λ r=>.v (.int .i64 r)) λ r=>[])/\(∀ N (a0:WM) (a1:Int),OK (Qgb N a0 a1) 216 [.agg (e43 a0),.v (.int .u64 a1)] [] (λ r=>.v (.int .i64 r)) λ r=>[])/\(∀ N (a0:WT),OK (QcS N a0) 235 [.agg (e23 a0)] [] (λ r=>.v (.int .i64 r)) λ r=>[])/\(∀ N (a0:WT) (a1:Int) (a2:Int),OK (Qd5 N a0 a1 a2) 155 [.agg (e23 a0),.v (.int .i64 a1),.v (.int .i64 a2)] [] (λ r=>.tup [.v (.int .u64 r.1),.v (.int .i64 r.2)]) λ r=>[])/\(∀ N (a0:List Int) (a1:Int) (a2:Int),OK (Qgd N a0 a1 a2) 362 [.isl 39 1 (a0.map e39),.v (.int .u64 a1),.v (.int .i64 a2)] [] (λ r=>.tup [.fsl 39 1 (r.1.map e39),.v (.int .i64 r.2)]) λ r=>[])/\(∀ N (a0:U8),OK (Qgi N a0) 57 [.agg (e70 a0)] [] (λ r=>.v (.bool r)) λ r=>[])/\(∀ N (a0:Ww),OK (QgG N a0) 72 [.agg (e32 a0)] [] (λ r=>.agg (e32 r)) λ r=>[])/\(∀ N (a0:WT),OK (QfL N a0) 304 [.agg (e23 a0)] [] (λ r=>.v (.int .i64 r)) λ r=>[])/\(∀ N (a0:Wn) (a1:List Int) (a2:Int),OK (QfN N a0 a1 a2) 242 [.agg (e27 a0),.isl 39 1 (a1.map e39),.v (.int .i64 a2)] [] (λ r=>.tup [.agg (e27 r.1),.v (.int .i64 r.2)]) λ r=>[]):=by
 refine ⟨λ N _=>rn Tryz.f97 [.cell 2 27,.tmp 3] [] 19 (by kernel_rfl) ?_,λ N _ _=>rn Tryz.f234 [.tmp 4,.tmp 5,.tmp 6] [] 35 (by kernel_rfl) ?_,λ N _=>rn Tryz.f276 [.tmp 2,.tmp 3] [] 22 (by kernel_rfl) ?_,λ N _ _ _=>rn Tryz.f358 [.tmp 6,.tmp 7] [] 29 (by kernel_rfl) ?_,λ N _=>rn Tryz.f359 [.tmp 2] [] 9 (by kernel_rfl) ?_,λ N _ _=>rn Tryz.f216 [.tmp 4] [] 8 (by kernel_rfl) ?_,λ N _=>rn Tryz.f235 [.tmp 2] [] 9 (by kernel_rfl) ?_,λ N _ _ _=>rn Tryz.f155 [.tmp 6,.tmp 7] [] 39 (by kernel_rfl) ?_,λ N _ _ _=>rn Tryz.f362 [.tmp 6,.tmp 7] [1728] 28 (by kernel_rfl) ?_,λ N _=>rn Tryz.f57 [.tmp 2] [] 37 (by kernel_rfl) ?_,λ N _=>rn Tryz.f72 [.cell 2 32] [] 13 (by kernel_rfl) ?_,λ N _=>rn Tryz.f304 [.tmp 2] [] 9 (by kernel_rfl) ?_,λ N _ _ _=>rn Tryz.f242 [.cell 6 27,.tmp 7] [] 19 (by kernel_rfl) ?_⟩<;>(rintro _ hw r hr C _ rfl hwf hf;have hgw:=hw;unfold GW at hgw;simp only[Tryz.f97,Tryz.f234,Tryz.f276,Tryz.f358,Tryz.f359,Tryz.f216,Tryz.f235,Tryz.f155,Tryz.f362,Tryz.f57,Tryz.f72,Tryz.f304,Tryz.f242,Option.get!];(first|rw[Qfl] at hr|rw[Qc9] at hr|rw[Qcg] at hr|rw[QcM] at hr|rw[QdR] at hr|rw[Qgb] at hr|rw[QcS] at hr|rw[Qd5] at hr|rw[Qgd] at hr|rw[Qgi] at hr|rw[QgG] at hr|rw[QfL] at hr|rw[QfN] at hr);repeat' first
 |(refine El.el hr ?_;intro hr)
 |(with_reducible intro h;refine XA hr h ?_;intro hr)
 |with_reducible intro _
 |simp only[go_sem,simprocAttr,hgw,Wz,WO,UL]
 |(with_reducible first|apply Xk|apply Xj|apply Xo|apply Xt|apply Xu)
 |(refine Xp ?_ ?_;·first|assumption|omega)
 |(with_reducible refine Xgw hr ?_ ?_;(·simp only[go_sem]);intro p hp hn hd hr;;(try simp only[WC] at hn))
 |(with_reducible first|refine CallX.c ?_ _|refine OK.c hr hw ?_ (λ y hr=>?_) _|refine Og hr hw ?_ (λ y hr=>?_) _)
 |refine db 97 3 hf 8 [(0,1022,[[],[896,1088]]),(0,921,[[],[1088]]),(2,921,[[],[1088]]),(0,903,[[],[1088]]),(8,903,[[],[1088]]),(30,897,[[],[1088]]),(62,897,[[896],[1088]]),(0,127,[[],[896]]),(128,127,[[],[896]]),(384,127,[[1088],[896]]),(1023,0,[]),(2047,0,[[128],[]]),(4095,0,[])] rfl rfl (by kernel_rfl) ?_ _
 |refine db 234 6 hf 4 [(0,2063597568,[]),(0,2021654528,[]),(2,2021654528,[]),(7,2013265920,[]),(0,931135489,[]),(0,260046849,[]),(32,260046849,[]),(112,125829121,[]),(15,2013265920,[]),(511,0,[]),(1023,0,[])] rfl rfl (by kernel_rfl) ?_ _
 |refine db 57 3 hf 21 [(0,56,[]),(1,56,[]),(3,56,[]),(0,7,[]),(8,7,[]),(24,7,[]),(63,0,[]),(127,0,[]),(255,14336,[]),(511,14336,[]),(1023,14336,[]),(255,1792,[]),(2303,1792,[]),(6399,1792,[]),(16383,0,[]),(32767,0,[]),(65535,0,[])] rfl rfl (by kernel_rfl) ?_ _
 |refine db 72 1 hf 3 [(0,216,[]),(1,216,[]),(3,216,[[320],[]]),(0,199,[[],[320]]),(8,199,[[],[320]]),(31,192,[[512],[]]),(0,63,[[],[320,512]]),(64,63,[[],[320,512]]),(255,0,[[704],[]]),(511,0,[]),(1023,0,[[128],[]])] rfl rfl (by kernel_rfl) ?_ _
 |(refine Xn hr ?_;rintro rfl;with_reducible refine XM ?_)
 |exact Yw hr
 |fail)
@[reducible,instance] def Qn1:=g7.1
@[reducible,instance] def Qor:=g7.2.1
@[reducible,instance] def QlD:=g7.2.2.1
@[reducible,instance] def Qna:=g7.2.2.2.1
@[reducible,instance] def Qmh:=g7.2.2.2.2.1
@[reducible,instance] def QlE:=g7.2.2.2.2.2.1
@[reducible,instance] def QkI:=g7.2.2.2.2.2.2.1
@[reducible,instance] def QlF:=g7.2.2.2.2.2.2.2.1
@[reducible,instance] def Qnb:=g7.2.2.2.2.2.2.2.2.1
@[reducible,instance] def QlG:=g7.2.2.2.2.2.2.2.2.2.1
@[reducible,instance] def Qlb:=g7.2.2.2.2.2.2.2.2.2.2.1
@[reducible,instance] def Qnc:=g7.2.2.2.2.2.2.2.2.2.2.2.1
@[reducible,instance] def QkU:=g7.2.2.2.2.2.2.2.2.2.2.2.2
end Go.Sx
