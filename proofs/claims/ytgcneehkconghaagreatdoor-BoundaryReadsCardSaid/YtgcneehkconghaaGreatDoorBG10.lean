import Derived.Test.YtgcneehkconghaaGreatDoorBF
import Derived.Test.YtgcneehkconghaaGreatDoorBG1
import Derived.Test.YtgcneehkconghaaGreatDoorBG2
import Derived.Test.YtgcneehkconghaaGreatDoorBG4
import Derived.Test.YtgcneehkconghaaGreatDoorBG6
import Derived.Test.YtgcneehkconghaaGreatDoorBG7
import Derived.Test.YtgcneehkconghaaGreatDoorBG8
set_option linter.all false
namespace Go.Sx
open Go.Proofs
set_option maxRecDepth 10000
set_option maxHeartbeats 100000000
theorem g15:(∀ N (a0:U7),OK (QbS N a0) 13 [.ept 1000000 0 2 0 0] [.arr true 60 2 [[.isl 3 1 (a0.L.map e3),.v (.int .i64 a0.at_)]] 0] (λ r=>.agg (e45 r.1)) λ r=>[.arr true 60 2 [[.isl 3 1 (r.2.L.map e3),.v (.int .i64 r.2.at_)]] 0])/\(∀ N (a0:WV) (a1:Int),OK (Qez N a0 a1) 275 [.agg (Kg a0),.v (.int .u64 a1)] [] (λ r=>.agg (e80 r)) λ r=>[])/\(∀ N (a0:WX) (a1:Ww),OK (Qdn N a0 a1) 193 [.agg (e23 a0),.agg (e80 a1)] [] (λ r=>.v (.bool r)) λ r=>[])/\(∀ N (a0:Uh) (a1:Int),OK (Qcj N a0 a1) 196 [.agg (e38 a0),.v (.int .u64 a1)] [] (λ r=>.tup [.agg (e38 r.1),.v (.int .u64 r.2.1),.v (.int .i64 r.2.2)]) λ r=>[])/\(∀ N (a0:Wq) (a1:Int),OK (Qdo N a0 a1) 120 [.agg (e32 a0),.v (.int .i64 a1)] [] (λ r=>.tup [.agg (e32 r.1),.v (.int .i64 r.2)]) λ r=>[])/\(∀ N (a0:Wq) (a1:Int),OK (Qcm N a0 a1) 286 [.agg (e32 a0),.v (.int .u64 a1)] [] (λ r=>.v (.int .i64 r)) λ r=>[])/\(∀ N (a0:Wx) (a1:WX),OK (QcW N a0 a1) 301 [.agg (Xeo a0),.agg (e23 a1)] [] (λ r=>.v (.bool r)) λ r=>[])/\(∀ N (a0:Wy),OK (QdC N a0) 50 [.agg (e35 a0)] [] (λ r=>.v (.bool r)) λ r=>[])/\(∀ N (a0:WX) (a1:Ww),OK (Qgc N a0 a1) 68 [.agg (e23 a0),.agg (e80 a1)] [] (λ r=>.v (.bool r)) λ r=>[])/\(∀ N (a0:UR),OK (QgH N a0) 258 [.agg (e70 a0)] [] (λ r=>.tup [.v (.int .u64 r.1),.v (.int .i64 r.2)]) λ r=>[]):=by
 refine ⟨λ N _=>rn Tryz.f13 [.cell 2 45] [] 36 (by kernel_rfl) ?_,λ N _ _=>rn Tryz.f275 [.cell 4 80] [] 23 (by kernel_rfl) ?_,λ N _ _=>rn Tryz.f193 [.tmp 4] [] 19 (by kernel_rfl) ?_,λ N _ _=>rn Tryz.f196 [.cell 4 38,.tmp 5,.tmp 6] [] 43 (by kernel_rfl) ?_,λ N _ _=>rn Tryz.f120 [.cell 4 32,.tmp 5] [] 11 (by kernel_rfl) ?_,λ N _ _=>rn Tryz.f286 [.tmp 4] [] 20 (by kernel_rfl) ?_,λ N _ _=>rn Tryz.f301 [.tmp 4] [] 18 (by kernel_rfl) ?_,λ N _=>rn Tryz.f50 [.tmp 2] [] 13 (by kernel_rfl) ?_,λ N _ _=>rn Tryz.f68 [.tmp 4] [] 19 (by kernel_rfl) ?_,λ N _=>rn Tryz.f258 [.tmp 2,.tmp 3] [] 35 (by kernel_rfl) ?_⟩<;>(rintro _ hw r hr C _ rfl hwf hf;have hgw:=hw;unfold GW at hgw;simp only[Tryz.f13,Tryz.f275,Tryz.f193,Tryz.f196,Tryz.f120,Tryz.f286,Tryz.f301,Tryz.f50,Tryz.f68,Tryz.f258,Option.get!];(first|rw[QbS] at hr|rw[Qez] at hr|rw[Qdn] at hr|rw[Qcj] at hr|rw[Qdo] at hr|rw[Qcm] at hr|rw[QcW] at hr|rw[QdC] at hr|rw[Qgc] at hr|rw[QgH] at hr);repeat' first
 |(refine El.el hr ?_;intro hr)
 |(with_reducible intro h;refine Xw hr h ?_;intro hr)
 |with_reducible intro _
 |simp only[go_sem,simprocAttr,XnT,hgw]
 |(with_reducible first|apply Xg|apply Xf|apply Xo|apply Xt|apply Xu)
 |(refine Xp ?_ ?_;·first|assumption|omega)
 |(with_reducible first|refine CallX.c ?_ _|refine OK.c hr hw ?_ (λ y hr=>?_) _|refine IX hr hw ?_ (λ y hr=>?_) _)
 |with_reducible refine Oi 6 ?_ _
 |with_reducible refine LoopU.s 1000 ?_ _
 |refine db 193 1 hf 13 [(0,0,[]),(1,0,[]),(3,0,[]),(7,0,[]),(15,0,[]),(31,0,[]),(63,0,[]),(127,0,[]),(255,6,[]),(255,1,[]),(767,1,[]),(2047,0,[]),(4095,0,[]),(8191,0,[]),(16383,0,[])] rfl rfl (by kernel_rfl) ?_ _
 |refine db 68 1 hf 13 [(0,0,[]),(1,0,[]),(3,0,[]),(7,0,[]),(15,0,[]),(31,0,[]),(63,0,[]),(127,0,[]),(255,6,[]),(255,1,[]),(767,1,[]),(2047,0,[]),(4095,0,[]),(8191,0,[]),(16383,0,[])] rfl rfl (by kernel_rfl) ?_ _
 |(refine Xn hr ?_;rintro rfl;with_reducible refine XF ?_)
 |exact Yj hr
 |fail)
@[reducible,instance] def QkY:=g15.1
@[reducible,instance] def Qou:=g15.2.1
@[reducible,instance] def QnP:=g15.2.2.1
@[reducible,instance] def QmG:=g15.2.2.2.1
@[reducible,instance] def QnQ:=g15.2.2.2.2.1
@[reducible,instance] def QmH:=g15.2.2.2.2.2.1
@[reducible,instance] def QkQ:=g15.2.2.2.2.2.2.1
@[reducible,instance] def QmI:=g15.2.2.2.2.2.2.2.1
@[reducible,instance] def QnR:=g15.2.2.2.2.2.2.2.2.1
@[reducible,instance] def Qlu:=g15.2.2.2.2.2.2.2.2.2
theorem g16:(∀ N (a0:Wo) (a1:Int) (a2:Int),OK (Qf4 N a0 a1 a2) 374 [.agg (e27 a0),.v (.int .i64 a1),.v (.int .i64 a2)] [] (λ r=>.v (.int .u64 r)) λ r=>[])/\(∀ N (a0:WV) (a1:Int),OK (Qee N a0 a1) 185 [.agg (Kg a0),.v (.int .u64 a1)] [] (λ r=>.v (.int .u64 r)) λ r=>[])/\(∀ N (a0:WX) (a1:List Wx) (a2:Int) (a3:Int) (a4:Int),OK (QfM N a0 a1 a2 a3 a4) 361 [.agg (e23 a0),.isl 175 4 (a1.map XB),.v (.int .i64 a2),.v (.int .i64 a3),.v (.int .i64 a4)] [] (λ r=>.tup [.isl 175 4 (r.1.map XB),.v (.int .i64 r.2)]) λ r=>[])/\(∀ N (a0:Wq) (a1:Int) (a2:Int),OK (Qc4 N a0 a1 a2) 203 [.agg (e32 a0),.v (.int .i64 a1),.v (.int .i64 a2)] [] (λ r=>.tup [.agg (e32 r.1),.v (.int .i64 r.2)]) λ r=>[])/\(∀ N (a0:Wo) (a1:Int) (a2:Int),OK (Qcl N a0 a1 a2) 283 [.agg (e27 a0),.v (.int .u64 a1),.v (.int .i64 a2)] [] (λ r=>.agg (e27 r)) λ r=>[])/\(∀ N (a0:WI) (a1:Int),OK (QbZ N a0 a1) 116 [.agg (e43 a0),.v (.int .u64 a1)] [] (λ r=>.tup [.agg (e43 r.1),.v (.int .u64 r.2)]) λ r=>[])/\(∀ N (a0:Wo) (a1:Int),OK (QfR N a0 a1) 354 [.ept 1000000 0 6 0 0,.ept 1000001 0 1 0 0] [.arr true 27 6 [[.v (.int .i64 a0.Conf.PageWords),.v (.int .i64 a0.Conf.Pages),.isl 39 1 (a0.Words.map e39),.isl 175 4 (a0.Pages.map XB),.v (.int .i64 a0.Space),.v (.int .i64 a0.Bump)]] 0,.arr true 39 1 [[.v (.int .u64 a1)]] 0] (λ r=>.v (.int .u64 r)) λ r=>[.arr true 27 6 [[.v (.int .i64 a0.Conf.PageWords),.v (.int .i64 a0.Conf.Pages),.isl 39 1 (a0.Words.map e39),.isl 175 4 (a0.Pages.map XB),.v (.int .i64 a0.Space),.v (.int .i64 a0.Bump)]] 0,.arr true 39 1 [[.v (.int .u64 a1)]] 0])/\(∀ N (a0:Int) (a1:List Int),OK (QdS N a0 a1) 135 [.v (.int .u64 a0),.ept 1000000 0 1 0 0] [.arr true 24 1 [[.isl 39 1 (a1.map e39)]] 0] (λ r=>.v (.bool r)) λ r=>[.arr true 24 1 [[.isl 39 1 (a1.map e39)]] 0])/\(∀ N (a0:Ww),OK (QgG N a0) 240 [.agg (e80 a0)] [] (λ r=>.tup [.v (.int .u64 r.1),.v (.int .i64 r.2)]) λ r=>[]):=by
 refine ⟨λ N _ _ _=>rn Tryz.f374 [.tmp 6] [] 27 (by kernel_rfl) ?_,λ N _ _=>rn Tryz.f185 [.tmp 4] [] 28 (by kernel_rfl) ?_,λ N _ _ _ _ _=>rn Tryz.f361 [.tmp 10,.tmp 11] [] 37 (by kernel_rfl) ?_,λ N _ _ _=>rn Tryz.f203 [.cell 6 32,.tmp 7] [] 33 (by kernel_rfl) ?_,λ N _ _ _=>rn Tryz.f283 [.cell 6 27] [] 25 (by kernel_rfl) ?_,λ N _ _=>rn Tryz.f116 [.cell 4 43,.tmp 5] [] 35 (by kernel_rfl) ?_,λ N _ _=>rn Tryz.f354 [.tmp 2] [] 13 (by kernel_rfl) ?_,λ N _ _=>rn Tryz.f135 [.tmp 3] [] 18 (by kernel_rfl) ?_,λ N _=>rn Tryz.f240 [.tmp 2,.tmp 3] [] 24 (by kernel_rfl) ?_⟩<;>(rintro _ hw r hr C _ rfl hwf hf;simp only[Tryz.f374,Tryz.f185,Tryz.f361,Tryz.f203,Tryz.f283,Tryz.f116,Tryz.f354,Tryz.f135,Tryz.f240,Option.get!];(first|rw[Qf4] at hr|rw[Qee] at hr|rw[QfM] at hr|rw[Qc4] at hr|rw[Qcl] at hr|rw[QbZ] at hr|rw[QfR] at hr|rw[QdS] at hr|rw[QgG] at hr);repeat' first
 |(refine El.el hr ?_;intro hr)
 |(with_reducible intro h;refine Xw hr h ?_;intro hr)
 |with_reducible intro _
 |simp only[go_sem,simprocAttr,Yd,XE]
 |(with_reducible first|apply Xg|apply Xf|apply Xo|apply Xt|apply Xu)
 |((first|with_reducible refine Yb hr (by assumption) ?_ ?_|(with_reducible refine X7 hr ?_ ?_;rotate_left;intro p;rotate_right));(·simp only[go_sem,simprocAttr]);intro hp hn hd hr;(try have Yd:=hd _ Zg);(try simp only[go_sem,simprocAttr] at Yd);(try have XE:=hd _ XB);(try simp only[go_sem,simprocAttr] at XE))
 |(refine Xp ?_ ?_;·first|assumption|omega)
 |(with_reducible first|refine CallX.c ?_ _|refine OK.c hr hw ?_ (λ y hr=>?_) _|refine IX hr hw ?_ (λ y hr=>?_) _)
 |refine db 283 2 hf 12 [(0,284,[]),(1,284,[]),(0,267,[]),(0,263,[]),(12,259,[]),(31,256,[]),(63,256,[]),(127,256,[]),(0,255,[]),(511,0,[]),(1023,0,[]),(2047,0,[]),(4095,0,[[448],[]])] rfl rfl (by kernel_rfl) ?_ _
 |(refine Xn hr ?_;rintro rfl;with_reducible refine XF ?_)
 |exact Yj hr
 |fail)
@[reducible,instance] def QnS:=g16.1
@[reducible,instance] def QmJ:=g16.2.1
@[reducible,instance] def QmK:=g16.2.2.1
@[reducible,instance] def Ql2:=g16.2.2.2.1
@[reducible,instance] def QmL:=g16.2.2.2.2.1
@[reducible,instance] def QmM:=g16.2.2.2.2.2.1
@[reducible,instance] def Qlv:=g16.2.2.2.2.2.2.1
@[reducible,instance] def QkR:=g16.2.2.2.2.2.2.2.1
@[reducible,instance] def Qlw:=g16.2.2.2.2.2.2.2.2
end Go.Sx
