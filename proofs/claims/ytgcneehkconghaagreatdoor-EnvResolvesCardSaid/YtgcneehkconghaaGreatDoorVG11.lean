import Derived.Test.YtgcneehkconghaaGreatDoorVF
import Derived.Test.YtgcneehkconghaaGreatDoorVG1
import Derived.Test.YtgcneehkconghaaGreatDoorVG2
import Derived.Test.YtgcneehkconghaaGreatDoorVG5
import Derived.Test.YtgcneehkconghaaGreatDoorVG7
import Derived.Test.YtgcneehkconghaaGreatDoorVG8
import Derived.Test.YtgcneehkconghaaGreatDoorVG9
set_option linter.all false
namespace Go.Sx
open Go.Proofs
set_option maxRecDepth 10000
set_option maxHeartbeats 100000000
theorem g16:(∀ N (a0:Wn) (a1:Int) (a2:Int),OK (Qf9 N a0 a1 a2) 374 [.agg (e27 a0),.v (.int .i64 a1),.v (.int .i64 a2)] [] (λ r=>.v (.int .u64 r)) λ r=>[])/\(∀ N (a0:W0) (a1:Int),OK (Qes N a0 a1) 185 [.agg (KC a0),.v (.int .u64 a1)] [] (λ r=>.v (.int .u64 r)) λ r=>[])/\(∀ N (a0:WT) (a1:List Wv) (a2:Int) (a3:Int) (a4:Int),OK (Qdo N a0 a1 a2 a3 a4) 361 [.agg (e23 a0),.isl 175 4 (a1.map XG),.v (.int .i64 a2),.v (.int .i64 a3),.v (.int .i64 a4)] [] (λ r=>.tup [.isl 175 4 (r.1.map XG),.v (.int .i64 r.2)]) λ r=>[])/\(∀ N (a0:Ww) (a1:Int) (a2:Int),OK (Qdt N a0 a1 a2) 203 [.agg (e32 a0),.v (.int .i64 a1),.v (.int .i64 a2)] [] (λ r=>.tup [.agg (e32 r.1),.v (.int .i64 r.2)]) λ r=>[])/\(∀ N (a0:Wn) (a1:Int) (a2:Int),OK (Qb4 N a0 a1 a2) 283 [.agg (e27 a0),.v (.int .u64 a1),.v (.int .i64 a2)] [] (λ r=>.agg (e27 r)) λ r=>[])/\(∀ N (a0:WM) (a1:Int),OK (Qck N a0 a1) 116 [.agg (e43 a0),.v (.int .u64 a1)] [] (λ r=>.tup [.agg (e43 r.1),.v (.int .u64 r.2)]) λ r=>[])/\(∀ N (a0:Wn) (a1:Int),OK (QfZ N a0 a1) 354 [.ept 1000000 0 6 0 0,.ept 1000001 0 1 0 0] [.arr true 27 6 [[.v (.int .i64 a0.Conf.PageWords),.v (.int .i64 a0.Conf.Pages),.isl 39 1 (a0.Words.map e39),.isl 175 4 (a0.Pages.map XG),.v (.int .i64 a0.Space),.v (.int .i64 a0.Bump)]] 0,.arr true 39 1 [[.v (.int .u64 a1)]] 0] (λ r=>.v (.int .u64 r)) λ r=>[.arr true 27 6 [[.v (.int .i64 a0.Conf.PageWords),.v (.int .i64 a0.Conf.Pages),.isl 39 1 (a0.Words.map e39),.isl 175 4 (a0.Pages.map XG),.v (.int .i64 a0.Space),.v (.int .i64 a0.Bump)]] 0,.arr true 39 1 [[.v (.int .u64 a1)]] 0])/\(∀ N (a0:Int) (a1:List Int),OK (Qd9 N a0 a1) 135 [.v (.int .u64 a0),.ept 1000000 0 1 0 0] [.arr true 24 1 [[.isl 39 1 (a1.map e39)]] 0] (λ r=>.v (.bool r)) λ r=>[.arr true 24 1 [[.isl 39 1 (a1.map e39)]] 0])/\(∀ N (a0:Wy),OK (Qe8 N a0) 240 [.agg (e80 a0)] [] (λ r=>.tup [.v (.int .u64 r.1),.v (.int .i64 r.2)]) λ r=>[]):=by
 refine ⟨λ N _ _ _=>rn Tryz.f374 [.tmp 6] [] 27 (by kernel_rfl) ?_,λ N _ _=>rn Tryz.f185 [.tmp 4] [] 28 (by kernel_rfl) ?_,λ N _ _ _ _ _=>rn Tryz.f361 [.tmp 10,.tmp 11] [] 37 (by kernel_rfl) ?_,λ N _ _ _=>rn Tryz.f203 [.cell 6 32,.tmp 7] [] 33 (by kernel_rfl) ?_,λ N _ _ _=>rn Tryz.f283 [.cell 6 27] [] 25 (by kernel_rfl) ?_,λ N _ _=>rn Tryz.f116 [.cell 4 43,.tmp 5] [] 35 (by kernel_rfl) ?_,λ N _ _=>rn Tryz.f354 [.tmp 2] [] 13 (by kernel_rfl) ?_,λ N _ _=>rn Tryz.f135 [.tmp 3] [] 18 (by kernel_rfl) ?_,λ N _=>rn Tryz.f240 [.tmp 2,.tmp 3] [] 24 (by kernel_rfl) ?_⟩<;>(rintro _ hw r hr C _ rfl hwf hf;simp only[Tryz.f374,Tryz.f185,Tryz.f361,Tryz.f203,Tryz.f283,Tryz.f116,Tryz.f354,Tryz.f135,Tryz.f240,Option.get!];(first|rw[Qf9] at hr|rw[Qes] at hr|rw[Qdo] at hr|rw[Qdt] at hr|rw[Qb4] at hr|rw[Qck] at hr|rw[QfZ] at hr|rw[Qd9] at hr|rw[Qe8] at hr);repeat' first
 |(refine El.el hr ?_;intro hr)
 |(with_reducible intro h;refine XA hr h ?_;intro hr)
 |with_reducible intro _
 |simp only[go_sem,simprocAttr,Yk,XK]
 |(with_reducible first|apply Xk|apply Xj|apply Xo|apply Xt|apply Xu)
 |((first|with_reducible refine Ym hr (by assumption) ?_ ?_|(with_reducible refine Yi hr ?_ ?_;rotate_left;intro p;rotate_right));(·simp only[go_sem,simprocAttr]);intro hp hn hd hr;(try have Yk:=hd _ Zm);(try simp only[go_sem,simprocAttr] at Yk);(try have XK:=hd _ XG);(try simp only[go_sem,simprocAttr] at XK))
 |(refine Xp ?_ ?_;·first|assumption|omega)
 |(with_reducible first|refine CallX.c ?_ _|refine OK.c hr hw ?_ (λ y hr=>?_) _|refine Og hr hw ?_ (λ y hr=>?_) _)
 |refine db 283 2 hf 12 [(0,284,[]),(1,284,[]),(0,267,[]),(0,263,[]),(12,259,[]),(31,256,[]),(63,256,[]),(127,256,[]),(0,255,[]),(511,0,[]),(1023,0,[]),(2047,0,[]),(4095,0,[[448],[]])] rfl rfl (by kernel_rfl) ?_ _
 |(refine Xn hr ?_;rintro rfl;with_reducible refine XM ?_)
 |exact Yw hr
 |fail)
@[reducible,instance] def Qns:=g16.1
@[reducible,instance] def Qmo:=g16.2.1
@[reducible,instance] def Qmp:=g16.2.2.1
@[reducible,instance] def QlN:=g16.2.2.2.1
@[reducible,instance] def Qmq:=g16.2.2.2.2.1
@[reducible,instance] def Qmr:=g16.2.2.2.2.2.1
@[reducible,instance] def Qlh:=g16.2.2.2.2.2.2.1
@[reducible,instance] def QkD:=g16.2.2.2.2.2.2.2.1
@[reducible,instance] def Qli:=g16.2.2.2.2.2.2.2.2
theorem g15:(∀ N (a0:UU),OK (Qbo N a0) 13 [.ept 1000000 0 2 0 0] [.arr true 60 2 [[.isl 3 1 (a0.L.map e3),.v (.int .i64 a0.at_)]] 0] (λ r=>.agg (e45 r.1)) λ r=>[.arr true 60 2 [[.isl 3 1 (r.2.L.map e3),.v (.int .i64 r.2.at_)]] 0])/\(∀ N (a0:W0) (a1:Int),OK (QeI N a0 a1) 275 [.agg (KC a0),.v (.int .u64 a1)] [] (λ r=>.agg (e80 r)) λ r=>[])/\(∀ N (a0:WT) (a1:Wy),OK (Qb8 N a0 a1) 193 [.agg (e23 a0),.agg (e80 a1)] [] (λ r=>.v (.bool r)) λ r=>[])/\(∀ N (a0:W6) (a1:Int),OK (Qb3 N a0 a1) 196 [.agg (e38 a0),.v (.int .u64 a1)] [] (λ r=>.tup [.agg (e38 r.1),.v (.int .u64 r.2.1),.v (.int .i64 r.2.2)]) λ r=>[])/\(∀ N (a0:Ww) (a1:Int),OK (QdJ N a0 a1) 120 [.agg (e32 a0),.v (.int .i64 a1)] [] (λ r=>.tup [.agg (e32 r.1),.v (.int .i64 r.2)]) λ r=>[])/\(∀ N (a0:Ww) (a1:Int),OK (QcK N a0 a1) 286 [.agg (e32 a0),.v (.int .u64 a1)] [] (λ r=>.v (.int .i64 r)) λ r=>[])/\(∀ N (a0:Wv) (a1:WT),OK (Qdh N a0 a1) 301 [.agg (Xfz a0),.agg (e23 a1)] [] (λ r=>.v (.bool r)) λ r=>[])/\(∀ N (a0:WI),OK (QdW N a0) 50 [.agg (e35 a0)] [] (λ r=>.v (.bool r)) λ r=>[])/\(∀ N (a0:WT) (a1:Wy),OK (QfI N a0 a1) 68 [.agg (e23 a0),.agg (e80 a1)] [] (λ r=>.v (.bool r)) λ r=>[]):=by
 refine ⟨λ N _=>rn Tryz.f13 [.cell 2 45] [] 36 (by kernel_rfl) ?_,λ N _ _=>rn Tryz.f275 [.cell 4 80] [] 23 (by kernel_rfl) ?_,λ N _ _=>rn Tryz.f193 [.tmp 4] [] 19 (by kernel_rfl) ?_,λ N _ _=>rn Tryz.f196 [.cell 4 38,.tmp 5,.tmp 6] [] 43 (by kernel_rfl) ?_,λ N _ _=>rn Tryz.f120 [.cell 4 32,.tmp 5] [] 11 (by kernel_rfl) ?_,λ N _ _=>rn Tryz.f286 [.tmp 4] [] 20 (by kernel_rfl) ?_,λ N _ _=>rn Tryz.f301 [.tmp 4] [] 18 (by kernel_rfl) ?_,λ N _=>rn Tryz.f50 [.tmp 2] [] 13 (by kernel_rfl) ?_,λ N _ _=>rn Tryz.f68 [.tmp 4] [] 19 (by kernel_rfl) ?_⟩<;>(rintro _ hw r hr C _ rfl hwf hf;simp only[Tryz.f13,Tryz.f275,Tryz.f193,Tryz.f196,Tryz.f120,Tryz.f286,Tryz.f301,Tryz.f50,Tryz.f68,Option.get!];(first|rw[Qbo] at hr|rw[QeI] at hr|rw[Qb8] at hr|rw[Qb3] at hr|rw[QdJ] at hr|rw[QcK] at hr|rw[Qdh] at hr|rw[QdW] at hr|rw[QfI] at hr);repeat' first
 |(refine El.el hr ?_;intro hr)
 |(with_reducible intro h;refine XA hr h ?_;intro hr)
 |with_reducible intro _
 |simp only[go_sem,simprocAttr]
 |(with_reducible first|apply Xk|apply Xj|apply Xo|apply Xt|apply Xu)
 |(refine Xp ?_ ?_;·first|assumption|omega)
 |(with_reducible first|refine CallX.c ?_ _|refine OK.c hr hw ?_ (λ y hr=>?_) _|refine Og hr hw ?_ (λ y hr=>?_) _)
 |refine db 193 1 hf 13 [(0,0,[]),(1,0,[]),(3,0,[]),(7,0,[]),(15,0,[]),(31,0,[]),(63,0,[]),(127,0,[]),(255,6,[]),(255,1,[]),(767,1,[]),(2047,0,[]),(4095,0,[]),(8191,0,[]),(16383,0,[])] rfl rfl (by kernel_rfl) ?_ _
 |refine db 68 1 hf 13 [(0,0,[]),(1,0,[]),(3,0,[]),(7,0,[]),(15,0,[]),(31,0,[]),(63,0,[]),(127,0,[]),(255,6,[]),(255,1,[]),(767,1,[]),(2047,0,[]),(4095,0,[]),(8191,0,[]),(16383,0,[])] rfl rfl (by kernel_rfl) ?_ _
 |(refine Xn hr ?_;rintro rfl;with_reducible refine XM ?_)
 |exact Yw hr
 |fail)
@[reducible,instance] def QkK:=g15.1
@[reducible,instance] def Qn9:=g15.2.1
@[reducible,instance] def Qnt:=g15.2.2.1
@[reducible,instance] def Qms:=g15.2.2.2.1
@[reducible,instance] def Qnu:=g15.2.2.2.2.1
@[reducible,instance] def Qmt:=g15.2.2.2.2.2.1
@[reducible,instance] def QkE:=g15.2.2.2.2.2.2.1
@[reducible,instance] def Qmu:=g15.2.2.2.2.2.2.2.1
@[reducible,instance] def Qnv:=g15.2.2.2.2.2.2.2.2
end Go.Sx
