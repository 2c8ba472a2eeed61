import Derived.Test.YtbikeogjhdcfmaaGreatVF
import Derived.Test.YtbikeogjhdcfmaaGreatVG1
import Derived.Test.YtbikeogjhdcfmaaGreatVG2
import Derived.Test.YtbikeogjhdcfmaaGreatVG5
import Derived.Test.YtbikeogjhdcfmaaGreatVG6
import Derived.Test.YtbikeogjhdcfmaaGreatVG7
import Derived.Test.YtbikeogjhdcfmaaGreatVG8
set_option linter.all false
namespace Go.Sx
open Go.Proofs
set_option maxRecDepth 10000
set_option maxHeartbeats 100000000
theorem g15:(∀ N (a0:UU),OK (Qbl N a0) 44 [.ept 1000000 0 2 0 0] [.arr true 66 2 [[.isl 3 1 (a0.L.map e3),.v (.int .i64 a0.at_)]] 0] (λ r=>.agg (e61 r.1)) λ r=>[.arr true 66 2 [[.isl 3 1 (r.2.L.map e3),.v (.int .i64 r.2.at_)]] 0])/\(∀ N (a0:WY) (a1:Int),OK (QeK N a0 a1) 258 [.agg (Kv a0),.v (.int .u64 a1)] [] (λ r=>.agg (e82 r)) λ r=>[])/\(∀ N (a0:WQ) (a1:Wz),OK (Qb7 N a0 a1) 190 [.agg (e23 a0),.agg (e82 a1)] [] (λ r=>.v (.bool r)) λ r=>[])/\(∀ N (a0:W8) (a1:Int),OK (Qb2 N a0 a1) 193 [.agg (e38 a0),.v (.int .u64 a1)] [] (λ r=>.tup [.agg (e38 r.1),.v (.int .u64 r.2.1),.v (.int .i64 r.2.2)]) λ r=>[])/\(∀ N (a0:Ww) (a1:Int),OK (QdL N a0 a1) 138 [.agg (e32 a0),.v (.int .i64 a1)] [] (λ r=>.tup [.agg (e32 r.1),.v (.int .i64 r.2)]) λ r=>[])/\(∀ N (a0:Ww) (a1:Int),OK (QcL N a0 a1) 267 [.agg (e32 a0),.v (.int .u64 a1)] [] (λ r=>.v (.int .i64 r)) λ r=>[])/\(∀ N (a0:WG),OK (Qev N a0) 25 [.agg (e35 a0)] [] (λ r=>.v (.bool r)) λ r=>[])/\(∀ N (a0:Wn) (a1:Int),OK (Qf9 N a0 a1) 272 [.ept 1000000 0 6 0 0,.ept 1000001 0 1 0 0] [.arr true 27 6 [[.v (.int .i64 a0.Conf.PageWords),.v (.int .i64 a0.Conf.Pages),.isl 71 1 (a0.Words.map e71),.isl 108 4 (a0.Pages.map XF),.v (.int .i64 a0.Space),.v (.int .i64 a0.Bump)]] 0,.arr true 71 1 [[.v (.int .u64 a1)]] 0] (λ r=>.v (.int .u64 r)) λ r=>[.arr true 27 6 [[.v (.int .i64 a0.Conf.PageWords),.v (.int .i64 a0.Conf.Pages),.isl 71 1 (a0.Words.map e71),.isl 108 4 (a0.Pages.map XF),.v (.int .i64 a0.Space),.v (.int .i64 a0.Bump)]] 0,.arr true 71 1 [[.v (.int .u64 a1)]] 0])/\(∀ N (a0:WQ) (a1:Wz),OK (QfS N a0 a1) 72 [.agg (e23 a0),.agg (e82 a1)] [] (λ r=>.v (.bool r)) λ r=>[]):=by
 refine ⟨λ N _=>rn Tryz.f44 [.cell 2 61] [] 36 (by kernel_rfl) ?_,λ N _ _=>rn Tryz.f258 [.cell 4 82] [] 23 (by kernel_rfl) ?_,λ N _ _=>rn Tryz.f190 [.tmp 4] [] 19 (by kernel_rfl) ?_,λ N _ _=>rn Tryz.f193 [.cell 4 38,.tmp 5,.tmp 6] [] 43 (by kernel_rfl) ?_,λ N _ _=>rn Tryz.f138 [.cell 4 32,.tmp 5] [] 11 (by kernel_rfl) ?_,λ N _ _=>rn Tryz.f267 [.tmp 4] [] 20 (by kernel_rfl) ?_,λ N _=>rn Tryz.f25 [.tmp 2] [] 13 (by kernel_rfl) ?_,λ N _ _=>rn Tryz.f272 [.tmp 2] [] 13 (by kernel_rfl) ?_,λ N _ _=>rn Tryz.f72 [.tmp 4] [] 19 (by kernel_rfl) ?_⟩<;>(rintro _ hw r hr C _ rfl hwf hf;simp only[Tryz.f44,Tryz.f258,Tryz.f190,Tryz.f193,Tryz.f138,Tryz.f267,Tryz.f25,Tryz.f272,Tryz.f72,Option.get!];(first|rw[Qbl] at hr|rw[QeK] at hr|rw[Qb7] at hr|rw[Qb2] at hr|rw[QdL] at hr|rw[QcL] at hr|rw[Qev] at hr|rw[Qf9] at hr|rw[QfS] at hr);repeat' first
 |(refine El.el hr ?_;intro hr)
 |(with_reducible intro h;refine XB hr h ?_;intro hr)
 |with_reducible intro _
 |simp only[go_sem,simprocAttr]
 |(with_reducible first|apply Xk|apply Xj|apply Xp|apply Xr|apply Xs)
 |(refine Xq ?_ ?_;·first|assumption|omega)
 |(with_reducible first|refine CallX.c ?_ _|refine OK.c hr hw ?_ (λ y hr=>?_) _|refine Oe hr hw ?_ (λ y hr=>?_) _)
 |refine db 190 1 hf 13 [(0,0,[]),(1,0,[]),(3,0,[]),(7,0,[]),(15,0,[]),(31,0,[]),(63,0,[]),(127,0,[]),(255,6,[]),(255,1,[]),(767,1,[]),(2047,0,[]),(4095,0,[]),(8191,0,[]),(16383,0,[])] rfl rfl (by kernel_rfl) ?_ _
 |refine db 72 1 hf 13 [(0,0,[]),(1,0,[]),(3,0,[]),(7,0,[]),(15,0,[]),(31,0,[]),(63,0,[]),(127,0,[]),(255,6,[]),(255,1,[]),(767,1,[]),(2047,0,[]),(4095,0,[]),(8191,0,[]),(16383,0,[])] rfl rfl (by kernel_rfl) ?_ _
 |(refine Xn hr ?_;rintro rfl;with_reducible refine XM ?_)
 |exact Yw hr
 |fail)
@[reducible,instance] def QkZ:=g15.1
@[reducible,instance] def Qor:=g15.2.1
@[reducible,instance] def QnK:=g15.2.2.1
@[reducible,instance] def QmC:=g15.2.2.2.1
@[reducible,instance] def QnL:=g15.2.2.2.2.1
@[reducible,instance] def QmD:=g15.2.2.2.2.2.1
@[reducible,instance] def QmE:=g15.2.2.2.2.2.2.1
@[reducible,instance] def Qlw:=g15.2.2.2.2.2.2.2.1
@[reducible,instance] def QnM:=g15.2.2.2.2.2.2.2.2
theorem g16:(∀ N (a0:Wn) (a1:Int) (a2:Int),OK (Qgl N a0 a1 a2) 304 [.agg (e27 a0),.v (.int .i64 a1),.v (.int .i64 a2)] [] (λ r=>.v (.int .u64 r)) λ r=>[])/\(∀ N (a0:WY) (a1:Int),OK (Qeu N a0 a1) 182 [.agg (Kv a0),.v (.int .u64 a1)] [] (λ r=>.v (.int .u64 r)) λ r=>[])/\(∀ N (a0:WQ) (a1:List Wv) (a2:Int) (a3:Int) (a4:Int),OK (Qdp N a0 a1 a2 a3 a4) 311 [.agg (e23 a0),.isl 108 4 (a1.map XF),.v (.int .i64 a2),.v (.int .i64 a3),.v (.int .i64 a4)] [] (λ r=>.tup [.isl 108 4 (r.1.map XF),.v (.int .i64 r.2)]) λ r=>[])/\(∀ N (a0:Ww) (a1:Int) (a2:Int),OK (Qdu N a0 a1 a2) 203 [.agg (e32 a0),.v (.int .i64 a1),.v (.int .i64 a2)] [] (λ r=>.tup [.agg (e32 r.1),.v (.int .i64 r.2)]) λ r=>[])/\(∀ N (a0:Wn) (a1:Int) (a2:Int),OK (Qb3 N a0 a1 a2) 264 [.agg (e27 a0),.v (.int .u64 a1),.v (.int .i64 a2)] [] (λ r=>.agg (e27 r)) λ r=>[])/\(∀ N (a0:WM) (a1:Int),OK (Qcm N a0 a1) 134 [.agg (e59 a0),.v (.int .u64 a1)] [] (λ r=>.tup [.agg (e59 r.1),.v (.int .u64 r.2)]) λ r=>[])/\(∀ N (a0:Wv) (a1:WQ),OK (Qdj N a0 a1) 238 [.agg (Xfy a0),.agg (e23 a1)] [] (λ r=>.v (.bool r)) λ r=>[])/\(∀ N (a0:Int) (a1:List Int),OK (Qd9 N a0 a1) 63 [.v (.int .u64 a0),.ept 1000000 0 1 0 0] [.arr true 24 1 [[.isl 71 1 (a1.map e71)]] 0] (λ r=>.v (.bool r)) λ r=>[.arr true 24 1 [[.isl 71 1 (a1.map e71)]] 0])/\(∀ N (a0:Wz),OK (Qff N a0) 166 [.agg (e82 a0)] [] (λ r=>.tup [.v (.int .u64 r.1),.v (.int .i64 r.2)]) λ r=>[]):=by
 refine ⟨λ N _ _ _=>rn Tryz.f304 [.tmp 6] [] 27 (by kernel_rfl) ?_,λ N _ _=>rn Tryz.f182 [.tmp 4] [] 28 (by kernel_rfl) ?_,λ N _ _ _ _ _=>rn Tryz.f311 [.tmp 10,.tmp 11] [] 37 (by kernel_rfl) ?_,λ N _ _ _=>rn Tryz.f203 [.cell 6 32,.tmp 7] [] 33 (by kernel_rfl) ?_,λ N _ _ _=>rn Tryz.f264 [.cell 6 27] [] 25 (by kernel_rfl) ?_,λ N _ _=>rn Tryz.f134 [.cell 4 59,.tmp 5] [] 35 (by kernel_rfl) ?_,λ N _ _=>rn Tryz.f238 [.tmp 4] [] 18 (by kernel_rfl) ?_,λ N _ _=>rn Tryz.f63 [.tmp 3] [] 18 (by kernel_rfl) ?_,λ N _=>rn Tryz.f166 [.tmp 2,.tmp 3] [] 24 (by kernel_rfl) ?_⟩<;>(rintro _ hw r hr C _ rfl hwf hf;simp only[Tryz.f304,Tryz.f182,Tryz.f311,Tryz.f203,Tryz.f264,Tryz.f134,Tryz.f238,Tryz.f63,Tryz.f166,Option.get!];(first|rw[Qgl] at hr|rw[Qeu] at hr|rw[Qdp] at hr|rw[Qdu] at hr|rw[Qb3] at hr|rw[Qcm] at hr|rw[Qdj] at hr|rw[Qd9] at hr|rw[Qff] at hr);repeat' first
 |(refine El.el hr ?_;intro hr)
 |(with_reducible intro h;refine XB hr h ?_;intro hr)
 |with_reducible intro _
 |simp only[go_sem,simprocAttr,ZB,XK]
 |(with_reducible first|apply Xk|apply Xj|apply Xp|apply Xr|apply Xs)
 |((first|with_reducible refine Yk hr (by assumption) ?_ ?_|(with_reducible refine Yf hr ?_ ?_;rotate_left;intro p;rotate_right));(·simp only[go_sem,simprocAttr]);intro hp hn hd hr;(try have ZB:=hd _ e88);(try simp only[go_sem,simprocAttr] at ZB);(try have XK:=hd _ XF);(try simp only[go_sem,simprocAttr] at XK))
 |(refine Xq ?_ ?_;·first|assumption|omega)
 |(with_reducible first|refine CallX.c ?_ _|refine OK.c hr hw ?_ (λ y hr=>?_) _|refine Oe hr hw ?_ (λ y hr=>?_) _)
 |refine db 264 2 hf 12 [(0,284,[]),(1,284,[]),(0,267,[]),(0,263,[]),(12,259,[]),(31,256,[]),(63,256,[]),(127,256,[]),(0,255,[]),(511,0,[]),(1023,0,[]),(2047,0,[]),(4095,0,[[448],[]])] rfl rfl (by kernel_rfl) ?_ _
 |(refine Xn hr ?_;rintro rfl;with_reducible refine XM ?_)
 |exact Yw hr
 |fail)
@[reducible,instance] def QnN:=g16.1
@[reducible,instance] def QmF:=g16.2.1
@[reducible,instance] def QmG:=g16.2.2.1
@[reducible,instance] def Ql1:=g16.2.2.2.1
@[reducible,instance] def QmH:=g16.2.2.2.2.1
@[reducible,instance] def QmI:=g16.2.2.2.2.2.1
@[reducible,instance] def QkR:=g16.2.2.2.2.2.2.1
@[reducible,instance] def QkS:=g16.2.2.2.2.2.2.2.1
@[reducible,instance] def Qlx:=g16.2.2.2.2.2.2.2.2
end Go.Sx
