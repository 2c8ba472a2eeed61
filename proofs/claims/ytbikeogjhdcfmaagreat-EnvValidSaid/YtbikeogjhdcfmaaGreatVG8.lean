import Derived.Test.YtbikeogjhdcfmaaGreatVF
import Derived.Test.YtbikeogjhdcfmaaGreatVG0
import Derived.Test.YtbikeogjhdcfmaaGreatVG1
import Derived.Test.YtbikeogjhdcfmaaGreatVG2
import Derived.Test.YtbikeogjhdcfmaaGreatVG3
import Derived.Test.YtbikeogjhdcfmaaGreatVG4
import Derived.Test.YtbikeogjhdcfmaaGreatVG5
set_option linter.all false
namespace Go.Sx
open Go.Proofs
set_option maxRecDepth 10000
set_option maxHeartbeats 100000000
theorem g13:(∀ N (a0:W8) (a1:W8),OK (Qgj N a0 a1) 6 [.agg (e38 a0),.agg (e38 a1)] [] (λ r=>.v (.bool r)) λ r=>[])/\(∀ N (a0:Wn) (a1:Int),OK (QeQ N a0 a1) 69 [.agg (e27 a0),.v (.int .u64 a1)] [] (λ r=>.v (.int .i64 r)) λ r=>[])/\(∀ N (a0:List Int) (a1:Int) (a2:Int) (a3:Int),OK (QeR N a0 a1 a2 a3) 296 [.isl 71 1 (a0.map e71),.v (.int .u64 a1),.v (.int .u64 a2),.v (.int .i64 a3)] [] (λ r=>.tup [.isl 71 1 (r.1.map e71),.v (.int .i64 r.2)]) λ r=>[])/\(∀ N (a0:Int),OK (QbM N a0) 202 [.v (.int .u64 a0)] [] (λ r=>.tup [.agg (Xm5 r.1),.v (.int .i64 r.2)]) λ r=>[])/\(∀ N (a0:Ww) (a1:Int) (a2:Bool),OK (QfK N a0 a1 a2) 216 [.agg (e32 a0),.v (.int .i64 a1),.v (.bool a2)] [] (λ r=>.tup [.agg (e32 r.1),.v (.int .i64 r.2)]) λ r=>[])/\(∀ N (a0:WM) (a1:Int) (a2:Int) (a3:Int),OK (QeV N a0 a1 a2 a3) 140 [.agg (e59 a0),.v (.int .i64 a1),.v (.int .u64 a2),.v (.int .u64 a3)] [] (λ r=>.tup [.agg (e59 r.1),.v (.int .u64 r.2)]) λ r=>[])/\(∀ N (a0:List Ua),OK (Qaz N a0) 58 [.isl 92 3 (a0.map e92),.clo (.func 59) [] []] [] (λ r=>.v (.bool r)) λ r=>[])/\(∀ N (a0:WQ) (a1:Int),OK (Qep N a0 a1) 103 [.agg (e23 a0),.v (.int .i64 a1)] [] (λ r=>.v (.int .i64 r)) λ r=>[])/\(∀ N (a0:List Int) (a1:Int),OK (QfP N a0 a1) 224 [.isl 71 1 (a0.map e71),.v (.int .u64 a1)] [] (λ r=>.tup [.v (.int .u64 r.1),.v (.int .i64 r.2)]) λ r=>[])/\(∀ N (a0:W8),OK (Qhy N a0) 73 [.agg (e38 a0)] [] (λ r=>.agg (e38 r)) λ r=>[]):=by
 refine ⟨λ N _ _=>rn Tryz.f6 [.tmp 4] [] 45 (by kernel_rfl) ?_,λ N _ _=>rn Tryz.f69 [.tmp 4] [] 17 (by kernel_rfl) ?_,λ N _ _ _ _=>rn Tryz.f296 [.tmp 8,.tmp 9] [] 28 (by kernel_rfl) ?_,λ N _=>rn Tryz.f202 [.cell 2 283,.tmp 3] [] 35 (by kernel_rfl) ?_,λ N _ _ _=>rn Tryz.f216 [.cell 6 32,.tmp 7] [] 48 (by kernel_rfl) ?_,λ N _ _ _ _=>rn Tryz.f140 [.cell 8 59,.tmp 9] [] 77 (by kernel_rfl) ?_,λ N _=>rn Tryz.f58 [.tmp 4] [] 9 (by kernel_rfl) ?_,λ N _ _=>rn Tryz.f103 [.tmp 4] [] 33 (by kernel_rfl) ?_,λ N _ _=>rn Tryz.f224 [.tmp 4,.tmp 5] [] 21 (by kernel_rfl) ?_,λ N _=>rn Tryz.f73 [.cell 2 38] [] 22 (by kernel_rfl) ?_⟩<;>(rintro _ hw r hr C _ rfl hwf hf;simp only[Tryz.f6,Tryz.f69,Tryz.f296,Tryz.f202,Tryz.f216,Tryz.f140,Tryz.f58,Tryz.f103,Tryz.f224,Tryz.f73,Option.get!];(first|rw[Qgj] at hr|rw[QeQ] at hr|rw[QeR] at hr|rw[QbM] at hr|rw[QfK] at hr|rw[QeV] at hr|rw[Qaz] at hr|rw[Qep] at hr|rw[QfP] at hr|rw[Qhy] at hr);repeat' first
 |(refine El.el hr ?_;intro hr)
 |(with_reducible intro h;refine XB hr h ?_;intro hr)
 |with_reducible intro _
 |simp only[go_sem,simprocAttr,XU,KG,Wy,WN,Uz]
 |(with_reducible first|apply Xk|apply Xj|apply Xp|apply Xr|apply Xs)
 |((first|with_reducible refine Yk hr (by assumption) ?_ ?_|(with_reducible refine Yf hr ?_ ?_;rotate_left;intro p;rotate_right));(·simp only[go_sem,simprocAttr,Wy,WN,Uz]);intro hp hn hd hr;(try have XU:=hd _ e71);(try simp only[go_sem,simprocAttr] at XU);(try have KG:=hd _ Xd3);(try simp only[go_sem,simprocAttr] at KG))
 |(refine Xq ?_ ?_;·first|assumption|omega)
 |(with_reducible first|refine CallX.c ?_ _|refine OK.c hr hw ?_ (λ y hr=>?_) _|refine Oe hr hw ?_ (λ y hr=>?_) _)
 |refine db 216 7 hf 34 [(0,2038,[[2176],[2816]]),(0,2033,[[],[2176,2816]]),(2,2033,[[],[2176,2816]]),(7,2032,[[2176],[2816]]),(0,399,[[],[2176]]),(16,399,[[],[2176]]),(48,399,[[],[2176]]),(0,383,[[],[2176]]),(0,255,[[],[2176]]),(496,15,[[],[2176]]),(1008,15,[[2816],[2176]]),(2047,0,[[2176],[]]),(4095,0,[]),(8191,0,[[192],[]])] rfl rfl (by kernel_rfl) ?_ _
 |refine db 140 6 hf 37 [(0,500,[]),(1,500,[]),(0,499,[]),(7,496,[]),(0,207,[]),(16,207,[]),(0,63,[]),(64,63,[]),(240,15,[]),(511,0,[[896],[]]),(1023,0,[]),(2047,0,[[256],[]])] rfl rfl (by kernel_rfl) ?_ _
 |refine db 140 10 hf 60 [(0,126,[]),(0,9,[[],[512]]),(2,9,[[],[512]]),(0,7,[[],[512]]),(14,1,[[],[512]]),(30,1,[[],[512]]),(62,1,[[],[512]]),(1,126,[[512],[]]),(255,0,[])] rfl rfl (by kernel_rfl) ?_ _
 |refine db 73 1 hf 3 [(0,112344,[]),(1,112344,[]),(3,112344,[]),(0,112327,[]),(8,112327,[]),(31,112320,[]),(0,112191,[]),(64,112191,[]),(255,112128,[]),(0,111103,[]),(512,111103,[]),(2047,110592,[]),(0,102399,[]),(4096,102399,[]),(16383,98304,[[1088],[]]),(0,32767,[[],[1088]]),(32768,32767,[[],[1088]]),(131071,0,[[1280],[]]),(262143,0,[]),(524287,0,[[128],[]])] rfl rfl (by kernel_rfl) ?_ _
 |(refine Xn hr ?_;rintro rfl;with_reducible refine XM ?_)
 |exact Yw hr
 |with_reducible refine Xne (λ hi=>?_) (λ hi=>?_)
 |(exfalso;omega)
 |fail)
@[reducible,instance] def QnB:=g13.1
@[reducible,instance] def QnC:=g13.2.1
@[reducible,instance] def QnD:=g13.2.2.1
@[reducible,instance] def QlX:=g13.2.2.2.1
@[reducible,instance] def QnE:=g13.2.2.2.2.1
@[reducible,instance] def QnF:=g13.2.2.2.2.2.1
@[reducible,instance] def Qhi:=g13.2.2.2.2.2.2.1
@[reducible,instance] def Qoq:=g13.2.2.2.2.2.2.2.1
@[reducible,instance] def QnG:=g13.2.2.2.2.2.2.2.2.1
@[reducible,instance] def QnH:=g13.2.2.2.2.2.2.2.2.2
end Go.Sx
