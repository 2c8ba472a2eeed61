import Derived.Test.YtbikeogjhdcfmaaGreatVF
import Derived.Test.YtbikeogjhdcfmaaGreatVG0
import Derived.Test.YtbikeogjhdcfmaaGreatVG5
import Derived.Test.YtbikeogjhdcfmaaGreatVG6
import Derived.Test.YtbikeogjhdcfmaaGreatVG7
import Derived.Test.YtbikeogjhdcfmaaGreatVG8
import Derived.Test.YtbikeogjhdcfmaaGreatVG9
import Derived.Test.YtbikeogjhdcfmaaGreatVG10
import Derived.Test.YtbikeogjhdcfmaaGreatVG11
import Derived.Test.YtbikeogjhdcfmaaGreatVG12
set_option linter.all false
namespace Go.Sx
open Go.Proofs
set_option maxRecDepth 10000
set_option maxHeartbeats 100000000
theorem g20:(∀ N (a0:Wn) (a1:Int),OK (Qbn N a0 a1) 199 [.agg (e27 a0),.v (.int .u64 a1)] [] (λ r=>.tup [.agg (e82 r.1),.v (.int .i64 r.2)]) λ r=>[])/\(∀ N (a0:Wn) (a1:Wz),OK (QbL N a0 a1) 260 [.agg (e27 a0),.agg (e82 a1)] [] (λ r=>.tup [.agg (e27 r.1),.v (.int .u64 r.2.1),.v (.int .i64 r.2.2)]) λ r=>[])/\(∀ N (a0:WM) (a1:Int),OK (QdV N a0 a1) 268 [.agg (e59 a0),.v (.int .u64 a1)] [] (λ r=>.tup [.v (.int .u64 r.1),.v (.int .i64 r.2)]) λ r=>[])/\(∀ N (a0:WM) (a1:Int) (a2:Int),OK (Qe8 N a0 a1 a2) 209 [.agg (e59 a0),.v (.int .i64 a1),.v (.int .u64 a2)] [] (λ r=>.v (.int .i64 r)) λ r=>[])/\(∀ N (a0:WM) (a1:Int) (a2:Int),OK (Qfx N a0 a1 a2) 211 [.agg (e59 a0),.v (.int .i64 a1),.v (.int .u64 a2)] [] (λ r=>.v (.int .i64 r)) λ r=>[])/\(∀ N (a0:W8),OK (QfN N a0) 11 [.agg (e38 a0)] [] (λ r=>.isl 71 1 (r.map e71)) λ r=>[])/\(∀ N (a0:List Int) (c0:List Int),OK (QaL N a0 c0) 62 [.isl 71 1 (a0.map e71),.clo (.func 63) [] [.ept 1000000 0 1 0 0]] [.arr true 24 1 [[.isl 71 1 (c0.map e71)]] 0] (λ r=>.v (.bool r)) λ r=>[.arr true 24 1 [[.isl 71 1 (c0.map e71)]] 0]):=by
 refine ⟨λ N _ _=>rn Tryz.f199 [.cell 4 82,.tmp 5] [] 31 (by kernel_rfl) ?_,λ N _ _=>rn Tryz.f260 [.cell 4 27,.tmp 5,.tmp 6] [] 58 (by kernel_rfl) ?_,λ N _ _=>rn Tryz.f268 [.tmp 4,.tmp 5] [] 22 (by kernel_rfl) ?_,λ N _ _ _=>rn Tryz.f209 [.tmp 6] [] 36 (by kernel_rfl) ?_,λ N _ _ _=>rn Tryz.f211 [.tmp 6] [] 46 (by kernel_rfl) ?_,λ N _=>rn Tryz.f11 [.tmp 2] [] 15 (by kernel_rfl) ?_,λ N _ _=>rn Tryz.f62 [.tmp 4] [] 9 (by kernel_rfl) ?_⟩<;>(rintro _ hw r hr C _ rfl hwf hf;simp only[Tryz.f199,Tryz.f260,Tryz.f268,Tryz.f209,Tryz.f211,Tryz.f11,Tryz.f62,Option.get!];(first|rw[Qbn] at hr|rw[QbL] at hr|rw[QdV] at hr|rw[Qe8] at hr|rw[Qfx] at hr|rw[QfN] at hr|rw[QaL] at hr);repeat' first
 |(refine El.el hr ?_;intro hr)
 |(with_reducible intro h;refine XB hr h ?_;intro hr)
 |with_reducible intro _
 |simp only[go_sem,simprocAttr]
 |(with_reducible first|apply Xk|apply Xj|apply Xp|apply Xr|apply Xs)
 |(refine Xq ?_ ?_;·first|assumption|omega)
 |(with_reducible first|refine CallX.c ?_ _|refine OK.c hr hw ?_ (λ y hr=>?_) _|refine Oe hr hw ?_ (λ y hr=>?_) _)
 |refine db 11 1 hf 3 [(0,1020,[]),(1,1020,[]),(0,355,[]),(4,355,[]),(12,355,[]),(0,287,[]),(32,287,[]),(124,259,[]),(0,255,[]),(508,3,[]),(1023,0,[[832],[]]),(2047,0,[[832],[]]),(4095,0,[])] rfl rfl (by kernel_rfl) ?_ _
 |(refine Xn hr ?_;rintro rfl;with_reducible refine XM ?_)
 |exact Yw hr
 |fail)
@[reducible,instance] def Qou:=g20.1
@[reducible,instance] def Qov:=g20.2.1
@[reducible,instance] def QmN:=g20.2.2.1
@[reducible,instance] def QlC:=g20.2.2.2.1
@[reducible,instance] def Ql3:=g20.2.2.2.2.1
@[reducible,instance] def QnW:=g20.2.2.2.2.2.1
@[reducible,instance] def Qhs:=g20.2.2.2.2.2.2
end Go.Sx
