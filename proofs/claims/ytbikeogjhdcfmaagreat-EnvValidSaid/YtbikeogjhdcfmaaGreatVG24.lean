import Derived.Test.YtbikeogjhdcfmaaGreatVF
import Derived.Test.YtbikeogjhdcfmaaGreatVG2
import Derived.Test.YtbikeogjhdcfmaaGreatVG5
import Derived.Test.YtbikeogjhdcfmaaGreatVG6
import Derived.Test.YtbikeogjhdcfmaaGreatVG7
import Derived.Test.YtbikeogjhdcfmaaGreatVG8
import Derived.Test.YtbikeogjhdcfmaaGreatVG9
import Derived.Test.YtbikeogjhdcfmaaGreatVG10
import Derived.Test.YtbikeogjhdcfmaaGreatVG12
import Derived.Test.YtbikeogjhdcfmaaGreatVG14
import Derived.Test.YtbikeogjhdcfmaaGreatVG22
import Derived.Test.YtbikeogjhdcfmaaGreatVG23
set_option linter.all false
namespace Go.Sx
open Go.Proofs
set_option maxRecDepth 10000
set_option maxHeartbeats 100000000
theorem g37:(∀ N (a0:W8) (a1:Wz),OK (Qb1 N a0 a1) 192 [.agg (e38 a0),.agg (e82 a1)] [] (λ r=>.tup [.agg (e38 r.1),.v (.int .u64 r.2.1),.v (.int .i64 r.2.2)]) λ r=>[])/\(∀ N (a0:W8) (a1:Int),OK (QcJ N a0 a1) 198 [.agg (e38 a0),.v (.int .u64 a1)] [] (λ r=>.tup [.v (.int .u64 r.1),.v (.int .i64 r.2)]) λ r=>[])/\(∀ N (a0:W8) (a1:Int) (a2:Int),OK (QcR N a0 a1 a2) 128 [.agg (e38 a0),.v (.int .i64 a1),.v (.int .u64 a2)] [] (λ r=>.tup [.agg (e38 r.1),.v (.int .u64 r.2.1),.v (.int .i64 r.2.2)]) λ r=>[])/\(∀ N (a0:W8) (a1:Int) (a2:Int),OK (QcS N a0 a1 a2) 129 [.agg (e38 a0),.v (.int .i64 a1),.v (.int .u64 a2)] [] (λ r=>.tup [.agg (e38 r.1),.v (.int .u64 r.2.1),.v (.int .i64 r.2.2)]) λ r=>[])/\(∀ N (a0:W8),OK (QeN N a0) 8 [.agg (e38 a0)] [] (λ r=>.v (.bool r)) λ r=>[]):=by
 refine ⟨λ N _ _=>rn Tryz.f192 [.cell 4 38,.tmp 5,.tmp 6] [] 50 (by kernel_rfl) ?_,λ N _ _=>rn Tryz.f198 [.tmp 4,.tmp 5] [] 22 (by kernel_rfl) ?_,λ N _ _ _=>rn Tryz.f128 [.cell 6 38,.tmp 7,.tmp 8] [] 105 (by kernel_rfl) ?_,λ N _ _ _=>rn Tryz.f129 [.cell 6 38,.tmp 7,.tmp 8] [] 74 (by kernel_rfl) ?_,λ N _=>rn Tryz.f8 [.tmp 2] [] 43 (by kernel_rfl) ?_⟩<;>(rintro _ hw r hr C _ rfl hwf hf;simp only[Tryz.f192,Tryz.f198,Tryz.f128,Tryz.f129,Tryz.f8,Option.get!];(first|rw[Qb1] at hr|rw[QcJ] at hr|rw[QcR] at hr|rw[QcS] at hr|rw[QeN] at hr);repeat' first
 |(refine El.el hr ?_;intro hr)
 |(with_reducible intro h;refine XB hr h ?_;intro hr)
 |with_reducible intro _
 |simp only[go_sem,simprocAttr]
 |(with_reducible first|apply Xk|apply Xj|apply Xp|apply Xr|apply Xs)
 |(refine Xq ?_ ?_;·first|assumption|omega)
 |(with_reducible first|refine CallX.c ?_ _|refine OK.c hr hw ?_ (λ y hr=>?_) _|refine Oe hr hw ?_ (λ y hr=>?_) _)
 |refine db 8 3 hf 33 [(0,508,[[],[2560]]),(1,508,[[],[2560]]),(0,51,[]),(4,51,[]),(0,15,[]),(16,15,[]),(60,3,[]),(124,3,[[2560],[]]),(252,3,[[2560],[]]),(511,0,[]),(1023,0,[])] rfl rfl (by kernel_rfl) ?_ _
 |(refine Xn hr ?_;rintro rfl;with_reducible refine XM ?_)
 |exact Yw hr
 |fail)
@[reducible,instance] def Qm0:=g37.1
@[reducible,instance] def Qm1:=g37.2.1
@[reducible,instance] def Qma:=g37.2.2.1
@[reducible,instance] def Qmb:=g37.2.2.2.1
@[reducible,instance] def QoB:=g37.2.2.2.2
end Go.Sx
