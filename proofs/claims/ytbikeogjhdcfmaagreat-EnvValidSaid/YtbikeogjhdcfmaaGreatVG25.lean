import Derived.Test.YtbikeogjhdcfmaaGreatVF
import Derived.Test.YtbikeogjhdcfmaaGreatVG1
import Derived.Test.YtbikeogjhdcfmaaGreatVG2
import Derived.Test.YtbikeogjhdcfmaaGreatVG3
import Derived.Test.YtbikeogjhdcfmaaGreatVG5
import Derived.Test.YtbikeogjhdcfmaaGreatVG7
import Derived.Test.YtbikeogjhdcfmaaGreatVG8
import Derived.Test.YtbikeogjhdcfmaaGreatVG10
import Derived.Test.YtbikeogjhdcfmaaGreatVG14
import Derived.Test.YtbikeogjhdcfmaaGreatVG16
import Derived.Test.YtbikeogjhdcfmaaGreatVG22
import Derived.Test.YtbikeogjhdcfmaaGreatVG23
import Derived.Test.YtbikeogjhdcfmaaGreatVG24
set_option linter.all false
namespace Go.Sx
open Go.Proofs
set_option maxRecDepth 10000
set_option maxHeartbeats 100000000
theorem g38:(∀ N (a0:W8) (a1:Int) (a2:Int) (a3:Int),OK (QcQ N a0 a1 a2 a3) 124 [.agg (e38 a0),.v (.int .i64 a1),.v (.int .u64 a2),.v (.int .u64 a3)] [] (λ r=>.tup [.agg (e38 r.1),.v (.int .u64 r.2.1),.v (.int .i64 r.2.2)]) λ r=>[])/\(∀ N (a0:W8) (a1:Int) (a2:Int) (a3:Bool),OK (QcK N a0 a1 a2 a3) 194 [.agg (e38 a0),.v (.int .u64 a1),.v (.int .u64 a2),.v (.bool a3)] [] (λ r=>.tup [.v (.int .u64 r.1),.v (.int .i64 r.2.1),.v (.int .i64 r.2.2)]) λ r=>[])/\(∀ N (a0:W8) (a1:Int) (a2:Int) (a3:Int),OK (Qdr N a0 a1 a2 a3) 126 [.agg (e38 a0),.v (.int .i64 a1),.v (.int .u64 a2),.v (.int .u64 a3)] [] (λ r=>.tup [.agg (e38 r.1),.v (.int .u64 r.2.1),.v (.int .i64 r.2.2)]) λ r=>[])/\(∀ N (a0:W8) (a1:Int) (a2:Int),OK (Qcw N a0 a1 a2) 127 [.agg (e38 a0),.v (.int .i64 a1),.v (.int .u64 a2)] [] (λ r=>.tup [.agg (e38 r.1),.v (.int .u64 r.2.1),.v (.int .i64 r.2.2)]) λ r=>[])/\(∀ N (a0:W8) (a1:Int) (a2:Int),OK (QdM N a0 a1 a2) 130 [.agg (e38 a0),.v (.int .i64 a1),.v (.int .u64 a2)] [] (λ r=>.tup [.agg (e38 r.1),.v (.int .u64 r.2.1),.v (.int .i64 r.2.2)]) λ r=>[])/\(∀ N (a0:W8) (a1:Wz),OK (QhS N a0 a1) 39 [.agg (e38 a0),.agg (e82 a1)] [] (λ r=>.tup [.agg (e38 r.1),.v (.int .u64 r.2.1),.v (.int .i64 r.2.2)]) λ r=>[]):=by
 refine ⟨λ N _ _ _ _=>rn Tryz.f124 [.cell 8 38,.tmp 9,.tmp 10] [] 84 (by kernel_rfl) ?_,λ N _ _ _ _=>rn Tryz.f194 [.tmp 8,.tmp 9,.tmp 10] [] 45 (by kernel_rfl) ?_,λ N _ _ _ _=>rn Tryz.f126 [.cell 8 38,.tmp 9,.tmp 10] [] 106 (by kernel_rfl) ?_,λ N _ _ _=>rn Tryz.f127 [.cell 6 38,.tmp 7,.tmp 8] [] 68 (by kernel_rfl) ?_,λ N _ _ _=>rn Tryz.f130 [.cell 6 38,.tmp 7,.tmp 8] [] 79 (by kernel_rfl) ?_,λ N _ _=>rn Tryz.f39 [.cell 4 38,.tmp 5,.tmp 6] [] 62 (by kernel_rfl) ?_⟩<;>(rintro _ hw r hr C _ rfl hwf hf;simp only[Tryz.f124,Tryz.f194,Tryz.f126,Tryz.f127,Tryz.f130,Tryz.f39,Option.get!];(first|rw[QcQ] at hr|rw[QcK] at hr|rw[Qdr] at hr|rw[Qcw] at hr|rw[QdM] at hr|rw[QhS] at hr);repeat' first
 |(refine El.el hr ?_;intro hr)
 |(with_reducible intro h;refine XB hr h ?_;intro hr)
 |with_reducible intro _
 |simp only[go_sem,simprocAttr]
 |(with_reducible first|apply Xk|apply Xj|apply Xp|apply Xr|apply Xs)
 |(refine Xq ?_ ?_;·first|assumption|omega)
 |(with_reducible first|refine CallX.c ?_ _|refine OK.c hr hw ?_ (λ y hr=>?_) _)
 |refine db 126 9 hf 46 [(0,14,[]),(0,1,[[],[512]]),(2,1,[[],[512]]),(6,1,[[],[512]]),(1,14,[[512],[]]),(31,0,[]),(63,0,[])] rfl rfl (by kernel_rfl) ?_ _
 |refine db 126 10 hf 50 [(0,14,[]),(0,1,[[],[512]]),(2,1,[[],[512]]),(6,1,[[],[512]]),(1,14,[[512],[]]),(31,0,[]),(63,0,[])] rfl rfl (by kernel_rfl) ?_ _
 |(refine Xn hr ?_;rintro rfl;with_reducible refine XM ?_)
 |exact Yw hr
 |fail)
@[reducible,instance] def Qmc:=g38.1
@[reducible,instance] def Qm2:=g38.2.1
@[reducible,instance] def Qm3:=g38.2.2.1
@[reducible,instance] def QlK:=g38.2.2.2.1
@[reducible,instance] def Qn4:=g38.2.2.2.2.1
@[reducible,instance] def QoC:=g38.2.2.2.2.2
end Go.Sx
