import Derived.Test.YtbikeogjhdcfmaaGreatVF
import Derived.Test.YtbikeogjhdcfmaaGreatVG2
import Derived.Test.YtbikeogjhdcfmaaGreatVG7
import Derived.Test.YtbikeogjhdcfmaaGreatVG10
import Derived.Test.YtbikeogjhdcfmaaGreatVG15
import Derived.Test.YtbikeogjhdcfmaaGreatVG16
import Derived.Test.YtbikeogjhdcfmaaGreatVG23
import Derived.Test.YtbikeogjhdcfmaaGreatVG24
import Derived.Test.YtbikeogjhdcfmaaGreatVG25
set_option linter.all false
namespace Go.Sx
open Go.Proofs
set_option maxRecDepth 10000
set_option maxHeartbeats 100000000
theorem g39:(∀ N (a0:W8) (a1:Int) (a2:Int) (a3:Int) (a4:Int),OK (Qdq N a0 a1 a2 a3 a4) 125 [.agg (e38 a0),.v (.int .i64 a1),.v (.int .u64 a2),.v (.int .u64 a3),.v (.int .u64 a4)] [] (λ r=>.tup [.agg (e38 r.1),.v (.int .u64 r.2.1),.v (.int .i64 r.2.2)]) λ r=>[])/\(∀ N ,OK (QgG N) 13 [] [] (λ r=>.v (.bool r)) λ r=>[]):=by
 refine ⟨λ N _ _ _ _ _=>rn Tryz.f125 [.cell 10 38,.tmp 11,.tmp 12] [] 86 (by kernel_rfl) ?_,λ N=>rn Tryz.f13 [.tmp 0] [] 32 (by kernel_rfl) ?_⟩<;>(rintro _ hw r hr C _ rfl hwf hf;simp only[Tryz.f125,Tryz.f13,Option.get!];(first|rw[Qdq] at hr|rw[QgG] at hr);repeat' first
 |(refine El.el hr ?_;intro hr)
 |(with_reducible intro h;refine XB hr h ?_;intro hr)
 |with_reducible intro _
 |simp only[go_sem,simprocAttr]
 |(with_reducible first|apply Xk|apply Xj|apply Xp)
 |(refine Xq ?_ ?_;·first|assumption|omega)
 |(with_reducible first|refine CallX.c ?_ _|refine OK.c hr hw ?_ (λ y hr=>?_) _)
 |(refine Xn hr ?_;rintro rfl;with_reducible refine XM ?_)
 |exact Yw hr
 |fail)
@[reducible,instance] def Qm4:=g39.1
@[reducible,instance] def Qm5:=g39.2
end Go.Sx
