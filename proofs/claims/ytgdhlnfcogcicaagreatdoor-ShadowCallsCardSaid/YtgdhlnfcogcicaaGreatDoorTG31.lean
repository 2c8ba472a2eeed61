import Derived.Test.YtgdhlnfcogcicaaGreatDoorTF
import Derived.Test.YtgdhlnfcogcicaaGreatDoorTG3
import Derived.Test.YtgdhlnfcogcicaaGreatDoorTG9
import Derived.Test.YtgdhlnfcogcicaaGreatDoorTG10
import Derived.Test.YtgdhlnfcogcicaaGreatDoorTG11
import Derived.Test.YtgdhlnfcogcicaaGreatDoorTG13
import Derived.Test.YtgdhlnfcogcicaaGreatDoorTG17
import Derived.Test.YtgdhlnfcogcicaaGreatDoorTG27
import Derived.Test.YtgdhlnfcogcicaaGreatDoorTG29
import Derived.Test.YtgdhlnfcogcicaaGreatDoorTG30
set_option linter.all false
namespace Go.Sx
open Go.Proofs
set_option maxRecDepth 10000
set_option maxHeartbeats 100000000
theorem g42:(∀ N (a0:UX) (a1:WE),OK (QeS N a0 a1) 214 [.agg (e45 a0),.agg (e75 a1)] [] (λ r=>.tup [.agg (e45 r.1),.v (.int .u64 r.2.1),.v (.int .i64 r.2.2)]) λ r=>[])/\(∀ N (a0:UX) (a1:Int),OK (Qcm N a0 a1) 220 [.agg (e45 a0),.v (.int .u64 a1)] [] (λ r=>.tup [.v (.int .u64 r.1),.v (.int .i64 r.2)]) λ r=>[])/\(∀ N (a0:UX) (a1:Int) (a2:Int),OK (Qer N a0 a1 a2) 139 [.agg (e45 a0),.v (.int .i64 a1),.v (.int .u64 a2)] [] (λ r=>.tup [.agg (e45 r.1),.v (.int .u64 r.2.1),.v (.int .i64 r.2.2)]) λ r=>[])/\(∀ N (a0:UX) (a1:Int) (a2:Int),OK (Qes N a0 a1 a2) 140 [.agg (e45 a0),.v (.int .i64 a1),.v (.int .u64 a2)] [] (λ r=>.tup [.agg (e45 r.1),.v (.int .u64 r.2.1),.v (.int .i64 r.2.2)]) λ r=>[]):=by
 refine ⟨λ N _ _=>rn Tryz.f214 [.cell 4 45,.tmp 5,.tmp 6] [] 50 (by kernel_rfl) ?_,λ N _ _=>rn Tryz.f220 [.tmp 4,.tmp 5] [] 22 (by kernel_rfl) ?_,λ N _ _ _=>rn Tryz.f139 [.cell 6 45,.tmp 7,.tmp 8] [] 105 (by kernel_rfl) ?_,λ N _ _ _=>rn Tryz.f140 [.cell 6 45,.tmp 7,.tmp 8] [] 74 (by kernel_rfl) ?_⟩<;>(rintro _ hw r hr C _ rfl hwf hf;simp only[Tryz.f214,Tryz.f220,Tryz.f139,Tryz.f140,Option.get!];(first|rw[QeS] at hr|rw[Qcm] at hr|rw[Qer] at hr|rw[Qes] at hr);repeat' first
 |(refine El.el hr ?_;intro hr)
 |(with_reducible intro h;refine Xz hr h ?_;intro hr)
 |with_reducible intro _
 |simp only[go_sem,simprocAttr]
 |(with_reducible first|apply Xg|apply Xf|apply Xs)
 |(refine Xl ?_ ?_;·first|assumption|omega)
 |(with_reducible first|refine CallX.c ?_ _|refine OK.c hr hw ?_ (λ y hr=>?_) _)
 |(refine Xq hr ?_;rintro rfl;with_reducible refine XG ?_)
 |exact Yo hr
 |fail)
@[reducible,instance] def Qny:=g42.1
@[reducible,instance] def Qnz:=g42.2.1
@[reducible,instance] def QmJ:=g42.2.2.1
@[reducible,instance] def QmK:=g42.2.2.2
end Go.Sx
