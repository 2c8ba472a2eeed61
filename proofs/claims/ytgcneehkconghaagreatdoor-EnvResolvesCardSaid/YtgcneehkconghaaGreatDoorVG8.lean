import Derived.Test.YtgcneehkconghaaGreatDoorVF
import Derived.Test.YtgcneehkconghaaGreatDoorVG1
import Derived.Test.YtgcneehkconghaaGreatDoorVG3
import Derived.Test.YtgcneehkconghaaGreatDoorVG5
set_option linter.all false
namespace Go.Sx
open Go.Proofs
set_option maxRecDepth 10000
set_option maxHeartbeats 100000000
theorem g12:(∀ N (a0:List Int) (a1:Int),OK (Qa5 N a0 a1) 272 [.isl 39 1 (a0.map e39),.v (.int .u64 a1)] [] (λ r=>.tup [.v (.int .u64 r.1),.v (.int .i64 r.2)]) λ r=>[])/\(∀ N (a0:List Int) (a1:Int) (a2:Int),OK (Qdm N a0 a1 a2) 281 [.isl 39 1 (a0.map e39),.v (.int .u64 a1),.v (.int .u64 a2)] [] (λ r=>.tup [.isl 39 1 (r.1.map e39),.v (.int .i64 r.2)]) λ r=>[])/\(∀ N (a0:Ww) (a1:Int),OK (QdQ N a0 a1) 194 [.agg (e32 a0),.v (.int .u64 a1)] [] (λ r=>.tup [.agg (e32 r.1),.v (.int .i64 r.2.1),.v (.int .i64 r.2.2.1),.v (.int .i64 r.2.2.2)]) λ r=>[])/\(∀ N (a0:Ww) (a1:Int) (a2:Int),OK (QdT N a0 a1 a2) 25 [.agg (e32 a0),.v (.int .i64 a1),.v (.int .i64 a2)] [] (λ r=>.tup [.v (.int .u64 r.1),.v (.int .i64 r.2)]) λ r=>[])/\(∀ N (a0:Ww),OK (Qem N a0) 121 [.agg (e32 a0)] [] (λ r=>.tup [.agg (e32 r.1),.v (.int .i64 r.2)]) λ r=>[])/\(∀ N (a0:Ig) (a1:UU),OK (QcF N a0 a1) 16 [.agg (e45 a0),.ept 1000000 0 2 0 0] [.arr true 60 2 [[.isl 3 1 (a1.L.map e3),.v (.int .i64 a1.at_)]] 0] (λ r=>.agg (e65 r.1)) λ r=>[.arr true 60 2 [[.isl 3 1 (r.2.L.map e3),.v (.int .i64 r.2.at_)]] 0])/\(∀ N (a0:Wy),OK (Qb6 N a0) 152 [.agg (e80 a0)] [] (λ r=>.v (.int .i64 r)) λ r=>[])/\(∀ N (a0:Wy) (a1:Int),OK (QeF N a0 a1) 256 [.agg (e80 a0),.v (.int .i64 a1)] [] (λ r=>.v (.bool r)) λ r=>[])/\(∀ N (a0:List Ub),OK (Qaz N a0) 130 [.isl 117 3 (a0.map Yz),.clo (.func 131) [] []] [] (λ r=>.v (.bool r)) λ r=>[])/\(∀ N (a0:WT),OK (QjC N a0) 27 [.agg (e23 a0)] [] (λ r=>.tup [.agg (e38 r.1),.v (.int .i64 r.2)]) λ r=>[]):=by
 refine ⟨λ N _ _=>rn Tryz.f272 [.tmp 4,.tmp 5] [] 21 (by kernel_rfl) ?_,λ N _ _ _=>rn Tryz.f281 [.tmp 6,.tmp 7] [] 15 (by kernel_rfl) ?_,λ N _ _=>rn Tryz.f194 [.cell 4 32,.tmp 5,.tmp 6,.tmp 7] [] 79 (by kernel_rfl) ?_,λ N _ _ _=>rn Tryz.f25 [.tmp 6,.tmp 7] [] 58 (by kernel_rfl) ?_,λ N _=>rn Tryz.f121 [.cell 2 32,.tmp 3] [] 28 (by kernel_rfl) ?_,λ N _ _=>rn Tryz.f16 [.cell 4 65] [] 79 (by kernel_rfl) ?_,λ N _=>rn Tryz.f152 [.tmp 2] [] 9 (by kernel_rfl) ?_,λ N _ _=>rn Tryz.f256 [.tmp 4] [] 34 (by kernel_rfl) ?_,λ N _=>rn Tryz.f130 [.tmp 4] [] 9 (by kernel_rfl) ?_,λ N _=>rn Tryz.f27 [.cell 2 38,.tmp 3] [] 17 (by kernel_rfl) ?_⟩<;>(rintro _ hw r hr C _ rfl hwf hf;simp only[Tryz.f272,Tryz.f281,Tryz.f194,Tryz.f25,Tryz.f121,Tryz.f16,Tryz.f152,Tryz.f256,Tryz.f130,Tryz.f27,Option.get!];(first|rw[Qa5] at hr|rw[Qdm] at hr|rw[QdQ] at hr|rw[QdT] at hr|rw[Qem] at hr|rw[QcF] at hr|rw[Qb6] at hr|rw[QeF] at hr|rw[Qaz] at hr|rw[QjC] at hr);repeat' first
 |(refine El.el hr ?_;intro hr)
 |(with_reducible intro h;refine XA hr h ?_;intro hr)
 |with_reducible intro _
 |simp only[go_sem,simprocAttr,hl3,XR,Js,Yk]
 |(with_reducible first|apply Xk|apply Xj|apply Xo|apply Xt|apply Xu)
 |((first|with_reducible refine Ym hr (by assumption) ?_ ?_|(with_reducible refine Yi hr ?_ ?_;rotate_left;intro p;rotate_right));(·simp only[go_sem,simprocAttr]);intro hp hn hd hr;(try have hl3:=hd _ e3);(try simp only[go_sem,simprocAttr] at hl3);(try have XR:=hd _ e39);(try simp only[go_sem,simprocAttr] at XR);(try have Js:=hd _ e98);(try simp only[go_sem,simprocAttr] at Js);(try have Yk:=hd _ Zm);(try simp only[go_sem,simprocAttr] at Yk))
 |(refine Xp ?_ ?_;·first|assumption|omega)
 |(with_reducible first|refine CallX.c ?_ _|refine OK.c hr hw ?_ (λ y hr=>?_) _|refine Og hr hw ?_ (λ y hr=>?_) _)
 |refine db 194 6 hf 25 [(0,522238,[]),(0,522009,[]),(2,522009,[]),(0,521991,[]),(8,521991,[]),(30,521985,[]),(62,521985,[]),(126,521985,[]),(0,520447,[]),(256,520447,[]),(768,520447,[]),(2047,520192,[]),(0,53247,[]),(4096,53247,[]),(0,16383,[]),(16384,16383,[]),(61440,4095,[]),(126976,4095,[]),(258048,4095,[]),(524287,0,[])] rfl rfl (by kernel_rfl) ?_ _
 |refine db 194 10 hf 9 [(0,527765581332480,[]),(1,527765581332480,[]),(3,527765581332480,[]),(0,30786325577729,[]),(8,30786325577729,[]),(24,30786325577729,[]),(56,30786325577729,[]),(7,527765581332480,[]),(255,0,[])] rfl rfl (by kernel_rfl) ?_ _
 |(refine Xn hr ?_;rintro rfl;with_reducible refine XM ?_)
 |exact Yw hr
 |fail)
@[reducible,instance] def Qnf:=g12.1
@[reducible,instance] def Qmk:=g12.2.1
@[reducible,instance] def Qn3:=g12.2.2.1
@[reducible,instance] def Qn4:=g12.2.2.2.1
@[reducible,instance] def Qn5:=g12.2.2.2.2.1
@[reducible,instance] def QkV:=g12.2.2.2.2.2.1
@[reducible,instance] def Qml:=g12.2.2.2.2.2.2.1
@[reducible,instance] def QkW:=g12.2.2.2.2.2.2.2.1
@[reducible,instance] def Qg9:=g12.2.2.2.2.2.2.2.2.1
@[reducible,instance] def Qov:=g12.2.2.2.2.2.2.2.2.2
end Go.Sx
