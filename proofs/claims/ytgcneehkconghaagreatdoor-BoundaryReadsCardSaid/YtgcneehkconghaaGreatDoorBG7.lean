import Derived.Test.YtgcneehkconghaaGreatDoorBF
import Derived.Test.YtgcneehkconghaaGreatDoorBG1
import Derived.Test.YtgcneehkconghaaGreatDoorBG2
import Derived.Test.YtgcneehkconghaaGreatDoorBG3
import Derived.Test.YtgcneehkconghaaGreatDoorBG4
import Derived.Test.YtgcneehkconghaaGreatDoorBG5
set_option linter.all false
namespace Go.Sx
open Go.Proofs
set_option maxRecDepth 10000
set_option maxHeartbeats 100000000
theorem g12:(∀ N (a0:List Int) (a1:Int),OK (QaX N a0 a1) 272 [.isl 39 1 (a0.map e39),.v (.int .u64 a1)] [] (λ r=>.tup [.v (.int .u64 r.1),.v (.int .i64 r.2)]) λ r=>[])/\(∀ N (a0:List Int) (a1:Int) (a2:Int),OK (Qc0 N a0 a1 a2) 281 [.isl 39 1 (a0.map e39),.v (.int .u64 a1),.v (.int .u64 a2)] [] (λ r=>.tup [.isl 39 1 (r.1.map e39),.v (.int .i64 r.2)]) λ r=>[])/\(∀ N (a0:Wq) (a1:Int),OK (Qdv N a0 a1) 194 [.agg (e32 a0),.v (.int .u64 a1)] [] (λ r=>.tup [.agg (e32 r.1),.v (.int .i64 r.2.1),.v (.int .i64 r.2.2.1),.v (.int .i64 r.2.2.2)]) λ r=>[])/\(∀ N (a0:Wq) (a1:Int) (a2:Int),OK (Qdw N a0 a1 a2) 25 [.agg (e32 a0),.v (.int .i64 a1),.v (.int .i64 a2)] [] (λ r=>.tup [.v (.int .u64 r.1),.v (.int .i64 r.2)]) λ r=>[])/\(∀ N (a0:Wq),OK (Qd4 N a0) 121 [.agg (e32 a0)] [] (λ r=>.tup [.agg (e32 r.1),.v (.int .i64 r.2)]) λ r=>[])/\(∀ N (a0:Io) (a1:U7),OK (Qcf N a0 a1) 16 [.agg (e45 a0),.ept 1000000 0 2 0 0] [.arr true 60 2 [[.isl 3 1 (a1.L.map e3),.v (.int .i64 a1.at_)]] 0] (λ r=>.agg (e65 r.1)) λ r=>[.arr true 60 2 [[.isl 3 1 (r.2.L.map e3),.v (.int .i64 r.2.at_)]] 0])/\(∀ N (a0:Int),OK (QeX N a0) 351 [.v (.int .u64 a0)] [] (λ r=>.tup [.agg (e80 r.1),.v (.bool r.2)]) λ r=>[])/\(∀ N (a0:List UE) (a1:Int),OK (QeY N a0 a1) 218 [.isl 119 2 (a0.map YT),.v (.int .u64 a1)] [] (λ r=>.v (.int .i64 r)) λ r=>[])/\(∀ N (a0:List (List Int)),OK (QfD N a0) 54 [.isl 24 1 (a0.map e24)] [] (λ r=>.isl 39 1 (r.map e39)) λ r=>[])/\(∀ N (a0:List Wx) (a1:Int) (a2:Int),OK (Qhv N a0 a1 a2) 238 [.isl 175 4 (a0.map XB),.v (.int .i64 a1),.v (.int .i64 a2)] [] (λ r=>.tup [.fsl 175 4 (r.1.map XB),.v (.int .i64 r.2)]) λ r=>[]):=by
 refine ⟨λ N _ _=>rn Tryz.f272 [.tmp 4,.tmp 5] [] 21 (by kernel_rfl) ?_,λ N _ _ _=>rn Tryz.f281 [.tmp 6,.tmp 7] [] 15 (by kernel_rfl) ?_,λ N _ _=>rn Tryz.f194 [.cell 4 32,.tmp 5,.tmp 6,.tmp 7] [] 79 (by kernel_rfl) ?_,λ N _ _ _=>rn Tryz.f25 [.tmp 6,.tmp 7] [] 58 (by kernel_rfl) ?_,λ N _=>rn Tryz.f121 [.cell 2 32,.tmp 3] [] 28 (by kernel_rfl) ?_,λ N _ _=>rn Tryz.f16 [.cell 4 65] [] 79 (by kernel_rfl) ?_,λ N _=>rn Tryz.f351 [.cell 2 80,.tmp 3] [] 40 (by kernel_rfl) ?_,λ N _ _=>rn Tryz.f218 [.tmp 4] [] 8 (by kernel_rfl) ?_,λ N _=>rn Tryz.f54 [.tmp 2] [] 5 (by kernel_rfl) ?_,λ N _ _ _=>rn Tryz.f238 [.tmp 6,.tmp 7] [1152] 21 (by kernel_rfl) ?_⟩<;>(rintro _ hw r hr C _ rfl hwf hf;simp only[Tryz.f272,Tryz.f281,Tryz.f194,Tryz.f25,Tryz.f121,Tryz.f16,Tryz.f351,Tryz.f218,Tryz.f54,Tryz.f238,Option.get!];(first|rw[QaX] at hr|rw[Qc0] at hr|rw[Qdv] at hr|rw[Qdw] at hr|rw[Qd4] at hr|rw[Qcf] at hr|rw[QeX] at hr|rw[QeY] at hr|rw[QfD] at hr|rw[Qhv] at hr);repeat' first
 |(refine El.el hr ?_;intro hr)
 |(with_reducible intro h;refine Xw hr h ?_;intro hr)
 |with_reducible intro _
 |simp only[go_sem,simprocAttr,hl3,XQ,Zt,Yd]
 |(with_reducible first|apply Xg|apply Xf|apply Xo|apply Xt|apply Xu)
 |((first|with_reducible refine Yb hr (by assumption) ?_ ?_|(with_reducible refine X7 hr ?_ ?_;rotate_left;intro p;rotate_right));(·simp only[go_sem,simprocAttr]);intro hp hn hd hr;(try have hl3:=hd _ e3);(try simp only[go_sem,simprocAttr] at hl3);(try have XQ:=hd _ e39);(try simp only[go_sem,simprocAttr] at XQ);(try have Zt:=hd _ e98);(try simp only[go_sem,simprocAttr] at Zt);(try have Yd:=hd _ Zg);(try simp only[go_sem,simprocAttr] at Yd))
 |(refine Xp ?_ ?_;·first|assumption|omega)
 |(with_reducible refine Xfd hr ?_ ?_;(·simp only[go_sem]);intro p hp hn hd hr;(try have hl3:=hd _ e3);(try simp only[go_sem,simprocAttr] at hl3);(try have XQ:=hd _ e39);(try simp only[go_sem,simprocAttr] at XQ);(try have Zt:=hd _ e98);(try simp only[go_sem,simprocAttr] at Zt);(try have Yd:=hd _ Zg);(try simp only[go_sem,simprocAttr] at Yd))
 |(with_reducible first|refine CallX.c ?_ _|refine OK.c hr hw ?_ (λ y hr=>?_) _|refine IX hr hw ?_ (λ y hr=>?_) _)
 |refine db 194 6 hf 25 [(0,522238,[]),(0,522009,[]),(2,522009,[]),(0,521991,[]),(8,521991,[]),(30,521985,[]),(62,521985,[]),(126,521985,[]),(0,520447,[]),(256,520447,[]),(768,520447,[]),(2047,520192,[]),(0,53247,[]),(4096,53247,[]),(0,16383,[]),(16384,16383,[]),(61440,4095,[]),(126976,4095,[]),(258048,4095,[]),(524287,0,[])] rfl rfl (by kernel_rfl) ?_ _
 |refine db 194 10 hf 9 [(0,527765581332480,[]),(1,527765581332480,[]),(3,527765581332480,[]),(0,30786325577729,[]),(8,30786325577729,[]),(24,30786325577729,[]),(56,30786325577729,[]),(7,527765581332480,[]),(255,0,[])] rfl rfl (by kernel_rfl) ?_ _
 |refine db 351 4 hf 6 [(0,267386881,[[],[384]]),(1,267386881,[[],[384]]),(3,267386881,[[],[384]]),(7,267386881,[[],[384]]),(0,252641281,[[],[384]]),(16,252641281,[[],[384]]),(48,252641281,[[],[384]]),(112,252641281,[[],[384]]),(0,16711681,[[],[384]]),(256,16711681,[[],[384]]),(768,16711681,[[],[384]]),(1792,16711681,[[],[384]]),(4095,1,[[],[384]]),(0,536805376,[[384],[]]),(16383,0,[[384],[]])] rfl rfl (by kernel_rfl) ?_ _
 |(refine Xn hr ?_;rintro rfl;with_reducible refine XF ?_)
 |exact Yj hr
 |fail)
@[reducible,instance] def QnB:=g12.1
@[reducible,instance] def QmC:=g12.2.1
@[reducible,instance] def Qop:=g12.2.2.1
@[reducible,instance] def Qoq:=g12.2.2.2.1
@[reducible,instance] def Qor:=g12.2.2.2.2.1
@[reducible,instance] def Qk9:=g12.2.2.2.2.2.1
@[reducible,instance] def Qlr:=g12.2.2.2.2.2.2.1
@[reducible,instance] def Qls:=g12.2.2.2.2.2.2.2.1
@[reducible,instance] def QnC:=g12.2.2.2.2.2.2.2.2.1
@[reducible,instance] def QnD:=g12.2.2.2.2.2.2.2.2.2
end Go.Sx
