import Derived.Test.YtgcneehkconghaaGreatDoorBF
import Derived.Test.YtgcneehkconghaaGreatDoorBG1
import Derived.Test.YtgcneehkconghaaGreatDoorBG2
import Derived.Test.YtgcneehkconghaaGreatDoorBG3
import Derived.Test.YtgcneehkconghaaGreatDoorBG4
import Derived.Test.YtgcneehkconghaaGreatDoorBG5
import Derived.Test.YtgcneehkconghaaGreatDoorBG6
import Derived.Test.YtgcneehkconghaaGreatDoorBG7
import Derived.Test.YtgcneehkconghaaGreatDoorBG8
import Derived.Test.YtgcneehkconghaaGreatDoorBG9
import Derived.Test.YtgcneehkconghaaGreatDoorBG10
set_option linter.all false
namespace Go.Sx
open Go.Proofs
set_option maxRecDepth 10000
set_option maxHeartbeats 100000000
theorem g18:(∀ N (a0:Wo) (a1:Int),OK (Qau N a0 a1) 233 [.agg (e27 a0),.v (.int .u64 a1)] [] (λ r=>.tup [.agg (e80 r.1),.v (.int .i64 r.2)]) λ r=>[])/\(∀ N (a0:Wo) (a1:Int) (a2:Int),OK (QeC N a0 a1 a2) 368 [.agg (e27 a0),.v (.int .i64 a1),.v (.int .i64 a2)] [] (λ r=>.v (.int .u64 r)) λ r=>[])/\(∀ N (a0:Wo) (a1:Int) (a2:Int),OK (Qeg N a0 a1 a2) 333 [.agg (e27 a0),.v (.int .i64 a1),.v (.int .i64 a2)] [] (λ r=>.tup [.agg (e27 r.1),.v (.int .u64 r.2.1),.v (.bool r.2.2)]) λ r=>[])/\(∀ N (a0:Wo) (a1:Int) (a2:Ww),OK (QeL N a0 a1 a2) 334 [.agg (e27 a0),.v (.int .u64 a1),.agg (e80 a2)] [] (λ r=>.tup [.agg (e27 r.1),.v (.int .i64 r.2)]) λ r=>[])/\(∀ N (a0:WI) (a1:Int) (a2:Int) (a3:Int) (a4:Bool),OK (QeU N a0 a1 a2 a3 a4) 207 [.agg (e43 a0),.v (.int .i64 a1),.v (.int .u64 a2),.v (.int .u64 a3),.v (.bool a4)] [] (λ r=>.v (.int .i64 r)) λ r=>[])/\(∀ N (a0:WI) (a1:Int),OK (QaC N a0 a1) 114 [.agg (e43 a0),.v (.int .u64 a1)] [] (λ r=>.tup [.v (.int .u64 r.1),.v (.int .i64 r.2)]) λ r=>[])/\(∀ N (a0:WI) (a1:Int),OK (QdN N a0 a1) 119 [.agg (e43 a0),.v (.int .u64 a1)] [] (λ r=>.agg (e43 r)) λ r=>[])/\(∀ N (a0:Wq) (a1:Int) (a2:Int),OK (QgD N a0 a1 a2) 21 [.agg (e32 a0),.v (.int .i64 a1),.v (.int .i64 a2)] [] (λ r=>.tup [.v (.int .u64 r.1),.v (.int .i64 r.2)]) λ r=>[])/\(∀ N (a0:Wy) (a1:Int) (a2:Int),OK (Qgy N a0 a1 a2) 58 [.agg (e35 a0),.v (.int .i64 a1),.v (.int .i64 a2)] [] (λ r=>.v (.int .i64 r)) λ r=>[])/\(∀ N (a0:Wo) (a1:Int),OK (Qgr N a0 a1) 154 [.agg (e27 a0),.v (.int .i64 a1)] [] (λ r=>.tup [.agg (e27 r.1),.agg (XnP r.2.1),.v (.int .i64 r.2.2)]) λ r=>[])/\(∀ N (a0:Wq) (a1:Int),OK (Qhf N a0 a1) 253 [.agg (e32 a0),.v (.int .u64 a1)] [] (λ r=>.tup [.agg (e32 r.1),.v (.int .i64 r.2.1),.v (.int .i64 r.2.2.1),.v (.int .i64 r.2.2.2)]) λ r=>[]):=by
 refine ⟨λ N _ _=>rn Tryz.f233 [.cell 4 80,.tmp 5] [] 96 (by kernel_rfl) ?_,λ N _ _ _=>rn Tryz.f368 [.tmp 6] [] 11 (by kernel_rfl) ?_,λ N _ _ _=>rn Tryz.f333 [.cell 6 27,.tmp 7,.tmp 8] [] 49 (by kernel_rfl) ?_,λ N _ _ _=>rn Tryz.f334 [.cell 6 27,.tmp 7] [] 43 (by kernel_rfl) ?_,λ N _ _ _ _ _=>rn Tryz.f207 [.tmp 10] [] 41 (by kernel_rfl) ?_,λ N _ _=>rn Tryz.f114 [.tmp 4,.tmp 5] [] 54 (by kernel_rfl) ?_,λ N _ _=>rn Tryz.f119 [.cell 4 43] [] 52 (by kernel_rfl) ?_,λ N _ _ _=>rn Tryz.f21 [.tmp 6,.tmp 7] [] 62 (by kernel_rfl) ?_,λ N _ _ _=>rn Tryz.f58 [.tmp 6] [] 53 (by kernel_rfl) ?_,λ N _ _=>rn Tryz.f154 [.cell 4 27,.cell 5 202,.tmp 6] [] 105 (by kernel_rfl) ?_,λ N _ _=>rn Tryz.f253 [.cell 4 32,.tmp 5,.tmp 6,.tmp 7] [] 71 (by kernel_rfl) ?_⟩<;>(rintro _ hw r hr C _ rfl hwf hf;simp only[Tryz.f233,Tryz.f368,Tryz.f333,Tryz.f334,Tryz.f207,Tryz.f114,Tryz.f119,Tryz.f21,Tryz.f58,Tryz.f154,Tryz.f253,Option.get!];(first|rw[Qau] at hr|rw[QeC] at hr|rw[Qeg] at hr|rw[QeL] at hr|rw[QeU] at hr|rw[QaC] at hr|rw[QdN] at hr|rw[QgD] at hr|rw[Qgy] at hr|rw[Qgr] at hr|rw[Qhf] at hr);repeat' first
 |(refine El.el hr ?_;intro hr)
 |(with_reducible intro h;refine Xw hr h ?_;intro hr)
 |with_reducible intro _
 |simp only[go_sem,simprocAttr,hl3,Zt,Yd,Ye,XE]
 |(with_reducible first|apply Xg|apply Xf|apply Xo|apply Xt|apply Xu)
 |((first|with_reducible refine Yb hr (by assumption) ?_ ?_|(with_reducible refine X7 hr ?_ ?_;rotate_left;intro p;rotate_right));(·simp only[go_sem,simprocAttr]);intro hp hn hd hr;(try have hl3:=hd _ e3);(try simp only[go_sem,simprocAttr] at hl3);(try have Zt:=hd _ e98);(try simp only[go_sem,simprocAttr] at Zt);(try have Yd:=hd _ Zg);(try simp only[go_sem,simprocAttr] at Yd);(try have Ye:=hd _ Ym);(try simp only[go_sem,simprocAttr] at Ye);(try have XE:=hd _ XB);(try simp only[go_sem,simprocAttr] at XE))
 |(refine Xp ?_ ?_;·first|assumption|omega)
 |(refine CallX.inl (f:=237) 400 (fn:=Tryz.f237) (rs:=[.tmp 4]) (nt:=87) 1000 (by kernel_rfl) (λ x=>?_) _;simp only[Tryz.f237,Option.get!])
 |(with_reducible first|refine CallX.c ?_ _|refine OK.c hr hw ?_ (λ y hr=>?_) _|refine IX hr hw ?_ (λ y hr=>?_) _)
 |refine db 333 2 hf 17 [(0,0,[]),(1,0,[]),(3,0,[]),(7,104,[]),(15,104,[]),(31,104,[]),(7,231,[]),(127,224,[]),(7,31,[]),(263,31,[]),(831,24,[]),(2047,0,[]),(4095,0,[])] rfl rfl (by kernel_rfl) ?_ _
 |refine db 333 5 hf 41 [(0,254,[]),(0,29,[[],[384]]),(0,3,[[],[384]]),(4,3,[[],[384]]),(12,3,[[],[384]]),(30,1,[[],[384]]),(62,1,[[],[384]]),(126,1,[[],[384]]),(1,254,[[384],[]]),(511,0,[]),(1023,0,[])] rfl rfl (by kernel_rfl) ?_ _
 |refine db 334 4 hf 10 [(0,8257536,[[],[1856]]),(1,8257536,[[],[1856]]),(0,8224768,[[],[1856]]),(0,3375104,[]),(8,3375104,[[1856],[]]),(0,1015808,[[],[1856]]),(32,1015808,[[],[1856]]),(120,229376,[[1856],[]]),(255,0,[[1856],[]]),(511,0,[]),(1023,33554432,[]),(1023,16777217,[]),(2047,33554432,[]),(8191,0,[])] rfl rfl (by kernel_rfl) ?_ _
 |refine db 154 6 hf 39 [(0,2,[]),(0,1,[[],[256]]),(1,2,[[256],[]]),(7,0,[[320],[]]),(15,0,[])] rfl rfl (by kernel_rfl) ?_ _
 |refine db 154 15 hf 73 [(0,14,[]),(0,1,[[],[256]]),(2,1,[[],[256]]),(6,1,[[],[256]]),(1,14,[[256],[]]),(31,0,[[320],[]]),(63,0,[])] rfl rfl (by kernel_rfl) ?_ _
 |refine db 154 20 hf 100 [(0,30,[]),(0,17,[[],[256]]),(2,17,[[],[256]]),(6,17,[[],[256]]),(0,15,[[],[256,320]]),(1,30,[[256],[]]),(47,16,[[320],[]]),(127,0,[])] rfl rfl (by kernel_rfl) ?_ _
 |refine db 237 1 ⟨⟩ 11 [(0,24,[]),(1,24,[]),(3,24,[]),(0,7,[]),(8,7,[]),(31,0,[]),(63,0,[]),(127,0,[])] rfl rfl (by kernel_rfl) ?_ _
 |refine db 253 6 hf 27 [(0,1012,[]),(1,1012,[]),(0,1011,[]),(7,1008,[]),(0,79,[]),(16,79,[]),(0,63,[]),(112,15,[]),(240,15,[]),(496,15,[]),(1023,0,[]),(2047,0,[])] rfl rfl (by kernel_rfl) ?_ _
 |refine db 253 11 hf 5 [(0,527765581332480,[]),(1,527765581332480,[]),(3,527765581332480,[]),(0,30786325577729,[]),(8,30786325577729,[]),(24,30786325577729,[]),(56,30786325577729,[]),(7,527765581332480,[]),(255,0,[])] rfl rfl (by kernel_rfl) ?_ _
 |(refine Xn hr ?_;rintro rfl;with_reducible refine XF ?_)
 |exact Yj hr
 |fail)
@[reducible,instance] def QoN:=g18.1
@[reducible,instance] def QnT:=g18.2.1
@[reducible,instance] def QmN:=g18.2.2.1
@[reducible,instance] def QnU:=g18.2.2.2.1
@[reducible,instance] def Qlx:=g18.2.2.2.2.1
@[reducible,instance] def Qly:=g18.2.2.2.2.2.1
@[reducible,instance] def Ql3:=g18.2.2.2.2.2.2.1
@[reducible,instance] def Qov:=g18.2.2.2.2.2.2.2.1
@[reducible,instance] def QmO:=g18.2.2.2.2.2.2.2.2.1
@[reducible,instance] def Qlc:=g18.2.2.2.2.2.2.2.2.2.1
@[reducible,instance] def Qow:=g18.2.2.2.2.2.2.2.2.2.2
end Go.Sx
