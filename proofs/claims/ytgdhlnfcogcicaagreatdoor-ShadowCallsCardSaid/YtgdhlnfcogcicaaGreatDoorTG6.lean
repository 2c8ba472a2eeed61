import Derived.Test.YtgdhlnfcogcicaaGreatDoorTF
import Derived.Test.YtgdhlnfcogcicaaGreatDoorTG0
import Derived.Test.YtgdhlnfcogcicaaGreatDoorTG1
import Derived.Test.YtgdhlnfcogcicaaGreatDoorTG2
import Derived.Test.YtgdhlnfcogcicaaGreatDoorTG3
import Derived.Test.YtgdhlnfcogcicaaGreatDoorTG4
import Derived.Test.YtgdhlnfcogcicaaGreatDoorTG5
set_option linter.all false
namespace Go.Sx
open Go.Proofs
set_option maxRecDepth 10000
set_option maxHeartbeats 100000000
theorem g5:(∀ N (a0:IL) (a1:Ir),OK (Qba N a0 a1) 36 [.agg (e47 a0),.ept 1000000 0 2 0 0] [.arr true 51 2 [[.isl 3 1 (a1.L.map e3),.v (.int .i64 a1.at_)]] 0] (λ r=>.v (.int .u64 r.1)) λ r=>[.arr true 51 2 [[.isl 3 1 (r.2.L.map e3),.v (.int .i64 r.2.at_)]] 0])/\(∀ N (a0:Ir),OK (QeX N a0) 75 [.ept 1000000 0 2 0 0] [.arr true 51 2 [[.isl 3 1 (a0.L.map e3),.v (.int .i64 a0.at_)]] 0] (λ r=>.agg (e23 r.1)) λ r=>[.arr true 51 2 [[.isl 3 1 (r.2.L.map e3),.v (.int .i64 r.2.at_)]] 0])/\(∀ N (a0:WE) (a1:Int),OK (QbG N a0 a1) 128 [.agg (e75 a0),.v (.int .i64 a1)] [] (λ r=>.v (.bool r)) λ r=>[])/\(∀ N (a0:WE),OK (Qb5 N a0) 234 [.agg (e75 a0)] [] (λ r=>.v (.int .i64 r)) λ r=>[])/\(∀ N (a0:WC) (a1:Int) (a2:Int),OK (Qc1 N a0 a1 a2) 103 [.agg (e32 a0),.v (.int .i64 a1),.v (.int .i64 a2)] [] (λ r=>.tup [.v (.int .u64 r.1),.v (.int .i64 r.2)]) λ r=>[])/\(∀ N (a0:List Int) (a1:Int),OK (QgO N a0 a1) 272 [.isl 37 1 (a0.map e37),.v (.int .u64 a1)] [] (λ r=>.tup [.v (.int .i64 r.1),.v (.int .i64 r.2)]) λ r=>[])/\(∀ N (a0:WE),OK (Qct N a0) 253 [.agg (e75 a0)] [] (λ r=>.tup [.v (.int .u64 r.1),.v (.int .i64 r.2)]) λ r=>[])/\(∀ N (a0:List Int) (a1:Int) (a2:Int),OK (QeE N a0 a1 a2) 284 [.isl 37 1 (a0.map e37),.v (.int .u64 a1),.v (.int .i64 a2)] [] (λ r=>.tup [.isl 37 1 (r.1.map e37),.v (.int .i64 r.2)]) λ r=>[])/\(∀ N (a0:List W4) (a1:Int) (a2:Int),OK (QdV N a0 a1 a2) 283 [.isl 306 4 (a0.map Ym),.v (.int .i64 a1),.v (.int .i64 a2)] [] (λ r=>.tup [.fsl 306 4 (r.1.map Ym),.v (.int .i64 r.2)]) λ r=>[])/\(∀ N (a0:Wm) (a1:Ir),OK (Qfq N a0 a1) 37 [.agg (e36 a0),.ept 1000000 0 2 0 0] [.arr true 51 2 [[.isl 3 1 (a1.L.map e3),.v (.int .i64 a1.at_)]] 0] (λ r=>.agg (e36 r.1)) λ r=>[.arr true 51 2 [[.isl 3 1 (r.2.L.map e3),.v (.int .i64 r.2.at_)]] 0])/\(∀ N (a0:WE),OK (Qc6 N a0) 200 [.agg (e75 a0)] [] (λ r=>.v (.bool r)) λ r=>[])/\(∀ N (a0:Ws),OK (Qd0 N a0) 229 [.agg (e29 a0)] [] (λ r=>.agg [.fsl 210 3 (r.Slots.map X4),.fsl 159 3 (r.Scopes.map X9),.fsl 3 1 (r.Issued.map e3)]) λ r=>[])/\(∀ N (a0:WC),OK (QfK N a0) 232 [.agg (e32 a0)] [] (λ r=>.agg [.fsl 132 3 (r.Entries.map XC)]) λ r=>[])/\(∀ N (a0:WC),OK (Qda N a0) 84 [.agg (e32 a0)] [] (λ r=>.agg [.fsl 132 3 (r.Entries.map XC)]) λ r=>[]):=by
 refine ⟨λ N _ _=>rn Tryz.f36 [.tmp 4] [] 53 (by kernel_rfl) ?_,λ N _=>rn Tryz.f75 [.cell 2 23] [] 14 (by kernel_rfl) ?_,λ N _ _=>rn Tryz.f128 [.tmp 4] [] 35 (by kernel_rfl) ?_,λ N _=>rn Tryz.f234 [.tmp 2] [] 9 (by kernel_rfl) ?_,λ N _ _ _=>rn Tryz.f103 [.tmp 6,.tmp 7] [] 57 (by kernel_rfl) ?_,λ N _ _=>rn Tryz.f272 [.tmp 4,.tmp 5] [] 17 (by kernel_rfl) ?_,λ N _=>rn Tryz.f253 [.tmp 2,.tmp 3] [] 22 (by kernel_rfl) ?_,λ N _ _ _=>rn Tryz.f284 [.tmp 6,.tmp 7] [] 29 (by kernel_rfl) ?_,λ N _ _ _=>rn Tryz.f283 [.tmp 6,.tmp 7] [1216] 22 (by kernel_rfl) ?_,λ N _ _=>rn Tryz.f37 [.cell 4 36] [] 97 (by kernel_rfl) ?_,λ N _=>rn Tryz.f200 [.tmp 2] [] 43 (by kernel_rfl) ?_,λ N _=>rn Tryz.f229 [.cell 2 29] [320,512,704] 13 (by kernel_rfl) ?_,λ N _=>rn Tryz.f232 [.cell 2 32] [320] 7 (by kernel_rfl) ?_,λ N _=>rn Tryz.f84 [.cell 2 32] [320] 7 (by kernel_rfl) ?_⟩<;>(rintro _ hw r hr C _ rfl hwf hf;simp only[Tryz.f36,Tryz.f75,Tryz.f128,Tryz.f234,Tryz.f103,Tryz.f272,Tryz.f253,Tryz.f284,Tryz.f283,Tryz.f37,Tryz.f200,Tryz.f229,Tryz.f232,Tryz.f84,Option.get!];(first|rw[Qba] at hr|rw[QeX] at hr|rw[QbG] at hr|rw[Qb5] at hr|rw[Qc1] at hr|rw[QgO] at hr|rw[Qct] at hr|rw[QeE] at hr|rw[QdV] at hr|rw[Qfq] at hr|rw[Qc6] at hr|rw[Qd0] at hr|rw[QfK] at hr|rw[Qda] at hr);repeat' first
 |(refine El.el hr ?_;intro hr)
 |(with_reducible intro h;refine Xz hr h ?_;intro hr)
 |with_reducible intro _
 |simp only[go_sem,simprocAttr,hl3,XQ,YR,Yw,WO,Uo,Io]
 |(with_reducible first|apply Xg|apply Xf|apply Xs|apply Xx|apply Xy)
 |((first|with_reducible refine Ye hr (by assumption) ?_ ?_|(with_reducible refine Yd hr ?_ ?_;rotate_left;intro p;rotate_right));(·simp only[go_sem,simprocAttr,WO,Uo,Io]);intro hp hn hd hr;(try have hl3:=hd _ e3);(try simp only[go_sem,simprocAttr] at hl3);(try have XQ:=hd _ e37);(try simp only[go_sem,simprocAttr] at XQ);(try have YR:=hd _ KG);(try simp only[go_sem,simprocAttr] at YR);(try have Yw:=hd _ XC);(try simp only[go_sem,simprocAttr] at Yw))
 |(refine Xl ?_ ?_;·first|assumption|omega)
 |(with_reducible first|refine CallX.c ?_ _|refine OK.c hr hw ?_ (λ y hr=>?_) _|refine Oy hr hw ?_ (λ y hr=>?_) _)
 |refine db 36 6 hf 20 [(0,924,[[],[1000000]]),(1,924,[[],[1000000]]),(0,139,[]),(0,135,[]),(12,131,[[1000000],[]]),(31,896,[[],[1000000]]),(63,896,[[],[1000000]]),(0,127,[[],[1000000]]),(156,99,[[1000000],[]]),(412,99,[]),(1023,0,[]),(2047,0,[])] rfl rfl (by kernel_rfl) ?_ _
 |refine db 36 10 hf 35 [(0,28,[[],[1000000]]),(1,28,[[],[1000000]]),(0,11,[]),(0,7,[]),(12,3,[[1000000],[]]),(31,0,[]),(63,0,[]),(127,0,[])] rfl rfl (by kernel_rfl) ?_ _
 |refine db 36 11 hf 42 [(0,508,[[],[1000000]]),(1,508,[[],[1000000]]),(0,243,[[],[1000000]]),(4,243,[[],[1000000]]),(0,111,[]),(0,31,[]),(32,31,[]),(112,15,[[1000000],[]]),(252,3,[]),(511,0,[]),(1023,0,[]),(2047,0,[])] rfl rfl (by kernel_rfl) ?_ _
 |refine db 75 1 hf 3 [(0,998,[[192],[512,1000000]]),(0,97,[[],[192,512]]),(2,97,[[1000000],[192,512]]),(7,992,[[],[512,1000000]]),(15,992,[[],[512,1000000]]),(0,223,[[512],[192,1000000]]),(0,63,[[],[192,512,1000000]]),(70,57,[[1000000],[192,512]]),(230,25,[[],[192]]),(486,25,[[],[192]]),(1023,0,[]),(2047,0,[[128],[]])] rfl rfl (by kernel_rfl) ?_ _
 |refine db 37 12 hf 48 [(0,28,[[],[1000000]]),(1,28,[[],[1000000]]),(0,27,[[],[1000000]]),(0,7,[]),(8,7,[[1000000],[]]),(31,0,[]),(63,0,[]),(127,0,[]),(255,0,[[2560],[]])] rfl rfl (by kernel_rfl) ?_ _
 |refine db 200 4 hf 28 [(0,0,[]),(1,0,[]),(3,0,[]),(7,0,[]),(15,56,[]),(31,56,[]),(63,56,[]),(15,7,[]),(143,7,[]),(399,7,[]),(1023,0,[]),(2047,0,[]),(4095,0,[])] rfl rfl (by kernel_rfl) ?_ _
 |refine db 229 1 hf 3 [(0,216,[]),(1,216,[]),(3,216,[[320],[]]),(0,199,[[],[320]]),(8,199,[[],[320]]),(31,192,[[512],[]]),(0,63,[[],[320,512]]),(64,63,[[],[320,512]]),(255,0,[[704],[]]),(511,0,[]),(1023,0,[[128],[]])] rfl rfl (by kernel_rfl) ?_ _
 |(refine Xq hr ?_;rintro rfl;with_reducible refine XG ?_)
 |exact Yo hr
 |fail)
@[reducible,instance] def Qli:=g5.1
@[reducible,instance] def Qlj:=g5.2.1
@[reducible,instance] def QlN:=g5.2.2.1
@[reducible,instance] def QnR:=g5.2.2.2.1
@[reducible,instance] def Qow:=g5.2.2.2.2.1
@[reducible,instance] def QmW:=g5.2.2.2.2.2.1
@[reducible,instance] def Qmn:=g5.2.2.2.2.2.2.1
@[reducible,instance] def QnS:=g5.2.2.2.2.2.2.2.1
@[reducible,instance] def QmX:=g5.2.2.2.2.2.2.2.2.1
@[reducible,instance] def QnT:=g5.2.2.2.2.2.2.2.2.2.1
@[reducible,instance] def Qmo:=g5.2.2.2.2.2.2.2.2.2.2.1
@[reducible,instance] def QmY:=g5.2.2.2.2.2.2.2.2.2.2.2.1
@[reducible,instance] def QmZ:=g5.2.2.2.2.2.2.2.2.2.2.2.2.1
@[reducible,instance] def Qmp:=g5.2.2.2.2.2.2.2.2.2.2.2.2.2
end Go.Sx
