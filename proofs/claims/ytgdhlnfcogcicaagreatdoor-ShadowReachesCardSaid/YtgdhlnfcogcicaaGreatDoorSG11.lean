import Derived.Test.YtgdhlnfcogcicaaGreatDoorSF
import Derived.Test.YtgdhlnfcogcicaaGreatDoorSG2
import Derived.Test.YtgdhlnfcogcicaaGreatDoorSG3
import Derived.Test.YtgdhlnfcogcicaaGreatDoorSG5
import Derived.Test.YtgdhlnfcogcicaaGreatDoorSG6
import Derived.Test.YtgdhlnfcogcicaaGreatDoorSG7
import Derived.Test.YtgdhlnfcogcicaaGreatDoorSG8
import Derived.Test.YtgdhlnfcogcicaaGreatDoorSG9
set_option linter.all false
namespace Go.Sx
open Go.Proofs
set_option maxRecDepth 10000
set_option maxHeartbeats 100000000
theorem g18:(∀ N (a0:TConf) (a1:THeader),OK (QcW N a0 a1) 185 [.agg (e23 a0),.agg (e75 a1)] [] (fun r=>.v (.bool r)) fun r=>[])∧(∀ N (a0:TLocals) (a1:Int),OK (QcX N a0 a1) 50 [.agg (e29 a0),.v (.int .i64 a1)] [] (fun r=>.tup [.agg (e29 r.1),.v (.int .i64 r.2)]) fun r=>[])∧(∀ N (a0:TLocals) (a1:Int) (a2:Int),OK (Qcw N a0 a1 a2) 107 [.agg (e29 a0),.v (.int .i64 a1),.v (.int .i64 a2)] [] (fun r=>.tup [.agg (e29 r.1),.v (.int .i64 r.2)]) fun r=>[])∧(∀ N (a0:TWork) (a1:Int),OK (Qd9 N a0 a1) 252 [.agg (e265 a0),.v (.int .u64 a1)] [] (fun r=>.agg (e75 r)) fun r=>[])∧(∀ N (a0:TConf) (a1:List TPage) (a2:Int) (a3:Int) (a4:Int),OK (Qfa N a0 a1 a2 a3 a4) 287 [.agg (e23 a0),.isl 306 4 (a1.map e306),.v (.int .i64 a2),.v (.int .i64 a3),.v (.int .i64 a4)] [] (fun r=>.tup [.isl 306 4 (r.1.map e306),.v (.int .i64 r.2)]) fun r=>[])∧(∀ N (a0:THeap) (a1:Int) (a2:Int),OK (QbW N a0 a1 a2) 258 [.agg (e42 a0),.v (.int .u64 a1),.v (.int .i64 a2)] [] (fun r=>.agg (e42 r)) fun r=>[])∧(∀ N (a0:TWorld) (a1:List Int),OK (Qbu N a0 a1) 117 [.agg (e61 a0),.isl 37 1 (a1.map e37)] [] (fun r=>.v (.bool r)) fun r=>[])∧(∀ N (a0:THandle),OK (QdC N a0) 175 [.agg (e193 a0)] [] (fun r=>.tup [.v (.int .u64 r.1),.v (.int .i64 r.2)]) fun r=>[]):=by
 refine ⟨fun N _ _=>rn Tryz.f185 [.tmp 4] [] 19 (by kernel_rfl) ?_,fun N _ _=>rn Tryz.f50 [.cell 4 29,.tmp 5] [] 11 (by kernel_rfl) ?_,fun N _ _ _=>rn Tryz.f107 [.cell 6 29,.tmp 7] [] 33 (by kernel_rfl) ?_,fun N _ _=>rn Tryz.f252 [.cell 4 75] [] 23 (by kernel_rfl) ?_,fun N _ _ _ _ _=>rn Tryz.f287 [.tmp 10,.tmp 11] [] 37 (by kernel_rfl) ?_,fun N _ _ _=>rn Tryz.f258 [.cell 6 42] [] 25 (by kernel_rfl) ?_,fun N _ _=>rn Tryz.f117 [.tmp 4] [] 9 (by kernel_rfl) ?_,fun N _=>rn Tryz.f175 [.tmp 2,.tmp 3] [] 35 (by kernel_rfl) ?_⟩<;>(rintro _ hw r hr C _ rfl hwf hf;have hgw:=hw;unfold GW at hgw;simp only[Tryz.f185,Tryz.f50,Tryz.f107,Tryz.f252,Tryz.f287,Tryz.f258,Tryz.f117,Tryz.f175,Option.get!];(first|rw[QcW] at hr|rw[QcX] at hr|rw[Qcw] at hr|rw[Qd9] at hr|rw[Qfa] at hr|rw[QbW] at hr|rw[Qbu] at hr|rw[QdC] at hr);repeat' first
 |(refine El.el hr ?_;intro hr)
 |(with_reducible intro h;refine bc_e hr h ?_;intro hr)
 |with_reducible intro _
 |simp only[go_sem,simprocAttr,wI_n,hl210,hl306,hgw]
 |(with_reducible first|apply guard_of_f|apply guard_of_t|apply cond_of|apply doT_of_t|apply doT_of_f)
 |((first|with_reducible refine idx_s hr (by assumption) ?_ ?_|(with_reducible refine idx_e hr ?_ ?_;rotate_left;intro p;rotate_right));(·simp only[go_sem,simprocAttr,hgw]);intro hp hn hd hr;(try have hl210:=hd _ e210);(try simp only[go_sem,simprocAttr] at hl210);(try have hl306:=hd _ e306);(try simp only[go_sem,simprocAttr] at hl306))
 |(refine and_of' ?_ ?_;·first|assumption|omega)
 |with_reducible refine CallX.c ?_ _
 |with_reducible refine OK.c hr hw ?_ (fun y hr=>?_) _
 |with_reducible refine OK.d hr hw ?_ (fun y hr=>?_) _
 |with_reducible refine LoopG.u 6 ?_ _
 |with_reducible refine LoopU.s 1000 ?_ _
 |refine db 185 1 hf [([],[],[],[]),([0],[],[],[]),([0,1],[],[],[]),([0,1,2],[],[],[]),([0,1,2,3],[],[],[]),([0,1,2,3,4],[],[],[]),([0,1,2,3,4,5],[],[],[]),([0,1,2,3,4,5,6],[],[],[]),([0,1,2,3,4,5,6,7],[],[14,15],[]),([0,1,2,3,4,5,6,7],[],[13],[]),([0,1,2,3,4,5,6,7,9],[],[13],[]),([0,1,2,3,4,5,6,7,8,9,10],[],[],[]),([0,1,2,3,4,5,6,7,8,9,10,11],[],[],[]),([0,1,2,3,4,5,6,7,8,9,10,11,12],[],[],[]),([0,1,2,3,4,5,6,7,8,9,10,11,12,13],[],[],[])] rfl rfl (by kernel_rfl) ?_ _
 |refine db 258 2 hf [([],[],[14,15,16,20],[]),([0],[],[14,15,16,20],[]),([],[],[12,13,15,20],[]),([],[],[12,13,14,20],[]),([2,3],[],[12,13,20],[]),([0,1,2,3,4],[],[20],[]),([0,1,2,3,4,5],[],[20],[]),([0,1,2,3,4,5,6],[],[20],[]),([],[],[12,13,14,15,16,17,18,19],[]),([0,1,2,3,4,5,6,7,8],[],[],[]),([0,1,2,3,4,5,6,7,8,9],[],[],[]),([0,1,2,3,4,5,6,7,8,9,10],[],[],[]),([0,1,2,3,4,5,6,7,8,9,10,11],[448],[],[])] rfl rfl (by kernel_rfl) ?_ _
 |(refine some_e hr ?_;rintro rfl;with_reducible refine ret_k ?_)
 |exact no_e hr
 |fail)
@[reducible,instance] def Qmh:=g18.1
@[reducible,instance] def Qmi:=g18.2.1
@[reducible,instance] def QkN:=g18.2.2.1
@[reducible,instance] def QmQ:=g18.2.2.2.1
@[reducible,instance] def Qlm:=g18.2.2.2.2.1
@[reducible,instance] def Qln:=g18.2.2.2.2.2.1
@[reducible,instance] def QjH:=g18.2.2.2.2.2.2.1
@[reducible,instance] def Qkg:=g18.2.2.2.2.2.2.2
theorem g17:(∀ N (a0:TTape),OK (Qbv N a0) 32 [.ept 1000000 0 2 0 0] [.arr true 51 2 [[.isl 3 1 (a0.L.map e3),.v (.int .i64 a0.at_)]] 0] (fun r=>.agg (e47 r.1)) fun r=>[.arr true 51 2 [[.isl 3 1 (r.2.L.map e3),.v (.int .i64 r.2.at_)]] 0])∧(∀ N (a0:TLocals) (a1:Int),OK (QbS N a0 a1) 186 [.agg (e29 a0),.v (.int .u64 a1)] [] (fun r=>.v (.int .i64 r)) fun r=>[])∧(∀ N (a0:TWorld) (a1:Int),OK (Qbz N a0 a1) 46 [.agg (e36 a0),.v (.int .u64 a1)] [] (fun r=>.tup [.agg (e36 r.1),.v (.int .u64 r.2)]) fun r=>[])∧(∀ N (a0:THeap) (a1:Int) (a2:Int),OK (QfU N a0 a1 a2) 298 [.agg (e42 a0),.v (.int .i64 a1),.v (.int .i64 a2)] [] (fun r=>.v (.int .u64 r)) fun r=>[])∧(∀ N (a0:TWork) (a1:Int),OK (QdR N a0 a1) 211 [.agg (e265 a0),.v (.int .u64 a1)] [] (fun r=>.v (.int .u64 r)) fun r=>[])∧(∀ N (a0:TEnv) (a1:Int),OK (QbU N a0 a1) 215 [.agg (e45 a0),.v (.int .u64 a1)] [] (fun r=>.tup [.agg (e45 r.1),.v (.int .u64 r.2.1),.v (.int .i64 r.2.2)]) fun r=>[])∧(∀ N (a0:TTable),OK (Qdb N a0) 114 [.agg (e32 a0)] [] (fun r=>.v (.bool r)) fun r=>[])∧(∀ N (a0:TConf) (a1:THeader),OK (QgB N a0 a1) 224 [.agg (e23 a0),.agg (e75 a1)] [] (fun r=>.v (.bool r)) fun r=>[]):=by
 refine ⟨fun N _=>rn Tryz.f32 [.cell 2 47] [] 36 (by kernel_rfl) ?_,fun N _ _=>rn Tryz.f186 [.tmp 4] [] 20 (by kernel_rfl) ?_,fun N _ _=>rn Tryz.f46 [.cell 4 36,.tmp 5] [] 35 (by kernel_rfl) ?_,fun N _ _ _=>rn Tryz.f298 [.tmp 6] [] 27 (by kernel_rfl) ?_,fun N _ _=>rn Tryz.f211 [.tmp 4] [] 28 (by kernel_rfl) ?_,fun N _ _=>rn Tryz.f215 [.cell 4 45,.tmp 5,.tmp 6] [] 43 (by kernel_rfl) ?_,fun N _=>rn Tryz.f114 [.tmp 2] [] 13 (by kernel_rfl) ?_,fun N _ _=>rn Tryz.f224 [.tmp 4] [] 19 (by kernel_rfl) ?_⟩<;>(rintro _ hw r hr C _ rfl hwf hf;simp only[Tryz.f32,Tryz.f186,Tryz.f46,Tryz.f298,Tryz.f211,Tryz.f215,Tryz.f114,Tryz.f224,Option.get!];(first|rw[Qbv] at hr|rw[QbS] at hr|rw[Qbz] at hr|rw[QfU] at hr|rw[QdR] at hr|rw[QbU] at hr|rw[Qdb] at hr|rw[QgB] at hr);repeat' first
 |(refine El.el hr ?_;intro hr)
 |(with_reducible intro h;refine bc_e hr h ?_;intro hr)
 |with_reducible intro _
 |simp only[go_sem,simprocAttr]
 |(with_reducible first|apply guard_of_f|apply guard_of_t|apply cond_of|apply doT_of_t|apply doT_of_f)
 |(refine and_of' ?_ ?_;·first|assumption|omega)
 |with_reducible refine CallX.c ?_ _
 |with_reducible refine OK.c hr hw ?_ (fun y hr=>?_) _
 |with_reducible refine OK.d hr hw ?_ (fun y hr=>?_) _
 |refine db 224 1 hf [([],[],[],[]),([0],[],[],[]),([0,1],[],[],[]),([0,1,2],[],[],[]),([0,1,2,3],[],[],[]),([0,1,2,3,4],[],[],[]),([0,1,2,3,4,5],[],[],[]),([0,1,2,3,4,5,6],[],[],[]),([0,1,2,3,4,5,6,7],[],[14,15],[]),([0,1,2,3,4,5,6,7],[],[13],[]),([0,1,2,3,4,5,6,7,9],[],[13],[]),([0,1,2,3,4,5,6,7,8,9,10],[],[],[]),([0,1,2,3,4,5,6,7,8,9,10,11],[],[],[]),([0,1,2,3,4,5,6,7,8,9,10,11,12],[],[],[]),([0,1,2,3,4,5,6,7,8,9,10,11,12,13],[],[],[])] rfl rfl (by kernel_rfl) ?_ _
 |(refine some_e hr ?_;rintro rfl;with_reducible refine ret_k ?_)
 |exact no_e hr
 |fail)
@[reducible,instance] def QjQ:=g17.1
@[reducible,instance] def Qlo:=g17.2.1
@[reducible,instance] def Qlp:=g17.2.2.1
@[reducible,instance] def Qmj:=g17.2.2.2.1
@[reducible,instance] def Qlq:=g17.2.2.2.2.1
@[reducible,instance] def Qlr:=g17.2.2.2.2.2.1
@[reducible,instance] def Qls:=g17.2.2.2.2.2.2.1
@[reducible,instance] def Qmk:=g17.2.2.2.2.2.2.2
end Go.Sx
