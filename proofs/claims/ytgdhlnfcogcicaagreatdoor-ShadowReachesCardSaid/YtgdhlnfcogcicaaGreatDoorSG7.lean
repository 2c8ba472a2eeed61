import Derived.Test.YtgdhlnfcogcicaaGreatDoorSF
import Derived.Test.YtgdhlnfcogcicaaGreatDoorSG1
import Derived.Test.YtgdhlnfcogcicaaGreatDoorSG4
import Derived.Test.YtgdhlnfcogcicaaGreatDoorSG5
import Derived.Test.YtgdhlnfcogcicaaGreatDoorSG6
set_option linter.all false
namespace Go.Sx
open Go.Proofs
set_option maxRecDepth 10000
set_option maxHeartbeats 100000000
theorem g14:(∀ N (a0:TConf),OK (QeF N a0) 76 [.agg (e23 a0)] [] (fun r=>.tup [.agg (e45 r.1),.v (.int .i64 r.2)]) fun r=>[])∧(∀ N (a0:TLocals) (a1:Int) (a2:Int),OK (QdF N a0 a1 a2) 102 [.agg (e29 a0),.v (.int .i64 a1),.v (.int .i64 a2)] [] (fun r=>.tup [.v (.int .u64 r.1),.v (.int .i64 r.2)]) fun r=>[])∧(∀ N (a0:TWorld) (a1:Int) (a2:Int),OK (QcF N a0 a1 a2) 48 [.agg (e36 a0),.v (.int .i64 a1),.v (.int .u64 a2)] [] (fun r=>.tup [.agg (e36 r.1),.v (.int .u64 r.2)]) fun r=>[])∧(∀ N (a0:List Int) (a1:Int),OK (Qbs N a0 a1) 248 [.isl 37 1 (a0.map e37),.v (.int .u64 a1)] [] (fun r=>.tup [.v (.int .u64 r.1),.v (.int .i64 r.2)]) fun r=>[])∧(∀ N (a0:List Int) (a1:Int) (a2:Int),OK (Qct N a0 a1 a2) 256 [.isl 37 1 (a0.map e37),.v (.int .u64 a1),.v (.int .u64 a2)] [] (fun r=>.tup [.isl 37 1 (r.1.map e37),.v (.int .i64 r.2)]) fun r=>[])∧(∀ N (a0:THeap) (a1:Int),OK (QdS N a0 a1) 275 [.agg (e42 a0),.v (.int .i64 a1)] [] (fun r=>.tup [.agg (e42 r.1),.v (.int .u64 r.2.1),.v (.bool r.2.2)]) fun r=>[])∧(∀ N (a0:THeader),OK (QeA N a0) 122 [.agg (e75 a0)] [] (fun r=>.v (.int .i64 r)) fun r=>[])∧(∀ N (a0:TWorld) (a1:Int),OK (Qdx N a0 a1) 166 [.agg (e61 a0),.v (.int .u64 a1)] [] (fun r=>.v (.int .i64 r)) fun r=>[]):=by
 refine ⟨fun N _=>rn Tryz.f76 [.cell 2 45,.tmp 3] [] 14 (by kernel_rfl) ?_,fun N _ _ _=>rn Tryz.f102 [.tmp 6,.tmp 7] [] 58 (by kernel_rfl) ?_,fun N _ _ _=>rn Tryz.f48 [.cell 6 36,.tmp 7] [] 46 (by kernel_rfl) ?_,fun N _ _=>rn Tryz.f248 [.tmp 4,.tmp 5] [] 21 (by kernel_rfl) ?_,fun N _ _ _=>rn Tryz.f256 [.tmp 6,.tmp 7] [] 15 (by kernel_rfl) ?_,fun N _ _=>rn Tryz.f275 [.cell 4 42,.tmp 5,.tmp 6] [] 108 (by kernel_rfl) ?_,fun N _=>rn Tryz.f122 [.tmp 2] [] 9 (by kernel_rfl) ?_,fun N _ _=>rn Tryz.f166 [.tmp 4] [] 9 (by kernel_rfl) ?_⟩<;>(rintro _ hw r hr C _ rfl hwf hf;simp only[Tryz.f76,Tryz.f102,Tryz.f48,Tryz.f248,Tryz.f256,Tryz.f275,Tryz.f122,Tryz.f166,Option.get!];(first|rw[QeF] at hr|rw[QdF] at hr|rw[QcF] at hr|rw[Qbs] at hr|rw[Qct] at hr|rw[QdS] at hr|rw[QeA] at hr|rw[Qdx] at hr);repeat' first
 |(refine El.el hr ?_;intro hr)
 |(with_reducible intro h;refine bc_e hr h ?_;intro hr)
 |with_reducible intro _
 |simp only[go_sem,simprocAttr,hl3,hl37,hl210,hl306]
 |(with_reducible first|apply guard_of_f|apply guard_of_t|apply cond_of|apply doT_of_t|apply doT_of_f)
 |((first|with_reducible refine idx_s hr (by assumption) ?_ ?_|(with_reducible refine idx_e hr ?_ ?_;rotate_left;intro p;rotate_right));(·simp only[go_sem,simprocAttr]);intro hp hn hd hr;(try have hl3:=hd _ e3);(try simp only[go_sem,simprocAttr] at hl3);(try have hl37:=hd _ e37);(try simp only[go_sem,simprocAttr] at hl37);(try have hl210:=hd _ e210);(try simp only[go_sem,simprocAttr] at hl210);(try have hl306:=hd _ e306);(try simp only[go_sem,simprocAttr] at hl306))
 |(refine and_of' ?_ ?_;·first|assumption|omega)
 |with_reducible refine CallX.c ?_ _
 |with_reducible refine OK.c hr hw ?_ (fun y hr=>?_) _
 |refine db 275 5 hf [([],[],[],[]),([0],[],[],[]),([0,1],[],[],[]),([0,1,2],[],[29,33,34],[]),([0,1,2,3],[],[29,33,34],[]),([0,1,2],[],[27,28,33,34],[]),([0,1,2,3,4,5],[],[33,34],[]),([0,1,2,3,4,5,6],[],[33,34],[]),([0,1,2,3,4,5,6,7],[],[33,34],[]),([0,1,2],[],[27,28,29,30,31,32],[]),([0,1,2,9],[],[27,28,29,30,31,32],[]),([0,1,2,3,4,5,6,7,8,9,10],[],[],[]),([0,1,2,3,4,5,6,7,8,9,10,11],[],[],[]),([0,1,2,3,4,5,6,7,8,9,10,11,12],[],[],[]),([0,1,2,3,4,5,6,7,8,9,10,11,12,13],[],[40,44,46,47,48],[]),([0,1,2,3,4,5,6,7,8,9,10,11,12,13,14],[],[40,44,46,47,48],[]),([0,1,2,3,4,5,6,7,8,9,10,11,12,13],[],[38,39,44,46,47,48],[]),([0,1,2,3,4,5,6,7,8,9,10,11,12,13,14,15,16],[],[44,46,47,48],[]),([0,1,2,3,4,5,6,7,8,9,10,11,12,13,14,15,16,17],[],[44,46,47,48],[]),([0,1,2,3,4,5,6,7,8,9,10,11,12,13,14,15,16,17,18],[],[44,46,47,48],[]),([0,1,2,3,4,5,6,7,8,9,10,11,12,13],[],[38,39,40,41,42,43,46,47,48],[]),([0,1,2,3,4,5,6,7,8,9,10,11,12,13,14,15,16,17,18,19,20],[],[46,47,48],[]),([0,1,2,3,4,5,6,7,8,9,10,11,12,13],[],[38,39,40,41,42,43,44,45],[]),([0,1,2,3,4,5,6,7,8,9,10,11,12,13,22],[],[38,39,40,41,42,43,44,45],[]),([0,1,2,3,4,5,6,7,8,9,10,11,12,13,22,23],[],[38,39,40,41,42,43,44,45],[]),([0,1,2,3,4,5,6,7,8,9,10,11,12,13,14,15,16,17,18,19,20,21,22,23,24],[],[],[]),([0,1,2,3,4,5,6,7,8,9,10,11,12,13,14,15,16,17,18,19,20,21,22,23,24,25],[],[],[]),([0,1,2,3,4,5,6,7,8,9,10,11,12,13,14,15,16,17,18,19,20,21,22,23,24,25,26],[],[],[]),([0,1,2,3,4,5,6,7,8,9,10,11,12,13,14,15,16,17,18,19,20,21,22,23,24,25,26,27],[],[53],[]),([0,1,2,3,4,5,6,7,8,9,10,11,12,13,14,15,16,17,18,19,20,21,22,23,24,25,26,27],[],[52],[]),([0,1,2,3,4,5,6,7,8,9,10,11,12,13,14,15,16,17,18,19,20,21,22,23,24,25,26,27,28,29],[],[],[]),([0,1,2,3,4,5,6,7,8,9,10,11,12,13,14,15,16,17,18,19,20,21,22,23,24,25,26,27,28,29,30],[],[],[])] rfl rfl (by kernel_rfl) ?_ _
 |refine db 275 11 hf [([],[],[80,81,82,85,86,87,88,89,90],[]),([],[],[79,85,86,87,88,89,90],[]),([1],[],[79,85,86,87,88,89,90],[]),([1,2],[],[79,85,86,87,88,89,90],[]),([0,1,2,3],[],[85,86,87,88,89,90],[]),([0,1,2,3,4],[],[85,86,87,88,89,90],[]),([],[],[79,80,81,82,83,84,87],[]),([6],[],[79,80,81,82,83,84,87],[]),([],[],[79,80,81,82,83,84,85,86],[]),([6,7,8],[],[79,80,81,82,83,84],[]),([6,7,8,9],[],[79,80,81,82,83,84],[]),([6,7,8,9,10],[],[79,80,81,82,83,84],[]),([0,1,2,3,4,5,6,7,8,9,10,11],[],[],[]),([0,1,2,3,4,5,6,7,8,9,10,11,12],[],[],[]),([0,1,2,3,4,5,6,7,8,9,10,11,12,13],[],[],[])] rfl rfl (by kernel_rfl) ?_ _
 |refine db 275 12 hf [([],[],[95,96,97,98,99,100,101,102,103],[]),([0],[],[95,96,97,98,99,100,101,102,103],[]),([],[],[93,94,96,97,98,99,100,101,102,103],[]),([],[],[93,94,95,98,102],[]),([3],[],[93,94,95,98,102],[]),([],[],[93,94,95,96,97,102],[]),([3,4,5],[],[93,94,95,102],[]),([3,4,5,6],[],[93,94,95,102],[]),([3,4,5,6,7],[],[93,94,95,102],[]),([],[],[93,94,95,96,97,98,99,100,101],[]),([3,4,5,6,7,8,9],[],[93,94,95],[]),([0,1,2,3,4,5,6,7,8,9,10],[],[],[]),([0,1,2,3,4,5,6,7,8,9,10,11],[],[],[]),([0,1,2,3,4,5,6,7,8,9,10,11,12],[704,4672],[],[])] rfl rfl (by kernel_rfl) ?_ _
 |(refine some_e hr ?_;rintro rfl;with_reducible refine ret_k ?_)
 |exact no_e hr
 |fail)
@[reducible,instance] def QmK:=g14.1
@[reducible,instance] def QmL:=g14.2.1
@[reducible,instance] def Qkd:=g14.2.2.1
@[reducible,instance] def Ql7:=g14.2.2.2.1
@[reducible,instance] def Qlf:=g14.2.2.2.2.1
@[reducible,instance] def Qlg:=g14.2.2.2.2.2.1
@[reducible,instance] def Qlh:=g14.2.2.2.2.2.2.1
@[reducible,instance] def QjL:=g14.2.2.2.2.2.2.2
end Go.Sx
