import Derived.Test.YtgdnaekdnmegbaaGreatDoorF
import Derived.Test.YtgdnaekdnmegbaaGreatDoorG1
import Derived.Test.YtgdnaekdnmegbaaGreatDoorG2
set_option linter.all false
namespace Go.Sx
open Go.Proofs
set_option maxRecDepth 10000
set_option maxHeartbeats 100000000
theorem g8:(∀ N (a0:TTape),OK (made_Tape_Conf N a0) 62 [.ept 1000000 0 2 0 0] [.arr true 49 2 [[.isl 3 1 (a0.L.map e3),.v (.int .i64 a0.at_)]] 0] (fun r=>.agg (e23 r.1)) fun r=>[.arr true 49 2 [[.isl 3 1 (r.2.L.map e3),.v (.int .i64 r.2.at_)]] 0])∧(∀ N (a0:TConf),OK (ref04_SmallWords N a0) 194 [.agg (e23 a0)] [] (fun r=>.v (.int .i64 r)) fun r=>[])∧(∀ N (a0:TConf) (a1:Int),OK (ref04_Of N a0 a1) 205 [.agg (e23 a0),.v (.int .u64 a1)] [] (fun r=>.tup [.v (.int .i64 r.1),.v (.int .i64 r.2.1),.v (.int .i64 r.2.2)]) fun r=>[])∧(∀ N (a0:THeader) (a1:Int),OK (ref03_Pointer N a0 a1) 61 [.agg (e97 a0),.v (.int .i64 a1)] [] (fun r=>.v (.bool r)) fun r=>[])∧(∀ N (a0:List TPage) (a1:Int) (a2:Int),OK (ref04_Small N a0 a1 a2) 240 [.isl 260 4 (a0.map e260),.v (.int .i64 a1),.v (.int .i64 a2)] [] (fun r=>.tup [.fsl 260 4 (r.1.map e260),.v (.int .i64 r.2)]) fun r=>[])∧(∀ N (a0:TTable) (a1:Int) (a2:Int),OK (ref15_Get N a0 a1 a2) 59 [.agg (e32 a0),.v (.int .i64 a1),.v (.int .i64 a2)] [] (fun r=>.tup [.v (.int .u64 r.1),.v (.int .i64 r.2)]) fun r=>[])∧(∀ N (a0:List Int) (a1:Int),OK (slices_Contains_uint64_uint64 N a0 a1) 40 [.isl 37 1 (a0.map e37),.v (.int .u64 a1)] [] (fun r=>.v (.bool r)) fun r=>[])∧(∀ N (a0:TLocals),OK (scope_clone N a0) 189 [.agg (e29 a0)] [] (fun r=>.agg [.fsl 179 3 (r.Slots.map e179),.fsl 134 3 (r.Scopes.map e134),.fsl 3 1 (r.Issued.map e3)]) fun r=>[]):=by
 refine ⟨fun N _=>rn Tryz.f62 [.cell 2 23] [] 14 (by kernel_rfl) ?_,fun N _=>rn Tryz.f194 [.tmp 2] [] 9 (by kernel_rfl) ?_,fun N _ _=>rn Tryz.f205 [.tmp 4,.tmp 5,.tmp 6] [] 35 (by kernel_rfl) ?_,fun N _ _=>rn Tryz.f61 [.tmp 4] [] 35 (by kernel_rfl) ?_,fun N _ _ _=>rn Tryz.f240 [.tmp 6,.tmp 7] [1216] 22 (by kernel_rfl) ?_,fun N _ _ _=>rn Tryz.f59 [.tmp 6,.tmp 7] [] 57 (by kernel_rfl) ?_,fun N _ _=>rn Tryz.f40 [.tmp 4] [] 9 (by kernel_rfl) ?_,fun N _=>rn Tryz.f189 [.cell 2 29] [320,512,704] 13 (by kernel_rfl) ?_⟩<;>(rintro _ hw r hr C rfl hwf hf;simp only[Tryz.f62,Tryz.f194,Tryz.f205,Tryz.f61,Tryz.f240,Tryz.f59,Tryz.f40,Tryz.f189,Option.get!];(first|rw[made_Tape_Conf] at hr|rw[ref04_SmallWords] at hr|rw[ref04_Of] at hr|rw[ref03_Pointer] at hr|rw[ref04_Small] at hr|rw[ref15_Get] at hr|rw[slices_Contains_uint64_uint64] at hr|rw[scope_clone] at hr);repeat' first
 |(refine El.el hr ?_;intro hr)
 |(with_reducible intro h;refine bc_e hr h ?_;intro hr)
 |with_reducible intro _
 |simp only[go_sem,simprocAttr,hl3,hl148]
 |(with_reducible first|apply guard_of_f|apply guard_of_t|apply cond_of|apply doT_of_t|apply doT_of_f)
 |((first|with_reducible refine idx_s hr (by assumption) ?_ ?_|(with_reducible refine idx_e hr ?_ ?_;rotate_left;intro p;rotate_right));(·simp only[go_sem,simprocAttr]);intro hp hn hd hr;(try have hl3:=hd _ e3);(try simp only[go_sem,simprocAttr] at hl3);(try have hl148:=hd _ e148);(try simp only[go_sem,simprocAttr] at hl148))
 |(refine and_of' ?_ ?_;·first|assumption|omega)
 |with_reducible refine OK.c hr hw ?_ (fun y hr=>?_) _
 |with_reducible refine OK.d hr hw ?_ (fun y hr=>?_) _
 |refine db 62 1 hf [([],[192],[4,5,8,9,10,11,12],[512,1000000]),([],[],[3,8,9],[192,512]),([1],[1000000],[3,8,9],[192,512]),([0,1,2],[],[8,9,10,11,12],[512,1000000]),([0,1,2,3],[],[8,9,10,11,12],[512,1000000]),([],[512],[3,4,5,6,7,9,10],[192,1000000]),([],[],[3,4,5,6,7,8],[192,512,1000000]),([1,2,6],[1000000],[3,6,7,8],[192,512]),([1,2,5,6,7],[],[3,6,7],[192]),([1,2,5,6,7,8],[],[3,6,7],[192]),([0,1,2,3,4,5,6,7,8,9],[],[],[]),([0,1,2,3,4,5,6,7,8,9,10],[128],[],[])] rfl rfl (by kernel_rfl) ?_ _
 |refine db 205 6 hf [([],[],[28,29,31,32,33,34],[]),([],[],[27,31,32,33,34],[]),([1],[],[27,31,32,33,34],[]),([0,1,2],[],[31,32,33,34],[]),([],[],[4,27,28,29,30,32,33],[]),([],[],[4,27,28,29,30,31],[]),([5],[],[4,27,28,29,30,31],[]),([4,5,6],[],[4,27,28,29,30],[]),([0,1,2,3],[],[31,32,33,34],[]),([0,1,2,3,4,5,6,7,8],[],[],[]),([0,1,2,3,4,5,6,7,8,9],[],[],[])] rfl rfl (by kernel_rfl) ?_ _
 |refine db 189 1 hf [([],[],[6,7,9,10],[]),([0],[],[6,7,9,10],[]),([0,1],[320],[6,7,9,10],[]),([],[],[3,4,5,9,10],[320]),([3],[],[3,4,5,9,10],[320]),([0,1,2,3,4],[512],[9,10],[]),([],[],[3,4,5,6,7,8],[320,512]),([6],[],[3,4,5,6,7,8],[320,512]),([0,1,2,3,4,5,6,7],[704],[],[]),([0,1,2,3,4,5,6,7,8],[],[],[]),([0,1,2,3,4,5,6,7,8,9],[128],[],[])] rfl rfl (by kernel_rfl) ?_ _
 |(refine some_e hr ?_;rintro rfl;with_reducible refine ret_k ?_)
 |exact no_e hr
 |fail)
@[reducible,instance] def made_Tape_Conf_i:=g8.1
@[reducible,instance] def ref04_SmallWords_i:=g8.2.1
@[reducible,instance] def ref04_Of_i:=g8.2.2.1
@[reducible,instance] def ref03_Pointer_i:=g8.2.2.2.1
@[reducible,instance] def ref04_Small_i:=g8.2.2.2.2.1
@[reducible,instance] def ref15_Get_i:=g8.2.2.2.2.2.1
@[reducible,instance] def slices_Contains_uint64_uint64_i:=g8.2.2.2.2.2.2.1
@[reducible,instance] def scope_clone_i:=g8.2.2.2.2.2.2.2
end Go.Sx
