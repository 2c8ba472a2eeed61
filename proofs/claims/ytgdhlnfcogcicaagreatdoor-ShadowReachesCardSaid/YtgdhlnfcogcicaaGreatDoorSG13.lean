import Derived.Test.YtgdhlnfcogcicaaGreatDoorSF
import Derived.Test.YtgdhlnfcogcicaaGreatDoorSG1
import Derived.Test.YtgdhlnfcogcicaaGreatDoorSG5
import Derived.Test.YtgdhlnfcogcicaaGreatDoorSG6
import Derived.Test.YtgdhlnfcogcicaaGreatDoorSG7
import Derived.Test.YtgdhlnfcogcicaaGreatDoorSG8
import Derived.Test.YtgdhlnfcogcicaaGreatDoorSG9
import Derived.Test.YtgdhlnfcogcicaaGreatDoorSG10
import Derived.Test.YtgdhlnfcogcicaaGreatDoorSG11
set_option linter.all false
namespace Go.Sx
open Go.Proofs
set_option maxRecDepth 10000
set_option maxHeartbeats 100000000
theorem g21:(∀ N (a0:TWorld) (a1:Int),OK (Qao N a0 a1) 44 [.agg (e36 a0),.v (.int .u64 a1)] [] (fun r=>.tup [.v (.int .u64 r.1),.v (.int .i64 r.2)]) fun r=>[])∧(∀ N (a0:THeap) (a1:Int),OK (Qbt N a0 a1) 257 [.agg (e42 a0),.v (.int .u64 a1)] [] (fun r=>.tup [.agg (e75 r.1),.v (.int .i64 r.2)]) fun r=>[])∧(∀ N (a0:THeap) (a1:Int) (a2:Int),OK (QdT N a0 a1 a2) 276 [.agg (e42 a0),.v (.int .i64 a1),.v (.int .i64 a2)] [] (fun r=>.tup [.agg (e42 r.1),.v (.int .u64 r.2.1),.v (.bool r.2.2)]) fun r=>[])∧(∀ N (a0:Int) (a1:TWorld) (a2:TThing),OK (Qcu N a0 a1 a2) 201 [.v (.int .i64 a0),.ept 1000000 0 10 0 0,.ept 1000001 0 4 0 0] [.arr true 61 10 [[.v (.int .i64 a1.Conf.PageWords),.v (.int .i64 a1.Conf.Pages),.isl 77 4 (a1.Things.map e77),.isl 210 3 (a1.Locals.Slots.map e210),.isl 159 3 (a1.Locals.Scopes.map e159),.isl 3 1 (a1.Locals.Issued.map e3),.isl 132 3 (a1.Globals.Entries.map e132),.isl 132 3 (a1.Weaks.Entries.map e132),.isl 116 3 (a1.Marks.map e116),.isl 37 1 (a1.Roots.map e37)]] 0,.arr true 77 4 [[.v (.int .i64 a2.Header.Kind),.v (.int .i64 a2.Header.Length),.v (.int .u32 a2.Header.Map),.isl 37 1 (a2.Fields.map e37)]] 0] (fun r=>.v (.bool r)) fun r=>[.arr true 61 10 [[.v (.int .i64 a1.Conf.PageWords),.v (.int .i64 a1.Conf.Pages),.isl 77 4 (a1.Things.map e77),.isl 210 3 (a1.Locals.Slots.map e210),.isl 159 3 (a1.Locals.Scopes.map e159),.isl 3 1 (a1.Locals.Issued.map e3),.isl 132 3 (a1.Globals.Entries.map e132),.isl 132 3 (a1.Weaks.Entries.map e132),.isl 116 3 (a1.Marks.map e116),.isl 37 1 (a1.Roots.map e37)]] 0,.arr true 77 4 [[.v (.int .i64 a2.Header.Kind),.v (.int .i64 a2.Header.Length),.v (.int .u32 a2.Header.Map),.isl 37 1 (a2.Fields.map e37)]] 0])∧(∀ N (a0:TLocals) (a1:Int) (a2:Int),OK (QgS N a0 a1 a2) 168 [.agg (e29 a0),.v (.int .i64 a1),.v (.int .i64 a2)] [] (fun r=>.tup [.v (.int .u64 r.1),.v (.int .i64 r.2)]) fun r=>[]):=by
 refine ⟨fun N _ _=>rn Tryz.f44 [.tmp 4,.tmp 5] [] 54 (by kernel_rfl) ?_,fun N _ _=>rn Tryz.f257 [.cell 4 75,.tmp 5] [] 96 (by kernel_rfl) ?_,fun N _ _ _=>rn Tryz.f276 [.cell 6 42,.tmp 7,.tmp 8] [] 49 (by kernel_rfl) ?_,fun N _ _ _=>rn Tryz.f201 [.tmp 4] [] 14 (by kernel_rfl) ?_,fun N _ _ _=>rn Tryz.f168 [.tmp 6,.tmp 7] [] 62 (by kernel_rfl) ?_⟩<;>(rintro _ hw r hr C _ rfl hwf hf;simp only[Tryz.f44,Tryz.f257,Tryz.f276,Tryz.f201,Tryz.f168,Option.get!];(first|rw[Qao] at hr|rw[Qbt] at hr|rw[QdT] at hr|rw[Qcu] at hr|rw[QgS] at hr);repeat' first
 |(refine El.el hr ?_;intro hr)
 |(with_reducible intro h;refine bc_e hr h ?_;intro hr)
 |with_reducible intro _
 |simp only[go_sem,simprocAttr,hl3,hl37,hl210,hl306]
 |(with_reducible first|apply guard_of_f|apply guard_of_t|apply cond_of|apply doT_of_t|apply doT_of_f)
 |((first|with_reducible refine idx_s hr (by assumption) ?_ ?_|(with_reducible refine idx_e hr ?_ ?_;rotate_left;intro p;rotate_right));(·simp only[go_sem,simprocAttr]);intro hp hn hd hr;(try have hl3:=hd _ e3);(try simp only[go_sem,simprocAttr] at hl3);(try have hl37:=hd _ e37);(try simp only[go_sem,simprocAttr] at hl37);(try have hl210:=hd _ e210);(try simp only[go_sem,simprocAttr] at hl210);(try have hl306:=hd _ e306);(try simp only[go_sem,simprocAttr] at hl306))
 |(refine and_of' ?_ ?_;·first|assumption|omega)
 |with_reducible refine CallX.c ?_ _
 |with_reducible refine OK.c hr hw ?_ (fun y hr=>?_) _
 |with_reducible refine OK.d hr hw ?_ (fun y hr=>?_) _
 |refine db 276 2 hf [([],[],[],[]),([0],[],[],[]),([0,1],[],[],[]),([0,1,2],[],[20,22,23],[]),([0,1,2,3],[],[20,22,23],[]),([0,1,2,3,4],[],[20,22,23],[]),([0,1,2],[],[17,18,19,22,23,24],[]),([0,1,2,3,4,5,6],[],[22,23,24],[]),([0,1,2],[],[17,18,19,20,21],[]),([0,1,2,8],[],[17,18,19,20,21],[]),([0,1,2,3,4,5,8,9],[],[20,21],[]),([0,1,2,3,4,5,6,7,8,9,10],[],[],[]),([0,1,2,3,4,5,6,7,8,9,10,11],[],[],[])] rfl rfl (by kernel_rfl) ?_ _
 |refine db 276 5 hf [([],[],[42,43,44,45,46,47,48],[]),([],[],[41,43,44,45],[384]),([],[],[41,42],[384]),([2],[],[41,42],[384]),([2,3],[],[41,42],[384]),([1,2,3,4],[],[41],[384]),([1,2,3,4,5],[],[41],[384]),([1,2,3,4,5,6],[],[41],[384]),([0],[384],[42,43,44,45,46,47,48],[]),([0,1,2,3,4,5,6,7,8],[],[],[]),([0,1,2,3,4,5,6,7,8,9],[],[],[])] rfl rfl (by kernel_rfl) ?_ _
 |refine db 201 1 hf [([],[],[6,7,8,9,10,11],[704]),([],[],[5,8],[]),([1],[],[5,8],[]),([],[],[5,6,7],[]),([1,2,3],[],[5],[]),([1,2,3,4],[],[5],[]),([1,2,3,4,5],[704],[5],[]),([0,1,2,3,4,5,6],[],[],[]),([0,1,2,3,4,5,6,7],[],[],[]),([0,1,2,3,4,5,6,7,8],[],[],[])] rfl rfl (by kernel_rfl) ?_ _
 |(refine some_e hr ?_;rintro rfl;with_reducible refine ret_k ?_)
 |exact no_e hr
 |fail)
@[reducible,instance] def Qkj:=g21.1
@[reducible,instance] def Qm2:=g21.2.1
@[reducible,instance] def Qlv:=g21.2.2.1
@[reducible,instance] def Qju:=g21.2.2.2.1
@[reducible,instance] def QmS:=g21.2.2.2.2
end Go.Sx
