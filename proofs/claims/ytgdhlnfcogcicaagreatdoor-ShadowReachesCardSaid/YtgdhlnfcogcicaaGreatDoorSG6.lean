import Derived.Test.YtgdhlnfcogcicaaGreatDoorSF
import Derived.Test.YtgdhlnfcogcicaaGreatDoorSG0
import Derived.Test.YtgdhlnfcogcicaaGreatDoorSG1
import Derived.Test.YtgdhlnfcogcicaaGreatDoorSG2
import Derived.Test.YtgdhlnfcogcicaaGreatDoorSG3
set_option linter.all false
namespace Go.Sx
open Go.Proofs
set_option maxRecDepth 10000
set_option maxHeartbeats 100000000
theorem g10:(∀ N (a0:TConf),OK (Qfg N a0) 129 [.agg (e23 a0)] [] (fun r=>.tup [.agg (e42 r.1),.v (.int .i64 r.2)]) fun r=>[])∧(∀ N (a0:THandle),OK (Qa5 N a0) 105 [.agg (e193 a0)] [] (fun r=>.tup [.v (.int .u64 r.1),.v (.int .i64 r.2)]) fun r=>[])∧(∀ N (a0:TConf) (a1:Int),OK (QdN N a0 a1) 250 [.agg (e23 a0),.v (.int .u64 a1)] [] (fun r=>.tup [.v (.int .i64 r.1),.v (.int .i64 r.2.1),.v (.int .i64 r.2.2)]) fun r=>[])∧(∀ N (a0:TWork) (a1:Int),OK (Qdi N a0 a1) 251 [.agg (e265 a0),.v (.int .i64 a1)] [] (fun r=>.v (.bool r)) fun r=>[])∧(∀ N (a0:List Int) (a1:Int),OK (QaQ N a0 a1) 115 [.isl 37 1 (a0.map e37),.v (.int .u64 a1)] [] (fun r=>.v (.bool r)) fun r=>[])∧(∀ N (a0:TLocals),OK (Qgq N a0) 229 [.agg (e29 a0)] [] (fun r=>.agg [.fsl 210 3 (r.Slots.map e210),.isl 159 3 (r.Scopes.map e159),.fsl 3 1 (r.Issued.map e3)]) fun r=>[])∧(∀ N (a0:TConf),OK (Qfv N a0) 19 [.agg (e23 a0)] [] (fun r=>.tup [.agg (e61 r.1),.v (.int .i64 r.2)]) fun r=>[]):=by
 refine ⟨fun N _=>rn Tryz.f129 [.cell 2 42,.tmp 3] [] 19 (by kernel_rfl) ?_,fun N _=>rn Tryz.f105 [.tmp 2,.tmp 3] [] 20 (by kernel_rfl) ?_,fun N _ _=>rn Tryz.f250 [.tmp 4,.tmp 5,.tmp 6] [] 35 (by kernel_rfl) ?_,fun N _ _=>rn Tryz.f251 [.tmp 4] [] 39 (by kernel_rfl) ?_,fun N _ _=>rn Tryz.f115 [.tmp 4] [] 9 (by kernel_rfl) ?_,fun N _=>rn Tryz.f229 [.cell 2 29] [320,704] 13 (by kernel_rfl) ?_,fun N _=>rn Tryz.f19 [.cell 2 61,.tmp 3] [] 10 (by kernel_rfl) ?_⟩<;>(rintro _ hw r hr C _ rfl hwf hf;simp only[Tryz.f129,Tryz.f105,Tryz.f250,Tryz.f251,Tryz.f115,Tryz.f229,Tryz.f19,Option.get!];(first|rw[Qfg] at hr|rw[Qa5] at hr|rw[QdN] at hr|rw[Qdi] at hr|rw[QaQ] at hr|rw[Qgq] at hr|rw[Qfv] at hr);repeat' first
 |(refine El.el hr ?_;intro hr)
 |(with_reducible intro h;refine bc_e hr h ?_;intro hr)
 |with_reducible intro _
 |simp only[go_sem,simprocAttr,hl306]
 |(with_reducible first|apply guard_of_f|apply guard_of_t|apply cond_of|apply doT_of_t|apply doT_of_f)
 |((first|with_reducible refine idx_s hr (by assumption) ?_ ?_|(with_reducible refine idx_e hr ?_ ?_;rotate_left;intro p;rotate_right));(·simp only[go_sem,simprocAttr]);intro hp hn hd hr;(try have hl306:=hd _ e306);(try simp only[go_sem,simprocAttr] at hl306))
 |(refine and_of' ?_ ?_;·first|assumption|omega)
 |with_reducible refine CallX.c ?_ _
 |with_reducible refine OK.c hr hw ?_ (fun y hr=>?_) _
 |with_reducible refine OK.d hr hw ?_ (fun y hr=>?_) _
 |refine db 129 3 hf [([],[],[9,10,11,12,13,14,15,16,17],[896,1088]),([],[],[8,11,12,15,16,17],[1088]),([1],[],[8,11,12,15,16,17],[1088]),([],[],[8,9,10,15,16,17],[1088]),([3],[],[8,9,10,15,16,17],[1088]),([1,2,3,4],[],[8,15,16,17],[1088]),([1,2,3,4,5],[896],[8,15,16,17],[1088]),([],[],[8,9,10,11,12,13,14],[896]),([7],[],[8,9,10,11,12,13,14],[896]),([7,8],[1088],[8,9,10,11,12,13,14],[896]),([0,1,2,3,4,5,6,7,8,9],[],[],[]),([0,1,2,3,4,5,6,7,8,9,10],[128],[],[]),([0,1,2,3,4,5,6,7,8,9,10,11],[],[],[])] rfl rfl (by kernel_rfl) ?_ _
 |refine db 250 6 hf [([],[],[28,29,31,32,33,34],[]),([],[],[27,31,32,33,34],[]),([1],[],[27,31,32,33,34],[]),([0,1,2],[],[31,32,33,34],[]),([],[],[4,27,28,29,30,32,33],[]),([],[],[4,27,28,29,30,31],[]),([5],[],[4,27,28,29,30,31],[]),([4,5,6],[],[4,27,28,29,30],[]),([0,1,2,3],[],[31,32,33,34],[]),([0,1,2,3,4,5,6,7,8],[],[],[]),([0,1,2,3,4,5,6,7,8,9],[],[],[])] rfl rfl (by kernel_rfl) ?_ _
 |refine db 229 1 hf [([],[],[6,7,9,10],[]),([0],[],[6,7,9,10],[]),([0,1],[320],[6,7,9,10],[]),([],[],[3,4,5,9,10],[320]),([3],[],[3,4,5,9,10],[320]),([0,1,2,3,4],[512],[9,10],[]),([],[],[3,4,5,6,7,8],[320,512]),([6],[],[3,4,5,6,7,8],[320,512]),([0,1,2,3,4,5,6,7],[704],[],[]),([0,1,2,3,4,5,6,7,8],[],[],[]),([0,1,2,3,4,5,6,7,8,9],[128],[],[])] rfl rfl (by kernel_rfl) ?_ _
 |(refine some_e hr ?_;rintro rfl;with_reducible refine ret_k ?_)
 |exact no_e hr
 |fail)
@[reducible,instance] def QmI:=g10.1
@[reducible,instance] def QkE:=g10.2.1
@[reducible,instance] def Qm1:=g10.2.2.1
@[reducible,instance] def QjW:=g10.2.2.2.1
@[reducible,instance] def Qia:=g10.2.2.2.2.1
@[reducible,instance] def Qld:=g10.2.2.2.2.2.1
@[reducible,instance] def Ql6:=g10.2.2.2.2.2.2
theorem g8:(∀ N (a0:TConf),OK (Qc0 N a0) 20 [.agg (e23 a0)] [] (fun r=>.tup [.agg (e36 r.1),.v (.int .i64 r.2)]) fun r=>[])∧(∀ N (a0:TConf),OK (Qcl N a0) 263 [.agg (e23 a0)] [] (fun r=>.v (.int .i64 r)) fun r=>[])∧(∀ N (a0:TWorld) (a1:Int),OK (Qfm N a0 a1) 112 [.agg (e36 a0),.v (.int .u64 a1)] [] (fun r=>.v (.int .i64 r)) fun r=>[])∧(∀ N (a0:TConf) (a1:Int) (a2:Int),OK (Qb9 N a0 a1 a2) 291 [.agg (e23 a0),.v (.int .i64 a1),.v (.int .i64 a2)] [] (fun r=>.tup [.v (.int .u64 r.1),.v (.int .i64 r.2)]) fun r=>[])∧(∀ N (a0:TConf),OK (Qez N a0) 285 [.agg (e23 a0)] [] (fun r=>.v (.int .i64 r)) fun r=>[])∧(∀ N (a0:TLocals),OK (Qfc N a0) 83 [.agg (e29 a0)] [] (fun r=>.agg (e29 r)) fun r=>[])∧(∀ N (a0:THandle),OK (Qfs N a0) 227 [.agg (e193 a0)] [] (fun r=>.v (.bool r)) fun r=>[]):=by
 refine ⟨fun N _=>rn Tryz.f20 [.cell 2 36,.tmp 3] [] 10 (by kernel_rfl) ?_,fun N _=>rn Tryz.f263 [.tmp 2] [] 9 (by kernel_rfl) ?_,fun N _ _=>rn Tryz.f112 [.tmp 4] [] 8 (by kernel_rfl) ?_,fun N _ _ _=>rn Tryz.f291 [.tmp 6,.tmp 7] [] 37 (by kernel_rfl) ?_,fun N _=>rn Tryz.f285 [.tmp 2] [] 9 (by kernel_rfl) ?_,fun N _=>rn Tryz.f83 [.cell 2 29] [] 13 (by kernel_rfl) ?_,fun N _=>rn Tryz.f227 [.tmp 2] [] 37 (by kernel_rfl) ?_⟩<;>(rintro _ hw r hr C _ rfl hwf hf;have hgw:=hw;unfold GW at hgw;simp only[Tryz.f20,Tryz.f263,Tryz.f112,Tryz.f291,Tryz.f285,Tryz.f83,Tryz.f227,Option.get!];(first|rw[Qc0] at hr|rw[Qcl] at hr|rw[Qfm] at hr|rw[Qb9] at hr|rw[Qez] at hr|rw[Qfc] at hr|rw[Qfs] at hr);repeat' first
 |(refine El.el hr ?_;intro hr)
 |(with_reducible intro h;refine bc_e hr h ?_;intro hr)
 |with_reducible intro _
 |simp only[go_sem,simprocAttr,hgw]
 |(with_reducible first|apply guard_of_f|apply guard_of_t|apply cond_of|apply doT_of_t|apply doT_of_f)
 |(refine and_of' ?_ ?_;·first|assumption|omega)
 |(with_reducible refine idl_e hr ?_ ?_;(·simp only[go_sem]);intro p hp hn hd hr;)
 |with_reducible refine CallX.c ?_ _
 |with_reducible refine OK.c hr hw ?_ (fun y hr=>?_) _
 |with_reducible refine OK.d hr hw ?_ (fun y hr=>?_) _
 |refine db 83 1 hf [([],[],[6,7,9,10],[]),([0],[],[6,7,9,10],[]),([0,1],[320],[6,7,9,10],[]),([],[],[3,4,5,9,10],[320]),([3],[],[3,4,5,9,10],[320]),([0,1,2,3,4],[512],[9,10],[]),([],[],[3,4,5,6,7,8],[320,512]),([6],[],[3,4,5,6,7,8],[320,512]),([0,1,2,3,4,5,6,7],[704],[],[]),([0,1,2,3,4,5,6,7,8],[],[],[]),([0,1,2,3,4,5,6,7,8,9],[128],[],[])] rfl rfl (by kernel_rfl) ?_ _
 |refine db 227 3 hf [([],[],[24,25,26],[]),([0],[],[24,25,26],[]),([0,1],[],[24,25,26],[]),([],[],[21,22,23],[]),([3],[],[21,22,23],[]),([3,4],[],[21,22,23],[]),([0,1,2,3,4,5],[],[],[]),([0,1,2,3,4,5,6],[],[],[]),([0,1,2,3,4,5,6,7],[],[32,33,34],[]),([0,1,2,3,4,5,6,7,8],[],[32,33,34],[]),([0,1,2,3,4,5,6,7,8,9],[],[32,33,34],[]),([0,1,2,3,4,5,6,7],[],[29,30,31],[]),([0,1,2,3,4,5,6,7,11],[],[29,30,31],[]),([0,1,2,3,4,5,6,7,11,12],[],[29,30,31],[]),([0,1,2,3,4,5,6,7,8,9,10,11,12,13],[],[],[]),([0,1,2,3,4,5,6,7,8,9,10,11,12,13,14],[],[],[]),([0,1,2,3,4,5,6,7,8,9,10,11,12,13,14,15],[],[],[])] rfl rfl (by kernel_rfl) ?_ _
 |(refine some_e hr ?_;rintro rfl;with_reducible refine ret_k ?_)
 |exact no_e hr
 |fail)
@[reducible,instance] def QmJ:=g8.1
@[reducible,instance] def QjK:=g8.2.1
@[reducible,instance] def QkF:=g8.2.2.1
@[reducible,instance] def Qkb:=g8.2.2.2.1
@[reducible,instance] def Qle:=g8.2.2.2.2.1
@[reducible,instance] def Qkc:=g8.2.2.2.2.2.1
@[reducible,instance] def QkG:=g8.2.2.2.2.2.2
end Go.Sx
