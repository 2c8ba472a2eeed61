import Derived.Test.YtgdhlnfcogcicaaGreatDoorRF
import Derived.Test.YtgdhlnfcogcicaaGreatDoorRG0
import Derived.Test.YtgdhlnfcogcicaaGreatDoorRG1
set_option linter.all false
namespace Go.Sx
open Go.Proofs
set_option maxRecDepth 10000
set_option maxHeartbeats 100000000
theorem g7:(∀ N (a0:TPair) (a1:TTape),OK (Qa5 N a0 a1) 36 [.agg (e47 a0),.ept 1000000 0 2 0 0] [.arr true 51 2 [[.isl 3 1 (a1.L.map e3),.v (.int .i64 a1.at_)]] 0] (fun r=>.v (.int .u64 r.1)) fun r=>[.arr true 51 2 [[.isl 3 1 (r.2.L.map e3),.v (.int .i64 r.2.at_)]] 0])∧(∀ N (a0:TConf),OK (Qf6 N a0) 129 [.agg (e23 a0)] [] (fun r=>.tup [.agg (e42 r.1),.v (.int .i64 r.2)]) fun r=>[])∧(∀ N (a0:THeader),OK (QbZ N a0) 234 [.agg (e75 a0)] [] (fun r=>.v (.int .i64 r)) fun r=>[])∧(∀ N (a0:TWorld) (a1:Int),OK (Qge N a0 a1) 112 [.agg (e36 a0),.v (.int .u64 a1)] [] (fun r=>.v (.int .i64 r)) fun r=>[])∧(∀ N (a0:THeader),OK (Qck N a0) 253 [.agg (e75 a0)] [] (fun r=>.tup [.v (.int .u64 r.1),.v (.int .i64 r.2)]) fun r=>[])∧(∀ N (a0:TWork) (a1:Int),OK (QdL N a0 a1) 251 [.agg (e265 a0),.v (.int .i64 a1)] [] (fun r=>.v (.bool r)) fun r=>[])∧(∀ N (a0:List Int) (a1:Int),OK (QaY N a0 a1) 115 [.isl 37 1 (a0.map e37),.v (.int .u64 a1)] [] (fun r=>.v (.bool r)) fun r=>[])∧(∀ N (a0:TLocals),OK (QdE N a0) 229 [.agg (e29 a0)] [] (fun r=>.agg [.fsl 210 3 (r.Slots.map e210),.fsl 159 3 (r.Scopes.map e159),.fsl 3 1 (r.Issued.map e3)]) fun r=>[])∧(∀ N (a0:TLocals),OK (Qed N a0) 83 [.agg (e29 a0)] [] (fun r=>.agg (e29 r)) fun r=>[]):=by
 refine ⟨fun N _ _=>rn Tryz.f36 [.tmp 4] [] 53 (by kernel_rfl) ?_,fun N _=>rn Tryz.f129 [.cell 2 42,.tmp 3] [] 19 (by kernel_rfl) ?_,fun N _=>rn Tryz.f234 [.tmp 2] [] 9 (by kernel_rfl) ?_,fun N _ _=>rn Tryz.f112 [.tmp 4] [] 8 (by kernel_rfl) ?_,fun N _=>rn Tryz.f253 [.tmp 2,.tmp 3] [] 22 (by kernel_rfl) ?_,fun N _ _=>rn Tryz.f251 [.tmp 4] [] 39 (by kernel_rfl) ?_,fun N _ _=>rn Tryz.f115 [.tmp 4] [] 9 (by kernel_rfl) ?_,fun N _=>rn Tryz.f229 [.cell 2 29] [320,512,704] 13 (by kernel_rfl) ?_,fun N _=>rn Tryz.f83 [.cell 2 29] [] 13 (by kernel_rfl) ?_⟩<;>(rintro _ hw r hr C _ rfl hwf hf;simp only[Tryz.f36,Tryz.f129,Tryz.f234,Tryz.f112,Tryz.f253,Tryz.f251,Tryz.f115,Tryz.f229,Tryz.f83,Option.get!];(first|rw[Qa5] at hr|rw[Qf6] at hr|rw[QbZ] at hr|rw[Qge] at hr|rw[Qck] at hr|rw[QdL] at hr|rw[QaY] at hr|rw[QdE] at hr|rw[Qed] at hr);repeat' first
 |(refine El.el hr ?_;intro hr)
 |(with_reducible intro h;refine bc_e hr h ?_;intro hr)
 |with_reducible intro _
 |simp only[go_sem,simprocAttr,hl37,hl306]
 |(with_reducible first|apply guard_of_f|apply guard_of_t|apply cond_of|apply doT_of_t|apply doT_of_f)
 |((first|with_reducible refine idx_s hr (by assumption) ?_ ?_|(with_reducible refine idx_e hr ?_ ?_;rotate_left;intro p;rotate_right));(·simp only[go_sem,simprocAttr]);intro hp hn hd hr;(try have hl37:=hd _ e37);(try simp only[go_sem,simprocAttr] at hl37);(try have hl306:=hd _ e306);(try simp only[go_sem,simprocAttr] at hl306))
 |(refine and_of' ?_ ?_;·first|assumption|omega)
 |with_reducible refine CallX.c ?_ _
 |with_reducible refine OK.c hr hw ?_ (fun y hr=>?_) _
 |with_reducible refine OK.d hr hw ?_ (fun y hr=>?_) _
 |refine db 36 6 hf [([],[],[22,23,24,27,28,29],[1000000]),([0],[],[22,23,24,27,28,29],[1000000]),([],[],[20,21,23,27],[]),([],[],[20,21,22,27],[]),([2,3],[1000000],[20,21,27],[]),([0,1,2,3,4],[],[27,28,29],[1000000]),([0,1,2,3,4,5],[],[27,28,29],[1000000]),([],[],[20,21,22,23,24,25,26],[1000000]),([2,3,4,7],[1000000],[20,21,25,26],[]),([2,3,4,7,8],[],[20,21,25,26],[]),([0,1,2,3,4,5,6,7,8,9],[],[],[]),([0,1,2,3,4,5,6,7,8,9,10],[],[],[])] rfl rfl (by kernel_rfl) ?_ _
 |refine db 36 10 hf [([],[],[37,38,39],[1000000]),([0],[],[37,38,39],[1000000]),([],[],[35,36,38],[]),([],[],[35,36,37],[]),([2,3],[1000000],[35,36],[]),([0,1,2,3,4],[],[],[]),([0,1,2,3,4,5],[],[],[]),([0,1,2,3,4,5,6],[],[],[])] rfl rfl (by kernel_rfl) ?_ _
 |refine db 36 11 hf [([],[],[44,45,46,47,48,49,50],[1000000]),([0],[],[44,45,46,47,48,49,50],[1000000]),([],[],[42,43,46,47,48,49],[1000000]),([2],[],[42,43,46,47,48,49],[1000000]),([],[],[42,43,44,45,47,48],[]),([],[],[42,43,44,45,46],[]),([5],[],[42,43,44,45,46],[]),([4,5,6],[1000000],[42,43,44,45],[]),([2,3,4,5,6,7],[],[42,43],[]),([0,1,2,3,4,5,6,7,8],[],[],[]),([0,1,2,3,4,5,6,7,8,9],[],[],[]),([0,1,2,3,4,5,6,7,8,9,10],[],[],[])] rfl rfl (by kernel_rfl) ?_ _
 |refine db 129 3 hf [([],[],[9,10,11,12,13,14,15,16,17],[896,1088]),([],[],[8,11,12,15,16,17],[1088]),([1],[],[8,11,12,15,16,17],[1088]),([],[],[8,9,10,15,16,17],[1088]),([3],[],[8,9,10,15,16,17],[1088]),([1,2,3,4],[],[8,15,16,17],[1088]),([1,2,3,4,5],[896],[8,15,16,17],[1088]),([],[],[8,9,10,11,12,13,14],[896]),([7],[],[8,9,10,11,12,13,14],[896]),([7,8],[1088],[8,9,10,11,12,13,14],[896]),([0,1,2,3,4,5,6,7,8,9],[],[],[]),([0,1,2,3,4,5,6,7,8,9,10],[128],[],[]),([0,1,2,3,4,5,6,7,8,9,10,11],[],[],[])] rfl rfl (by kernel_rfl) ?_ _
 |refine db 229 1 hf [([],[],[6,7,9,10],[]),([0],[],[6,7,9,10],[]),([0,1],[320],[6,7,9,10],[]),([],[],[3,4,5,9,10],[320]),([3],[],[3,4,5,9,10],[320]),([0,1,2,3,4],[512],[9,10],[]),([],[],[3,4,5,6,7,8],[320,512]),([6],[],[3,4,5,6,7,8],[320,512]),([0,1,2,3,4,5,6,7],[704],[],[]),([0,1,2,3,4,5,6,7,8],[],[],[]),([0,1,2,3,4,5,6,7,8,9],[128],[],[])] rfl rfl (by kernel_rfl) ?_ _
 |refine db 83 1 hf [([],[],[6,7,9,10],[]),([0],[],[6,7,9,10],[]),([0,1],[320],[6,7,9,10],[]),([],[],[3,4,5,9,10],[320]),([3],[],[3,4,5,9,10],[320]),([0,1,2,3,4],[512],[9,10],[]),([],[],[3,4,5,6,7,8],[320,512]),([6],[],[3,4,5,6,7,8],[320,512]),([0,1,2,3,4,5,6,7],[704],[],[]),([0,1,2,3,4,5,6,7,8],[],[],[]),([0,1,2,3,4,5,6,7,8,9],[128],[],[])] rfl rfl (by kernel_rfl) ?_ _
 |(refine some_e hr ?_;rintro rfl;with_reducible refine ret_k ?_)
 |exact no_e hr
 |fail)
@[reducible,instance] def QkI:=g7.1
@[reducible,instance] def QnP:=g7.2.1
@[reducible,instance] def Qnc:=g7.2.2.1
@[reducible,instance] def QlL:=g7.2.2.2.1
@[reducible,instance] def QlM:=g7.2.2.2.2.1
@[reducible,instance] def QkJ:=g7.2.2.2.2.2.1
@[reducible,instance] def QiN:=g7.2.2.2.2.2.2.1
@[reducible,instance] def Qmn:=g7.2.2.2.2.2.2.2.1
@[reducible,instance] def Qlb:=g7.2.2.2.2.2.2.2.2
theorem g9:(∀ N (a0:TTape),OK (Qez N a0) 75 [.ept 1000000 0 2 0 0] [.arr true 51 2 [[.isl 3 1 (a0.L.map e3),.v (.int .i64 a0.at_)]] 0] (fun r=>.agg (e23 r.1)) fun r=>[.arr true 51 2 [[.isl 3 1 (r.2.L.map e3),.v (.int .i64 r.2.at_)]] 0])∧(∀ N (a0:TConf),OK (QcE N a0) 263 [.agg (e23 a0)] [] (fun r=>.v (.int .i64 r)) fun r=>[])∧(∀ N (a0:TTable) (a1:Int) (a2:Int),OK (QcQ N a0 a1 a2) 103 [.agg (e32 a0),.v (.int .i64 a1),.v (.int .i64 a2)] [] (fun r=>.tup [.v (.int .u64 r.1),.v (.int .i64 r.2)]) fun r=>[])∧(∀ N (a0:TConf) (a1:Int),OK (Qen N a0 a1) 250 [.agg (e23 a0),.v (.int .u64 a1)] [] (fun r=>.tup [.v (.int .i64 r.1),.v (.int .i64 r.2.1),.v (.int .i64 r.2.2)]) fun r=>[])∧(∀ N (a0:List Int) (a1:Int) (a2:Int),OK (Qeh N a0 a1 a2) 284 [.isl 37 1 (a0.map e37),.v (.int .u64 a1),.v (.int .i64 a2)] [] (fun r=>.tup [.isl 37 1 (r.1.map e37),.v (.int .i64 r.2)]) fun r=>[])∧(∀ N (a0:TConf),OK (Qfn N a0) 285 [.agg (e23 a0)] [] (fun r=>.v (.int .i64 r)) fun r=>[])∧(∀ N (a0:THandle),OK (QeF N a0) 227 [.agg (e193 a0)] [] (fun r=>.v (.bool r)) fun r=>[])∧(∀ N (a0:TTable),OK (Qfq N a0) 232 [.agg (e32 a0)] [] (fun r=>.agg [.fsl 132 3 (r.Entries.map e132)]) fun r=>[])∧(∀ N (a0:Int) (a1:Int),OK (Qg7 N a0 a1) 262 [.v (.int .u64 a0),.v (.int .i64 a1)] [] (fun r=>.v (.bool r)) fun r=>[]):=by
 refine ⟨fun N _=>rn Tryz.f75 [.cell 2 23] [] 14 (by kernel_rfl) ?_,fun N _=>rn Tryz.f263 [.tmp 2] [] 9 (by kernel_rfl) ?_,fun N _ _ _=>rn Tryz.f103 [.tmp 6,.tmp 7] [] 57 (by kernel_rfl) ?_,fun N _ _=>rn Tryz.f250 [.tmp 4,.tmp 5,.tmp 6] [] 35 (by kernel_rfl) ?_,fun N _ _ _=>rn Tryz.f284 [.tmp 6,.tmp 7] [] 29 (by kernel_rfl) ?_,fun N _=>rn Tryz.f285 [.tmp 2] [] 9 (by kernel_rfl) ?_,fun N _=>rn Tryz.f227 [.tmp 2] [] 37 (by kernel_rfl) ?_,fun N _=>rn Tryz.f232 [.cell 2 32] [320] 7 (by kernel_rfl) ?_,fun N _ _=>rn Tryz.f262 [.tmp 4] [] 10 (by kernel_rfl) ?_⟩<;>(rintro _ hw r hr C _ rfl hwf hf;have hgw:=hw;unfold GW at hgw;simp only[Tryz.f75,Tryz.f263,Tryz.f103,Tryz.f250,Tryz.f284,Tryz.f285,Tryz.f227,Tryz.f232,Tryz.f262,Option.get!];(first|rw[Qez] at hr|rw[QcE] at hr|rw[QcQ] at hr|rw[Qen] at hr|rw[Qeh] at hr|rw[Qfn] at hr|rw[QeF] at hr|rw[Qfq] at hr|rw[Qg7] at hr);repeat' first
 |(refine El.el hr ?_;intro hr)
 |(with_reducible intro h;refine bc_e hr h ?_;intro hr)
 |with_reducible intro _
 |simp only[go_sem,simprocAttr,hl3,hl132,hgw,List.length_take,List.length_drop,Nat.min_self]
 |(with_reducible first|apply guard_of_f|apply guard_of_t|apply cond_of|apply doT_of_t|apply doT_of_f)
 |((first|with_reducible refine idx_s hr (by assumption) ?_ ?_|(with_reducible refine idx_e hr ?_ ?_;rotate_left;intro p;rotate_right));(·simp only[go_sem,simprocAttr,hgw,List.length_take,List.length_drop,Nat.min_self]);intro hp hn hd hr;(try have hl3:=hd _ e3);(try simp only[go_sem,simprocAttr] at hl3);(try have hl132:=hd _ e132);(try simp only[go_sem,simprocAttr] at hl132))
 |(refine and_of' ?_ ?_;·first|assumption|omega)
 |(with_reducible refine idl_e hr ?_ ?_;(·simp only[go_sem]);intro p hp hn hd hr;(try have hl3:=hd _ e3);(try simp only[go_sem,simprocAttr] at hl3);(try have hl132:=hd _ e132);(try simp only[go_sem,simprocAttr] at hl132))
 |with_reducible refine CallX.c ?_ _
 |with_reducible refine OK.c hr hw ?_ (fun y hr=>?_) _
 |with_reducible refine OK.d hr hw ?_ (fun y hr=>?_) _
 |refine db 75 1 hf [([],[192],[4,5,8,9,10,11,12],[512,1000000]),([],[],[3,8,9],[192,512]),([1],[1000000],[3,8,9],[192,512]),([0,1,2],[],[8,9,10,11,12],[512,1000000]),([0,1,2,3],[],[8,9,10,11,12],[512,1000000]),([],[512],[3,4,5,6,7,9,10],[192,1000000]),([],[],[3,4,5,6,7,8],[192,512,1000000]),([1,2,6],[1000000],[3,6,7,8],[192,512]),([1,2,5,6,7],[],[3,6,7],[192]),([1,2,5,6,7,8],[],[3,6,7],[192]),([0,1,2,3,4,5,6,7,8,9],[],[],[]),([0,1,2,3,4,5,6,7,8,9,10],[128],[],[])] rfl rfl (by kernel_rfl) ?_ _
 |refine db 250 6 hf [([],[],[28,29,31,32,33,34],[]),([],[],[27,31,32,33,34],[]),([1],[],[27,31,32,33,34],[]),([0,1,2],[],[31,32,33,34],[]),([],[],[4,27,28,29,30,32,33],[]),([],[],[4,27,28,29,30,31],[]),([5],[],[4,27,28,29,30,31],[]),([4,5,6],[],[4,27,28,29,30],[]),([0,1,2,3],[],[31,32,33,34],[]),([0,1,2,3,4,5,6,7,8],[],[],[]),([0,1,2,3,4,5,6,7,8,9],[],[],[])] rfl rfl (by kernel_rfl) ?_ _
 |refine db 227 3 hf [([],[],[24,25,26],[]),([0],[],[24,25,26],[]),([0,1],[],[24,25,26],[]),([],[],[21,22,23],[]),([3],[],[21,22,23],[]),([3,4],[],[21,22,23],[]),([0,1,2,3,4,5],[],[],[]),([0,1,2,3,4,5,6],[],[],[]),([0,1,2,3,4,5,6,7],[],[32,33,34],[]),([0,1,2,3,4,5,6,7,8],[],[32,33,34],[]),([0,1,2,3,4,5,6,7,8,9],[],[32,33,34],[]),([0,1,2,3,4,5,6,7],[],[29,30,31],[]),([0,1,2,3,4,5,6,7,11],[],[29,30,31],[]),([0,1,2,3,4,5,6,7,11,12],[],[29,30,31],[]),([0,1,2,3,4,5,6,7,8,9,10,11,12,13],[],[],[]),([0,1,2,3,4,5,6,7,8,9,10,11,12,13,14],[],[],[]),([0,1,2,3,4,5,6,7,8,9,10,11,12,13,14,15],[],[],[])] rfl rfl (by kernel_rfl) ?_ _
 |(refine some_e hr ?_;rintro rfl;with_reducible refine ret_k ?_)
 |exact no_e hr
 |fail)
@[reducible,instance] def QkK:=g9.1
@[reducible,instance] def Qkk:=g9.2.1
@[reducible,instance] def QnQ:=g9.2.2.1
@[reducible,instance] def Qoc:=g9.2.2.2.1
@[reducible,instance] def Qnd:=g9.2.2.2.2.1
@[reducible,instance] def Qmo:=g9.2.2.2.2.2.1
@[reducible,instance] def QlN:=g9.2.2.2.2.2.2.1
@[reducible,instance] def Qmp:=g9.2.2.2.2.2.2.2.1
@[reducible,instance] def QnR:=g9.2.2.2.2.2.2.2.2
theorem g8:(∀ N (a0:TConf),OK (Qfz N a0) 20 [.agg (e23 a0)] [] (fun r=>.tup [.agg (e36 r.1),.v (.int .i64 r.2)]) fun r=>[])∧(∀ N (a0:THeader) (a1:Int),OK (QbB N a0 a1) 128 [.agg (e75 a0),.v (.int .i64 a1)] [] (fun r=>.v (.bool r)) fun r=>[])∧(∀ N (a0:THandle),OK (Qbg N a0) 105 [.agg (e193 a0)] [] (fun r=>.tup [.v (.int .u64 r.1),.v (.int .i64 r.2)]) fun r=>[])∧(∀ N (a0:List Int) (a1:Int),OK (Qgt N a0 a1) 272 [.isl 37 1 (a0.map e37),.v (.int .u64 a1)] [] (fun r=>.tup [.v (.int .i64 r.1),.v (.int .i64 r.2)]) fun r=>[])∧(∀ N (a0:TConf) (a1:Int) (a2:Int),OK (Qct N a0 a1 a2) 291 [.agg (e23 a0),.v (.int .i64 a1),.v (.int .i64 a2)] [] (fun r=>.tup [.v (.int .u64 r.1),.v (.int .i64 r.2)]) fun r=>[])∧(∀ N (a0:List TPage) (a1:Int) (a2:Int),OK (QdA N a0 a1 a2) 283 [.isl 306 4 (a0.map e306),.v (.int .i64 a1),.v (.int .i64 a2)] [] (fun r=>.tup [.fsl 306 4 (r.1.map e306),.v (.int .i64 r.2)]) fun r=>[])∧(∀ N (a0:THeader),OK (QcV N a0) 200 [.agg (e75 a0)] [] (fun r=>.v (.bool r)) fun r=>[])∧(∀ N (a0:TConf),OK (Qfu N a0) 278 [.agg (e23 a0)] [] (fun r=>.v (.int .i64 r)) fun r=>[])∧(∀ N (a0:TTable),OK (QcZ N a0) 84 [.agg (e32 a0)] [] (fun r=>.agg (e32 r)) fun r=>[]):=by
 refine ⟨fun N _=>rn Tryz.f20 [.cell 2 36,.tmp 3] [] 10 (by kernel_rfl) ?_,fun N _ _=>rn Tryz.f128 [.tmp 4] [] 35 (by kernel_rfl) ?_,fun N _=>rn Tryz.f105 [.tmp 2,.tmp 3] [] 20 (by kernel_rfl) ?_,fun N _ _=>rn Tryz.f272 [.tmp 4,.tmp 5] [] 17 (by kernel_rfl) ?_,fun N _ _ _=>rn Tryz.f291 [.tmp 6,.tmp 7] [] 37 (by kernel_rfl) ?_,fun N _ _ _=>rn Tryz.f283 [.tmp 6,.tmp 7] [1216] 22 (by kernel_rfl) ?_,fun N _=>rn Tryz.f200 [.tmp 2] [] 43 (by kernel_rfl) ?_,fun N _=>rn Tryz.f278 [.tmp 2] [] 9 (by kernel_rfl) ?_,fun N _=>rn Tryz.f84 [.cell 2 32] [] 7 (by kernel_rfl) ?_⟩<;>(rintro _ hw r hr C _ rfl hwf hf;simp only[Tryz.f20,Tryz.f128,Tryz.f105,Tryz.f272,Tryz.f291,Tryz.f283,Tryz.f200,Tryz.f278,Tryz.f84,Option.get!];(first|rw[Qfz] at hr|rw[QbB] at hr|rw[Qbg] at hr|rw[Qgt] at hr|rw[Qct] at hr|rw[QdA] at hr|rw[QcV] at hr|rw[Qfu] at hr|rw[QcZ] at hr);repeat' first
 |(refine El.el hr ?_;intro hr)
 |(with_reducible intro h;refine bc_e hr h ?_;intro hr)
 |with_reducible intro _
 |simp only[go_sem,simprocAttr]
 |(with_reducible first|apply guard_of_f|apply guard_of_t|apply cond_of|apply doT_of_t|apply doT_of_f)
 |(refine and_of' ?_ ?_;·first|assumption|omega)
 |with_reducible refine CallX.c ?_ _
 |with_reducible refine OK.c hr hw ?_ (fun y hr=>?_) _
 |with_reducible refine OK.d hr hw ?_ (fun y hr=>?_) _
 |refine db 200 4 hf [([],[],[],[]),([0],[],[],[]),([0,1],[],[],[]),([0,1,2],[],[],[]),([0,1,2,3],[],[31,32,33],[]),([0,1,2,3,4],[],[31,32,33],[]),([0,1,2,3,4,5],[],[31,32,33],[]),([0,1,2,3],[],[28,29,30],[]),([0,1,2,3,7],[],[28,29,30],[]),([0,1,2,3,7,8],[],[28,29,30],[]),([0,1,2,3,4,5,6,7,8,9],[],[],[]),([0,1,2,3,4,5,6,7,8,9,10],[],[],[]),([0,1,2,3,4,5,6,7,8,9,10,11],[],[],[])] rfl rfl (by kernel_rfl) ?_ _
 |(refine some_e hr ?_;rintro rfl;with_reducible refine ret_k ?_)
 |exact no_e hr
 |fail)
@[reducible,instance] def QnS:=g8.1
@[reducible,instance] def Qlc:=g8.2.1
@[reducible,instance] def QlO:=g8.2.2.1
@[reducible,instance] def Qmq:=g8.2.2.2.1
@[reducible,instance] def Qld:=g8.2.2.2.2.1
@[reducible,instance] def Qmr:=g8.2.2.2.2.2.1
@[reducible,instance] def QlP:=g8.2.2.2.2.2.2.1
@[reducible,instance] def Qkp:=g8.2.2.2.2.2.2.2.1
@[reducible,instance] def QlQ:=g8.2.2.2.2.2.2.2.2
end Go.Sx
