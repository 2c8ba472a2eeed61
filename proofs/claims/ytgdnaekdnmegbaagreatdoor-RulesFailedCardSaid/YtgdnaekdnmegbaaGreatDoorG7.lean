import Derived.Test.YtgdnaekdnmegbaaGreatDoorF
import Derived.Test.YtgdnaekdnmegbaaGreatDoorG0
import Derived.Test.YtgdnaekdnmegbaaGreatDoorG1
import Derived.Test.YtgdnaekdnmegbaaGreatDoorG2
import Derived.Test.YtgdnaekdnmegbaaGreatDoorG3
import Derived.Test.YtgdnaekdnmegbaaGreatDoorG4
import Derived.Test.YtgdnaekdnmegbaaGreatDoorG5
set_option linter.all false
namespace Go.Sx
open Go.Proofs
set_option maxRecDepth 10000
set_option maxHeartbeats 100000000
theorem g13:(∀ N (a0:TConf),OK (ref18_New N a0) 63 [.agg (e23 a0)] [] (fun r=>.tup [.agg (e43 r.1),.v (.int .i64 r.2)]) fun r=>[])∧(∀ N (a0:THeap) (a1:Int),OK (ref17_home N a0 a1) 198 [.agg (e40 a0),.v (.int .u64 a1)] [] (fun r=>.v (.int .i64 r)) fun r=>[])∧(∀ N (a0:List Int) (a1:Int) (a2:Int) (a3:Int),OK (ref02_Move N a0 a1 a2 a3) 227 [.isl 37 1 (a0.map e37),.v (.int .u64 a1),.v (.int .u64 a2),.v (.int .i64 a3)] [] (fun r=>.tup [.isl 37 1 (r.1.map e37),.v (.int .i64 r.2)]) fun r=>[])∧(∀ N (a0:Int),OK (ref16_Decode N a0) 57 [.v (.int .u64 a0)] [] (fun r=>.tup [.agg (e122 r.1),.v (.int .i64 r.2)]) fun r=>[])∧(∀ N (a0:TLocals) (a1:Int) (a2:Bool),OK (ref14_open N a0 a1 a2) 152 [.agg (e29 a0),.v (.int .i64 a1),.v (.bool a2)] [] (fun r=>.tup [.agg (e29 r.1),.v (.int .i64 r.2)]) fun r=>[])∧(∀ N (a0:TWorld) (a1:Int) (a2:Int) (a3:Int),OK (ref21_pins N a0 a1 a2 a3) 141 [.agg (e36 a0),.v (.int .i64 a1),.v (.int .u64 a2),.v (.int .u64 a3)] [] (fun r=>.tup [.agg (e36 r.1),.v (.int .u64 r.2)]) fun r=>[])∧(∀ N (a0:THeader) (a1:Int),OK (header_Pointer N a0 a1) 60 [.agg (e97 a0),.v (.int .i64 a1)] [] (fun r=>.v (.bool r)) fun r=>[])∧(∀ N (a0:TWorld) (a1:Int),OK (rules_World_mark N a0 a1) 94 [.agg (e61 a0),.v (.int .u64 a1)] [] (fun r=>.v (.int .i64 r)) fun r=>[])∧(∀ N (a0:TLocals) (a1:Int),OK (scope_closed N a0 a1) 193 [.agg (e29 a0),.v (.int .i64 a1)] [] (fun r=>.agg (e29 r)) fun r=>[]):=by
 refine ⟨fun N _=>rn Tryz.f63 [.cell 2 43,.tmp 3] [] 14 (by kernel_rfl) ?_,fun N _ _=>rn Tryz.f198 [.tmp 4] [] 17 (by kernel_rfl) ?_,fun N _ _ _ _=>rn Tryz.f227 [.tmp 8,.tmp 9] [] 28 (by kernel_rfl) ?_,fun N _=>rn Tryz.f57 [.cell 2 122,.tmp 3] [] 35 (by kernel_rfl) ?_,fun N _ _ _=>rn Tryz.f152 [.cell 6 29,.tmp 7] [] 48 (by kernel_rfl) ?_,fun N _ _ _ _=>rn Tryz.f141 [.cell 8 36,.tmp 9] [] 77 (by kernel_rfl) ?_,fun N _ _=>rn Tryz.f60 [.tmp 4] [] 34 (by kernel_rfl) ?_,fun N _ _=>rn Tryz.f94 [.tmp 4] [] 9 (by kernel_rfl) ?_,fun N _ _=>rn Tryz.f193 [.cell 4 29] [] 23 (by kernel_rfl) ?_⟩<;>(rintro _ hw r hr C rfl hwf hf;simp only[Tryz.f63,Tryz.f198,Tryz.f227,Tryz.f57,Tryz.f152,Tryz.f141,Tryz.f60,Tryz.f94,Tryz.f193,Option.get!];(first|rw[ref18_New] at hr|rw[ref17_home] at hr|rw[ref02_Move] at hr|rw[ref16_Decode] at hr|rw[ref14_open] at hr|rw[ref21_pins] at hr|rw[header_Pointer] at hr|rw[rules_World_mark] at hr|rw[scope_closed] at hr);repeat' first
 |(refine El.el hr ?_;intro hr)
 |(with_reducible intro h;refine bc_e hr h ?_;intro hr)
 |with_reducible intro _
 |simp only[go_sem,simprocAttr,hl74,hl134,List.length_take,List.length_drop,Nat.min_self]
 |(with_reducible first|apply guard_of_f|apply guard_of_t|apply cond_of|apply doT_of_t|apply doT_of_f)
 |((first|with_reducible refine idx_s hr (by assumption) ?_ ?_|(with_reducible refine idx_e hr ?_ ?_;rotate_left;intro p;rotate_right));(·simp only[go_sem,simprocAttr,List.length_take,List.length_drop,Nat.min_self]);intro hp hn hd hr;(try have hl74:=hd _ e74);(try simp only[go_sem,simprocAttr] at hl74);(try have hl134:=hd _ e134);(try simp only[go_sem,simprocAttr] at hl134))
 |(refine and_of' ?_ ?_;·first|assumption|omega)
 |with_reducible refine OK.c hr hw ?_ (fun y hr=>?_) _
 |refine db 152 7 hf [([],[2176],[35,36,38,39,40,41,42,43,44],[2816]),([],[],[34,38,39,40,41,42,43,44],[2176,2816]),([1],[],[34,38,39,40,41,42,43,44],[2176,2816]),([0,1,2],[2176],[38,39,40,41,42,43,44],[2816]),([],[],[34,35,36,37,41,42],[2176]),([4],[],[34,35,36,37,41,42],[2176]),([4,5],[],[34,35,36,37,41,42],[2176]),([],[],[34,35,36,37,38,39,40,42],[2176]),([],[],[34,35,36,37,38,39,40,41],[2176]),([4,5,6,7,8],[],[34,35,36,37],[2176]),([4,5,6,7,8,9],[2816],[34,35,36,37],[2176]),([0,1,2,3,4,5,6,7,8,9,10],[2176],[],[]),([0,1,2,3,4,5,6,7,8,9,10,11],[],[],[]),([0,1,2,3,4,5,6,7,8,9,10,11,12],[192],[],[])] rfl rfl (by kernel_rfl) ?_ _
 |refine db 141 6 hf [([],[],[39,41,42,43,44,45],[]),([0],[],[39,41,42,43,44,45],[]),([],[],[37,38,41,42,43,44,45],[]),([0,1,2],[],[41,42,43,44,45],[]),([],[],[37,38,39,40,43,44],[]),([4],[],[37,38,39,40,43,44],[]),([],[],[37,38,39,40,41,42],[]),([6],[],[37,38,39,40,41,42],[]),([4,5,6,7],[],[37,38,39,40],[]),([0,1,2,3,4,5,6,7,8],[896],[],[]),([0,1,2,3,4,5,6,7,8,9],[],[],[]),([0,1,2,3,4,5,6,7,8,9,10],[256],[],[])] rfl rfl (by kernel_rfl) ?_ _
 |refine db 141 10 hf [([],[],[61,62,63,64,65,66],[]),([],[],[60,63],[512]),([1],[],[60,63],[512]),([],[],[60,61,62],[512]),([1,2,3],[],[60],[512]),([1,2,3,4],[],[60],[512]),([1,2,3,4,5],[],[60],[512]),([0],[512],[61,62,63,64,65,66],[]),([0,1,2,3,4,5,6,7],[],[],[])] rfl rfl (by kernel_rfl) ?_ _
 |refine db 193 2 hf [([],[],[9,10,11,12,13,14,16,17,18,19],[]),([0],[],[9,10,11,12,13,14,16,17,18,19],[]),([],[],[7,8,11,16,17,18,19],[]),([2],[],[7,8,11,16,17,18,19],[]),([],[],[7,8,9,10,16,17,18,19],[]),([2,3,4],[],[7,8,16,17,18,19],[]),([2,3,4,5],[],[7,8,16,17,18,19],[]),([2,3,4,5,6],[],[7,8,16,17,18,19],[]),([0,1,2,3,4,5,6,7],[],[16,17,18,19],[]),([],[],[7,8,9,10,11,12,13,14,15,18],[]),([9],[],[7,8,9,10,11,12,13,14,15,18],[]),([],[],[7,8,9,10,11,12,13,14,15,16,17,20],[128]),([9,10,11],[],[7,8,9,10,11,12,13,14,15,20],[128]),([0,1,2,3,4,5,6,7,8,9,10],[],[18,19],[]),([0,1,2,3,4,5,6,7,8,9,10,13],[128],[18,19],[]),([0,1,2,3,4,5,6,7,8,9,10,11,12,13,14],[],[],[]),([0,1,2,3,4,5,6,7,8,9,10,11,12,13,14,15],[128],[],[])] rfl rfl (by kernel_rfl) ?_ _
 |(refine some_e hr ?_;rintro rfl;with_reducible refine ret_k ?_)
 |exact no_e hr
 |with_reducible refine ite_g (fun hi=>?_) (fun hi=>?_)
 |(exfalso;omega)
 |fail)
@[reducible,instance] def ref18_New_i:=g13.1
@[reducible,instance] def ref17_home_i:=g13.2.1
@[reducible,instance] def ref02_Move_i:=g13.2.2.1
@[reducible,instance] def ref16_Decode_i:=g13.2.2.2.1
@[reducible,instance] def ref14_open_i:=g13.2.2.2.2.1
@[reducible,instance] def ref21_pins_i:=g13.2.2.2.2.2.1
@[reducible,instance] def header_Pointer_i:=g13.2.2.2.2.2.2.1
@[reducible,instance] def rules_World_mark_i:=g13.2.2.2.2.2.2.2.1
@[reducible,instance] def scope_closed_i:=g13.2.2.2.2.2.2.2.2
theorem g14:(∀ N (a0:List Int) (a1:Int),OK (ref02_Load N a0 a1) 203 [.isl 37 1 (a0.map e37),.v (.int .u64 a1)] [] (fun r=>.tup [.v (.int .u64 r.1),.v (.int .i64 r.2)]) fun r=>[])∧(∀ N (a0:List Int) (a1:Int) (a2:Int),OK (ref02_Store N a0 a1 a2) 211 [.isl 37 1 (a0.map e37),.v (.int .u64 a1),.v (.int .u64 a2)] [] (fun r=>.tup [.isl 37 1 (r.1.map e37),.v (.int .i64 r.2)]) fun r=>[])∧(∀ N (a0:TLocals) (a1:Int),OK (ref14_New N a0 a1) 151 [.agg (e29 a0),.v (.int .u64 a1)] [] (fun r=>.tup [.agg (e29 r.1),.v (.int .i64 r.2.1),.v (.int .i64 r.2.2.1),.v (.int .i64 r.2.2.2)]) fun r=>[])∧(∀ N (a0:TLocals) (a1:Int) (a2:Int),OK (ref14_Get N a0 a1 a2) 58 [.agg (e29 a0),.v (.int .i64 a1),.v (.int .i64 a2)] [] (fun r=>.tup [.v (.int .u64 r.1),.v (.int .i64 r.2)]) fun r=>[])∧(∀ N (a0:TLocals),OK (ref14_Pop N a0) 101 [.agg (e29 a0)] [] (fun r=>.tup [.agg (e29 r.1),.v (.int .i64 r.2)]) fun r=>[])∧(∀ N (a0:List Int),OK (slices_ContainsFunc_int_int_Valid1 N a0) 102 [.isl 3 1 (a0.map e3),.clo (.func 103) [] []] [] (fun r=>.v (.bool r)) fun r=>[])∧(∀ N (a0:THeader),OK (header_Size N a0) 158 [.agg (e97 a0)] [] (fun r=>.v (.int .i64 r)) fun r=>[])∧(∀ N (a0:Int),OK (handle_Decode N a0) 118 [.v (.int .u64 a0)] [] (fun r=>.tup [.agg (e122 r.1),.v (.int .i64 r.2)]) fun r=>[]):=by
 refine ⟨fun N _ _=>rn Tryz.f203 [.tmp 4,.tmp 5] [] 21 (by kernel_rfl) ?_,fun N _ _ _=>rn Tryz.f211 [.tmp 6,.tmp 7] [] 15 (by kernel_rfl) ?_,fun N _ _=>rn Tryz.f151 [.cell 4 29,.tmp 5,.tmp 6,.tmp 7] [] 79 (by kernel_rfl) ?_,fun N _ _ _=>rn Tryz.f58 [.tmp 6,.tmp 7] [] 58 (by kernel_rfl) ?_,fun N _=>rn Tryz.f101 [.cell 2 29,.tmp 3] [] 28 (by kernel_rfl) ?_,fun N _=>rn Tryz.f102 [.tmp 4] [] 9 (by kernel_rfl) ?_,fun N _=>rn Tryz.f158 [.tmp 2] [] 9 (by kernel_rfl) ?_,fun N _=>rn Tryz.f118 [.cell 2 122,.tmp 3] [] 37 (by kernel_rfl) ?_⟩<;>(rintro _ hw r hr C rfl hwf hf;have hgw:=hw;unfold GW at hgw;simp only[Tryz.f203,Tryz.f211,Tryz.f151,Tryz.f58,Tryz.f101,Tryz.f102,Tryz.f158,Tryz.f118,Option.get!];(first|rw[ref02_Load] at hr|rw[ref02_Store] at hr|rw[ref14_New] at hr|rw[ref14_Get] at hr|rw[ref14_Pop] at hr|rw[slices_ContainsFunc_int_int_Valid1] at hr|rw[header_Size] at hr|rw[handle_Decode] at hr);repeat' first
 |(refine El.el hr ?_;intro hr)
 |(with_reducible intro h;refine bc_e hr h ?_;intro hr)
 |with_reducible intro _
 |simp only[go_sem,simprocAttr,hl3,hl37,hl134,hl179,hgw,List.length_take,List.length_drop,Nat.min_self]
 |(with_reducible first|apply guard_of_f|apply guard_of_t|apply cond_of|apply doT_of_t|apply doT_of_f)
 |((first|with_reducible refine idx_s hr (by assumption) ?_ ?_|(with_reducible refine idx_e hr ?_ ?_;rotate_left;intro p;rotate_right));(·simp only[go_sem,simprocAttr,hgw,List.length_take,List.length_drop,Nat.min_self]);intro hp hn hd hr;(try have hl3:=hd _ e3);(try simp only[go_sem,simprocAttr] at hl3);(try have hl37:=hd _ e37);(try simp only[go_sem,simprocAttr] at hl37);(try have hl134:=hd _ e134);(try simp only[go_sem,simprocAttr] at hl134);(try have hl179:=hd _ e179);(try simp only[go_sem,simprocAttr] at hl179))
 |(refine and_of' ?_ ?_;·first|assumption|omega)
 |(with_reducible refine idl_e hr ?_ ?_;(·simp only[go_sem]);intro p hp hn hd hr;(try have hl3:=hd _ e3);(try simp only[go_sem,simprocAttr] at hl3);(try have hl37:=hd _ e37);(try simp only[go_sem,simprocAttr] at hl37);(try have hl134:=hd _ e134);(try simp only[go_sem,simprocAttr] at hl134);(try have hl179:=hd _ e179);(try simp only[go_sem,simprocAttr] at hl179))
 |with_reducible refine OK.c hr hw ?_ (fun y hr=>?_) _
 |with_reducible refine OK.d hr hw ?_ (fun y hr=>?_) _
 |refine db 151 6 hf [([],[],[26,27,28,29,30,31,32,33,34,35,37,38,39,40,41,42,43],[]),([],[],[25,28,29,33,34,35,37,38,39,40,41,42,43],[]),([1],[],[25,28,29,33,34,35,37,38,39,40,41,42,43],[]),([],[],[25,26,27,33,34,35,37,38,39,40,41,42,43],[]),([3],[],[25,26,27,33,34,35,37,38,39,40,41,42,43],[]),([1,2,3,4],[],[25,33,34,35,37,38,39,40,41,42,43],[]),([1,2,3,4,5],[],[25,33,34,35,37,38,39,40,41,42,43],[]),([1,2,3,4,5,6],[],[25,33,34,35,37,38,39,40,41,42,43],[]),([],[],[25,26,27,28,29,30,31,32,37,38,39,40,41,42,43],[]),([8],[],[25,26,27,28,29,30,31,32,37,38,39,40,41,42,43],[]),([8,9],[],[25,26,27,28,29,30,31,32,37,38,39,40,41,42,43],[]),([0,1,2,3,4,5,6,7,8,9,10],[],[37,38,39,40,41,42,43],[]),([],[],[25,26,27,28,29,30,31,32,33,34,35,36,39,40],[]),([12],[],[25,26,27,28,29,30,31,32,33,34,35,36,39,40],[]),([],[],[25,26,27,28,29,30,31,32,33,34,35,36,37,38],[]),([14],[],[25,26,27,28,29,30,31,32,33,34,35,36,37,38],[]),([12,13,14,15],[],[25,26,27,28,29,30,31,32,33,34,35,36],[]),([12,13,14,15,16],[],[25,26,27,28,29,30,31,32,33,34,35,36],[]),([12,13,14,15,16,17],[],[25,26,27,28,29,30,31,32,33,34,35,36],[]),([0,1,2,3,4,5,6,7,8,9,10,11,12,13,14,15,16,17,18],[],[],[])] rfl rfl (by kernel_rfl) ?_ _
 |refine db 151 10 hf [([],[],[54,55,56,57],[]),([0],[],[54,55,56,57],[]),([0,1],[],[54,55,56,57],[]),([],[],[9,51,52,53],[]),([3],[],[9,51,52,53],[]),([3,4],[],[9,51,52,53],[]),([3,4,5],[],[9,51,52,53],[]),([0,1,2],[],[54,55,56,57],[]),([0,1,2,3,4,5,6,7],[],[],[])] rfl rfl (by kernel_rfl) ?_ _
 |refine db 118 6 hf [([],[],[6,23,24,25,26,27,28,29,30],[384]),([0],[],[6,23,24,25,26,27,28,29,30],[384]),([0,1],[],[6,23,24,25,26,27,28,29,30],[384]),([0,1,2],[],[6,23,24,25,26,27,28,29,30],[384]),([],[],[6,19,20,21,22,27,28,29,30],[384]),([4],[],[6,19,20,21,22,27,28,29,30],[384]),([4,5],[],[6,19,20,21,22,27,28,29,30],[384]),([4,5,6],[],[6,19,20,21,22,27,28,29,30],[384]),([],[],[6,19,20,21,22,23,24,25,26],[384]),([8],[],[6,19,20,21,22,23,24,25,26],[384]),([8,9],[],[6,19,20,21,22,23,24,25,26],[384]),([8,9,10],[],[6,19,20,21,22,23,24,25,26],[384]),([0,1,2,3,4,5,6,7,8,9,10,11],[],[6],[384]),([],[384],[19,20,21,22,23,24,25,26,27,28,29,30,31],[]),([0,1,2,3,4,5,6,7,8,9,10,11,12,13],[384],[],[])] rfl rfl (by kernel_rfl) ?_ _
 |(refine some_e hr ?_;rintro rfl;with_reducible refine ret_k ?_)
 |exact no_e hr
 |fail)
@[reducible,instance] def ref02_Load_i:=g14.1
@[reducible,instance] def ref02_Store_i:=g14.2.1
@[reducible,instance] def ref14_New_i:=g14.2.2.1
@[reducible,instance] def ref14_Get_i:=g14.2.2.2.1
@[reducible,instance] def ref14_Pop_i:=g14.2.2.2.2.1
@[reducible,instance] def slices_ContainsFunc_int_int_Valid1_i:=g14.2.2.2.2.2.1
@[reducible,instance] def header_Size_i:=g14.2.2.2.2.2.2.1
@[reducible,instance] def handle_Decode_i:=g14.2.2.2.2.2.2.2
abbrev I_ref14_Refs_l1:=fun N (a0:TLocals) (Q:(List Int)→Prop) n (st:St)=>∃ (v1:Int) (v2:List Int) (ex:_),ref14_Refs_l1 N a0 n v1 v2=some ex∧Q ex∧((∃ w1920 w64,st.n=32∧st.s 1920=some (w1920,.arr false 37 1 (v2.map e37) 0)∧st.t 1=.ept 64 w64 3 0 0∧st.t 3=.osl 1920 w1920 1 0 v2.length∧st.t 4=.v (.int .i64 v1)∧st.s 64=some (w64,.arr true 29 3 [[.isl 179 3 (a0.Slots.map e179),.isl 134 3 (a0.Scopes.map e134),.isl 3 1 (a0.Issued.map e3)]] 0))∨(∃ w64,(st.n=32∧st.t 1=.ept 64 w64 3 0 0∧st.t 3=.nsl∧st.t 4=.v (.int .i64 v1)∧st.s 64=some (w64,.arr true 29 3 [[.isl 179 3 (a0.Slots.map e179),.isl 134 3 (a0.Scopes.map e134),.isl 3 1 (a0.Issued.map e3)]] 0))∧v2=[]))
abbrev I_ref04_Need_l1:=fun N (a0:TConf) (a1:Int) (Q:(Ex Int Unit)→Prop) n (st:St)=>∃ (v3:Int) (ex:_),ref04_Need_l1 N a0 a1 n v3=some ex∧Q ex∧((∃ w128,st.n=28∧st.t 1=.v (.int .i64 a1)∧st.t 2=.ept 128 w128 2 0 0∧st.t 5=.v (.int .i64 v3)∧st.s 128=some (w128,.arr true 23 2 [[.v (.int .i64 a0.PageWords),.v (.int .i64 a0.Pages)]] 0)))
abbrev I_ref03_Pointers_l1:=fun N (a0:THeader) (Q:(List Int)→Prop) n (st:St)=>∃ (v1:Int) (v2:List Int) (ex:_),ref03_Pointers_l1 N a0 n v1 v2=some ex∧Q ex∧((∃ w1344 w64,st.n=23∧st.s 1344=some (w1344,.arr false 3 1 (v2.map e3) 0)∧st.t 1=.ept 64 w64 3 0 0∧st.t 3=.osl 1344 w1344 1 0 v2.length∧st.t 4=.v (.int .i64 v1)∧st.s 64=some (w64,.arr true 97 3 [[.v (.int .i64 a0.Kind),.v (.int .i64 a0.Length),.v (.int .u32 a0.Map)]] 0))∨(∃ w64,(st.n=23∧st.t 1=.ept 64 w64 3 0 0∧st.t 3=.nsl∧st.t 4=.v (.int .i64 v1)∧st.s 64=some (w64,.arr true 97 3 [[.v (.int .i64 a0.Kind),.v (.int .i64 a0.Length),.v (.int .u32 a0.Map)]] 0))∧v2=[]))
abbrev I_ref15_Move_l1:=fun N (a1:List Int) (Q:(List TEntry)→Prop) n (st:St)=>∃ (v3:Int) (v4:Int) (v5:List TEntry) (ex:_),ref15_Move_l1 N a1 n v3 v4 v5=some ex∧Q ex∧((∃ w1344 w256,st.n=48∧st.s 1344=some (w1344,.arr false 148 3 (v5.map e148) 0)∧st.t 1=.isl 37 1 (a1.map e37)∧st.t 4=.ept 256 w256 1 0 0∧st.t 6=.osl 1344 w1344 3 0 v5.length∧st.t 7=.v (.int .i64 v3)∧st.t 8=.v (.int .i64 v4)∧st.s 256=some (w256,.arr true 32 1 [[.nsl]] 0)))
abbrev I_ref20_Refs_l1:=fun N (a0:TThing) (Q:(List Int)→Prop) n (st:St)=>∃ (v1:Int) (v2:List Int) (ex:_),ref20_Refs_l1 N a0 n v1 v2=some ex∧Q ex∧((∃ w1472 w64,st.n=25∧st.s 1472=some (w1472,.arr false 37 1 (v2.map e37) 0)∧st.t 1=.ept 64 w64 4 0 0∧st.t 3=.osl 1472 w1472 1 0 v2.length∧st.t 4=.v (.int .i64 v1)∧st.s 64=some (w64,.arr true 99 4 [[.v (.int .i64 a0.Header.Kind),.v (.int .i64 a0.Header.Length),.v (.int .u32 a0.Header.Map),.isl 37 1 (a0.Fields.map e37)]] 0))∨(∃ w64,(st.n=25∧st.t 1=.ept 64 w64 4 0 0∧st.t 3=.nsl∧st.t 4=.v (.int .i64 v1)∧st.s 64=some (w64,.arr true 99 4 [[.v (.int .i64 a0.Header.Kind),.v (.int .i64 a0.Header.Length),.v (.int .u32 a0.Header.Map),.isl 37 1 (a0.Fields.map e37)]] 0))∧v2=[]))
theorem g15:(∀ N (a0:TLocals),OK (ref14_Refs N a0) 55 [.agg (e29 a0)] [] (fun r=>.isl 37 1 (r.map e37)) fun r=>[])∧(∀ N (a0:TConf) (a1:Int),OK (ref04_Need N a0 a1) 149 [.agg (e23 a0),.v (.int .i64 a1)] [] (fun r=>.v (.int .i64 r)) fun r=>[])∧(∀ N (a0:THeader),OK (ref03_Pointers N a0) 229 [.agg (e97 a0)] [] (fun r=>.isl 3 1 (r.map e3)) fun r=>[])∧(∀ N (a0:TTable) (a1:List Int),OK (ref15_Move N a0 a1) 127 [.agg (e32 a0),.isl 37 1 (a1.map e37)] [] (fun r=>.tup [.agg (e32 r.1),.v (.int .i64 r.2)]) fun r=>[])∧(∀ N (a0:TThing),OK (ref20_Refs N a0) 52 [.agg (e99 a0)] [] (fun r=>.isl 37 1 (r.map e37)) fun r=>[]):=by
 refine ⟨fun N _=>rn Tryz.f55 [.tmp 2] [] 32 (by kernel_rfl) ?_,fun N _ _=>rn Tryz.f149 [.tmp 4] [] 28 (by kernel_rfl) ?_,fun N _=>rn Tryz.f229 [.tmp 2] [] 23 (by kernel_rfl) ?_,fun N _ _=>rn Tryz.f127 [.cell 4 32,.tmp 5] [] 48 (by kernel_rfl) ?_,fun N _=>rn Tryz.f52 [.tmp 2] [] 25 (by kernel_rfl) ?_⟩<;>(rintro _ hw r hr C rfl hwf hf;simp only[Tryz.f55,Tryz.f149,Tryz.f229,Tryz.f127,Tryz.f52,Option.get!];(first|rw[ref14_Refs] at hr|rw[ref04_Need] at hr|rw[ref03_Pointers] at hr|rw[ref15_Move] at hr|rw[ref20_Refs] at hr);repeat' first
 |(refine El.el hr ?_;intro hr)
 |(with_reducible intro h;refine bc_e hr h ?_;intro hr)
 |with_reducible intro _
 |(refine some_e hr ?_;rintro rfl;have hr:=hk;clear hk)
 |simp only[go_sem,simprocAttr,E,hl37,hl148,hl179]
 |(with_reducible first|apply guard_of_f|apply guard_of_t|apply cond_of)
 |((first|with_reducible refine idx_s hr (by assumption) ?_ ?_|(with_reducible refine idx_e hr ?_ ?_;rotate_left;intro p;rotate_right));(·simp only[go_sem,simprocAttr]);intro hp hn hd hr;(try have hl37:=hd _ e37);(try simp only[go_sem,simprocAttr] at hl37);(try have hl148:=hd _ e148);(try simp only[go_sem,simprocAttr] at hl148);(try have hl179:=hd _ e179);(try simp only[go_sem,simprocAttr] at hl179))
 |(refine and_of' ?_ ?_;·first|assumption|omega)
 |with_reducible refine OK.c hr hw ?_ (fun y hr=>?_) _
 |(with_reducible refine loop_e (I:=I_ref14_Refs_l1 N _) hr 1000 N (fun ex hq hk=>⟨_,_,ex,hq,hk,?_⟩) ?_ _;rotate_left;clear hr;(try clear E);rintro n1 st ⟨v1,v2,ex,hr,hk,(⟨_,_,E⟩|⟨_,E,z0⟩)⟩<;>(try subst z0)<;>(obtain _|n1:=n1<;>rw[ref14_Refs_l1] at hr))
 |refine ⟨_,Nat.lt_succ_self _,_,_,_,hr,hk,?_⟩
 |(with_reducible refine loop_e (I:=I_ref04_Need_l1 N _ _) hr 1000 N (fun ex hq hk=>⟨_,ex,hq,hk,?_⟩) ?_ _;rotate_left;clear hr;(try clear E);rintro n1 st ⟨v3,ex,hr,hk,⟨_,E⟩⟩<;>(obtain _|n1:=n1<;>rw[ref04_Need_l1] at hr))
 |refine ⟨_,Nat.lt_succ_self _,_,_,hr,hk,?_⟩
 |(with_reducible refine loop_e (I:=I_ref03_Pointers_l1 N _) hr 1000 N (fun ex hq hk=>⟨_,_,ex,hq,hk,?_⟩) ?_ _;rotate_left;clear hr;(try clear E);rintro n1 st ⟨v1,v2,ex,hr,hk,(⟨_,_,E⟩|⟨_,E,z0⟩)⟩<;>(try subst z0)<;>(obtain _|n1:=n1<;>rw[ref03_Pointers_l1] at hr))
 |(with_reducible refine loop_e (I:=I_ref15_Move_l1 N _) hr 1000 N (fun ex hq hk=>⟨_,_,_,ex,hq,hk,?_⟩) ?_ _;rotate_left;clear hr;(try clear E);rintro n1 st ⟨v3,v4,v5,ex,hr,hk,⟨_,_,E⟩⟩<;>(obtain _|n1:=n1<;>rw[ref15_Move_l1] at hr))
 |refine ⟨_,Nat.lt_succ_self _,_,_,_,_,hr,hk,?_⟩
 |(with_reducible refine loop_e (I:=I_ref20_Refs_l1 N _) hr 1000 N (fun ex hq hk=>⟨_,_,ex,hq,hk,?_⟩) ?_ _;rotate_left;clear hr;(try clear E);rintro n1 st ⟨v1,v2,ex,hr,hk,(⟨_,_,E⟩|⟨_,E,z0⟩)⟩<;>(try subst z0)<;>(obtain _|n1:=n1<;>rw[ref20_Refs_l1] at hr))
 |(refine some_e hr ?_;rintro rfl;with_reducible refine ret_k ?_)
 |exact no_e hr
 |((first|refine bc_e (c:=true) hr rfl ?_|refine bc_e (c:=false) hr rfl ?_|refine bc_e hr (by assumption) ?_);intro hr)
 |fail)
@[reducible,instance] def ref14_Refs_i:=g15.1
@[reducible,instance] def ref04_Need_i:=g15.2.1
@[reducible,instance] def ref03_Pointers_i:=g15.2.2.1
@[reducible,instance] def ref15_Move_i:=g15.2.2.2.1
@[reducible,instance] def ref20_Refs_i:=g15.2.2.2.2
end Go.Sx
