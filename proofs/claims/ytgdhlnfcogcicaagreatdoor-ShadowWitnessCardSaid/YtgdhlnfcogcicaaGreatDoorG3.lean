import Derived.Test.YtgdhlnfcogcicaaGreatDoorF
import Derived.Test.YtgdhlnfcogcicaaGreatDoorG1
import Derived.Test.YtgdhlnfcogcicaaGreatDoorG2
set_option linter.all false
namespace Go.Sx
open Go.Proofs
set_option maxRecDepth 10000
set_option maxHeartbeats 100000000
theorem g7:(∀ N (a0:TConf),OK (ref18_New N a0) 76 [.agg (e23 a0)] [] (fun r=>.tup [.agg (e45 r.1),.v (.int .i64 r.2)]) fun r=>[])∧(∀ N (a0:List Int),OK (slices_ContainsFunc_int_int_Valid1 N a0) 192 [.isl 3 1 (a0.map e3),.clo (.func 193) [] []] [] (fun r=>.v (.bool r)) fun r=>[])∧(∀ N (a0:List TEntry),OK (slices_ContainsFunc_api_Entry_api_Entry_Valid1 N a0) 197 [.isl 132 3 (a0.map e132),.clo (.func 198) [] []] [] (fun r=>.v (.bool r)) fun r=>[])∧(∀ N (a0:THeader),OK (header_Size N a0) 122 [.agg (e75 a0)] [] (fun r=>.v (.int .i64 r)) fun r=>[])∧(∀ N (a0:THeader) (a1:Int),OK (header_Pointer N a0 a1) 123 [.agg (e75 a0),.v (.int .i64 a1)] [] (fun r=>.v (.bool r)) fun r=>[])∧(∀ N (a0:List Int) (c0:TWorld),OK (slices_ContainsFunc_uint64_uint64_known1 N a0 c0) 202 [.isl 37 1 (a0.map e37),.clo (.func 203) [] [.ept 1000000 0 10 0 0]] [.arr true 61 10 [[.v (.int .i64 c0.Conf.PageWords),.v (.int .i64 c0.Conf.Pages),.isl 77 4 (c0.Things.map e77),.isl 210 3 (c0.Locals.Slots.map e210),.isl 159 3 (c0.Locals.Scopes.map e159),.isl 3 1 (c0.Locals.Issued.map e3),.isl 132 3 (c0.Globals.Entries.map e132),.isl 132 3 (c0.Weaks.Entries.map e132),.isl 116 3 (c0.Marks.map e116),.isl 37 1 (c0.Roots.map e37)]] 0] (fun r=>.v (.bool r)) fun r=>[.arr true 61 10 [[.v (.int .i64 c0.Conf.PageWords),.v (.int .i64 c0.Conf.Pages),.isl 77 4 (c0.Things.map e77),.isl 210 3 (c0.Locals.Slots.map e210),.isl 159 3 (c0.Locals.Scopes.map e159),.isl 3 1 (c0.Locals.Issued.map e3),.isl 132 3 (c0.Globals.Entries.map e132),.isl 132 3 (c0.Weaks.Entries.map e132),.isl 116 3 (c0.Marks.map e116),.isl 37 1 (c0.Roots.map e37)]] 0])∧(∀ N (a0:TWorld) (a1:Int),OK (rules_World_mark N a0 a1) 166 [.agg (e61 a0),.v (.int .u64 a1)] [] (fun r=>.v (.int .i64 r)) fun r=>[])∧(∀ N (a0:TConf) (a1:Int),OK (page_Need N a0 a1) 261 [.agg (e23 a0),.v (.int .i64 a1)] [] (fun r=>.v (.int .i64 r)) fun r=>[])∧(∀ N (a0:Int),OK (handle_Decode N a0) 167 [.v (.int .u64 a0)] [] (fun r=>.tup [.agg (e193 r.1),.v (.int .i64 r.2)]) fun r=>[]):=by
 refine ⟨fun N _=>rn Tryz.f76 [.cell 2 45,.tmp 3] [] 14 (by kernel_rfl) ?_,fun N _=>rn Tryz.f192 [.tmp 4] [] 9 (by kernel_rfl) ?_,fun N _=>rn Tryz.f197 [.tmp 4] [] 9 (by kernel_rfl) ?_,fun N _=>rn Tryz.f122 [.tmp 2] [] 9 (by kernel_rfl) ?_,fun N _ _=>rn Tryz.f123 [.tmp 4] [] 34 (by kernel_rfl) ?_,fun N _ _=>rn Tryz.f202 [.tmp 4] [] 9 (by kernel_rfl) ?_,fun N _ _=>rn Tryz.f166 [.tmp 4] [] 9 (by kernel_rfl) ?_,fun N _ _=>rn Tryz.f261 [.tmp 4] [] 33 (by kernel_rfl) ?_,fun N _=>rn Tryz.f167 [.cell 2 193,.tmp 3] [] 37 (by kernel_rfl) ?_⟩<;>(rintro _ hw r hr C _ rfl hwf hf;have hgw:=hw;unfold GW at hgw;simp only[Tryz.f76,Tryz.f192,Tryz.f197,Tryz.f122,Tryz.f123,Tryz.f202,Tryz.f166,Tryz.f261,Tryz.f167,Option.get!];(first|rw[ref18_New] at hr|rw[slices_ContainsFunc_int_int_Valid1] at hr|rw[slices_ContainsFunc_api_Entry_api_Entry_Valid1] at hr|rw[header_Size] at hr|rw[header_Pointer] at hr|rw[slices_ContainsFunc_uint64_uint64_known1] at hr|rw[rules_World_mark] at hr|rw[page_Need] at hr|rw[handle_Decode] at hr);repeat' first
 |(refine El.el hr ?_;intro hr)
 |(with_reducible intro h;refine bc_e hr h ?_;intro hr)
 |with_reducible intro _
 |simp only[go_sem,simprocAttr,wI_n,hl37,hgw,List.length_take,List.length_drop,Nat.min_self]
 |(with_reducible first|apply guard_of_f|apply guard_of_t|apply cond_of|apply doT_of_t|apply doT_of_f)
 |((first|with_reducible refine idx_s hr (by assumption) ?_ ?_|(with_reducible refine idx_e hr ?_ ?_;rotate_left;intro p;rotate_right));(·simp only[go_sem,simprocAttr,hgw,List.length_take,List.length_drop,Nat.min_self]);intro hp hn hd hr;(try have hl37:=hd _ e37);(try simp only[go_sem,simprocAttr] at hl37))
 |(refine and_of' ?_ ?_;·first|assumption|omega)
 |(with_reducible refine idl_e hr ?_ ?_;(·simp only[go_sem]);intro p hp hn hd hr;(try have hl37:=hd _ e37);(try simp only[go_sem,simprocAttr] at hl37))
 |with_reducible refine CallX.c ?_ _
 |with_reducible refine OK.c hr hw ?_ (fun y hr=>?_) _
 |with_reducible refine LoopG.u 6 ?_ _
 |with_reducible refine LoopU.s 1000 ?_ _
 |refine db 167 6 hf [([],[],[6,23,24,25,26,27,28,29,30],[384]),([0],[],[6,23,24,25,26,27,28,29,30],[384]),([0,1],[],[6,23,24,25,26,27,28,29,30],[384]),([0,1,2],[],[6,23,24,25,26,27,28,29,30],[384]),([],[],[6,19,20,21,22,27,28,29,30],[384]),([4],[],[6,19,20,21,22,27,28,29,30],[384]),([4,5],[],[6,19,20,21,22,27,28,29,30],[384]),([4,5,6],[],[6,19,20,21,22,27,28,29,30],[384]),([],[],[6,19,20,21,22,23,24,25,26],[384]),([8],[],[6,19,20,21,22,23,24,25,26],[384]),([8,9],[],[6,19,20,21,22,23,24,25,26],[384]),([8,9,10],[],[6,19,20,21,22,23,24,25,26],[384]),([0,1,2,3,4,5,6,7,8,9,10,11],[],[6],[384]),([],[384],[19,20,21,22,23,24,25,26,27,28,29,30,31],[]),([0,1,2,3,4,5,6,7,8,9,10,11,12,13],[384],[],[])] rfl rfl (by kernel_rfl) ?_ _
 |(refine some_e hr ?_;rintro rfl;with_reducible refine ret_k ?_)
 |exact no_e hr
 |fail)
@[reducible,instance] def ref18_New_i:=g7.1
@[reducible,instance] def slices_ContainsFunc_int_int_Valid1_i:=g7.2.1
@[reducible,instance] def slices_ContainsFunc_api_Entry_api_Entry_Valid1_i:=g7.2.2.1
@[reducible,instance] def header_Size_i:=g7.2.2.2.1
@[reducible,instance] def header_Pointer_i:=g7.2.2.2.2.1
@[reducible,instance] def slices_ContainsFunc_uint64_uint64_known1_i:=g7.2.2.2.2.2.1
@[reducible,instance] def rules_World_mark_i:=g7.2.2.2.2.2.2.1
@[reducible,instance] def page_Need_i:=g7.2.2.2.2.2.2.2.1
@[reducible,instance] def handle_Decode_i:=g7.2.2.2.2.2.2.2.2
abbrev I_worlds_Copy_l1:=fun N (a0:TWorld) (y1:List TThing) (Q:(List TThing)→Prop) n (st:St)=>∃ (v2:Int) (v3:List TThing) (ex:_),worlds_Copy_l1 N a0 y1 n v2 v3=some ex∧Q ex∧((∃ w448 w64 w128,st.n=47∧st.s 448=some (w448,.arr false 77 4 (v3.map e77) 0)∧st.t 1=.ept 64 w64 10 0 0∧st.t 2=.ept 128 w128 10 0 0∧st.t 10=.osl 448 w448 4 0 v3.length∧st.t 11=.v (.int .i64 ((y1.length:Nat):Int))∧st.t 12=.v (.int .i64 v2)∧st.s 64=some (w64,.arr true 61 10 [[.v (.int .i64 a0.Conf.PageWords),.v (.int .i64 a0.Conf.Pages),.osl 448 w448 4 0 v3.length,.isl 210 3 (a0.Locals.Slots.map e210),.isl 159 3 (a0.Locals.Scopes.map e159),.isl 3 1 (a0.Locals.Issued.map e3),.isl 132 3 (a0.Globals.Entries.map e132),.isl 132 3 (a0.Weaks.Entries.map e132),.isl 116 3 (a0.Marks.map e116),.isl 37 1 (a0.Roots.map e37)]] 0)∧st.s 128=some (w128,.arr true 61 10 [[.v (.int .i64 0),.v (.int .i64 0),.nsl,.nsl,.nsl,.nsl,.nsl,.nsl,.nsl,.nsl]] 0)))
abbrev I_bits_Pack_l1:=fun N (a0:List TField) (Q:(Ex (Int × Int) Unit)→Prop) n (st:St)=>∃ (v1:Int) (v2:Int) (ex:_),bits_Pack_l1 N a0 n v1 v2=some ex∧Q ex∧((st.n=55∧st.t 0=.isl 291 2 (a0.map e291)∧st.t 4=.v (.int .i64 v1)∧st.t 11=.isl 291 2 (a0.map e291)∧st.t 12=.v (.int .i64 ((a0.length:Nat):Int))∧st.t 13=.v (.int .i64 v2)))
abbrev I_bits_Pack_l2:=fun N (a0:List TField) (Q:(Ex (Int × Int) Int)→Prop) n (st:St)=>∃ (v5:Int) (v6:Int) (v7:Int) (ex:_),bits_Pack_l2 N a0 n v5 v6 v7=some ex∧Q ex∧((st.n=55∧st.t 7=.v (.int .u64 v5)∧st.t 8=.v (.int .i64 v6)∧st.t 31=.isl 291 2 (a0.map e291)∧st.t 32=.v (.int .i64 ((a0.length:Nat):Int))∧st.t 33=.v (.int .i64 v7)))
theorem g8:(∀ N (a0:TWorld),OK (worlds_Copy N a0) 41 [.agg (e61 a0)] [] (fun r=>.agg [.v (.int .i64 r.Conf.PageWords),.v (.int .i64 r.Conf.Pages),.fsl 77 4 (r.Things.map e77),.isl 210 3 (r.Locals.Slots.map e210),.isl 159 3 (r.Locals.Scopes.map e159),.isl 3 1 (r.Locals.Issued.map e3),.isl 132 3 (r.Globals.Entries.map e132),.isl 132 3 (r.Weaks.Entries.map e132),.isl 116 3 (r.Marks.map e116),.isl 37 1 (r.Roots.map e37)]) fun r=>[])∧(∀ N (a0:List TField),OK (bits_Pack N a0) 230 [.isl 291 2 (a0.map e291)] [] (fun r=>.tup [.v (.int .u64 r.1),.v (.int .i64 r.2)]) fun r=>[]):=by
 refine ⟨fun N _=>rn Tryz.f41 [.cell 2 61] [448] 47 (by kernel_rfl) ?_,fun N _=>rn Tryz.f230 [.tmp 2,.tmp 3] [] 55 (by kernel_rfl) ?_⟩<;>(rintro _ hw r hr C _ rfl hwf hf;simp only[Tryz.f41,Tryz.f230,Option.get!];(first|rw[worlds_Copy] at hr|rw[bits_Pack] at hr);repeat' first
 |(refine El.el hr ?_;intro hr)
 |(with_reducible intro h;refine bc_e hr h ?_;intro hr)
 |with_reducible intro _
 |(refine some_e hr ?_;rintro rfl;have hr:=hk;clear hk)
 |simp only[go_sem,simprocAttr,E,hl77,hl291]
 |(with_reducible first|apply guard_of_f|apply guard_of_t|apply cond_of|apply doT_of_t|apply doT_of_f)
 |((first|with_reducible refine idx_s hr (by assumption) ?_ ?_|(with_reducible refine idx_e hr ?_ ?_;rotate_left;intro p;rotate_right));(·simp only[go_sem,simprocAttr]);intro hp hn hd hr;(try have hl77:=hd _ e77);(try simp only[go_sem,simprocAttr] at hl77);(try have hl291:=hd _ e291);(try simp only[go_sem,simprocAttr] at hl291))
 |(refine and_of' ?_ ?_;·first|assumption|omega)
 |with_reducible refine CallX.c ?_ _
 |with_reducible refine OK.c hr hw ?_ (fun y hr=>?_) _
 |with_reducible refine OK.d hr hw ?_ (fun y hr=>?_) _
 |(with_reducible refine loop_e (I:=I_worlds_Copy_l1 N _ _) hr 1000 N (fun ex hq hk=>⟨_,_,ex,hq,hk,?_⟩) ?_ _;rotate_left;clear hr;(try clear E);rintro n1 st ⟨v2,v3,ex,hr,hk,⟨_,_,_,E⟩⟩<;>(obtain _|n1:=n1<;>rw[worlds_Copy_l1] at hr))
 |refine ⟨_,Nat.lt_succ_self _,_,_,_,hr,hk,?_⟩
 |(with_reducible refine loop_e (I:=I_bits_Pack_l1 N _) hr 1000 N (fun ex hq hk=>⟨_,_,ex,hq,hk,?_⟩) ?_ _;rotate_left;clear hr;(try clear E);rintro n1 st ⟨v1,v2,ex,hr,hk,E⟩<;>(obtain _|n1:=n1<;>rw[bits_Pack_l1] at hr))
 |(with_reducible refine loop_e (I:=I_bits_Pack_l2 N _) hr 1000 N (fun ex hq hk=>⟨_,_,_,ex,hq,hk,?_⟩) ?_ _;rotate_left;clear hr;(try clear E);rintro n2 st ⟨v5,v6,v7,ex,hr,hk,E⟩<;>(obtain _|n2:=n2<;>rw[bits_Pack_l2] at hr))
 |refine ⟨_,Nat.lt_succ_self _,_,_,_,_,hr,hk,?_⟩
 |refine db 41 5 hf [([],[],[19,20,21,22],[1408]),([0],[],[19,20,21,22],[1408]),([],[],[17,18,20,21,22],[1408]),([],[],[17,18,19],[]),([3],[],[17,18,19],[]),([3,4],[1408],[17,18,19],[]),([0,1,2,3,4,5],[],[],[]),([0,1,2,3,4,5,6],[],[],[]),([0,1,2,3,4,5,6,7],[448,1408],[],[])] rfl rfl (by kernel_rfl) ?_ _
 |refine db 41 7 hf [([],[],[29,30,32,33],[]),([0],[],[29,30,32,33],[]),([0,1],[],[29,30,32,33],[]),([],[],[26,27,28,32,33],[]),([3],[],[26,27,28,32,33],[]),([0,1,2,3,4],[],[32,33,35],[]),([],[],[26,27,28,29,30,31],[]),([6],[],[26,27,28,29,30,31],[]),([0,1,2,3,4,5,6,7],[],[35],[]),([0,1,2,3,4,6,7],[],[31,34],[]),([0,1,2,3,4,5,6,7,8,9],[64],[],[]),([0,1,2,3,4,5,6,7,8,9,10],[],[],[]),([0,1,2,3,4,5,6,7,8,9,10,11],[64],[],[]),([0,1,2,3,4,5,6,7,8,9,10,11,12],[],[],[]),([0,1,2,3,4,5,6,7,8,9,10,11,12,13],[64],[],[])] rfl rfl (by kernel_rfl) ?_ _
 |refine db 41 8 hf [([],[],[41,42],[]),([0],[],[41,42],[]),([0,1],[2560],[41,42],[]),([],[],[38,39,40],[2560]),([3],[],[38,39,40],[2560]),([0,1,2,3,4],[2752],[44],[]),([0,1,2,3,4],[],[43],[2752]),([0,1,2,3,4,5,6],[64],[],[]),([0,1,2,3,4,5,6,7],[],[],[]),([0,1,2,3,4,5,6,7,8],[64],[],[])] rfl rfl (by kernel_rfl) ?_ _
 |(refine some_e hr ?_;rintro rfl;with_reducible refine ret_k ?_)
 |exact no_e hr
 |((first|refine bc_e (c:=true) hr rfl ?_|refine bc_e (c:=false) hr rfl ?_|refine bc_e hr (by assumption) ?_);intro hr)
 |fail)
@[reducible,instance] def worlds_Copy_i:=g8.1
@[reducible,instance] def bits_Pack_i:=g8.2
end Go.Sx
