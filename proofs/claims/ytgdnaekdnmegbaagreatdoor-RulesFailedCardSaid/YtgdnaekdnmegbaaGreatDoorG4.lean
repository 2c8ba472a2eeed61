import Derived.Test.YtgdnaekdnmegbaaGreatDoorF
import Derived.Test.YtgdnaekdnmegbaaGreatDoorG0
import Derived.Test.YtgdnaekdnmegbaaGreatDoorG1
import Derived.Test.YtgdnaekdnmegbaaGreatDoorG2
set_option linter.all false
namespace Go.Sx
open Go.Proofs
set_option maxRecDepth 10000
set_option maxHeartbeats 100000000
theorem g7:(∀ N (a0:TPair) (a1:TTape),OK (made_Pair_word N a0 a1) 26 [.agg (e45 a0),.ept 1000000 0 2 0 0] [.arr true 49 2 [[.isl 3 1 (a1.L.map e3),.v (.int .i64 a1.at_)]] 0] (fun r=>.v (.int .u64 r.1)) fun r=>[.arr true 49 2 [[.isl 3 1 (r.2.L.map e3),.v (.int .i64 r.2.at_)]] 0])∧(∀ N (a0:TConf),OK (ref21_New N a0) 64 [.agg (e23 a0)] [] (fun r=>.tup [.agg (e36 r.1),.v (.int .i64 r.2)]) fun r=>[])∧(∀ N (a0:List Int) (a1:Int),OK (ref02_Index N a0 a1) 230 [.isl 37 1 (a0.map e37),.v (.int .u64 a1)] [] (fun r=>.tup [.v (.int .i64 r.1),.v (.int .i64 r.2)]) fun r=>[])∧(∀ N (a0:TConf) (a1:Int) (a2:Int),OK (ref04_Address N a0 a1 a2) 248 [.agg (e23 a0),.v (.int .i64 a1),.v (.int .i64 a2)] [] (fun r=>.tup [.v (.int .u64 r.1),.v (.int .i64 r.2)]) fun r=>[])∧(∀ N (a0:TWork) (a1:Int),OK (ref10_Promoted N a0 a1) 206 [.agg (e227 a0),.v (.int .i64 a1)] [] (fun r=>.v (.bool r)) fun r=>[])∧(∀ N (a0:THandle),OK (ref16_Encode N a0) 121 [.agg (e122 a0)] [] (fun r=>.tup [.v (.int .u64 r.1),.v (.int .i64 r.2)]) fun r=>[])∧(∀ N (a0:TWorld) (a1:TTape),OK (made_Twist N a0 a1) 27 [.agg (e36 a0),.ept 1000000 0 2 0 0] [.arr true 49 2 [[.isl 3 1 (a1.L.map e3),.v (.int .i64 a1.at_)]] 0] (fun r=>.agg (e36 r.1)) fun r=>[.arr true 49 2 [[.isl 3 1 (r.2.L.map e3),.v (.int .i64 r.2.at_)]] 0])∧(∀ N (a0:THandle),OK (handle_Valid N a0) 161 [.agg (e122 a0)] [] (fun r=>.v (.bool r)) fun r=>[])∧(∀ N (a0:TTable),OK (slots_clone N a0) 191 [.agg (e32 a0)] [] (fun r=>.agg [.fsl 148 3 (r.Entries.map e148)]) fun r=>[]):=by
 refine ⟨fun N _ _=>rn Tryz.f26 [.tmp 4] [] 53 (by kernel_rfl) ?_,fun N _=>rn Tryz.f64 [.cell 2 36,.tmp 3] [] 10 (by kernel_rfl) ?_,fun N _ _=>rn Tryz.f230 [.tmp 4,.tmp 5] [] 17 (by kernel_rfl) ?_,fun N _ _ _=>rn Tryz.f248 [.tmp 6,.tmp 7] [] 37 (by kernel_rfl) ?_,fun N _ _=>rn Tryz.f206 [.tmp 4] [] 39 (by kernel_rfl) ?_,fun N _=>rn Tryz.f121 [.tmp 2,.tmp 3] [] 20 (by kernel_rfl) ?_,fun N _ _=>rn Tryz.f27 [.cell 4 36] [] 97 (by kernel_rfl) ?_,fun N _=>rn Tryz.f161 [.tmp 2] [] 37 (by kernel_rfl) ?_,fun N _=>rn Tryz.f191 [.cell 2 32] [320] 7 (by kernel_rfl) ?_⟩<;>(rintro _ hw r hr C rfl hwf hf;have hgw:=hw;unfold GW at hgw;simp only[Tryz.f26,Tryz.f64,Tryz.f230,Tryz.f248,Tryz.f206,Tryz.f121,Tryz.f27,Tryz.f161,Tryz.f191,Option.get!];(first|rw[made_Pair_word] at hr|rw[ref21_New] at hr|rw[ref02_Index] at hr|rw[ref04_Address] at hr|rw[ref10_Promoted] at hr|rw[ref16_Encode] at hr|rw[made_Twist] at hr|rw[handle_Valid] at hr|rw[slots_clone] at hr);repeat' first
 |(refine El.el hr ?_;intro hr)
 |(with_reducible intro h;refine bc_e hr h ?_;intro hr)
 |with_reducible intro _
 |simp only[go_sem,simprocAttr,hl37,hl99,hl260,hgw,List.length_take,List.length_drop,Nat.min_self]
 |(with_reducible first|apply guard_of_f|apply guard_of_t|apply cond_of|apply doT_of_t|apply doT_of_f)
 |((first|with_reducible refine idx_s hr (by assumption) ?_ ?_|(with_reducible refine idx_e hr ?_ ?_;rotate_left;intro p;rotate_right));(·simp only[go_sem,simprocAttr,hgw,List.length_take,List.length_drop,Nat.min_self]);intro hp hn hd hr;(try have hl37:=hd _ e37);(try simp only[go_sem,simprocAttr] at hl37);(try have hl99:=hd _ e99);(try simp only[go_sem,simprocAttr] at hl99);(try have hl260:=hd _ e260);(try simp only[go_sem,simprocAttr] at hl260))
 |(refine and_of' ?_ ?_;·first|assumption|omega)
 |(with_reducible refine idl_e hr ?_ ?_;(·simp only[go_sem]);intro p hp hn hd hr;(try have hl37:=hd _ e37);(try simp only[go_sem,simprocAttr] at hl37);(try have hl99:=hd _ e99);(try simp only[go_sem,simprocAttr] at hl99);(try have hl260:=hd _ e260);(try simp only[go_sem,simprocAttr] at hl260))
 |with_reducible refine OK.c hr hw ?_ (fun y hr=>?_) _
 |with_reducible refine OK.d hr hw ?_ (fun y hr=>?_) _
 |refine db 26 6 hf [([],[],[22,23,24,27,28,29],[1000000]),([0],[],[22,23,24,27,28,29],[1000000]),([],[],[20,21,23,27],[]),([],[],[20,21,22,27],[]),([2,3],[1000000],[20,21,27],[]),([0,1,2,3,4],[],[27,28,29],[1000000]),([0,1,2,3,4,5],[],[27,28,29],[1000000]),([],[],[20,21,22,23,24,25,26],[1000000]),([2,3,4,7],[1000000],[20,21,25,26],[]),([2,3,4,7,8],[],[20,21,25,26],[]),([0,1,2,3,4,5,6,7,8,9],[],[],[]),([0,1,2,3,4,5,6,7,8,9,10],[],[],[])] rfl rfl (by kernel_rfl) ?_ _
 |refine db 26 10 hf [([],[],[37,38,39],[1000000]),([0],[],[37,38,39],[1000000]),([],[],[35,36,38],[]),([],[],[35,36,37],[]),([2,3],[1000000],[35,36],[]),([0,1,2,3,4],[],[],[]),([0,1,2,3,4,5],[],[],[]),([0,1,2,3,4,5,6],[],[],[])] rfl rfl (by kernel_rfl) ?_ _
 |refine db 26 11 hf [([],[],[44,45,46,47,48,49,50],[1000000]),([0],[],[44,45,46,47,48,49,50],[1000000]),([],[],[42,43,46,47,48,49],[1000000]),([2],[],[42,43,46,47,48,49],[1000000]),([],[],[42,43,44,45,47,48],[]),([],[],[42,43,44,45,46],[]),([5],[],[42,43,44,45,46],[]),([4,5,6],[1000000],[42,43,44,45],[]),([2,3,4,5,6,7],[],[42,43],[]),([0,1,2,3,4,5,6,7,8],[],[],[]),([0,1,2,3,4,5,6,7,8,9],[],[],[]),([0,1,2,3,4,5,6,7,8,9,10],[],[],[])] rfl rfl (by kernel_rfl) ?_ _
 |refine db 27 12 hf [([],[],[50,51,52],[1000000]),([0],[],[50,51,52],[1000000]),([],[],[48,49,51,52],[1000000]),([],[],[48,49,50],[]),([3],[1000000],[48,49,50],[]),([0,1,2,3,4],[],[],[]),([0,1,2,3,4,5],[],[],[]),([0,1,2,3,4,5,6],[],[],[]),([0,1,2,3,4,5,6,7],[2560],[],[])] rfl rfl (by kernel_rfl) ?_ _
 |refine db 161 3 hf [([],[],[24,25,26],[]),([0],[],[24,25,26],[]),([0,1],[],[24,25,26],[]),([],[],[21,22,23],[]),([3],[],[21,22,23],[]),([3,4],[],[21,22,23],[]),([0,1,2,3,4,5],[],[],[]),([0,1,2,3,4,5,6],[],[],[]),([0,1,2,3,4,5,6,7],[],[32,33,34],[]),([0,1,2,3,4,5,6,7,8],[],[32,33,34],[]),([0,1,2,3,4,5,6,7,8,9],[],[32,33,34],[]),([0,1,2,3,4,5,6,7],[],[29,30,31],[]),([0,1,2,3,4,5,6,7,11],[],[29,30,31],[]),([0,1,2,3,4,5,6,7,11,12],[],[29,30,31],[]),([0,1,2,3,4,5,6,7,8,9,10,11,12,13],[],[],[]),([0,1,2,3,4,5,6,7,8,9,10,11,12,13,14],[],[],[]),([0,1,2,3,4,5,6,7,8,9,10,11,12,13,14,15],[],[],[])] rfl rfl (by kernel_rfl) ?_ _
 |(refine some_e hr ?_;rintro rfl;with_reducible refine ret_k ?_)
 |exact no_e hr
 |fail)
@[reducible,instance] def made_Pair_word_i:=g7.1
@[reducible,instance] def ref21_New_i:=g7.2.1
@[reducible,instance] def ref02_Index_i:=g7.2.2.1
@[reducible,instance] def ref04_Address_i:=g7.2.2.2.1
@[reducible,instance] def ref10_Promoted_i:=g7.2.2.2.2.1
@[reducible,instance] def ref16_Encode_i:=g7.2.2.2.2.2.1
@[reducible,instance] def made_Twist_i:=g7.2.2.2.2.2.2.1
@[reducible,instance] def handle_Valid_i:=g7.2.2.2.2.2.2.2.1
@[reducible,instance] def slots_clone_i:=g7.2.2.2.2.2.2.2.2
abbrev I_ref15_Refs_l1:=fun N (a0:TTable) (Q:(List Int)→Prop) n (st:St)=>∃ (v1:Int) (v2:List Int) (ex:_),ref15_Refs_l1 N a0 n v1 v2=some ex∧Q ex∧((∃ w1920 w64,st.n=32∧st.s 1920=some (w1920,.arr false 37 1 (v2.map e37) 0)∧st.t 1=.ept 64 w64 1 0 0∧st.t 3=.osl 1920 w1920 1 0 v2.length∧st.t 4=.v (.int .i64 v1)∧st.s 64=some (w64,.arr true 32 1 [[.isl 148 3 (a0.Entries.map e148)]] 0))∨(∃ w64,(st.n=32∧st.t 1=.ept 64 w64 1 0 0∧st.t 3=.nsl∧st.t 4=.v (.int .i64 v1)∧st.s 64=some (w64,.arr true 32 1 [[.isl 148 3 (a0.Entries.map e148)]] 0))∧v2=[]))
abbrev I_ref02_Write_l1:=fun N (a2:List Int) (y1:Int × Bool) (Q:(List Int)→Prop) n (st:St)=>∃ (v2:Int) (v3:List Int) (ex:_),ref02_Write_l1 N a2 y1 n v2 v3=some ex∧Q ex∧((∃ w1408,st.n=41∧st.s 1408=some (w1408,.arr false 37 1 (v3.map e37) 0)∧st.t 2=.isl 37 1 (a2.map e37)∧st.t 8=.v (.int .i64 y1.1)∧st.t 10=.osl 1408 w1408 1 0 v3.length∧st.t 11=.v (.int .i64 v2)))
abbrev I_ref15_New_l1:=fun N (a0:TTable) (a1:Int) (Q:(Ex (TTable × Int × Int × Int) Unit)→Prop) n (st:St)=>∃ (v2:Int) (ex:_),ref15_New_l1 N a0 a1 n v2=some ex∧Q ex∧((∃ w896 w256,st.n=69∧st.s 896=some (w896,.arr false 148 3 (a0.Entries.map e148) 0)∧st.t 1=.v (.int .u64 a1)∧st.t 4=.ept 256 w256 1 0 0∧st.t 8=.osl 896 w896 3 0 a0.Entries.length∧st.t 9=.v (.int .i64 v2)∧st.s 256=some (w256,.arr true 32 1 [[.nsl]] 0)))
abbrev I_slices_IndexFunc_int_int_Valid1_l1:=fun N (a0:List Int) (Q:(Ex Int Unit)→Prop) n (st:St)=>∃ (v1:Int) (ex:_),slices_IndexFunc_int_int_Valid1_l1 N a0 n v1=some ex∧Q ex∧((st.n=19∧st.t 0=.isl 3 1 (a0.map e3)∧st.t 1=.clo (.func 103) [] []∧st.t 7=.v (.int .i64 ((a0.length:Nat):Int))∧st.t 8=.v (.int .i64 v1)))
abbrev I_slices_IndexFunc_uint64_uint64_known1_l1:=fun N (a0:List Int) (c0:TWorld) (Q:(Ex Int Unit)→Prop) n (st:St)=>∃ (v1:Int) (ex:_),slices_IndexFunc_uint64_uint64_known1_l1 N a0 c0 n v1=some ex∧Q ex∧((st.n=19∧st.t 0=.isl 37 1 (a0.map e37)∧st.t 1=.clo (.func 114) [] [.ept 1000000 0 10 0 0]∧st.t 7=.v (.int .i64 ((a0.length:Nat):Int))∧st.t 8=.v (.int .i64 v1)∧st.s 1000000=some (0,.arr true 61 10 [[.v (.int .i64 c0.Conf.PageWords),.v (.int .i64 c0.Conf.Pages),.isl 100 4 (c0.Things.map e100),.isl 179 3 (c0.Locals.Slots.map e179),.isl 134 3 (c0.Locals.Scopes.map e134),.isl 3 1 (c0.Locals.Issued.map e3),.isl 148 3 (c0.Globals.Entries.map e148),.isl 148 3 (c0.Weaks.Entries.map e148),.isl 101 3 (c0.Marks.map e101),.isl 37 1 (c0.Roots.map e37)]] 0)))
abbrev I_slices_IndexFunc_rules_Mark_rules_Mark_mark1_l1:=fun N (a0:List TMark) (c0:Int) (Q:(Ex Int Unit)→Prop) n (st:St)=>∃ (v1:Int) (ex:_),slices_IndexFunc_rules_Mark_rules_Mark_mark1_l1 N a0 c0 n v1=some ex∧Q ex∧((st.n=19∧st.t 0=.isl 101 3 (a0.map e101)∧st.t 1=.clo (.func 148) [] [.ept 1000000 0 1 0 0]∧st.t 7=.v (.int .i64 ((a0.length:Nat):Int))∧st.t 8=.v (.int .i64 v1)∧st.s 1000000=some (0,.arr true 37 1 [[.v (.int .u64 c0)]] 0)))
theorem g10:(∀ N (a0:TTable),OK (ref15_Refs N a0) 53 [.agg (e32 a0)] [] (fun r=>.fsl 37 1 (r.map e37)) fun r=>[])∧(∀ N (a0:List Int) (a1:Int) (a2:List Int),OK (ref02_Write N a0 a1 a2) 209 [.isl 37 1 (a0.map e37),.v (.int .u64 a1),.isl 37 1 (a2.map e37)] [] (fun r=>.tup [.isl 37 1 (r.1.map e37),.v (.int .i64 r.2)]) fun r=>[])∧(∀ N (a0:TTable) (a1:Int),OK (ref15_New N a0 a1) 99 [.agg (e32 a0),.v (.int .u64 a1)] [] (fun r=>.tup [.agg (e32 r.1),.v (.int .i64 r.2.1),.v (.int .i64 r.2.2.1),.v (.int .i64 r.2.2.2)]) fun r=>[])∧(∀ N (a0:List Int),OK (slices_IndexFunc_int_int_Valid1 N a0) 154 [.isl 3 1 (a0.map e3),.clo (.func 103) [] []] [] (fun r=>.v (.int .i64 r)) fun r=>[])∧(∀ N (a0:List Int) (c0:TWorld),OK (slices_IndexFunc_uint64_uint64_known1 N a0 c0) 159 [.isl 37 1 (a0.map e37),.clo (.func 114) [] [.ept 1000000 0 10 0 0]] [.arr true 61 10 [[.v (.int .i64 c0.Conf.PageWords),.v (.int .i64 c0.Conf.Pages),.isl 100 4 (c0.Things.map e100),.isl 179 3 (c0.Locals.Slots.map e179),.isl 134 3 (c0.Locals.Scopes.map e134),.isl 3 1 (c0.Locals.Issued.map e3),.isl 148 3 (c0.Globals.Entries.map e148),.isl 148 3 (c0.Weaks.Entries.map e148),.isl 101 3 (c0.Marks.map e101),.isl 37 1 (c0.Roots.map e37)]] 0] (fun r=>.v (.int .i64 r)) fun r=>[.arr true 61 10 [[.v (.int .i64 c0.Conf.PageWords),.v (.int .i64 c0.Conf.Pages),.isl 100 4 (c0.Things.map e100),.isl 179 3 (c0.Locals.Slots.map e179),.isl 134 3 (c0.Locals.Scopes.map e134),.isl 3 1 (c0.Locals.Issued.map e3),.isl 148 3 (c0.Globals.Entries.map e148),.isl 148 3 (c0.Weaks.Entries.map e148),.isl 101 3 (c0.Marks.map e101),.isl 37 1 (c0.Roots.map e37)]] 0])∧(∀ N (a0:List TMark) (c0:Int),OK (slices_IndexFunc_rules_Mark_rules_Mark_mark1 N a0 c0) 147 [.isl 101 3 (a0.map e101),.clo (.func 148) [] [.ept 1000000 0 1 0 0]] [.arr true 37 1 [[.v (.int .u64 c0)]] 0] (fun r=>.v (.int .i64 r)) fun r=>[.arr true 37 1 [[.v (.int .u64 c0)]] 0]):=by
 refine ⟨fun N _=>rn Tryz.f53 [.tmp 2] [1920] 32 (by kernel_rfl) ?_,fun N _ _ _=>rn Tryz.f209 [.tmp 6,.tmp 7] [] 41 (by kernel_rfl) ?_,fun N _ _=>rn Tryz.f99 [.cell 4 32,.tmp 5,.tmp 6,.tmp 7] [] 69 (by kernel_rfl) ?_,fun N _=>rn Tryz.f154 [.tmp 4] [] 19 (by kernel_rfl) ?_,fun N _ _=>rn Tryz.f159 [.tmp 4] [] 19 (by kernel_rfl) ?_,fun N _ _=>rn Tryz.f147 [.tmp 4] [] 19 (by kernel_rfl) ?_⟩<;>(rintro _ hw r hr C rfl hwf hf;simp only[Tryz.f53,Tryz.f209,Tryz.f99,Tryz.f154,Tryz.f159,Tryz.f147,Option.get!];(first|rw[ref15_Refs] at hr|rw[ref02_Write] at hr|rw[ref15_New] at hr|rw[slices_IndexFunc_int_int_Valid1] at hr|rw[slices_IndexFunc_uint64_uint64_known1] at hr|rw[slices_IndexFunc_rules_Mark_rules_Mark_mark1] at hr);repeat' first
 |(refine El.el hr ?_;intro hr)
 |(with_reducible intro h;refine bc_e hr h ?_;intro hr)
 |with_reducible intro _
 |(refine some_e hr ?_;rintro rfl;have hr:=hk;clear hk)
 |simp only[go_sem,simprocAttr,E,hl3,hl37,hl101,hl148]
 |(with_reducible first|apply guard_of_f|apply guard_of_t|apply cond_of|apply doT_of_t|apply doT_of_f)
 |((first|with_reducible refine idx_s hr (by assumption) ?_ ?_|(with_reducible refine idx_e hr ?_ ?_;rotate_left;intro p;rotate_right));(·simp only[go_sem,simprocAttr]);intro hp hn hd hr;(try have hl3:=hd _ e3);(try simp only[go_sem,simprocAttr] at hl3);(try have hl37:=hd _ e37);(try simp only[go_sem,simprocAttr] at hl37);(try have hl101:=hd _ e101);(try simp only[go_sem,simprocAttr] at hl101);(try have hl148:=hd _ e148);(try simp only[go_sem,simprocAttr] at hl148))
 |(refine and_of' ?_ ?_;·first|assumption|omega)
 |with_reducible refine OK.c hr hw ?_ (fun y hr=>?_) _
 |(with_reducible refine loop_e (I:=I_ref15_Refs_l1 N _) hr 1000 N (fun ex hq hk=>⟨_,_,ex,hq,hk,?_⟩) ?_ _;rotate_left;clear hr;(try clear E);rintro n1 st ⟨v1,v2,ex,hr,hk,(⟨_,_,E⟩|⟨_,E,z0⟩)⟩<;>(try subst z0)<;>(obtain _|n1:=n1<;>rw[ref15_Refs_l1] at hr))
 |refine ⟨_,Nat.lt_succ_self _,_,_,_,hr,hk,?_⟩
 |(with_reducible refine loop_e (I:=I_ref02_Write_l1 N _ _) hr 1000 N (fun ex hq hk=>⟨_,_,ex,hq,hk,?_⟩) ?_ _;rotate_left;clear hr;(try clear E);rintro n1 st ⟨v2,v3,ex,hr,hk,⟨_,E⟩⟩<;>(obtain _|n1:=n1<;>rw[ref02_Write_l1] at hr))
 |(with_reducible refine loop_e (I:=I_ref15_New_l1 N _ _) hr 1000 N (fun ex hq hk=>⟨_,ex,hq,hk,?_⟩) ?_ _;rotate_left;clear hr;(try clear E);rintro n1 st ⟨v2,ex,hr,hk,⟨_,_,E⟩⟩<;>(obtain _|n1:=n1<;>rw[ref15_New_l1] at hr))
 |refine ⟨_,Nat.lt_succ_self _,_,_,hr,hk,?_⟩
 |(with_reducible refine loop_e (I:=I_slices_IndexFunc_int_int_Valid1_l1 N _) hr 1000 N (fun ex hq hk=>⟨_,ex,hq,hk,?_⟩) ?_ _;rotate_left;clear hr;(try clear E);rintro n1 st ⟨v1,ex,hr,hk,E⟩<;>(obtain _|n1:=n1<;>rw[slices_IndexFunc_int_int_Valid1_l1] at hr))
 |(with_reducible refine loop_e (I:=I_slices_IndexFunc_uint64_uint64_known1_l1 N _ _) hr 1000 N (fun ex hq hk=>⟨_,ex,hq,hk,?_⟩) ?_ _;rotate_left;clear hr;(try clear E);rintro n1 st ⟨v1,ex,hr,hk,E⟩<;>(obtain _|n1:=n1<;>rw[slices_IndexFunc_uint64_uint64_known1_l1] at hr))
 |(with_reducible refine loop_e (I:=I_slices_IndexFunc_rules_Mark_rules_Mark_mark1_l1 N _ _) hr 1000 N (fun ex hq hk=>⟨_,ex,hq,hk,?_⟩) ?_ _;rotate_left;clear hr;(try clear E);rintro n1 st ⟨v1,ex,hr,hk,E⟩<;>(obtain _|n1:=n1<;>rw[slices_IndexFunc_rules_Mark_rules_Mark_mark1_l1] at hr))
 |refine db 99 9 hf [([],[],[51,52,53,54,55,56],[]),([0],[],[51,52,53,54,55,56],[]),([],[],[49,50,52,53,54,55,56],[256]),([],[],[5,49,50,51,53],[256]),([],[],[5,49,50,51,52],[256]),([3,4],[],[5,49,50,51],[256]),([3,4,5],[],[5,49,50,51],[256]),([3,4,5,6],[],[5,49,50,51],[256]),([0,1],[256],[51,52,53,54,55,56],[]),([0,1,2,8],[],[52,53,54,55,56],[]),([0,1,2,3,4,5,6,7,8,9],[],[],[]),([0,1,2,3,4,5,6,7,8,9,10],[],[],[])] rfl rfl (by kernel_rfl) ?_ _
 |(refine some_e hr ?_;rintro rfl;with_reducible refine ret_k ?_)
 |exact no_e hr
 |((first|refine bc_e (c:=true) hr rfl ?_|refine bc_e (c:=false) hr rfl ?_|refine bc_e hr (by assumption) ?_);intro hr)
 |fail)
@[reducible,instance] def ref15_Refs_i:=g10.1
@[reducible,instance] def ref02_Write_i:=g10.2.1
@[reducible,instance] def ref15_New_i:=g10.2.2.1
@[reducible,instance] def slices_IndexFunc_int_int_Valid1_i:=g10.2.2.2.1
@[reducible,instance] def slices_IndexFunc_uint64_uint64_known1_i:=g10.2.2.2.2.1
@[reducible,instance] def slices_IndexFunc_rules_Mark_rules_Mark_mark1_i:=g10.2.2.2.2.2
theorem g9:(∀ N (a0:TConf),OK (ref04_New N a0) 122 [.agg (e23 a0)] [] (fun r=>.tup [.agg (e40 r.1),.v (.int .i64 r.2)]) fun r=>[])∧(∀ N (a0:THeader),OK (ref03_Size N a0) 150 [.agg (e97 a0)] [] (fun r=>.v (.int .i64 r)) fun r=>[])∧(∀ N (a0:THeader),OK (ref03_Encode N a0) 208 [.agg (e97 a0)] [] (fun r=>.tup [.v (.int .u64 r.1),.v (.int .i64 r.2)]) fun r=>[])∧(∀ N (a0:List Int) (a1:Int) (a2:Int),OK (ref02_Read N a0 a1 a2) 241 [.isl 37 1 (a0.map e37),.v (.int .u64 a1),.v (.int .i64 a2)] [] (fun r=>.tup [.isl 37 1 (r.1.map e37),.v (.int .i64 r.2)]) fun r=>[])∧(∀ N (a0:TConf),OK (ref04_Limit N a0) 242 [.agg (e23 a0)] [] (fun r=>.v (.int .i64 r)) fun r=>[])∧(∀ N (a0:TWorld) (a1:Int),OK (ref20_Marked N a0 a1) 187 [.agg (e36 a0),.v (.int .u64 a1)] [] (fun r=>.v (.int .i64 r)) fun r=>[])∧(∀ N (a0:THeader),OK (header_Valid N a0) 110 [.agg (e97 a0)] [] (fun r=>.v (.bool r)) fun r=>[])∧(∀ N (a0:TConf),OK (page_SmallWords N a0) 217 [.agg (e23 a0)] [] (fun r=>.v (.int .i64 r)) fun r=>[]):=by
 refine ⟨fun N _=>rn Tryz.f122 [.cell 2 40,.tmp 3] [] 19 (by kernel_rfl) ?_,fun N _=>rn Tryz.f150 [.tmp 2] [] 9 (by kernel_rfl) ?_,fun N _=>rn Tryz.f208 [.tmp 2,.tmp 3] [] 22 (by kernel_rfl) ?_,fun N _ _ _=>rn Tryz.f241 [.tmp 6,.tmp 7] [] 29 (by kernel_rfl) ?_,fun N _=>rn Tryz.f242 [.tmp 2] [] 9 (by kernel_rfl) ?_,fun N _ _=>rn Tryz.f187 [.tmp 4] [] 8 (by kernel_rfl) ?_,fun N _=>rn Tryz.f110 [.tmp 2] [] 43 (by kernel_rfl) ?_,fun N _=>rn Tryz.f217 [.tmp 2] [] 9 (by kernel_rfl) ?_⟩<;>(rintro _ hw r hr C rfl hwf hf;simp only[Tryz.f122,Tryz.f150,Tryz.f208,Tryz.f241,Tryz.f242,Tryz.f187,Tryz.f110,Tryz.f217,Option.get!];(first|rw[ref04_New] at hr|rw[ref03_Size] at hr|rw[ref03_Encode] at hr|rw[ref02_Read] at hr|rw[ref04_Limit] at hr|rw[ref20_Marked] at hr|rw[header_Valid] at hr|rw[page_SmallWords] at hr);repeat' first
 |(refine El.el hr ?_;intro hr)
 |(with_reducible intro h;refine bc_e hr h ?_;intro hr)
 |with_reducible intro _
 |simp only[go_sem,simprocAttr,List.length_take,List.length_drop,Nat.min_self]
 |(with_reducible first|apply guard_of_f|apply guard_of_t|apply cond_of|apply doT_of_t|apply doT_of_f)
 |(refine and_of' ?_ ?_;·first|assumption|omega)
 |with_reducible refine OK.c hr hw ?_ (fun y hr=>?_) _
 |with_reducible refine OK.d hr hw ?_ (fun y hr=>?_) _
 |refine db 122 3 hf [([],[],[9,10,11,12,13,14,15,16,17],[896,1088]),([],[],[8,11,12,15,16,17],[1088]),([1],[],[8,11,12,15,16,17],[1088]),([],[],[8,9,10,15,16,17],[1088]),([3],[],[8,9,10,15,16,17],[1088]),([1,2,3,4],[],[8,15,16,17],[1088]),([1,2,3,4,5],[896],[8,15,16,17],[1088]),([],[],[8,9,10,11,12,13,14],[896]),([7],[],[8,9,10,11,12,13,14],[896]),([7,8],[1088],[8,9,10,11,12,13,14],[896]),([0,1,2,3,4,5,6,7,8,9],[],[],[]),([0,1,2,3,4,5,6,7,8,9,10],[128],[],[]),([0,1,2,3,4,5,6,7,8,9,10,11],[],[],[])] rfl rfl (by kernel_rfl) ?_ _
 |refine db 110 4 hf [([],[],[],[]),([0],[],[],[]),([0,1],[],[],[]),([0,1,2],[],[],[]),([0,1,2,3],[],[31,32,33],[]),([0,1,2,3,4],[],[31,32,33],[]),([0,1,2,3,4,5],[],[31,32,33],[]),([0,1,2,3],[],[28,29,30],[]),([0,1,2,3,7],[],[28,29,30],[]),([0,1,2,3,7,8],[],[28,29,30],[]),([0,1,2,3,4,5,6,7,8,9],[],[],[]),([0,1,2,3,4,5,6,7,8,9,10],[],[],[]),([0,1,2,3,4,5,6,7,8,9,10,11],[],[],[])] rfl rfl (by kernel_rfl) ?_ _
 |(refine some_e hr ?_;rintro rfl;with_reducible refine ret_k ?_)
 |exact no_e hr
 |fail)
@[reducible,instance] def ref04_New_i:=g9.1
@[reducible,instance] def ref03_Size_i:=g9.2.1
@[reducible,instance] def ref03_Encode_i:=g9.2.2.1
@[reducible,instance] def ref02_Read_i:=g9.2.2.2.1
@[reducible,instance] def ref04_Limit_i:=g9.2.2.2.2.1
@[reducible,instance] def ref20_Marked_i:=g9.2.2.2.2.2.1
@[reducible,instance] def header_Valid_i:=g9.2.2.2.2.2.2.1
@[reducible,instance] def page_SmallWords_i:=g9.2.2.2.2.2.2.2
end Go.Sx
