import Derived.Test.YtggdbcmfjliibaaGreatNF
import Derived.Test.YtggdbcmfjliibaaGreatNG0
import Derived.Test.YtggdbcmfjliibaaGreatNG1
set_option linter.all false
namespace Go.Sx
open Go.Proofs
set_option maxRecDepth 10000
set_option maxHeartbeats 100000000
abbrev I_ncode_Code_formed_l1:=fun N (a0:TCode) (Q:(Ex Bool Unit)→Prop) n (st:St)=>∃ (v1:Int) (ex:_),ncode_Code_formed_l1 N a0 n v1=some ex∧Q ex∧((st.n=30∧st.t 20=.isl 40 5 (a0.Ins.map e40)∧st.t 21=.v (.int .i64 ((a0.Ins.length:Nat):Int))∧st.t 22=.v (.int .i64 v1)))
abbrev I_bits_Unpack_l1:=fun N (a0:Int) (a1:List Int) (Q:(Ex (List Int × Int) Unit)→Prop) n (st:St)=>∃ (v1:Int) (v2:Int) (ex:_),bits_Unpack_l1 N a0 a1 n v1 v2=some ex∧Q ex∧((st.n=49∧st.t 0=.v (.int .u64 a0)∧st.t 1=.isl 3 1 (a1.map e3)∧st.t 6=.v (.int .i64 v1)∧st.t 12=.isl 3 1 (a1.map e3)∧st.t 13=.v (.int .i64 ((a1.length:Nat):Int))∧st.t 14=.v (.int .i64 v2)))
abbrev I_bits_Unpack_l2:=fun N (a1:List Int) (Q:(Int × List Int)→Prop) n (st:St)=>∃ (v5:Int) (v6:Int) (v7:List Int) (ex:_),bits_Unpack_l2 N a1 n v5 v6 v7=some ex∧Q ex∧((∃ w2624,st.n=49∧st.s 2624=some (w2624,.arr false 38 1 (v7.map e38) 0)∧st.t 0=.v (.int .u64 v5)∧st.t 9=.osl 2624 w2624 1 0 v7.length∧st.t 29=.isl 3 1 (a1.map e3)∧st.t 30=.v (.int .i64 ((a1.length:Nat):Int))∧st.t 31=.v (.int .i64 v6))∨((st.n=49∧st.t 0=.v (.int .u64 v5)∧st.t 9=.nsl∧st.t 29=.isl 3 1 (a1.map e3)∧st.t 30=.v (.int .i64 ((a1.length:Nat):Int))∧st.t 31=.v (.int .i64 v6))∧v7=[]))
abbrev I_slices_IndexFunc_uint64_uint64_dirt1_l1:=fun N (a0:List Int) (Q:(Ex Int Unit)→Prop) n (st:St)=>∃ (v1:Int) (ex:_),slices_IndexFunc_uint64_uint64_dirt1_l1 N a0 n v1=some ex∧Q ex∧((st.n=19∧st.t 0=.isl 38 1 (a0.map e38)∧st.t 1=.clo (.func 243) [] []∧st.t 7=.v (.int .i64 ((a0.length:Nat):Int))∧st.t 8=.v (.int .i64 v1)))
abbrev I_slices_IndexFunc_walk_found_walk_found_Objects1_l1:=fun N (a0:List Tfound) (Q:(Ex Int Unit)→Prop) n (st:St)=>∃ (v1:Int) (ex:_),slices_IndexFunc_walk_found_walk_found_Objects1_l1 N a0 n v1=some ex∧Q ex∧((st.n=19∧st.t 0=.isl 233 4 (a0.map e233)∧st.t 1=.clo (.func 120) [] []∧st.t 7=.v (.int .i64 ((a0.length:Nat):Int))∧st.t 8=.v (.int .i64 v1)))
abbrev I_slices_IndexFunc_pin_list_api_Pin_find1_l1:=fun N (a0:List TPin) (c0:Int) (Q:(Ex Int Unit)→Prop) n (st:St)=>∃ (v1:Int) (ex:_),slices_IndexFunc_pin_list_api_Pin_find1_l1 N a0 c0 n v1=some ex∧Q ex∧((st.n=19∧st.t 0=.isl 121 2 (a0.map e121)∧st.t 1=.clo (.func 175) [] [.ept 1000000 0 1 0 0]∧st.t 7=.v (.int .i64 ((a0.length:Nat):Int))∧st.t 8=.v (.int .i64 v1)∧st.s 1000000=some (0,.arr true 38 1 [[.v (.int .u64 c0)]] 0)))
abbrev I_scope_frames_live_l1:=fun N (y1:List TSlot) (Q:Int→Prop) n (st:St)=>∃ (v2:Int) (v3:Int) (ex:_),scope_frames_live_l1 N y1 n v2 v3=some ex∧Q ex∧((st.n=22∧st.t 5=.v (.int .i64 v2)∧st.t 10=.isl 174 3 (y1.map e174)∧st.t 11=.v (.int .i64 ((y1.length:Nat):Int))∧st.t 12=.v (.int .i64 v3)))
abbrev I_slices_IndexFunc_int_int_Valid1_l1:=fun N (a0:List Int) (Q:(Ex Int Unit)→Prop) n (st:St)=>∃ (v1:Int) (ex:_),slices_IndexFunc_int_int_Valid1_l1 N a0 n v1=some ex∧Q ex∧((st.n=19∧st.t 0=.isl 3 1 (a0.map e3)∧st.t 1=.clo (.func 60) [] []∧st.t 7=.v (.int .i64 ((a0.length:Nat):Int))∧st.t 8=.v (.int .i64 v1)))
abbrev I_slices_IndexFunc_api_Entry_api_Entry_Valid1_l1:=fun N (a0:List TEntry) (Q:(Ex Int Unit)→Prop) n (st:St)=>∃ (v1:Int) (ex:_),slices_IndexFunc_api_Entry_api_Entry_Valid1_l1 N a0 n v1=some ex∧Q ex∧((st.n=19∧st.t 0=.isl 161 3 (a0.map e161)∧st.t 1=.clo (.func 65) [] []∧st.t 7=.v (.int .i64 ((a0.length:Nat):Int))∧st.t 8=.v (.int .i64 v1)))
abbrev I_slices_Concat_uint64_uint64_l1:=fun N (a0:List (List Int)) (Q:Int→Prop) n (st:St)=>∃ (v1:Int) (v2:Int) (ex:_),slices_Concat_uint64_uint64_l1 N a0 n v1 v2=some ex∧Q ex∧((st.n=36∧st.t 0=.isl 25 1 (a0.map e25)∧st.t 3=.v (.int .i64 v1)∧st.t 9=.isl 25 1 (a0.map e25)∧st.t 10=.v (.int .i64 ((a0.length:Nat):Int))∧st.t 11=.v (.int .i64 v2)))
abbrev I_slices_Concat_uint64_uint64_l2:=fun N (a0:List (List Int)) (Q:(List Int)→Prop) n (st:St)=>∃ (v6:Int) (v7:List Int) (ex:_),slices_Concat_uint64_uint64_l2 N a0 n v6 v7=some ex∧Q ex∧((∃ w1536,st.n=36∧st.s 1536=some (w1536,.arr false 38 1 (v7.map e38) 0)∧st.t 6=.osl 1536 w1536 1 0 v7.length∧st.t 25=.isl 25 1 (a0.map e25)∧st.t 26=.v (.int .i64 ((a0.length:Nat):Int))∧st.t 27=.v (.int .i64 v6)))
theorem g6:(∀ N (a0:TCode),OK (ncode_Code_formed N a0) 19 [.agg (e34 a0)] [] (fun r=>.v (.bool r)) fun r=>[])∧(∀ N (a0:Int) (a1:List Int),OK (bits_Unpack N a0 a1) 262 [.v (.int .u64 a0),.isl 3 1 (a1.map e3)] [] (fun r=>.tup [.isl 38 1 (r.1.map e38),.v (.int .i64 r.2)]) fun r=>[])∧(∀ N (a0:List Int),OK (slices_IndexFunc_uint64_uint64_dirt1 N a0) 121 [.isl 38 1 (a0.map e38),.clo (.func 243) [] []] [] (fun r=>.v (.int .i64 r)) fun r=>[])∧(∀ N (a0:List Tfound),OK (slices_IndexFunc_walk_found_walk_found_Objects1 N a0) 178 [.isl 233 4 (a0.map e233),.clo (.func 120) [] []] [] (fun r=>.v (.int .i64 r)) fun r=>[])∧(∀ N (a0:List TPin) (c0:Int),OK (slices_IndexFunc_pin_list_api_Pin_find1 N a0 c0) 174 [.isl 121 2 (a0.map e121),.clo (.func 175) [] [.ept 1000000 0 1 0 0]] [.arr true 38 1 [[.v (.int .u64 c0)]] 0] (fun r=>.v (.int .i64 r)) fun r=>[.arr true 38 1 [[.v (.int .u64 c0)]] 0])∧(∀ N (a0:Tframes) (a1:Int),OK (scope_frames_live N a0 a1) 63 [.agg (e156 a0),.v (.int .i64 a1)] [] (fun r=>.v (.int .i64 r)) fun r=>[])∧(∀ N (a0:List Int),OK (slices_IndexFunc_int_int_Valid1 N a0) 114 [.isl 3 1 (a0.map e3),.clo (.func 60) [] []] [] (fun r=>.v (.int .i64 r)) fun r=>[])∧(∀ N (a0:List TEntry),OK (slices_IndexFunc_api_Entry_api_Entry_Valid1 N a0) 116 [.isl 161 3 (a0.map e161),.clo (.func 65) [] []] [] (fun r=>.v (.int .i64 r)) fun r=>[])∧(∀ N (a0:List (List Int)),OK (slices_Concat_uint64_uint64 N a0) 71 [.isl 25 1 (a0.map e25)] [] (fun r=>.isl 38 1 (r.map e38)) fun r=>[]):=by
 refine ⟨fun N _=>rn Tryz.f19 [.tmp 2] [] 30 (by kernel_rfl) ?_,fun N _ _=>rn Tryz.f262 [.tmp 4,.tmp 5] [] 49 (by kernel_rfl) ?_,fun N _=>rn Tryz.f121 [.tmp 4] [] 19 (by kernel_rfl) ?_,fun N _=>rn Tryz.f178 [.tmp 4] [] 19 (by kernel_rfl) ?_,fun N _ _=>rn Tryz.f174 [.tmp 4] [] 19 (by kernel_rfl) ?_,fun N _ _=>rn Tryz.f63 [.tmp 4] [] 22 (by kernel_rfl) ?_,fun N _=>rn Tryz.f114 [.tmp 4] [] 19 (by kernel_rfl) ?_,fun N _=>rn Tryz.f116 [.tmp 4] [] 19 (by kernel_rfl) ?_,fun N _=>rn Tryz.f71 [.tmp 2] [] 36 (by kernel_rfl) ?_⟩<;>(rintro _ hw r hr C _ rfl hwf hf;simp only[Tryz.f19,Tryz.f262,Tryz.f121,Tryz.f178,Tryz.f174,Tryz.f63,Tryz.f114,Tryz.f116,Tryz.f71,Option.get!];(first|rw[ncode_Code_formed] at hr|rw[bits_Unpack] at hr|rw[slices_IndexFunc_uint64_uint64_dirt1] at hr|rw[slices_IndexFunc_walk_found_walk_found_Objects1] at hr|rw[slices_IndexFunc_pin_list_api_Pin_find1] at hr|rw[scope_frames_live] at hr|rw[slices_IndexFunc_int_int_Valid1] at hr|rw[slices_IndexFunc_api_Entry_api_Entry_Valid1] at hr|rw[slices_Concat_uint64_uint64] at hr);repeat' first
 |(refine El.el hr ?_;intro hr)
 |(with_reducible intro h;refine bc_e hr h ?_;intro hr)
 |with_reducible intro _
 |(refine some_e hr ?_;rintro rfl;have hr:=hk;clear hk)
 |simp only[go_sem,simprocAttr,E,hl3,hl25,hl38,hl40,hl121,hl161,hl174,hl233]
 |(with_reducible first|apply guard_of_f|apply guard_of_t|apply cond_of)
 |((first|with_reducible refine idx_s hr (by assumption) ?_ ?_|(with_reducible refine idx_e hr ?_ ?_;rotate_left;intro p;rotate_right));(·simp only[go_sem,simprocAttr]);intro hp hn hd hr;(try have hl3:=hd _ e3);(try simp only[go_sem,simprocAttr] at hl3);(try have hl25:=hd _ e25);(try simp only[go_sem,simprocAttr] at hl25);(try have hl38:=hd _ e38);(try simp only[go_sem,simprocAttr] at hl38);(try have hl40:=hd _ e40);(try simp only[go_sem,simprocAttr] at hl40);(try have hl121:=hd _ e121);(try simp only[go_sem,simprocAttr] at hl121);(try have hl161:=hd _ e161);(try simp only[go_sem,simprocAttr] at hl161);(try have hl174:=hd _ e174);(try simp only[go_sem,simprocAttr] at hl174);(try have hl233:=hd _ e233);(try simp only[go_sem,simprocAttr] at hl233))
 |(refine and_of' ?_ ?_;·first|assumption|omega)
 |(with_reducible first|refine CallX.c ?_ _|refine OK.c hr hw ?_ (fun y hr=>?_) _)
 |(with_reducible refine loop_e (I:=I_ncode_Code_formed_l1 N _) hr 1000 N (fun ex hq hk=>⟨_,ex,hq,hk,?_⟩) ?_ _;rotate_left;clear hr;(try clear E);rintro n1 st ⟨v1,ex,hr,hk,E⟩<;>(obtain _|n1:=n1<;>rw[ncode_Code_formed_l1] at hr))
 |refine ⟨_,Nat.lt_succ_self _,_,_,hr,hk,?_⟩
 |(with_reducible refine loop_e (I:=I_bits_Unpack_l1 N _ _) hr 1000 N (fun ex hq hk=>⟨_,_,ex,hq,hk,?_⟩) ?_ _;rotate_left;clear hr;(try clear E);rintro n1 st ⟨v1,v2,ex,hr,hk,E⟩<;>(obtain _|n1:=n1<;>rw[bits_Unpack_l1] at hr))
 |refine ⟨_,Nat.lt_succ_self _,_,_,_,hr,hk,?_⟩
 |(with_reducible refine loop_e (I:=I_bits_Unpack_l2 N _) hr 1000 N (fun ex hq hk=>⟨_,_,_,ex,hq,hk,?_⟩) ?_ _;rotate_left;clear hr;(try clear E);rintro n2 st ⟨v5,v6,v7,ex,hr,hk,(⟨_,E⟩|⟨E,z0⟩)⟩<;>(try subst z0)<;>(obtain _|n2:=n2<;>rw[bits_Unpack_l2] at hr))
 |refine ⟨_,Nat.lt_succ_self _,_,_,_,_,hr,hk,?_⟩
 |(with_reducible refine loop_e (I:=I_slices_IndexFunc_uint64_uint64_dirt1_l1 N _) hr 1000 N (fun ex hq hk=>⟨_,ex,hq,hk,?_⟩) ?_ _;rotate_left;clear hr;(try clear E);rintro n1 st ⟨v1,ex,hr,hk,E⟩<;>(obtain _|n1:=n1<;>rw[slices_IndexFunc_uint64_uint64_dirt1_l1] at hr))
 |(with_reducible refine loop_e (I:=I_slices_IndexFunc_walk_found_walk_found_Objects1_l1 N _) hr 1000 N (fun ex hq hk=>⟨_,ex,hq,hk,?_⟩) ?_ _;rotate_left;clear hr;(try clear E);rintro n1 st ⟨v1,ex,hr,hk,E⟩<;>(obtain _|n1:=n1<;>rw[slices_IndexFunc_walk_found_walk_found_Objects1_l1] at hr))
 |(with_reducible refine loop_e (I:=I_slices_IndexFunc_pin_list_api_Pin_find1_l1 N _ _) hr 1000 N (fun ex hq hk=>⟨_,ex,hq,hk,?_⟩) ?_ _;rotate_left;clear hr;(try clear E);rintro n1 st ⟨v1,ex,hr,hk,E⟩<;>(obtain _|n1:=n1<;>rw[slices_IndexFunc_pin_list_api_Pin_find1_l1] at hr))
 |(with_reducible refine loop_e (I:=I_scope_frames_live_l1 N _) hr 1000 N (fun ex hq hk=>⟨_,_,ex,hq,hk,?_⟩) ?_ _;rotate_left;clear hr;(try clear E);rintro n1 st ⟨v2,v3,ex,hr,hk,E⟩<;>(obtain _|n1:=n1<;>rw[scope_frames_live_l1] at hr))
 |(with_reducible refine loop_e (I:=I_slices_IndexFunc_int_int_Valid1_l1 N _) hr 1000 N (fun ex hq hk=>⟨_,ex,hq,hk,?_⟩) ?_ _;rotate_left;clear hr;(try clear E);rintro n1 st ⟨v1,ex,hr,hk,E⟩<;>(obtain _|n1:=n1<;>rw[slices_IndexFunc_int_int_Valid1_l1] at hr))
 |(with_reducible refine loop_e (I:=I_slices_IndexFunc_api_Entry_api_Entry_Valid1_l1 N _) hr 1000 N (fun ex hq hk=>⟨_,ex,hq,hk,?_⟩) ?_ _;rotate_left;clear hr;(try clear E);rintro n1 st ⟨v1,ex,hr,hk,E⟩<;>(obtain _|n1:=n1<;>rw[slices_IndexFunc_api_Entry_api_Entry_Valid1_l1] at hr))
 |(with_reducible refine loop_e (I:=I_slices_Concat_uint64_uint64_l1 N _) hr 1000 N (fun ex hq hk=>⟨_,_,ex,hq,hk,?_⟩) ?_ _;rotate_left;clear hr;(try clear E);rintro n1 st ⟨v1,v2,ex,hr,hk,E⟩<;>(obtain _|n1:=n1<;>rw[slices_Concat_uint64_uint64_l1] at hr))
 |(with_reducible refine loop_e (I:=I_slices_Concat_uint64_uint64_l2 N _) hr 1000 N (fun ex hq hk=>⟨_,_,ex,hq,hk,?_⟩) ?_ _;rotate_left;clear hr;(try clear E);rintro n2 st ⟨v6,v7,ex,hr,hk,⟨_,E⟩⟩<;>(obtain _|n2:=n2<;>rw[slices_Concat_uint64_uint64_l2] at hr))
 |(refine some_e hr ?_;rintro rfl;with_reducible refine ret_k ?_)
 |exact no_e hr
 |((first|refine bc_e (c:=true) hr rfl ?_|refine bc_e (c:=false) hr rfl ?_|refine bc_e hr (by assumption) ?_);intro hr)
 |fail)
@[reducible,instance] def ncode_Code_formed_i:=g6.1
@[reducible,instance] def bits_Unpack_i:=g6.2.1
@[reducible,instance] def slices_IndexFunc_uint64_uint64_dirt1_i:=g6.2.2.1
@[reducible,instance] def slices_IndexFunc_walk_found_walk_found_Objects1_i:=g6.2.2.2.1
@[reducible,instance] def slices_IndexFunc_pin_list_api_Pin_find1_i:=g6.2.2.2.2.1
@[reducible,instance] def scope_frames_live_i:=g6.2.2.2.2.2.1
@[reducible,instance] def slices_IndexFunc_int_int_Valid1_i:=g6.2.2.2.2.2.2.1
@[reducible,instance] def slices_IndexFunc_api_Entry_api_Entry_Valid1_i:=g6.2.2.2.2.2.2.2.1
@[reducible,instance] def slices_Concat_uint64_uint64_i:=g6.2.2.2.2.2.2.2.2
theorem g4:(∀ N (a0:Int) (a1:Int),OK (bits_fits N a0 a1) 30 [.v (.int .u64 a0),.v (.int .i64 a1)] [] (fun r=>.v (.bool r)) fun r=>[])∧(∀ N (a0:TCode) (a1:TFrame),OK (nmach_Fetch N a0 a1) 7 [.agg (e34 a0),.agg (e29 a1)] [] (fun r=>.tup [.agg (e40 r.1),.v (.bool r.2)]) fun r=>[])∧(∀ N (a0:TPage) (a1:TConf),OK (page_entry_small N a0 a1) 234 [.agg (e343 a0),.agg (e56 a1)] [] (fun r=>.v (.bool r)) fun r=>[])∧(∀ N (a0:TConf) (a1:Int),OK (page_Of N a0 a1) 113 [.agg (e56 a0),.v (.int .u64 a1)] [] (fun r=>.tup [.v (.int .i64 r.1),.v (.int .i64 r.2.1),.v (.int .i64 r.2.2)]) fun r=>[])∧(∀ N (a0:List Int) (a1:Int),OK (arena_Index N a0 a1) 247 [.isl 38 1 (a0.map e38),.v (.int .u64 a1)] [] (fun r=>.tup [.v (.int .i64 r.1),.v (.int .i64 r.2)]) fun r=>[])∧(∀ N (a0:List Int) (a1:Int) (a2:Int),OK (arena_Read N a0 a1 a2) 241 [.isl 38 1 (a0.map e38),.v (.int .u64 a1),.v (.int .i64 a2)] [] (fun r=>.tup [.fsl 38 1 (r.1.map e38),.v (.int .i64 r.2)]) fun r=>[])∧(∀ N (a0:List Int) (a1:Int),OK (slices_Contains_uint64_uint64 N a0 a1) 34 [.isl 38 1 (a0.map e38),.v (.int .u64 a1)] [] (fun r=>.v (.bool r)) fun r=>[])∧(∀ N (a0:TLocals),OK (copies_Locals N a0) 40 [.agg (e64 a0)] [] (fun r=>.agg (e64 r)) fun r=>[])∧(∀ N (a0:TCode) (a1:TIns),OK (nmach_suits N a0 a1) 44 [.agg (e34 a0),.agg (e40 a1)] [] (fun r=>.v (.bool r)) fun r=>[])∧(∀ N (a0:TConf),OK (ref04_New N a0) 82 [.agg (e56 a0)] [] (fun r=>.tup [.agg (e59 r.1),.v (.int .i64 r.2)]) fun r=>[])∧(∀ N (a0:TFrame) (a1:TFrame),OK (law23_same N a0 a1) 11 [.agg (e29 a0),.agg (e28 a1)] [] (fun r=>.v (.bool r)) fun r=>[]):=by
 refine ⟨fun N _ _=>rn Tryz.f30 [.tmp 4] [] 10 (by kernel_rfl) ?_,fun N _ _=>rn Tryz.f7 [.cell 4 40,.tmp 5] [] 25 (by kernel_rfl) ?_,fun N _ _=>rn Tryz.f234 [.tmp 4] [] 23 (by kernel_rfl) ?_,fun N _ _=>rn Tryz.f113 [.tmp 4,.tmp 5,.tmp 6] [] 37 (by kernel_rfl) ?_,fun N _ _=>rn Tryz.f247 [.tmp 4,.tmp 5] [] 17 (by kernel_rfl) ?_,fun N _ _ _=>rn Tryz.f241 [.tmp 6,.tmp 7] [1728] 28 (by kernel_rfl) ?_,fun N _ _=>rn Tryz.f34 [.tmp 4] [] 9 (by kernel_rfl) ?_,fun N _=>rn Tryz.f40 [.cell 2 64] [] 13 (by kernel_rfl) ?_,fun N _ _=>rn Tryz.f44 [.tmp 4] [] 39 (by kernel_rfl) ?_,fun N _=>rn Tryz.f82 [.cell 2 59,.tmp 3] [] 19 (by kernel_rfl) ?_,fun N _ _=>rn Tryz.f11 [.tmp 4] [] 14 (by kernel_rfl) ?_⟩<;>(rintro _ hw r hr C _ rfl hwf hf;simp only[Tryz.f30,Tryz.f7,Tryz.f234,Tryz.f113,Tryz.f247,Tryz.f241,Tryz.f34,Tryz.f40,Tryz.f44,Tryz.f82,Tryz.f11,Option.get!];(first|rw[bits_fits] at hr|rw[nmach_Fetch] at hr|rw[page_entry_small] at hr|rw[page_Of] at hr|rw[arena_Index] at hr|rw[arena_Read] at hr|rw[slices_Contains_uint64_uint64] at hr|rw[copies_Locals] at hr|rw[nmach_suits] at hr|rw[ref04_New] at hr|rw[law23_same] at hr);repeat' first
 |(refine El.el hr ?_;intro hr)
 |(with_reducible intro h;refine bc_e hr h ?_;intro hr)
 |with_reducible intro _
 |simp only[go_sem,simprocAttr,hl40,List.length_take,List.length_drop,Nat.min_self]
 |(with_reducible first|apply guard_of_f|apply guard_of_t|apply cond_of|apply doT_of_t|apply doT_of_f)
 |((first|with_reducible refine idx_s hr (by assumption) ?_ ?_|(with_reducible refine idx_e hr ?_ ?_;rotate_left;intro p;rotate_right));(·simp only[go_sem,simprocAttr,List.length_take,List.length_drop,Nat.min_self]);intro hp hn hd hr;(try have hl40:=hd _ e40);(try simp only[go_sem,simprocAttr] at hl40))
 |(refine and_of' ?_ ?_;·first|assumption|omega)
 |(with_reducible first|refine CallX.c ?_ _|refine OK.c hr hw ?_ (fun y hr=>?_) _|refine OK.d hr hw ?_ (fun y hr=>?_) _)
 |refine db 113 6 hf 4 [(0,8254390272,[]),(0,8086618112,[]),(2,8086618112,[]),(7,8053063680,[]),(0,3724541953,[]),(0,1040187393,[]),(32,1040187393,[]),(112,503316481,[]),(15,8053063680,[]),(511,0,[]),(1023,0,[])] rfl rfl (by kernel_rfl) ?_ _
 |refine db 40 1 hf 3 [(0,216,[]),(1,216,[]),(3,216,[[320],[]]),(0,199,[[],[320]]),(8,199,[[],[320]]),(31,192,[[512],[]]),(0,63,[[],[320,512]]),(64,63,[[],[320,512]]),(255,0,[[704],[]]),(511,0,[]),(1023,0,[[128],[]])] rfl rfl (by kernel_rfl) ?_ _
 |refine db 44 13 hf 22 [(0,28,[]),(1,28,[]),(0,3,[]),(4,3,[]),(12,3,[]),(31,0,[]),(63,0,[]),(127,0,[])] rfl rfl (by kernel_rfl) ?_ _
 |refine db 82 3 hf 8 [(0,1022,[[],[896,1088]]),(0,921,[[],[1088]]),(2,921,[[],[1088]]),(0,903,[[],[1088]]),(8,903,[[],[1088]]),(30,897,[[],[1088]]),(62,897,[[896],[1088]]),(0,127,[[],[896]]),(128,127,[[],[896]]),(384,127,[[1088],[896]]),(1023,0,[]),(2047,0,[[128],[]]),(4095,0,[])] rfl rfl (by kernel_rfl) ?_ _
 |(refine some_e hr ?_;rintro rfl;with_reducible refine ret_k ?_)
 |exact no_e hr
 |fail)
@[reducible,instance] def bits_fits_i:=g4.1
@[reducible,instance] def nmach_Fetch_i:=g4.2.1
@[reducible,instance] def page_entry_small_i:=g4.2.2.1
@[reducible,instance] def page_Of_i:=g4.2.2.2.1
@[reducible,instance] def arena_Index_i:=g4.2.2.2.2.1
@[reducible,instance] def arena_Read_i:=g4.2.2.2.2.2.1
@[reducible,instance] def slices_Contains_uint64_uint64_i:=g4.2.2.2.2.2.2.1
@[reducible,instance] def copies_Locals_i:=g4.2.2.2.2.2.2.2.1
@[reducible,instance] def nmach_suits_i:=g4.2.2.2.2.2.2.2.2.1
@[reducible,instance] def ref04_New_i:=g4.2.2.2.2.2.2.2.2.2.1
@[reducible,instance] def law23_same_i:=g4.2.2.2.2.2.2.2.2.2.2
end Go.Sx
