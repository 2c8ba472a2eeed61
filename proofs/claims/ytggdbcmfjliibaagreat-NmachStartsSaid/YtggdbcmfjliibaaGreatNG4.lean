import Derived.Test.YtggdbcmfjliibaaGreatNF
import Derived.Test.YtggdbcmfjliibaaGreatNG1
import Derived.Test.YtggdbcmfjliibaaGreatNG2
import Derived.Test.YtggdbcmfjliibaaGreatNG3
set_option linter.all false
namespace Go.Sx
open Go.Proofs
set_option maxRecDepth 10000
set_option maxHeartbeats 100000000
theorem g7:(∀ N (a0:TConf) (a1:Int),OK (page_Need N a0 a1) 236 [.agg (e56 a0),.v (.int .i64 a1)] [] (fun r=>.v (.int .i64 r)) fun r=>[])∧(∀ N (a0:THeader),OK (header_Size N a0) 238 [.agg (e204 a0)] [] (fun r=>.v (.int .i64 r)) fun r=>[])∧(∀ N (a0:Int),OK (header_Decode N a0) 245 [.v (.int .u64 a0)] [] (fun r=>.tup [.agg (e204 r.1),.v (.bool r.2)]) fun r=>[])∧(∀ N (a0:List Int) (a1:Int),OK (arena_Load N a0 a1) 216 [.isl 38 1 (a0.map e38),.v (.int .u64 a1)] [] (fun r=>.tup [.v (.int .u64 r.1),.v (.int .i64 r.2)]) fun r=>[])∧(∀ N (a0:THeader) (a1:Int),OK (header_Pointer N a0 a1) 246 [.agg (e204 a0),.v (.int .i64 a1)] [] (fun r=>.v (.bool r)) fun r=>[])∧(∀ N (a0:List TPin) (a1:Int),OK (pin_list_find N a0 a1) 112 [.isl 121 2 (a0.map e121),.v (.int .u64 a1)] [] (fun r=>.v (.int .i64 r)) fun r=>[])∧(∀ N (a0:List Int),OK (slices_ContainsFunc_int_int_Valid1 N a0) 59 [.isl 3 1 (a0.map e3),.clo (.func 60) [] []] [] (fun r=>.v (.bool r)) fun r=>[])∧(∀ N (a0:List TEntry),OK (slices_ContainsFunc_api_Entry_api_Entry_Valid1 N a0) 64 [.isl 161 3 (a0.map e161),.clo (.func 65) [] []] [] (fun r=>.v (.bool r)) fun r=>[])∧(∀ N (a0:List (List Int)),OK (env_joined N a0) 37 [.isl 25 1 (a0.map e25)] [] (fun r=>.isl 38 1 (r.map e38)) fun r=>[])∧(∀ N (a0:TEnv),OK (copies_Env N a0) 23 [.agg (e70 a0)] [] (fun r=>.agg (e70 r)) fun r=>[])∧(∀ N (a0:TConf),OK (ref18_New N a0) 47 [.agg (e56 a0)] [] (fun r=>.tup [.agg (e70 r.1),.v (.int .i64 r.2)]) fun r=>[]):=by
 refine ⟨fun N _ _=>rn Tryz.f236 [.tmp 4] [] 33 (by kernel_rfl) ?_,fun N _=>rn Tryz.f238 [.tmp 2] [] 9 (by kernel_rfl) ?_,fun N _=>rn Tryz.f245 [.cell 2 204,.tmp 3] [] 40 (by kernel_rfl) ?_,fun N _ _=>rn Tryz.f216 [.tmp 4,.tmp 5] [] 21 (by kernel_rfl) ?_,fun N _ _=>rn Tryz.f246 [.tmp 4] [] 34 (by kernel_rfl) ?_,fun N _ _=>rn Tryz.f112 [.tmp 4] [] 8 (by kernel_rfl) ?_,fun N _=>rn Tryz.f59 [.tmp 4] [] 9 (by kernel_rfl) ?_,fun N _=>rn Tryz.f64 [.tmp 4] [] 9 (by kernel_rfl) ?_,fun N _=>rn Tryz.f37 [.tmp 2] [] 5 (by kernel_rfl) ?_,fun N _=>rn Tryz.f23 [.cell 2 70] [] 22 (by kernel_rfl) ?_,fun N _=>rn Tryz.f47 [.cell 2 70,.tmp 3] [] 14 (by kernel_rfl) ?_⟩<;>(rintro _ hw r hr C _ rfl hwf hf;simp only[Tryz.f236,Tryz.f238,Tryz.f245,Tryz.f216,Tryz.f246,Tryz.f112,Tryz.f59,Tryz.f64,Tryz.f37,Tryz.f23,Tryz.f47,Option.get!];(first|rw[page_Need] at hr|rw[header_Size] at hr|rw[header_Decode] at hr|rw[arena_Load] at hr|rw[header_Pointer] at hr|rw[pin_list_find] at hr|rw[slices_ContainsFunc_int_int_Valid1] at hr|rw[slices_ContainsFunc_api_Entry_api_Entry_Valid1] at hr|rw[env_joined] at hr|rw[copies_Env] at hr|rw[ref18_New] at hr);repeat' first
 |(refine El.el hr ?_;intro hr)
 |(with_reducible intro h;refine bc_e hr h ?_;intro hr)
 |with_reducible intro _
 |simp only[go_sem,simprocAttr,hl38]
 |(with_reducible first|apply guard_of_f|apply guard_of_t|apply cond_of|apply doT_of_t|apply doT_of_f)
 |((first|with_reducible refine idx_s hr (by assumption) ?_ ?_|(with_reducible refine idx_e hr ?_ ?_;rotate_left;intro p;rotate_right));(·simp only[go_sem,simprocAttr]);intro hp hn hd hr;(try have hl38:=hd _ e38);(try simp only[go_sem,simprocAttr] at hl38))
 |(refine and_of' ?_ ?_;·first|assumption|omega)
 |(with_reducible refine idl_e hr ?_ ?_;(·simp only[go_sem]);intro p hp hn hd hr;(try have hl38:=hd _ e38);(try simp only[go_sem,simprocAttr] at hl38))
 |(with_reducible first|refine CallX.c ?_ _|refine OK.c hr hw ?_ (fun y hr=>?_) _|refine OK.d hr hw ?_ (fun y hr=>?_) _)
 |refine db 245 4 hf 6 [(0,267386881,[[],[384]]),(1,267386881,[[],[384]]),(3,267386881,[[],[384]]),(7,267386881,[[],[384]]),(0,252641281,[[],[384]]),(16,252641281,[[],[384]]),(48,252641281,[[],[384]]),(112,252641281,[[],[384]]),(0,16711681,[[],[384]]),(256,16711681,[[],[384]]),(768,16711681,[[],[384]]),(1792,16711681,[[],[384]]),(4095,1,[[],[384]]),(0,536805376,[[384],[]]),(16383,0,[[384],[]])] rfl rfl (by kernel_rfl) ?_ _
 |refine db 23 1 hf 3 [(0,112344,[]),(1,112344,[]),(3,112344,[]),(0,112327,[]),(8,112327,[]),(31,112320,[]),(0,112191,[]),(64,112191,[]),(255,112128,[]),(0,111103,[]),(512,111103,[]),(2047,110592,[]),(0,102399,[]),(4096,102399,[]),(16383,98304,[[1088],[]]),(0,32767,[[],[1088]]),(32768,32767,[[],[1088]]),(131071,0,[[1280],[]]),(262143,0,[]),(524287,0,[[128],[]])] rfl rfl (by kernel_rfl) ?_ _
 |(refine some_e hr ?_;rintro rfl;with_reducible refine ret_k ?_)
 |exact no_e hr
 |fail)
@[reducible,instance] def page_Need_i:=g7.1
@[reducible,instance] def header_Size_i:=g7.2.1
@[reducible,instance] def header_Decode_i:=g7.2.2.1
@[reducible,instance] def arena_Load_i:=g7.2.2.2.1
@[reducible,instance] def header_Pointer_i:=g7.2.2.2.2.1
@[reducible,instance] def pin_list_find_i:=g7.2.2.2.2.2.1
@[reducible,instance] def slices_ContainsFunc_int_int_Valid1_i:=g7.2.2.2.2.2.2.1
@[reducible,instance] def slices_ContainsFunc_api_Entry_api_Entry_Valid1_i:=g7.2.2.2.2.2.2.2.1
@[reducible,instance] def env_joined_i:=g7.2.2.2.2.2.2.2.2.1
@[reducible,instance] def copies_Env_i:=g7.2.2.2.2.2.2.2.2.2.1
@[reducible,instance] def ref18_New_i:=g7.2.2.2.2.2.2.2.2.2.2
abbrev I_bits_Pack_l1:=fun N (a0:List TField) (Q:(Ex (Int × Int) Unit)→Prop) n (st:St)=>∃ (v1:Int) (v2:Int) (ex:_),bits_Pack_l1 N a0 n v1 v2=some ex∧Q ex∧((st.n=55∧st.t 0=.isl 88 2 (a0.map e88)∧st.t 4=.v (.int .i64 v1)∧st.t 11=.isl 88 2 (a0.map e88)∧st.t 12=.v (.int .i64 ((a0.length:Nat):Int))∧st.t 13=.v (.int .i64 v2)))
abbrev I_bits_Pack_l2:=fun N (a0:List TField) (Q:(Ex (Int × Int) Int)→Prop) n (st:St)=>∃ (v5:Int) (v6:Int) (v7:Int) (ex:_),bits_Pack_l2 N a0 n v5 v6 v7=some ex∧Q ex∧((st.n=55∧st.t 7=.v (.int .u64 v5)∧st.t 8=.v (.int .i64 v6)∧st.t 31=.isl 88 2 (a0.map e88)∧st.t 32=.v (.int .i64 ((a0.length:Nat):Int))∧st.t 33=.v (.int .i64 v7)))
abbrev I_slices_BinarySearch_uint64_uint64_l1:=fun N (a0:List Int) (a1:Int) (Q:Int→Prop) n (st:St)=>∃ (v1:Int) (v2:Int) (ex:_),slices_BinarySearch_uint64_uint64_l1 N a0 a1 n v1 v2=some ex∧Q ex∧((st.n=54∧st.t 0=.isl 38 1 (a0.map e38)∧st.t 1=.v (.int .u64 a1)∧st.t 6=.v (.int .i64 ((a0.length:Nat):Int))∧st.t 7=.v (.int .i64 v1)∧st.t 8=.v (.int .i64 v2)))
theorem g8:(∀ N (a0:List TField),OK (bits_Pack N a0) 20 [.isl 88 2 (a0.map e88)] [] (fun r=>.tup [.v (.int .u64 r.1),.v (.int .i64 r.2)]) fun r=>[])∧(∀ N (a0:List Int) (a1:Int),OK (slices_BinarySearch_uint64_uint64 N a0 a1) 70 [.isl 38 1 (a0.map e38),.v (.int .u64 a1)] [] (fun r=>.tup [.v (.int .i64 r.1),.v (.bool r.2)]) fun r=>[]):=by
 refine ⟨fun N _=>rn Tryz.f20 [.tmp 2,.tmp 3] [] 55 (by kernel_rfl) ?_,fun N _ _=>rn Tryz.f70 [.tmp 4,.tmp 5] [] 54 (by kernel_rfl) ?_⟩<;>(rintro _ hw r hr C _ rfl hwf hf;simp only[Tryz.f20,Tryz.f70,Option.get!];(first|rw[bits_Pack] at hr|rw[slices_BinarySearch_uint64_uint64] at hr);repeat' first
 |(refine El.el hr ?_;intro hr)
 |(with_reducible intro h;refine bc_e hr h ?_;intro hr)
 |with_reducible intro _
 |(refine some_e hr ?_;rintro rfl;have hr:=hk;clear hk)
 |simp only[go_sem,simprocAttr,E,hl38,hl88]
 |(with_reducible first|apply guard_of_f|apply guard_of_t|apply cond_of)
 |((first|with_reducible refine idx_s hr (by assumption) ?_ ?_|(with_reducible refine idx_e hr ?_ ?_;rotate_left;intro p;rotate_right));(·simp only[go_sem,simprocAttr]);intro hp hn hd hr;(try have hl38:=hd _ e38);(try simp only[go_sem,simprocAttr] at hl38);(try have hl88:=hd _ e88);(try simp only[go_sem,simprocAttr] at hl88))
 |(refine and_of' ?_ ?_;·first|assumption|omega)
 |(with_reducible first|refine CallX.c ?_ _|refine OK.c hr hw ?_ (fun y hr=>?_) _)
 |(with_reducible refine loop_e (I:=I_bits_Pack_l1 N _) hr 1000 N (fun ex hq hk=>⟨_,_,ex,hq,hk,?_⟩) ?_ _;rotate_left;clear hr;(try clear E);rintro n1 st ⟨v1,v2,ex,hr,hk,E⟩<;>(obtain _|n1:=n1<;>rw[bits_Pack_l1] at hr))
 |refine ⟨_,Nat.lt_succ_self _,_,_,_,hr,hk,?_⟩
 |(with_reducible refine loop_e (I:=I_bits_Pack_l2 N _) hr 1000 N (fun ex hq hk=>⟨_,_,_,ex,hq,hk,?_⟩) ?_ _;rotate_left;clear hr;(try clear E);rintro n2 st ⟨v5,v6,v7,ex,hr,hk,E⟩<;>(obtain _|n2:=n2<;>rw[bits_Pack_l2] at hr))
 |refine ⟨_,Nat.lt_succ_self _,_,_,_,_,hr,hk,?_⟩
 |(with_reducible refine loop_e (I:=I_slices_BinarySearch_uint64_uint64_l1 N _ _) hr 1000 N (fun ex hq hk=>⟨_,_,ex,hq,hk,?_⟩) ?_ _;rotate_left;clear hr;(try clear E);rintro n1 st ⟨v1,v2,ex,hr,hk,E⟩<;>(obtain _|n1:=n1<;>rw[slices_BinarySearch_uint64_uint64_l1] at hr))
 |(refine some_e hr ?_;rintro rfl;with_reducible refine ret_k ?_)
 |exact no_e hr
 |((first|refine bc_e (c:=true) hr rfl ?_|refine bc_e (c:=false) hr rfl ?_|refine bc_e hr (by assumption) ?_);intro hr)
 |fail)
@[reducible,instance] def bits_Pack_i:=g8.1
@[reducible,instance] def slices_BinarySearch_uint64_uint64_i:=g8.2
end Go.Sx
