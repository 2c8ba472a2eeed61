import Derived.Test.YtgdhlnfcogcicaaGreatDoorF
import Derived.Test.YtgdhlnfcogcicaaGreatDoorG0
import Derived.Test.YtgdhlnfcogcicaaGreatDoorG1
set_option linter.all false
namespace Go.Sx
open Go.Proofs
set_option maxRecDepth 10000
set_option maxHeartbeats 100000000
abbrev I_slices_Concat_uint64_uint64_l1:=fun N (a0:List (List Int)) (Q:Int→Prop) n (st:St)=>∃ (v1:Int) (v2:Int) (ex:_),slices_Concat_uint64_uint64_l1 N a0 n v1 v2=some ex∧Q ex∧((st.n=36∧st.t 0=.isl 34 1 (a0.map e34)∧st.t 3=.v (.int .i64 v1)∧st.t 9=.isl 34 1 (a0.map e34)∧st.t 10=.v (.int .i64 ((a0.length:Nat):Int))∧st.t 11=.v (.int .i64 v2)))
abbrev I_slices_Concat_uint64_uint64_l2:=fun N (a0:List (List Int)) (Q:(List Int)→Prop) n (st:St)=>∃ (v6:Int) (v7:List Int) (ex:_),slices_Concat_uint64_uint64_l2 N a0 n v6 v7=some ex∧Q ex∧((∃ w1536,st.n=36∧st.s 1536=some (w1536,.arr false 37 1 (v7.map e37) 0)∧st.t 6=.osl 1536 w1536 1 0 v7.length∧st.t 25=.isl 34 1 (a0.map e34)∧st.t 26=.v (.int .i64 ((a0.length:Nat):Int))∧st.t 27=.v (.int .i64 v6)))
abbrev I_scope_frames_live_l1:=fun N (y1:List TSlot) (Q:Int→Prop) n (st:St)=>∃ (v2:Int) (v3:Int) (ex:_),scope_frames_live_l1 N y1 n v2 v3=some ex∧Q ex∧((st.n=22∧st.t 5=.v (.int .i64 v2)∧st.t 10=.isl 210 3 (y1.map e210)∧st.t 11=.v (.int .i64 ((y1.length:Nat):Int))∧st.t 12=.v (.int .i64 v3)))
abbrev I_slices_IndexFunc_int_int_Valid1_l1:=fun N (a0:List Int) (Q:(Ex Int Unit)→Prop) n (st:St)=>∃ (v1:Int) (ex:_),slices_IndexFunc_int_int_Valid1_l1 N a0 n v1=some ex∧Q ex∧((st.n=19∧st.t 0=.isl 3 1 (a0.map e3)∧st.t 1=.clo (.func 193) [] []∧st.t 7=.v (.int .i64 ((a0.length:Nat):Int))∧st.t 8=.v (.int .i64 v1)))
abbrev I_slices_IndexFunc_api_Entry_api_Entry_Valid1_l1:=fun N (a0:List TEntry) (Q:(Ex Int Unit)→Prop) n (st:St)=>∃ (v1:Int) (ex:_),slices_IndexFunc_api_Entry_api_Entry_Valid1_l1 N a0 n v1=some ex∧Q ex∧((st.n=19∧st.t 0=.isl 132 3 (a0.map e132)∧st.t 1=.clo (.func 198) [] []∧st.t 7=.v (.int .i64 ((a0.length:Nat):Int))∧st.t 8=.v (.int .i64 v1)))
abbrev I_slices_IndexFunc_uint64_uint64_known1_l1:=fun N (a0:List Int) (c0:TWorld) (Q:(Ex Int Unit)→Prop) n (st:St)=>∃ (v1:Int) (ex:_),slices_IndexFunc_uint64_uint64_known1_l1 N a0 c0 n v1=some ex∧Q ex∧((st.n=19∧st.t 0=.isl 37 1 (a0.map e37)∧st.t 1=.clo (.func 203) [] [.ept 1000000 0 10 0 0]∧st.t 7=.v (.int .i64 ((a0.length:Nat):Int))∧st.t 8=.v (.int .i64 v1)∧st.s 1000000=some (0,.arr true 61 10 [[.v (.int .i64 c0.Conf.PageWords),.v (.int .i64 c0.Conf.Pages),.isl 77 4 (c0.Things.map e77),.isl 210 3 (c0.Locals.Slots.map e210),.isl 159 3 (c0.Locals.Scopes.map e159),.isl 3 1 (c0.Locals.Issued.map e3),.isl 132 3 (c0.Globals.Entries.map e132),.isl 132 3 (c0.Weaks.Entries.map e132),.isl 116 3 (c0.Marks.map e116),.isl 37 1 (c0.Roots.map e37)]] 0)))
abbrev I_slices_IndexFunc_rules_Mark_rules_Mark_mark1_l1:=fun N (a0:List TMark) (c0:Int) (Q:(Ex Int Unit)→Prop) n (st:St)=>∃ (v1:Int) (ex:_),slices_IndexFunc_rules_Mark_rules_Mark_mark1_l1 N a0 c0 n v1=some ex∧Q ex∧((st.n=19∧st.t 0=.isl 116 3 (a0.map e116)∧st.t 1=.clo (.func 225) [] [.ept 1000000 0 1 0 0]∧st.t 7=.v (.int .i64 ((a0.length:Nat):Int))∧st.t 8=.v (.int .i64 v1)∧st.s 1000000=some (0,.arr true 37 1 [[.v (.int .u64 c0)]] 0)))
abbrev I_bits_Unpack_l1:=fun N (a0:Int) (a1:List Int) (Q:(Ex (List Int × Int) Unit)→Prop) n (st:St)=>∃ (v1:Int) (v2:Int) (ex:_),bits_Unpack_l1 N a0 a1 n v1 v2=some ex∧Q ex∧((st.n=49∧st.t 0=.v (.int .u64 a0)∧st.t 1=.isl 3 1 (a1.map e3)∧st.t 6=.v (.int .i64 v1)∧st.t 12=.isl 3 1 (a1.map e3)∧st.t 13=.v (.int .i64 ((a1.length:Nat):Int))∧st.t 14=.v (.int .i64 v2)))
abbrev I_bits_Unpack_l2:=fun N (a1:List Int) (Q:(Int × List Int)→Prop) n (st:St)=>∃ (v5:Int) (v6:Int) (v7:List Int) (ex:_),bits_Unpack_l2 N a1 n v5 v6 v7=some ex∧Q ex∧((∃ w2624,st.n=49∧st.s 2624=some (w2624,.arr false 37 1 (v7.map e37) 0)∧st.t 0=.v (.int .u64 v5)∧st.t 9=.osl 2624 w2624 1 0 v7.length∧st.t 29=.isl 3 1 (a1.map e3)∧st.t 30=.v (.int .i64 ((a1.length:Nat):Int))∧st.t 31=.v (.int .i64 v6))∨((st.n=49∧st.t 0=.v (.int .u64 v5)∧st.t 9=.nsl∧st.t 29=.isl 3 1 (a1.map e3)∧st.t 30=.v (.int .i64 ((a1.length:Nat):Int))∧st.t 31=.v (.int .i64 v6))∧v7=[]))
theorem g6:(∀ N (a0:List (List Int)),OK (slices_Concat_uint64_uint64 N a0) 59 [.isl 34 1 (a0.map e34)] [] (fun r=>.isl 37 1 (r.map e37)) fun r=>[])∧(∀ N (a0:Tframes) (a1:Int),OK (scope_frames_live N a0 a1) 196 [.agg (e255 a0),.v (.int .i64 a1)] [] (fun r=>.v (.int .i64 r)) fun r=>[])∧(∀ N (a0:List Int),OK (slices_IndexFunc_int_int_Valid1 N a0) 235 [.isl 3 1 (a0.map e3),.clo (.func 193) [] []] [] (fun r=>.v (.int .i64 r)) fun r=>[])∧(∀ N (a0:List TEntry),OK (slices_IndexFunc_api_Entry_api_Entry_Valid1 N a0) 237 [.isl 132 3 (a0.map e132),.clo (.func 198) [] []] [] (fun r=>.v (.int .i64 r)) fun r=>[])∧(∀ N (a0:List Int) (c0:TWorld),OK (slices_IndexFunc_uint64_uint64_known1 N a0 c0) 239 [.isl 37 1 (a0.map e37),.clo (.func 203) [] [.ept 1000000 0 10 0 0]] [.arr true 61 10 [[.v (.int .i64 c0.Conf.PageWords),.v (.int .i64 c0.Conf.Pages),.isl 77 4 (c0.Things.map e77),.isl 210 3 (c0.Locals.Slots.map e210),.isl 159 3 (c0.Locals.Scopes.map e159),.isl 3 1 (c0.Locals.Issued.map e3),.isl 132 3 (c0.Globals.Entries.map e132),.isl 132 3 (c0.Weaks.Entries.map e132),.isl 116 3 (c0.Marks.map e116),.isl 37 1 (c0.Roots.map e37)]] 0] (fun r=>.v (.int .i64 r)) fun r=>[.arr true 61 10 [[.v (.int .i64 c0.Conf.PageWords),.v (.int .i64 c0.Conf.Pages),.isl 77 4 (c0.Things.map e77),.isl 210 3 (c0.Locals.Slots.map e210),.isl 159 3 (c0.Locals.Scopes.map e159),.isl 3 1 (c0.Locals.Issued.map e3),.isl 132 3 (c0.Globals.Entries.map e132),.isl 132 3 (c0.Weaks.Entries.map e132),.isl 116 3 (c0.Marks.map e116),.isl 37 1 (c0.Roots.map e37)]] 0])∧(∀ N (a0:List TMark) (c0:Int),OK (slices_IndexFunc_rules_Mark_rules_Mark_mark1 N a0 c0) 181 [.isl 116 3 (a0.map e116),.clo (.func 225) [] [.ept 1000000 0 1 0 0]] [.arr true 37 1 [[.v (.int .u64 c0)]] 0] (fun r=>.v (.int .i64 r)) fun r=>[.arr true 37 1 [[.v (.int .u64 c0)]] 0])∧(∀ N (a0:Int) (a1:List Int),OK (bits_Unpack N a0 a1) 226 [.v (.int .u64 a0),.isl 3 1 (a1.map e3)] [] (fun r=>.tup [.isl 37 1 (r.1.map e37),.v (.int .i64 r.2)]) fun r=>[]):=by
 refine ⟨fun N _=>rn Tryz.f59 [.tmp 2] [] 36 (by kernel_rfl) ?_,fun N _ _=>rn Tryz.f196 [.tmp 4] [] 22 (by kernel_rfl) ?_,fun N _=>rn Tryz.f235 [.tmp 4] [] 19 (by kernel_rfl) ?_,fun N _=>rn Tryz.f237 [.tmp 4] [] 19 (by kernel_rfl) ?_,fun N _ _=>rn Tryz.f239 [.tmp 4] [] 19 (by kernel_rfl) ?_,fun N _ _=>rn Tryz.f181 [.tmp 4] [] 19 (by kernel_rfl) ?_,fun N _ _=>rn Tryz.f226 [.tmp 4,.tmp 5] [] 49 (by kernel_rfl) ?_⟩<;>(rintro _ hw r hr C _ rfl hwf hf;simp only[Tryz.f59,Tryz.f196,Tryz.f235,Tryz.f237,Tryz.f239,Tryz.f181,Tryz.f226,Option.get!];(first|rw[slices_Concat_uint64_uint64] at hr|rw[scope_frames_live] at hr|rw[slices_IndexFunc_int_int_Valid1] at hr|rw[slices_IndexFunc_api_Entry_api_Entry_Valid1] at hr|rw[slices_IndexFunc_uint64_uint64_known1] at hr|rw[slices_IndexFunc_rules_Mark_rules_Mark_mark1] at hr|rw[bits_Unpack] at hr);repeat' first
 |(refine El.el hr ?_;intro hr)
 |(with_reducible intro h;refine bc_e hr h ?_;intro hr)
 |with_reducible intro _
 |(refine some_e hr ?_;rintro rfl;have hr:=hk;clear hk)
 |simp only[go_sem,simprocAttr,E,hl3,hl34,hl37,hl116,hl132,hl210]
 |(with_reducible first|apply guard_of_f|apply guard_of_t|apply cond_of)
 |((first|with_reducible refine idx_s hr (by assumption) ?_ ?_|(with_reducible refine idx_e hr ?_ ?_;rotate_left;intro p;rotate_right));(·simp only[go_sem,simprocAttr]);intro hp hn hd hr;(try have hl3:=hd _ e3);(try simp only[go_sem,simprocAttr] at hl3);(try have hl34:=hd _ e34);(try simp only[go_sem,simprocAttr] at hl34);(try have hl37:=hd _ e37);(try simp only[go_sem,simprocAttr] at hl37);(try have hl116:=hd _ e116);(try simp only[go_sem,simprocAttr] at hl116);(try have hl132:=hd _ e132);(try simp only[go_sem,simprocAttr] at hl132);(try have hl210:=hd _ e210);(try simp only[go_sem,simprocAttr] at hl210))
 |(refine and_of' ?_ ?_;·first|assumption|omega)
 |with_reducible refine CallX.c ?_ _
 |with_reducible refine OK.c hr hw ?_ (fun y hr=>?_) _
 |(with_reducible refine loop_e (I:=I_slices_Concat_uint64_uint64_l1 N _) hr 1000 N (fun ex hq hk=>⟨_,_,ex,hq,hk,?_⟩) ?_ _;rotate_left;clear hr;(try clear E);rintro n1 st ⟨v1,v2,ex,hr,hk,E⟩<;>(obtain _|n1:=n1<;>rw[slices_Concat_uint64_uint64_l1] at hr))
 |refine ⟨_,Nat.lt_succ_self _,_,_,_,hr,hk,?_⟩
 |(with_reducible refine loop_e (I:=I_slices_Concat_uint64_uint64_l2 N _) hr 1000 N (fun ex hq hk=>⟨_,_,ex,hq,hk,?_⟩) ?_ _;rotate_left;clear hr;(try clear E);rintro n2 st ⟨v6,v7,ex,hr,hk,⟨_,E⟩⟩<;>(obtain _|n2:=n2<;>rw[slices_Concat_uint64_uint64_l2] at hr))
 |(with_reducible refine loop_e (I:=I_scope_frames_live_l1 N _) hr 1000 N (fun ex hq hk=>⟨_,_,ex,hq,hk,?_⟩) ?_ _;rotate_left;clear hr;(try clear E);rintro n1 st ⟨v2,v3,ex,hr,hk,E⟩<;>(obtain _|n1:=n1<;>rw[scope_frames_live_l1] at hr))
 |(with_reducible refine loop_e (I:=I_slices_IndexFunc_int_int_Valid1_l1 N _) hr 1000 N (fun ex hq hk=>⟨_,ex,hq,hk,?_⟩) ?_ _;rotate_left;clear hr;(try clear E);rintro n1 st ⟨v1,ex,hr,hk,E⟩<;>(obtain _|n1:=n1<;>rw[slices_IndexFunc_int_int_Valid1_l1] at hr))
 |refine ⟨_,Nat.lt_succ_self _,_,_,hr,hk,?_⟩
 |(with_reducible refine loop_e (I:=I_slices_IndexFunc_api_Entry_api_Entry_Valid1_l1 N _) hr 1000 N (fun ex hq hk=>⟨_,ex,hq,hk,?_⟩) ?_ _;rotate_left;clear hr;(try clear E);rintro n1 st ⟨v1,ex,hr,hk,E⟩<;>(obtain _|n1:=n1<;>rw[slices_IndexFunc_api_Entry_api_Entry_Valid1_l1] at hr))
 |(with_reducible refine loop_e (I:=I_slices_IndexFunc_uint64_uint64_known1_l1 N _ _) hr 1000 N (fun ex hq hk=>⟨_,ex,hq,hk,?_⟩) ?_ _;rotate_left;clear hr;(try clear E);rintro n1 st ⟨v1,ex,hr,hk,E⟩<;>(obtain _|n1:=n1<;>rw[slices_IndexFunc_uint64_uint64_known1_l1] at hr))
 |(with_reducible refine loop_e (I:=I_slices_IndexFunc_rules_Mark_rules_Mark_mark1_l1 N _ _) hr 1000 N (fun ex hq hk=>⟨_,ex,hq,hk,?_⟩) ?_ _;rotate_left;clear hr;(try clear E);rintro n1 st ⟨v1,ex,hr,hk,E⟩<;>(obtain _|n1:=n1<;>rw[slices_IndexFunc_rules_Mark_rules_Mark_mark1_l1] at hr))
 |(with_reducible refine loop_e (I:=I_bits_Unpack_l1 N _ _) hr 1000 N (fun ex hq hk=>⟨_,_,ex,hq,hk,?_⟩) ?_ _;rotate_left;clear hr;(try clear E);rintro n1 st ⟨v1,v2,ex,hr,hk,E⟩<;>(obtain _|n1:=n1<;>rw[bits_Unpack_l1] at hr))
 |(with_reducible refine loop_e (I:=I_bits_Unpack_l2 N _) hr 1000 N (fun ex hq hk=>⟨_,_,_,ex,hq,hk,?_⟩) ?_ _;rotate_left;clear hr;(try clear E);rintro n2 st ⟨v5,v6,v7,ex,hr,hk,(⟨_,E⟩|⟨E,z0⟩)⟩<;>(try subst z0)<;>(obtain _|n2:=n2<;>rw[bits_Unpack_l2] at hr))
 |refine ⟨_,Nat.lt_succ_self _,_,_,_,_,hr,hk,?_⟩
 |(refine some_e hr ?_;rintro rfl;with_reducible refine ret_k ?_)
 |exact no_e hr
 |((first|refine bc_e (c:=true) hr rfl ?_|refine bc_e (c:=false) hr rfl ?_|refine bc_e hr (by assumption) ?_);intro hr)
 |fail)
@[reducible,instance] def slices_Concat_uint64_uint64_i:=g6.1
@[reducible,instance] def scope_frames_live_i:=g6.2.1
@[reducible,instance] def slices_IndexFunc_int_int_Valid1_i:=g6.2.2.1
@[reducible,instance] def slices_IndexFunc_api_Entry_api_Entry_Valid1_i:=g6.2.2.2.1
@[reducible,instance] def slices_IndexFunc_uint64_uint64_known1_i:=g6.2.2.2.2.1
@[reducible,instance] def slices_IndexFunc_rules_Mark_rules_Mark_mark1_i:=g6.2.2.2.2.2.1
@[reducible,instance] def bits_Unpack_i:=g6.2.2.2.2.2.2
theorem g5:(∀ N (a0:TTape),OK (made_Tape_Conf N a0) 75 [.ept 1000000 0 2 0 0] [.arr true 51 2 [[.isl 3 1 (a0.L.map e3),.v (.int .i64 a0.at_)]] 0] (fun r=>.agg (e23 r.1)) fun r=>[.arr true 51 2 [[.isl 3 1 (r.2.L.map e3),.v (.int .i64 r.2.at_)]] 0])∧(∀ N (a0:List Int) (a1:Int),OK (slices_Contains_uint64_uint64 N a0 a1) 115 [.isl 37 1 (a0.map e37),.v (.int .u64 a1)] [] (fun r=>.v (.bool r)) fun r=>[])∧(∀ N (a0:TLocals),OK (scope_clone N a0) 229 [.agg (e29 a0)] [] (fun r=>.agg [.fsl 210 3 (r.Slots.map e210),.isl 159 3 (r.Scopes.map e159),.fsl 3 1 (r.Issued.map e3)]) fun r=>[])∧(∀ N (a0:THandle),OK (handle_Valid N a0) 227 [.agg (e193 a0)] [] (fun r=>.v (.bool r)) fun r=>[])∧(∀ N (a0:TTable),OK (copies_Table N a0) 84 [.agg (e32 a0)] [] (fun r=>.agg (e32 r)) fun r=>[])∧(∀ N (a0:TEnv),OK (made_LightEnv N a0) 25 [.agg (e45 a0)] [] (fun r=>.v (.bool r)) fun r=>[]):=by
 refine ⟨fun N _=>rn Tryz.f75 [.cell 2 23] [] 14 (by kernel_rfl) ?_,fun N _ _=>rn Tryz.f115 [.tmp 4] [] 9 (by kernel_rfl) ?_,fun N _=>rn Tryz.f229 [.cell 2 29] [320,704] 13 (by kernel_rfl) ?_,fun N _=>rn Tryz.f227 [.tmp 2] [] 37 (by kernel_rfl) ?_,fun N _=>rn Tryz.f84 [.cell 2 32] [] 7 (by kernel_rfl) ?_,fun N _=>rn Tryz.f25 [.tmp 2] [] 53 (by kernel_rfl) ?_⟩<;>(rintro _ hw r hr C _ rfl hwf hf;have hgw:=hw;unfold GW at hgw;simp only[Tryz.f75,Tryz.f115,Tryz.f229,Tryz.f227,Tryz.f84,Tryz.f25,Option.get!];(first|rw[made_Tape_Conf] at hr|rw[slices_Contains_uint64_uint64] at hr|rw[scope_clone] at hr|rw[handle_Valid] at hr|rw[copies_Table] at hr|rw[made_LightEnv] at hr);repeat' first
 |(refine El.el hr ?_;intro hr)
 |(with_reducible intro h;refine bc_e hr h ?_;intro hr)
 |with_reducible intro _
 |simp only[go_sem,simprocAttr,hl3,hgw]
 |(with_reducible first|apply guard_of_f|apply guard_of_t|apply cond_of|apply doT_of_t|apply doT_of_f)
 |((first|with_reducible refine idx_s hr (by assumption) ?_ ?_|(with_reducible refine idx_e hr ?_ ?_;rotate_left;intro p;rotate_right));(·simp only[go_sem,simprocAttr,hgw]);intro hp hn hd hr;(try have hl3:=hd _ e3);(try simp only[go_sem,simprocAttr] at hl3))
 |(refine and_of' ?_ ?_;·first|assumption|omega)
 |(with_reducible refine idl_e hr ?_ ?_;(·simp only[go_sem]);intro p hp hn hd hr;(try have hl3:=hd _ e3);(try simp only[go_sem,simprocAttr] at hl3))
 |with_reducible refine CallX.c ?_ _
 |with_reducible refine OK.c hr hw ?_ (fun y hr=>?_) _
 |with_reducible refine OK.d hr hw ?_ (fun y hr=>?_) _
 |refine db 75 1 hf [([],[192],[4,5,8,9,10,11,12],[512,1000000]),([],[],[3,8,9],[192,512]),([1],[1000000],[3,8,9],[192,512]),([0,1,2],[],[8,9,10,11,12],[512,1000000]),([0,1,2,3],[],[8,9,10,11,12],[512,1000000]),([],[512],[3,4,5,6,7,9,10],[192,1000000]),([],[],[3,4,5,6,7,8],[192,512,1000000]),([1,2,6],[1000000],[3,6,7,8],[192,512]),([1,2,5,6,7],[],[3,6,7],[192]),([1,2,5,6,7,8],[],[3,6,7],[192]),([0,1,2,3,4,5,6,7,8,9],[],[],[]),([0,1,2,3,4,5,6,7,8,9,10],[128],[],[])] rfl rfl (by kernel_rfl) ?_ _
 |refine db 229 1 hf [([],[],[6,7,9,10],[]),([0],[],[6,7,9,10],[]),([0,1],[320],[6,7,9,10],[]),([],[],[3,4,5,9,10],[320]),([3],[],[3,4,5,9,10],[320]),([0,1,2,3,4],[512],[9,10],[]),([],[],[3,4,5,6,7,8],[320,512]),([6],[],[3,4,5,6,7,8],[320,512]),([0,1,2,3,4,5,6,7],[704],[],[]),([0,1,2,3,4,5,6,7,8],[],[],[]),([0,1,2,3,4,5,6,7,8,9],[128],[],[])] rfl rfl (by kernel_rfl) ?_ _
 |refine db 227 3 hf [([],[],[24,25,26],[]),([0],[],[24,25,26],[]),([0,1],[],[24,25,26],[]),([],[],[21,22,23],[]),([3],[],[21,22,23],[]),([3,4],[],[21,22,23],[]),([0,1,2,3,4,5],[],[],[]),([0,1,2,3,4,5,6],[],[],[]),([0,1,2,3,4,5,6,7],[],[32,33,34],[]),([0,1,2,3,4,5,6,7,8],[],[32,33,34],[]),([0,1,2,3,4,5,6,7,8,9],[],[32,33,34],[]),([0,1,2,3,4,5,6,7],[],[29,30,31],[]),([0,1,2,3,4,5,6,7,11],[],[29,30,31],[]),([0,1,2,3,4,5,6,7,11,12],[],[29,30,31],[]),([0,1,2,3,4,5,6,7,8,9,10,11,12,13],[],[],[]),([0,1,2,3,4,5,6,7,8,9,10,11,12,13,14],[],[],[]),([0,1,2,3,4,5,6,7,8,9,10,11,12,13,14,15],[],[],[])] rfl rfl (by kernel_rfl) ?_ _
 |(refine some_e hr ?_;rintro rfl;with_reducible refine ret_k ?_)
 |exact no_e hr
 |fail)
@[reducible,instance] def made_Tape_Conf_i:=g5.1
@[reducible,instance] def slices_Contains_uint64_uint64_i:=g5.2.1
@[reducible,instance] def scope_clone_i:=g5.2.2.1
@[reducible,instance] def handle_Valid_i:=g5.2.2.2.1
@[reducible,instance] def copies_Table_i:=g5.2.2.2.2.1
@[reducible,instance] def made_LightEnv_i:=g5.2.2.2.2.2
theorem g4:(∀ N (a0:TConf),OK (ref21_New N a0) 20 [.agg (e23 a0)] [] (fun r=>.tup [.agg (e36 r.1),.v (.int .i64 r.2)]) fun r=>[])∧(∀ N (a0:TConf),OK (ref04_New N a0) 129 [.agg (e23 a0)] [] (fun r=>.tup [.agg (e42 r.1),.v (.int .i64 r.2)]) fun r=>[])∧(∀ N (a0:THeader),OK (header_Valid N a0) 200 [.agg (e75 a0)] [] (fun r=>.v (.bool r)) fun r=>[])∧(∀ N (a0:TConf),OK (page_SmallWords N a0) 278 [.agg (e23 a0)] [] (fun r=>.v (.int .i64 r)) fun r=>[])∧(∀ N (a0:TLocals),OK (copies_Locals N a0) 83 [.agg (e29 a0)] [] (fun r=>.agg (e29 r)) fun r=>[])∧(∀ N (a0:Int) (a1:Int),OK (bits_fits N a0 a1) 262 [.v (.int .u64 a0),.v (.int .i64 a1)] [] (fun r=>.v (.bool r)) fun r=>[]):=by
 refine ⟨fun N _=>rn Tryz.f20 [.cell 2 36,.tmp 3] [] 10 (by kernel_rfl) ?_,fun N _=>rn Tryz.f129 [.cell 2 42,.tmp 3] [] 19 (by kernel_rfl) ?_,fun N _=>rn Tryz.f200 [.tmp 2] [] 43 (by kernel_rfl) ?_,fun N _=>rn Tryz.f278 [.tmp 2] [] 9 (by kernel_rfl) ?_,fun N _=>rn Tryz.f83 [.cell 2 29] [] 13 (by kernel_rfl) ?_,fun N _ _=>rn Tryz.f262 [.tmp 4] [] 10 (by kernel_rfl) ?_⟩<;>(rintro _ hw r hr C _ rfl hwf hf;simp only[Tryz.f20,Tryz.f129,Tryz.f200,Tryz.f278,Tryz.f83,Tryz.f262,Option.get!];(first|rw[ref21_New] at hr|rw[ref04_New] at hr|rw[header_Valid] at hr|rw[page_SmallWords] at hr|rw[copies_Locals] at hr|rw[bits_fits] at hr);repeat' first
 |(refine El.el hr ?_;intro hr)
 |(with_reducible intro h;refine bc_e hr h ?_;intro hr)
 |with_reducible intro _
 |simp only[go_sem,simprocAttr]
 |(with_reducible first|apply guard_of_f|apply guard_of_t|apply cond_of|apply doT_of_t|apply doT_of_f)
 |(refine and_of' ?_ ?_;·first|assumption|omega)
 |with_reducible refine CallX.c ?_ _
 |with_reducible refine OK.c hr hw ?_ (fun y hr=>?_) _
 |with_reducible refine OK.d hr hw ?_ (fun y hr=>?_) _
 |refine db 129 3 hf [([],[],[9,10,11,12,13,14,15,16,17],[896,1088]),([],[],[8,11,12,15,16,17],[1088]),([1],[],[8,11,12,15,16,17],[1088]),([],[],[8,9,10,15,16,17],[1088]),([3],[],[8,9,10,15,16,17],[1088]),([1,2,3,4],[],[8,15,16,17],[1088]),([1,2,3,4,5],[896],[8,15,16,17],[1088]),([],[],[8,9,10,11,12,13,14],[896]),([7],[],[8,9,10,11,12,13,14],[896]),([7,8],[1088],[8,9,10,11,12,13,14],[896]),([0,1,2,3,4,5,6,7,8,9],[],[],[]),([0,1,2,3,4,5,6,7,8,9,10],[128],[],[]),([0,1,2,3,4,5,6,7,8,9,10,11],[],[],[])] rfl rfl (by kernel_rfl) ?_ _
 |refine db 200 4 hf [([],[],[],[]),([0],[],[],[]),([0,1],[],[],[]),([0,1,2],[],[],[]),([0,1,2,3],[],[31,32,33],[]),([0,1,2,3,4],[],[31,32,33],[]),([0,1,2,3,4,5],[],[31,32,33],[]),([0,1,2,3],[],[28,29,30],[]),([0,1,2,3,7],[],[28,29,30],[]),([0,1,2,3,7,8],[],[28,29,30],[]),([0,1,2,3,4,5,6,7,8,9],[],[],[]),([0,1,2,3,4,5,6,7,8,9,10],[],[],[]),([0,1,2,3,4,5,6,7,8,9,10,11],[],[],[])] rfl rfl (by kernel_rfl) ?_ _
 |refine db 83 1 hf [([],[],[6,7,9,10],[]),([0],[],[6,7,9,10],[]),([0,1],[320],[6,7,9,10],[]),([],[],[3,4,5,9,10],[320]),([3],[],[3,4,5,9,10],[320]),([0,1,2,3,4],[512],[9,10],[]),([],[],[3,4,5,6,7,8],[320,512]),([6],[],[3,4,5,6,7,8],[320,512]),([0,1,2,3,4,5,6,7],[704],[],[]),([0,1,2,3,4,5,6,7,8],[],[],[]),([0,1,2,3,4,5,6,7,8,9],[128],[],[])] rfl rfl (by kernel_rfl) ?_ _
 |(refine some_e hr ?_;rintro rfl;with_reducible refine ret_k ?_)
 |exact no_e hr
 |fail)
@[reducible,instance] def ref21_New_i:=g4.1
@[reducible,instance] def ref04_New_i:=g4.2.1
@[reducible,instance] def header_Valid_i:=g4.2.2.1
@[reducible,instance] def page_SmallWords_i:=g4.2.2.2.1
@[reducible,instance] def copies_Locals_i:=g4.2.2.2.2.1
@[reducible,instance] def bits_fits_i:=g4.2.2.2.2.2
end Go.Sx
