import Derived.Test.YtgdnaekdnmegbaaGreatDoorF
set_option linter.all false
namespace Go.Sx
open Go.Proofs
set_option maxRecDepth 10000
set_option maxHeartbeats 100000000
abbrev I_ref15_Valid_l1:=fun N (a0:TTable) (Q:(Ex Bool Unit)→Prop) n (st:St)=>∃ (v1:Int) (ex:_),ref15_Valid_l1 N a0 n v1=some ex∧Q ex∧((∃ w64,st.n=39∧st.t 1=.ept 64 w64 1 0 0∧st.t 3=.v (.int .i64 v1)∧st.s 64=some (w64,.arr true 32 1 [[.isl 148 3 (a0.Entries.map e148)]] 0)))
abbrev I_ref06_Has_l1:=fun N (a0:List Int) (a1:Int) (Q:(Ex Bool Unit)→Prop) n (st:St)=>∃ (v1:Int) (ex:_),ref06_Has_l1 N a0 a1 n v1=some ex∧Q ex∧((st.n=18∧st.t 0=.isl 37 1 (a0.map e37)∧st.t 1=.v (.int .u64 a1)∧st.t 5=.v (.int .i64 v1)))
abbrev I_ref09_head_l1:=fun N (a0:THeap) (Q:Int→Prop) n (st:St)=>∃ (v1:Int) (ex:_),ref09_head_l1 N a0 n v1=some ex∧Q ex∧((∃ w128,st.n=15∧st.t 1=.v (.int .i64 v1)∧st.t 2=.ept 128 w128 6 0 0∧st.s 128=some (w128,.arr true 40 6 [[.v (.int .i64 a0.Conf.PageWords),.v (.int .i64 a0.Conf.Pages),.isl 37 1 (a0.Words.map e37),.isl 260 4 (a0.Pages.map e260),.v (.int .i64 a0.Space),.v (.int .i64 a0.Bump)]] 0)))
abbrev I_ref10_taken_l1:=fun N (a0:TWork) (a1:Int) (Q:(Ex Bool Unit)→Prop) n (st:St)=>∃ (v1:Int) (ex:_),ref10_taken_l1 N a0 a1 n v1=some ex∧Q ex∧((∃ w128,st.n=20∧st.t 1=.v (.int .i64 a1)∧st.t 2=.ept 128 w128 16 0 0∧st.t 5=.v (.int .i64 v1)∧st.s 128=some (w128,.arr true 227 16 [[.v (.int .i64 a0.Heap.Conf.PageWords),.v (.int .i64 a0.Heap.Conf.Pages),.isl 37 1 (a0.Heap.Words.map e37),.isl 260 4 (a0.Heap.Pages.map e260),.v (.int .i64 a0.Heap.Space),.v (.int .i64 a0.Heap.Bump),.isl 37 1 (a0.Old.map e37),.isl 3 1 (a0.Taken.map e3),.isl 37 1 (a0.Queue.map e37),.v (.int .i64 a0.Scanned),.v (.int .i64 a0.Report.Copied),.v (.int .i64 a0.Report.Kept),.v (.int .i64 a0.Report.Filled),.v (.int .i64 a0.Report.Freed),.v (.int .i64 a0.Report.Cleared),.v (.int .i64 a0.Report.Steps)]] 0)))
abbrev I_ref04_take_l1:=fun N (a1:Int) (a2:Int) (a3:TPage) (a4:TPage) (Q:(Ex (List TPage × Int) (List TPage))→Prop) n (st:St)=>∃ (v1:Int) (v2:List TPage) (ex:_),ref04_take_l1 N a1 a2 a3 a4 n v1 v2=some ex∧Q ex∧((∃ w1920 w512 w576,st.n=57∧st.s 1920=some (w1920,.arr false 260 4 (v2.map e260) 0)∧st.t 1=.v (.int .i64 a1)∧st.t 2=.v (.int .i64 a2)∧st.t 8=.ept 512 w512 4 0 0∧st.t 9=.ept 576 w576 4 0 0∧st.t 12=.osl 1920 w1920 4 0 v2.length∧st.t 13=.v (.int .i64 v1)∧st.s 512=some (w512,.arr true 260 4 [[.v (.int .i64 a3.Kind),.v (.int .i64 a3.Space),.v (.int .i64 a3.Used),.v (.int .i64 a3.Pins)]] 0)∧st.s 576=some (w576,.arr true 260 4 [[.v (.int .i64 a4.Kind),.v (.int .i64 a4.Space),.v (.int .i64 a4.Used),.v (.int .i64 a4.Pins)]] 0)))
abbrev I_ref20_within_l1:=fun N (a0:TWorld) (a1:List Int) (Q:(Ex Bool Unit)→Prop) n (st:St)=>∃ (v1:Int) (ex:_),ref20_within_l1 N a0 a1 n v1=some ex∧Q ex∧((∃ w128,st.n=21∧st.t 1=.isl 37 1 (a1.map e37)∧st.t 2=.ept 128 w128 10 0 0∧st.t 5=.v (.int .i64 v1)∧st.s 128=some (w128,.arr true 36 10 [[.v (.int .i64 a0.Conf.PageWords),.v (.int .i64 a0.Conf.Pages),.isl 99 4 (a0.Things.map e99),.isl 179 3 (a0.Locals.Slots.map e179),.isl 134 3 (a0.Locals.Scopes.map e134),.isl 3 1 (a0.Locals.Issued.map e3),.isl 148 3 (a0.Globals.Entries.map e148),.isl 148 3 (a0.Weaks.Entries.map e148),.isl 74 3 (a0.Marks.map e74),.isl 37 1 (a0.Roots.map e37)]] 0)))
abbrev I_ref04_InUse_l1:=fun N (a0:List TPage) (Q:Int→Prop) n (st:St)=>∃ (v1:Int) (v2:Int) (ex:_),ref04_InUse_l1 N a0 n v1 v2=some ex∧Q ex∧((st.n=20∧st.t 0=.isl 260 4 (a0.map e260)∧st.t 3=.v (.int .i64 v1)∧st.t 4=.v (.int .i64 v2)))
abbrev I_scope_frames_nested_l1:=fun N (a0:Tframes) (Q:(Ex Bool Unit)→Prop) n (st:St)=>∃ (v1:Int) (v2:Int) (ex:_),scope_frames_nested_l1 N a0 n v1 v2=some ex∧Q ex∧((∃ w64,st.n=74∧st.t 1=.ept 64 w64 3 0 0∧st.t 3=.v (.int .i64 v1)∧st.t 27=.isl 134 3 (a0.Locals.Scopes.map e134)∧st.t 28=.v (.int .i64 ((a0.Locals.Scopes.length:Nat):Int))∧st.t 29=.v (.int .i64 v2)∧st.s 64=some (w64,.arr true 167 3 [[.isl 179 3 (a0.Locals.Slots.map e179),.isl 134 3 (a0.Locals.Scopes.map e134),.isl 3 1 (a0.Locals.Issued.map e3)]] 0)))
abbrev I_slices_Index_uint64_uint64_l1:=fun N (a0:List Int) (a1:Int) (Q:(Ex Int Unit)→Prop) n (st:St)=>∃ (v1:Int) (ex:_),slices_Index_uint64_uint64_l1 N a0 a1 n v1=some ex∧Q ex∧((st.n=19∧st.t 0=.isl 37 1 (a0.map e37)∧st.t 1=.v (.int .u64 a1)∧st.t 7=.v (.int .i64 ((a0.length:Nat):Int))∧st.t 8=.v (.int .i64 v1)))
theorem g5:(∀ N (a0:TTable),OK (ref15_Valid N a0) 49 [.agg (e32 a0)] [] (fun r=>.v (.bool r)) fun r=>[])∧(∀ N (a0:List Int) (a1:Int),OK (ref06_Has N a0 a1) 165 [.isl 37 1 (a0.map e37),.v (.int .u64 a1)] [] (fun r=>.v (.bool r)) fun r=>[])∧(∀ N (a0:THeap) (a1:Int),OK (ref09_head N a0 a1) 251 [.agg (e40 a0),.v (.int .i64 a1)] [] (fun r=>.v (.int .i64 r)) fun r=>[])∧(∀ N (a0:TWork) (a1:Int),OK (ref10_taken N a0 a1) 231 [.agg (e227 a0),.v (.int .i64 a1)] [] (fun r=>.v (.bool r)) fun r=>[])∧(∀ N (a0:List TPage) (a1:Int) (a2:Int) (a3:TPage) (a4:TPage),OK (ref04_take N a0 a1 a2 a3 a4) 250 [.isl 260 4 (a0.map e260),.v (.int .i64 a1),.v (.int .i64 a2),.agg (e260 a3),.agg (e260 a4)] [] (fun r=>.tup [.fsl 260 4 (r.1.map e260),.v (.int .i64 r.2)]) fun r=>[])∧(∀ N (a0:TWorld) (a1:List Int),OK (ref20_within N a0 a1) 51 [.agg (e36 a0),.isl 37 1 (a1.map e37)] [] (fun r=>.v (.bool r)) fun r=>[])∧(∀ N (a0:List TPage),OK (ref04_InUse N a0) 243 [.isl 260 4 (a0.map e260)] [] (fun r=>.v (.int .i64 r)) fun r=>[])∧(∀ N (a0:Tframes),OK (scope_frames_nested N a0) 104 [.agg (e167 a0)] [] (fun r=>.v (.bool r)) fun r=>[])∧(∀ N (a0:List Int) (a1:Int),OK (slices_Index_uint64_uint64 N a0 a1) 109 [.isl 37 1 (a0.map e37),.v (.int .u64 a1)] [] (fun r=>.v (.int .i64 r)) fun r=>[]):=by
 refine ⟨fun N _=>rn Tryz.f49 [.tmp 2] [] 39 (by kernel_rfl) ?_,fun N _ _=>rn Tryz.f165 [.tmp 4] [] 18 (by kernel_rfl) ?_,fun N _ _=>rn Tryz.f251 [.tmp 4] [] 15 (by kernel_rfl) ?_,fun N _ _=>rn Tryz.f231 [.tmp 4] [] 20 (by kernel_rfl) ?_,fun N _ _ _ _ _=>rn Tryz.f250 [.tmp 10,.tmp 11] [1920] 57 (by kernel_rfl) ?_,fun N _ _=>rn Tryz.f51 [.tmp 4] [] 21 (by kernel_rfl) ?_,fun N _=>rn Tryz.f243 [.tmp 2] [] 20 (by kernel_rfl) ?_,fun N _=>rn Tryz.f104 [.tmp 2] [] 74 (by kernel_rfl) ?_,fun N _ _=>rn Tryz.f109 [.tmp 4] [] 19 (by kernel_rfl) ?_⟩<;>(rintro _ hw r hr C rfl hwf hf;simp only[Tryz.f49,Tryz.f165,Tryz.f251,Tryz.f231,Tryz.f250,Tryz.f51,Tryz.f243,Tryz.f104,Tryz.f109,Option.get!];(first|rw[ref15_Valid] at hr|rw[ref06_Has] at hr|rw[ref09_head] at hr|rw[ref10_taken] at hr|rw[ref04_take] at hr|rw[ref20_within] at hr|rw[ref04_InUse] at hr|rw[scope_frames_nested] at hr|rw[slices_Index_uint64_uint64] at hr);repeat' first
 |(refine El.el hr ?_;intro hr)
 |(with_reducible intro h;refine bc_e hr h ?_;intro hr)
 |with_reducible intro _
 |(refine some_e hr ?_;rintro rfl;have hr:=hk;clear hk)
 |simp only[go_sem,simprocAttr,E,hl3,hl37,hl134,hl148,hl260]
 |(with_reducible first|apply guard_of_f|apply guard_of_t|apply cond_of|apply doT_of_t|apply doT_of_f)
 |((first|with_reducible refine idx_s hr (by assumption) ?_ ?_|(with_reducible refine idx_e hr ?_ ?_;rotate_left;intro p;rotate_right));(·simp only[go_sem,simprocAttr]);intro hp hn hd hr;(try have hl3:=hd _ e3);(try simp only[go_sem,simprocAttr] at hl3);(try have hl37:=hd _ e37);(try simp only[go_sem,simprocAttr] at hl37);(try have hl134:=hd _ e134);(try simp only[go_sem,simprocAttr] at hl134);(try have hl148:=hd _ e148);(try simp only[go_sem,simprocAttr] at hl148);(try have hl260:=hd _ e260);(try simp only[go_sem,simprocAttr] at hl260))
 |(refine and_of' ?_ ?_;·first|assumption|omega)
 |(with_reducible refine loop_e (I:=I_ref15_Valid_l1 N _) hr 1000 N (fun ex hq hk=>⟨_,ex,hq,hk,?_⟩) ?_ _;rotate_left;clear hr;(try clear E);rintro n1 st ⟨v1,ex,hr,hk,⟨_,E⟩⟩<;>(obtain _|n1:=n1<;>rw[ref15_Valid_l1] at hr))
 |refine ⟨_,Nat.lt_succ_self _,_,_,hr,hk,?_⟩
 |(with_reducible refine loop_e (I:=I_ref06_Has_l1 N _ _) hr 1000 N (fun ex hq hk=>⟨_,ex,hq,hk,?_⟩) ?_ _;rotate_left;clear hr;(try clear E);rintro n1 st ⟨v1,ex,hr,hk,E⟩<;>(obtain _|n1:=n1<;>rw[ref06_Has_l1] at hr))
 |(with_reducible refine loop_e (I:=I_ref09_head_l1 N _) hr 1000 N (fun ex hq hk=>⟨_,ex,hq,hk,?_⟩) ?_ _;rotate_left;clear hr;(try clear E);rintro n1 st ⟨v1,ex,hr,hk,⟨_,E⟩⟩<;>(obtain _|n1:=n1<;>rw[ref09_head_l1] at hr))
 |(with_reducible refine loop_e (I:=I_ref10_taken_l1 N _ _) hr 1000 N (fun ex hq hk=>⟨_,ex,hq,hk,?_⟩) ?_ _;rotate_left;clear hr;(try clear E);rintro n1 st ⟨v1,ex,hr,hk,⟨_,E⟩⟩<;>(obtain _|n1:=n1<;>rw[ref10_taken_l1] at hr))
 |(with_reducible refine loop_e (I:=I_ref04_take_l1 N _ _ _ _) hr 1000 N (fun ex hq hk=>⟨_,_,ex,hq,hk,?_⟩) ?_ _;rotate_left;clear hr;(try clear E);rintro n1 st ⟨v1,v2,ex,hr,hk,⟨_,_,_,E⟩⟩<;>(obtain _|n1:=n1<;>rw[ref04_take_l1] at hr))
 |refine ⟨_,Nat.lt_succ_self _,_,_,_,hr,hk,?_⟩
 |(with_reducible refine loop_e (I:=I_ref20_within_l1 N _ _) hr 1000 N (fun ex hq hk=>⟨_,ex,hq,hk,?_⟩) ?_ _;rotate_left;clear hr;(try clear E);rintro n1 st ⟨v1,ex,hr,hk,⟨_,E⟩⟩<;>(obtain _|n1:=n1<;>rw[ref20_within_l1] at hr))
 |(with_reducible refine loop_e (I:=I_ref04_InUse_l1 N _) hr 1000 N (fun ex hq hk=>⟨_,_,ex,hq,hk,?_⟩) ?_ _;rotate_left;clear hr;(try clear E);rintro n1 st ⟨v1,v2,ex,hr,hk,E⟩<;>(obtain _|n1:=n1<;>rw[ref04_InUse_l1] at hr))
 |(with_reducible refine loop_e (I:=I_scope_frames_nested_l1 N _) hr 1000 N (fun ex hq hk=>⟨_,_,ex,hq,hk,?_⟩) ?_ _;rotate_left;clear hr;(try clear E);rintro n1 st ⟨v1,v2,ex,hr,hk,⟨_,E⟩⟩<;>(obtain _|n1:=n1<;>rw[scope_frames_nested_l1] at hr))
 |(with_reducible refine loop_e (I:=I_slices_Index_uint64_uint64_l1 N _ _) hr 1000 N (fun ex hq hk=>⟨_,ex,hq,hk,?_⟩) ?_ _;rotate_left;clear hr;(try clear E);rintro n1 st ⟨v1,ex,hr,hk,E⟩<;>(obtain _|n1:=n1<;>rw[slices_Index_uint64_uint64_l1] at hr))
 |refine db 51 4 hf [([],[],[13,16,17,18,19],[]),([],[],[12,16,17,18,19],[]),([0,1],[],[16,17,18,19],[]),([0,1,2],[],[16,17,18,19],[]),([],[],[12,13,14,15],[]),([4],[],[12,13,14,15],[]),([4,5],[],[12,13,14,15],[]),([4,5,6],[],[12,13,14,15],[]),([0,1,2,3,4,5,6,7],[],[],[])] rfl rfl (by kernel_rfl) ?_ _
 |(refine some_e hr ?_;rintro rfl;with_reducible refine ret_k ?_)
 |exact no_e hr
 |((first|refine bc_e (c:=true) hr rfl ?_|refine bc_e (c:=false) hr rfl ?_|refine bc_e hr (by assumption) ?_);intro hr)
 |fail)
@[reducible,instance] def ref15_Valid_i:=g5.1
@[reducible,instance] def ref06_Has_i:=g5.2.1
@[reducible,instance] def ref09_head_i:=g5.2.2.1
@[reducible,instance] def ref10_taken_i:=g5.2.2.2.1
@[reducible,instance] def ref04_take_i:=g5.2.2.2.2.1
@[reducible,instance] def ref20_within_i:=g5.2.2.2.2.2.1
@[reducible,instance] def ref04_InUse_i:=g5.2.2.2.2.2.2.1
@[reducible,instance] def scope_frames_nested_i:=g5.2.2.2.2.2.2.2.1
@[reducible,instance] def slices_Index_uint64_uint64_i:=g5.2.2.2.2.2.2.2.2
theorem g3:(∀ N (a0:TConf),OK (ref04_ValidConf N a0) 47 [.agg (e23 a0)] [] (fun r=>.v (.bool r)) fun r=>[])∧(∀ N (a0:Int),OK (ref04_pins N a0) 199 [.v (.int .i64 a0)] [] (fun r=>.v (.bool r)) fun r=>[])∧(∀ N (a0:THeap) (a1:Int) (a2:Int),OK (ref09_address N a0 a1 a2) 254 [.agg (e40 a0),.v (.int .i64 a1),.v (.int .i64 a2)] [] (fun r=>.v (.int .u64 r)) fun r=>[])∧(∀ N (a0:Int),OK (ref03_Forward N a0) 228 [.v (.int .u64 a0)] [] (fun r=>.tup [.v (.int .u64 r.1),.v (.int .i64 r.2)]) fun r=>[])∧(∀ N (a0:THandle),OK (ref16_Valid N a0) 163 [.agg (e122 a0)] [] (fun r=>.v (.bool r)) fun r=>[])∧(∀ N (a0:TEnv) (a1:TEnv) (a2:Int) (a3:Int) (a4:Int),OK (ref21_Witness N a0 a1 a2 a3 a4) 68 [.agg (e43 a0),.agg (e43 a1),.v (.int .i64 a2),.v (.int .u64 a3),.v (.int .i64 a4)] [] (fun r=>.agg (e143 r)) fun r=>[])∧(∀ N (a0:Tframes) (a1:Int),OK (scope_frames_slots N a0 a1) 155 [.agg (e167 a0),.v (.int .i64 a1)] [] (fun r=>.isl 179 3 (r.map e179)) fun r=>[])∧(∀ N (a0:Int) (a1:TWorld),OK (rules_World_known_1_2 N a0 a1) 114 [.v (.int .u64 a0),.ept 1000000 0 10 0 0] [.arr true 61 10 [[.v (.int .i64 a1.Conf.PageWords),.v (.int .i64 a1.Conf.Pages),.isl 100 4 (a1.Things.map e100),.isl 179 3 (a1.Locals.Slots.map e179),.isl 134 3 (a1.Locals.Scopes.map e134),.isl 3 1 (a1.Locals.Issued.map e3),.isl 148 3 (a1.Globals.Entries.map e148),.isl 148 3 (a1.Weaks.Entries.map e148),.isl 101 3 (a1.Marks.map e101),.isl 37 1 (a1.Roots.map e37)]] 0] (fun r=>.v (.bool r)) fun r=>[.arr true 61 10 [[.v (.int .i64 a1.Conf.PageWords),.v (.int .i64 a1.Conf.Pages),.isl 100 4 (a1.Things.map e100),.isl 179 3 (a1.Locals.Slots.map e179),.isl 134 3 (a1.Locals.Scopes.map e134),.isl 3 1 (a1.Locals.Issued.map e3),.isl 148 3 (a1.Globals.Entries.map e148),.isl 148 3 (a1.Weaks.Entries.map e148),.isl 101 3 (a1.Marks.map e101),.isl 37 1 (a1.Roots.map e37)]] 0]):=by
 refine ⟨fun N _=>rn Tryz.f47 [.tmp 2] [] 27 (by kernel_rfl) ?_,fun N _=>rn Tryz.f199 [.tmp 2] [] 9 (by kernel_rfl) ?_,fun N _ _ _=>rn Tryz.f254 [.tmp 6] [] 16 (by kernel_rfl) ?_,fun N _=>rn Tryz.f228 [.tmp 2,.tmp 3] [] 9 (by kernel_rfl) ?_,fun N _=>rn Tryz.f163 [.tmp 2] [] 31 (by kernel_rfl) ?_,fun N _ _ _ _ _=>rn Tryz.f68 [.cell 10 143] [] 44 (by kernel_rfl) ?_,fun N _ _=>rn Tryz.f155 [.tmp 4] [] 42 (by kernel_rfl) ?_,fun N _ _=>rn Tryz.f114 [.tmp 3] [] 10 (by kernel_rfl) ?_⟩<;>(rintro _ hw r hr C rfl hwf hf;simp only[Tryz.f47,Tryz.f199,Tryz.f254,Tryz.f228,Tryz.f163,Tryz.f68,Tryz.f155,Tryz.f114,Option.get!];(first|rw[ref04_ValidConf] at hr|rw[ref04_pins] at hr|rw[ref09_address] at hr|rw[ref03_Forward] at hr|rw[ref16_Valid] at hr|rw[ref21_Witness] at hr|rw[scope_frames_slots] at hr|rw[rules_World_known_1_2] at hr);repeat' first
 |(refine El.el hr ?_;intro hr)
 |(with_reducible intro h;refine bc_e hr h ?_;intro hr)
 |with_reducible intro _
 |simp only[go_sem,simprocAttr,hl134,List.length_take,List.length_drop,Nat.min_self]
 |(with_reducible first|apply guard_of_f|apply guard_of_t|apply cond_of|apply doT_of_t|apply doT_of_f)
 |((first|with_reducible refine idx_s hr (by assumption) ?_ ?_|(with_reducible refine idx_e hr ?_ ?_;rotate_left;intro p;rotate_right));(·simp only[go_sem,simprocAttr,List.length_take,List.length_drop,Nat.min_self]);intro hp hn hd hr;(try have hl134:=hd _ e134);(try simp only[go_sem,simprocAttr] at hl134))
 |(refine and_of' ?_ ?_;·first|assumption|omega)
 |refine db 155 2 hf [([],[],[15,16,17,18,19,20,21,22,23,24,25,26,27,28,29],[]),([0],[],[15,16,17,18,19,20,21,22,23,24,25,26,27,28,29],[]),([0,1],[],[15,16,17,18,19,20,21,22,23,24,25,26,27,28,29],[]),([],[],[12,13,14,18,22,23,24,25,26,27,28,29],[]),([3],[],[12,13,14,18,22,23,24,25,26,27,28,29],[]),([3,4],[],[12,13,14,18,22,23,24,25,26,27,28,29],[]),([],[],[12,13,14,15,16,17,22,23,24,25,26,27,28,29],[]),([3,4,5,6],[],[12,13,14,22,23,24,25,26,27,28,29],[]),([3,4,5,6,7],[],[12,13,14,22,23,24,25,26,27,28,29],[]),([3,4,5,6,7,8],[],[12,13,14,22,23,24,25,26,27,28,29],[]),([],[],[12,13,14,15,16,17,18,19,20,21,25,26],[]),([10],[],[12,13,14,15,16,17,18,19,20,21,25,26],[]),([10,11],[],[12,13,14,15,16,17,18,19,20,21,25,26],[]),([],[],[12,13,14,15,16,17,18,19,20,21,22,23,24],[]),([13],[],[12,13,14,15,16,17,18,19,20,21,22,23,24],[]),([10,11,12,13,14],[],[12,13,14,15,16,17,18,19,20,21],[]),([10,11,12,13,14,15],[],[12,13,14,15,16,17,18,19,20,21],[]),([10,11,12,13,14,15,16],[],[12,13,14,15,16,17,18,19,20,21],[]),([0,1,2,3,4,5,6,7,8,9,10,11,12,13,14,15,16,17],[],[],[]),([0,1,2,3,4,5,6,7,8,9,10,11,12,13,14,15,16,17,18],[],[],[])] rfl rfl (by kernel_rfl) ?_ _
 |refine db 155 3 hf [([],[],[34,35,36,37,38,39,40],[]),([0],[],[34,35,36,37,38,39,40],[]),([0,1],[],[34,35,36,37,38,39,40],[]),([],[],[31,32,33,37],[]),([3],[],[31,32,33,37],[]),([3,4],[],[31,32,33,37],[]),([],[],[31,32,33,34,35,36],[]),([3,4,5,6],[],[31,32,33],[]),([3,4,5,6,7],[],[31,32,33],[]),([3,4,5,6,7,8],[],[31,32,33],[]),([0,1,2,3,4,5,6,7,8,9],[],[],[]),([0,1,2,3,4,5,6,7,8,9,10],[],[],[])] rfl rfl (by kernel_rfl) ?_ _
 |(refine some_e hr ?_;rintro rfl;with_reducible refine ret_k ?_)
 |exact no_e hr
 |fail)
@[reducible,instance] def ref04_ValidConf_i:=g3.1
@[reducible,instance] def ref04_pins_i:=g3.2.1
@[reducible,instance] def ref09_address_i:=g3.2.2.1
@[reducible,instance] def ref03_Forward_i:=g3.2.2.2.1
@[reducible,instance] def ref16_Valid_i:=g3.2.2.2.2.1
@[reducible,instance] def ref21_Witness_i:=g3.2.2.2.2.2.1
@[reducible,instance] def scope_frames_slots_i:=g3.2.2.2.2.2.2.1
@[reducible,instance] def rules_World_known_1_2_i:=g3.2.2.2.2.2.2.2
instance slices_Clone_int_int_i:∀ N (a0:List Int),OK (slices_Clone_int_int N a0) 220 [.isl 3 1 (a0.map e3)] [] (fun r=>.fsl 3 1 (r.map e3)) fun r=>[]:=by
 refine fun N a0=>⟨fun G hw r hr=>?_⟩
 rw[slices_Clone_int_int] at hr
 obtain rfl:=Option.some.inj hr
 obtain _|⟨x,l⟩:=a0
 refine acalls_empty fun a cap=>?_
 obtain _|a:=a
 all_goals
  refine acalls_of_run (fn:=Tryz.f220) (body:=(Tryz.f220.body).get!) (rs:=[.tmp 2]) 1000 [320] 8 (by kernel_rfl) (by kernel_rfl) (by kernel_rfl) (by kernel_rfl) (by kernel_rfl) (by simp) fun C hG hwf=>?_;subst hG;have hw2:=hwf;simp only[WfL,Wf,List.length_map,and_true,List.length_cons,bytes3,top47] at hw2;simp only[Tryz.f220,Option.get!]
  simp only[go_sem,simprocAttr]
  try refine ⟨by omega,?_⟩
  with_reducible refine ret_k ?_
  simp only[go_sem,simprocAttr]
end Go.Sx
