import Derived.Test.YtgdhlnfcogcicaaGreatDoorQF
set_option linter.all false
namespace Go.Sx
open Go.Proofs
set_option maxRecDepth 10000
set_option maxHeartbeats 100000000
abbrev I_ref15_Valid_l1:=fun N (a0:TTable) (Q:(Ex Bool Unit)→Prop) n (st:St)=>∃ (v1:Int) (ex:_),ref15_Valid_l1 N a0 n v1=some ex∧Q ex∧((∃ w64,st.n=39∧st.t 1=.ept 64 w64 1 0 0∧st.t 3=.v (.int .i64 v1)∧st.s 64=some (w64,.arr true 32 1 [[.isl 132 3 (a0.Entries.map e132)]] 0)))
abbrev I_ref20_mark_l1:=fun N (a0:TWorld) (a1:Int) (Q:(Ex Int Unit)→Prop) n (st:St)=>∃ (v1:Int) (ex:_),ref20_mark_l1 N a0 a1 n v1=some ex∧Q ex∧((∃ w128,st.n=22∧st.t 1=.v (.int .u64 a1)∧st.t 2=.ept 128 w128 10 0 0∧st.t 5=.v (.int .i64 v1)∧st.s 128=some (w128,.arr true 36 10 [[.v (.int .i64 a0.Conf.PageWords),.v (.int .i64 a0.Conf.Pages),.isl 115 4 (a0.Things.map e115),.isl 210 3 (a0.Locals.Slots.map e210),.isl 159 3 (a0.Locals.Scopes.map e159),.isl 3 1 (a0.Locals.Issued.map e3),.isl 132 3 (a0.Globals.Entries.map e132),.isl 132 3 (a0.Weaks.Entries.map e132),.isl 96 3 (a0.Marks.map e96),.isl 37 1 (a0.Roots.map e37)]] 0)))
abbrev I_ref09_head_l1:=fun N (a0:THeap) (Q:Int→Prop) n (st:St)=>∃ (v1:Int) (ex:_),ref09_head_l1 N a0 n v1=some ex∧Q ex∧((∃ w128,st.n=15∧st.t 1=.v (.int .i64 v1)∧st.t 2=.ept 128 w128 6 0 0∧st.s 128=some (w128,.arr true 42 6 [[.v (.int .i64 a0.Conf.PageWords),.v (.int .i64 a0.Conf.Pages),.isl 37 1 (a0.Words.map e37),.isl 306 4 (a0.Pages.map e306),.v (.int .i64 a0.Space),.v (.int .i64 a0.Bump)]] 0)))
abbrev I_ref04_Runs_l1:=fun N (a0:List TPage) (Q:(List TRun)→Prop) n (st:St)=>∃ (v1:Int) (v2:List TRun) (ex:_),ref04_Runs_l1 N a0 n v1 v2=some ex∧Q ex∧((∃ w3328,st.n=54∧st.s 3328=some (w3328,.arr false 359 2 (v2.map e359) 0)∧st.t 0=.isl 306 4 (a0.map e306)∧st.t 3=.osl 3328 w3328 2 0 v2.length∧st.t 4=.v (.int .i64 v1))∨((st.n=54∧st.t 0=.isl 306 4 (a0.map e306)∧st.t 3=.nsl∧st.t 4=.v (.int .i64 v1))∧v2=[]))
abbrev I_ref04_InUse_l1:=fun N (a0:List TPage) (Q:Int→Prop) n (st:St)=>∃ (v1:Int) (v2:Int) (ex:_),ref04_InUse_l1 N a0 n v1 v2=some ex∧Q ex∧((st.n=20∧st.t 0=.isl 306 4 (a0.map e306)∧st.t 3=.v (.int .i64 v1)∧st.t 4=.v (.int .i64 v2)))
abbrev I_slices_Index_uint64_uint64_l1:=fun N (a0:List Int) (a1:Int) (Q:(Ex Int Unit)→Prop) n (st:St)=>∃ (v1:Int) (ex:_),slices_Index_uint64_uint64_l1 N a0 a1 n v1=some ex∧Q ex∧((st.n=19∧st.t 0=.isl 37 1 (a0.map e37)∧st.t 1=.v (.int .u64 a1)∧st.t 7=.v (.int .i64 ((a0.length:Nat):Int))∧st.t 8=.v (.int .i64 v1)))
abbrev I_made_LightWorld_l1:=fun N (a0:TWorld) (Q:(Ex Bool Unit)→Prop) n (st:St)=>∃ (v1:Int) (ex:_),made_LightWorld_l1 N a0 n v1=some ex∧Q ex∧((∃ w64,st.n=70∧st.t 1=.ept 64 w64 10 0 0∧st.t 3=.v (.int .i64 v1)∧st.s 64=some (w64,.arr true 36 10 [[.v (.int .i64 a0.Conf.PageWords),.v (.int .i64 a0.Conf.Pages),.isl 115 4 (a0.Things.map e115),.isl 210 3 (a0.Locals.Slots.map e210),.isl 159 3 (a0.Locals.Scopes.map e159),.isl 3 1 (a0.Locals.Issued.map e3),.isl 132 3 (a0.Globals.Entries.map e132),.isl 132 3 (a0.Weaks.Entries.map e132),.isl 96 3 (a0.Marks.map e96),.isl 37 1 (a0.Roots.map e37)]] 0)))
abbrev I_ref15_Same_l1:=fun N (a0:TTable) (a1:TTable) (Q:(Ex Bool Unit)→Prop) n (st:St)=>∃ (v1:Int) (ex:_),ref15_Same_l1 N a0 a1 n v1=some ex∧Q ex∧((∃ w128 w192,st.n=31∧st.t 2=.ept 128 w128 1 0 0∧st.t 3=.ept 192 w192 1 0 0∧st.t 5=.v (.int .i64 v1)∧st.s 128=some (w128,.arr true 32 1 [[.isl 132 3 (a0.Entries.map e132)]] 0)∧st.s 192=some (w192,.arr true 32 1 [[.isl 132 3 (a1.Entries.map e132)]] 0)))
theorem g4:(∀ N (a0:TTable),OK (ref15_Valid N a0) 18 [.agg (e32 a0)] [] (fun r=>.v (.bool r)) fun r=>[])∧(∀ N (a0:TWorld) (a1:Int),OK (ref20_mark N a0 a1) 126 [.agg (e36 a0),.v (.int .u64 a1)] [] (fun r=>.v (.int .i64 r)) fun r=>[])∧(∀ N (a0:THeap) (a1:Int),OK (ref09_head N a0 a1) 294 [.agg (e42 a0),.v (.int .i64 a1)] [] (fun r=>.v (.int .i64 r)) fun r=>[])∧(∀ N (a0:List TPage),OK (ref04_Runs N a0) 292 [.isl 306 4 (a0.map e306)] [] (fun r=>.isl 359 2 (r.map e359)) fun r=>[])∧(∀ N (a0:List TPage),OK (ref04_InUse N a0) 286 [.isl 306 4 (a0.map e306)] [] (fun r=>.v (.int .i64 r)) fun r=>[])∧(∀ N (a0:List Int) (a1:Int),OK (slices_Index_uint64_uint64 N a0 a1) 199 [.isl 37 1 (a0.map e37),.v (.int .u64 a1)] [] (fun r=>.v (.int .i64 r)) fun r=>[])∧(∀ N (a0:TWorld),OK (made_LightWorld N a0) 38 [.agg (e36 a0)] [] (fun r=>.v (.bool r)) fun r=>[])∧(∀ N (a0:TTable) (a1:TTable),OK (ref15_Same N a0 a1) 54 [.agg (e32 a0),.agg (e32 a1)] [] (fun r=>.v (.bool r)) fun r=>[]):=by
 refine ⟨fun N _=>rn Tryz.f18 [.tmp 2] [] 39 (by kernel_rfl) ?_,fun N _ _=>rn Tryz.f126 [.tmp 4] [] 22 (by kernel_rfl) ?_,fun N _ _=>rn Tryz.f294 [.tmp 4] [] 15 (by kernel_rfl) ?_,fun N _=>rn Tryz.f292 [.tmp 2] [] 54 (by kernel_rfl) ?_,fun N _=>rn Tryz.f286 [.tmp 2] [] 20 (by kernel_rfl) ?_,fun N _ _=>rn Tryz.f199 [.tmp 4] [] 19 (by kernel_rfl) ?_,fun N _=>rn Tryz.f38 [.tmp 2] [] 70 (by kernel_rfl) ?_,fun N _ _=>rn Tryz.f54 [.tmp 4] [] 31 (by kernel_rfl) ?_⟩<;>(rintro _ hw r hr C _ rfl hwf hf;simp only[Tryz.f18,Tryz.f126,Tryz.f294,Tryz.f292,Tryz.f286,Tryz.f199,Tryz.f38,Tryz.f54,Option.get!];(first|rw[ref15_Valid] at hr|rw[ref20_mark] at hr|rw[ref09_head] at hr|rw[ref04_Runs] at hr|rw[ref04_InUse] at hr|rw[slices_Index_uint64_uint64] at hr|rw[made_LightWorld] at hr|rw[ref15_Same] at hr);repeat' first
 |(refine El.el hr ?_;intro hr)
 |(with_reducible intro h;refine bc_e hr h ?_;intro hr)
 |with_reducible intro _
 |(refine some_e hr ?_;rintro rfl;have hr:=hk;clear hk)
 |simp only[go_sem,simprocAttr,E,hl37,hl96,hl115,hl132,hl306,hl359]
 |(with_reducible first|apply guard_of_f|apply guard_of_t|apply cond_of|apply doT_of_t|apply doT_of_f)
 |((first|with_reducible refine idx_s hr (by assumption) ?_ ?_|(with_reducible refine idx_e hr ?_ ?_;rotate_left;intro p;rotate_right));(·simp only[go_sem,simprocAttr]);intro hp hn hd hr;(try have hl37:=hd _ e37);(try simp only[go_sem,simprocAttr] at hl37);(try have hl96:=hd _ e96);(try simp only[go_sem,simprocAttr] at hl96);(try have hl115:=hd _ e115);(try simp only[go_sem,simprocAttr] at hl115);(try have hl132:=hd _ e132);(try simp only[go_sem,simprocAttr] at hl132);(try have hl306:=hd _ e306);(try simp only[go_sem,simprocAttr] at hl306);(try have hl359:=hd _ e359);(try simp only[go_sem,simprocAttr] at hl359))
 |(refine and_of' ?_ ?_;·first|assumption|omega)
 |(with_reducible refine loop_e (I:=I_ref15_Valid_l1 N _) hr 1000 N (fun ex hq hk=>⟨_,ex,hq,hk,?_⟩) ?_ _;rotate_left;clear hr;(try clear E);rintro n1 st ⟨v1,ex,hr,hk,⟨_,E⟩⟩<;>(obtain _|n1:=n1<;>rw[ref15_Valid_l1] at hr))
 |refine ⟨_,Nat.lt_succ_self _,_,_,hr,hk,?_⟩
 |(with_reducible refine loop_e (I:=I_ref20_mark_l1 N _ _) hr 1000 N (fun ex hq hk=>⟨_,ex,hq,hk,?_⟩) ?_ _;rotate_left;clear hr;(try clear E);rintro n1 st ⟨v1,ex,hr,hk,⟨_,E⟩⟩<;>(obtain _|n1:=n1<;>rw[ref20_mark_l1] at hr))
 |(with_reducible refine loop_e (I:=I_ref09_head_l1 N _) hr 1000 N (fun ex hq hk=>⟨_,ex,hq,hk,?_⟩) ?_ _;rotate_left;clear hr;(try clear E);rintro n1 st ⟨v1,ex,hr,hk,⟨_,E⟩⟩<;>(obtain _|n1:=n1<;>rw[ref09_head_l1] at hr))
 |(with_reducible refine loop_e (I:=I_ref04_Runs_l1 N _) hr 1000 N (fun ex hq hk=>⟨_,_,ex,hq,hk,?_⟩) ?_ _;rotate_left;clear hr;(try clear E);rintro n1 st ⟨v1,v2,ex,hr,hk,(⟨_,E⟩|⟨E,z0⟩)⟩<;>(try subst z0)<;>(obtain _|n1:=n1<;>rw[ref04_Runs_l1] at hr))
 |refine ⟨_,Nat.lt_succ_self _,_,_,_,hr,hk,?_⟩
 |(with_reducible refine loop_e (I:=I_ref04_InUse_l1 N _) hr 1000 N (fun ex hq hk=>⟨_,_,ex,hq,hk,?_⟩) ?_ _;rotate_left;clear hr;(try clear E);rintro n1 st ⟨v1,v2,ex,hr,hk,E⟩<;>(obtain _|n1:=n1<;>rw[ref04_InUse_l1] at hr))
 |(with_reducible refine loop_e (I:=I_slices_Index_uint64_uint64_l1 N _ _) hr 1000 N (fun ex hq hk=>⟨_,ex,hq,hk,?_⟩) ?_ _;rotate_left;clear hr;(try clear E);rintro n1 st ⟨v1,ex,hr,hk,E⟩<;>(obtain _|n1:=n1<;>rw[slices_Index_uint64_uint64_l1] at hr))
 |(with_reducible refine loop_e (I:=I_made_LightWorld_l1 N _) hr 1000 N (fun ex hq hk=>⟨_,ex,hq,hk,?_⟩) ?_ _;rotate_left;clear hr;(try clear E);rintro n1 st ⟨v1,ex,hr,hk,⟨_,E⟩⟩<;>(obtain _|n1:=n1<;>rw[made_LightWorld_l1] at hr))
 |(with_reducible refine loop_e (I:=I_ref15_Same_l1 N _ _) hr 1000 N (fun ex hq hk=>⟨_,ex,hq,hk,?_⟩) ?_ _;rotate_left;clear hr;(try clear E);rintro n1 st ⟨v1,ex,hr,hk,⟨_,_,E⟩⟩<;>(obtain _|n1:=n1<;>rw[ref15_Same_l1] at hr))
 |refine db 292 7 hf [([],[],[],[]),([0],[],[],[]),([0,1],[],[],[]),([0,1,2],[],[24,25,29,30,31,32,33,34,36],[]),([0,1,2],[],[23,29,30,31,32,33,34,36],[]),([0,1,2,4],[],[23,29,30,31,32,33,34,36],[]),([0,1,2,3,4,5],[],[29,30,31,32,33,34,36],[]),([0,1,2,3,4,5,6],[],[29,30,31,32,33,34,36],[]),([0,1,2,3,4,5,6,7],[],[29,30,31,32,33,34,36],[]),([0,1,2],[],[23,24,25,26,27,28,30,31,36],[]),([0,1,2],[],[23,24,25,26,27,28,29,36],[]),([0,1,2,10],[],[23,24,25,26,27,28,29,36],[]),([0,1,2,9,10,11],[],[23,24,25,26,27,28,36],[]),([0,1,2,9,10,11,12],[],[23,24,25,26,27,28,36],[]),([0,1,2,9,10,11,12,13],[],[23,24,25,26,27,28,36],[]),([0,1,2,3,4,5,6,7,8,9,10,11,12,13,14],[],[36],[]),([0,1,2],[],[23,24,25,26,27,28,29,30,31,32,33,34,35],[]),([0,1,2,3,4,5,6,7,8,9,10,11,12,13,14,15,16],[],[],[]),([0,1,2,3,4,5,6,7,8,9,10,11,12,13,14,15,16,17],[],[],[])] rfl rfl (by kernel_rfl) ?_ _
 |refine db 54 6 hf [([],[],[22,25,26,27,28,29],[]),([0],[],[22,25,26,27,28,29],[]),([],[],[20,21,25,26,27,28,29],[]),([0,1,2],[],[25,26,27,28,29],[]),([0,1,2,3],[],[25,26,27,28,29],[]),([],[],[20,21,22,23,24,27],[]),([5],[],[20,21,22,23,24,27],[]),([],[],[20,21,22,23,24,25,26],[]),([5,6,7],[],[20,21,22,23,24],[]),([5,6,7,8],[],[20,21,22,23,24],[]),([0,1,2,3,4,5,6,7,8,9],[],[],[])] rfl rfl (by kernel_rfl) ?_ _
 |(refine some_e hr ?_;rintro rfl;with_reducible refine ret_k ?_)
 |exact no_e hr
 |((first|refine bc_e (c:=true) hr rfl ?_|refine bc_e (c:=false) hr rfl ?_|refine bc_e hr (by assumption) ?_);intro hr)
 |fail)
@[reducible,instance] def ref15_Valid_i:=g4.1
@[reducible,instance] def ref20_mark_i:=g4.2.1
@[reducible,instance] def ref09_head_i:=g4.2.2.1
@[reducible,instance] def ref04_Runs_i:=g4.2.2.2.1
@[reducible,instance] def ref04_InUse_i:=g4.2.2.2.2.1
@[reducible,instance] def slices_Index_uint64_uint64_i:=g4.2.2.2.2.2.1
@[reducible,instance] def made_LightWorld_i:=g4.2.2.2.2.2.2.1
@[reducible,instance] def ref15_Same_i:=g4.2.2.2.2.2.2.2
theorem g2:(∀ N (a0:TConf),OK (ref04_ValidConf N a0) 56 [.agg (e23 a0)] [] (fun r=>.v (.bool r)) fun r=>[])∧(∀ N (a0:TLocals) (a1:Int),OK (ref14_to N a0 a1) 191 [.agg (e29 a0),.v (.int .i64 a1)] [] (fun r=>.v (.int .i64 r)) fun r=>[])∧(∀ N (a0:TLocals) (a1:Int),OK (ref14_cut N a0 a1) 111 [.agg (e29 a0),.v (.int .i64 a1)] [] (fun r=>.agg (e29 r)) fun r=>[])∧(∀ N (a0:TEnv) (a1:TEnv) (a2:Int) (a3:Int) (a4:Int),OK (ref21_Witness N a0 a1 a2 a3 a4) 27 [.agg (e45 a0),.agg (e45 a1),.v (.int .i64 a2),.v (.int .u64 a3),.v (.int .i64 a4)] [] (fun r=>.agg (e39 r)) fun r=>[])∧(∀ N (a0:THeap) (a1:Int) (a2:Int),OK (ref09_address N a0 a1 a2) 297 [.agg (e42 a0),.v (.int .i64 a1),.v (.int .i64 a2)] [] (fun r=>.v (.int .u64 r)) fun r=>[])∧(∀ N (a0:Int),OK (ref03_Forward N a0) 270 [.v (.int .u64 a0)] [] (fun r=>.tup [.v (.int .u64 r.1),.v (.int .i64 r.2)]) fun r=>[])∧(∀ N (a1:Int),OK (slices_Grow_uint64_uint64_nil N a1) 119 [.nsl,.v (.int .i64 a1)] [] (fun r=>.fsl 37 1 (r.map e37)) fun r=>[])∧(∀ N (a0:TEntry),OK (slots_Valid_1 N a0) 198 [.agg (e132 a0)] [] (fun r=>.v (.bool r)) fun r=>[]):=by
 refine ⟨fun N _=>rn Tryz.f56 [.tmp 2] [] 27 (by kernel_rfl) ?_,fun N _ _=>rn Tryz.f191 [.tmp 4] [] 21 (by kernel_rfl) ?_,fun N _ _=>rn Tryz.f111 [.cell 4 29] [] 25 (by kernel_rfl) ?_,fun N _ _ _ _ _=>rn Tryz.f27 [.cell 10 39] [] 44 (by kernel_rfl) ?_,fun N _ _ _=>rn Tryz.f297 [.tmp 6] [] 16 (by kernel_rfl) ?_,fun N _=>rn Tryz.f270 [.tmp 2,.tmp 3] [] 9 (by kernel_rfl) ?_,fun N _=>rn Tryz.f119 [.tmp 4] [1408] 27 (by kernel_rfl) ?_,fun N _=>rn Tryz.f198 [.tmp 2] [] 21 (by kernel_rfl) ?_⟩<;>(rintro _ hw r hr C _ rfl hwf hf;simp only[Tryz.f56,Tryz.f191,Tryz.f111,Tryz.f27,Tryz.f297,Tryz.f270,Tryz.f119,Tryz.f198,Option.get!];(first|rw[ref04_ValidConf] at hr|rw[ref14_to] at hr|rw[ref14_cut] at hr|rw[ref21_Witness] at hr|rw[ref09_address] at hr|rw[ref03_Forward] at hr|rw[slices_Grow_uint64_uint64_nil] at hr|rw[slots_Valid_1] at hr);repeat' first
 |(refine El.el hr ?_;intro hr)
 |(with_reducible intro h;refine bc_e hr h ?_;intro hr)
 |with_reducible intro _
 |simp only[go_sem,simprocAttr,hl159,List.length_take,List.length_drop,Nat.min_self]
 |(with_reducible first|apply guard_of_f|apply guard_of_t|apply cond_of|apply doT_of_t|apply doT_of_f)
 |((first|with_reducible refine idx_s hr (by assumption) ?_ ?_|(with_reducible refine idx_e hr ?_ ?_;rotate_left;intro p;rotate_right));(·simp only[go_sem,simprocAttr,List.length_take,List.length_drop,Nat.min_self]);intro hp hn hd hr;(try have hl159:=hd _ e159);(try simp only[go_sem,simprocAttr] at hl159))
 |(refine and_of' ?_ ?_;·first|assumption|omega)
 |refine db 111 1 hf [([],[320],[6,7,8,9,10,11,12,13,14],[]),([],[],[5,8,9,10,11,12,13],[320]),([1],[],[5,8,9,10,11,12,13],[320]),([],[],[5,6,7,10],[320]),([3],[],[5,6,7,10],[320]),([],[],[5,6,7,8,9],[320]),([3,4,5],[],[5,6,7],[320]),([3,4,5,6],[],[5,6,7],[320]),([3,4,5,6,7],[],[5,6,7],[320]),([1,2,3,4,5,6,7,8],[],[5],[320]),([0,1,2,3,4,5,6,7,8,9],[320],[],[]),([0,1,2,3,4,5,6,7,8,9,10],[],[],[]),([0,1,2,3,4,5,6,7,8,9,10,11],[128],[],[])] rfl rfl (by kernel_rfl) ?_ _
 |(refine some_e hr ?_;rintro rfl;with_reducible refine ret_k ?_)
 |exact no_e hr
 |fail)
@[reducible,instance] def ref04_ValidConf_i:=g2.1
@[reducible,instance] def ref14_to_i:=g2.2.1
@[reducible,instance] def ref14_cut_i:=g2.2.2.1
@[reducible,instance] def ref21_Witness_i:=g2.2.2.2.1
@[reducible,instance] def ref09_address_i:=g2.2.2.2.2.1
@[reducible,instance] def ref03_Forward_i:=g2.2.2.2.2.2.1
@[reducible,instance] def slices_Grow_uint64_uint64_nil_i:=g2.2.2.2.2.2.2.1
@[reducible,instance] def slots_Valid_1_i:=g2.2.2.2.2.2.2.2
theorem g1:(∀ N (a0:TTape) (a1:Int),OK (made_Tape_Next N a0 a1) 35 [.ept 1000000 0 2 0 0,.v (.int .i64 a1)] [.arr true 51 2 [[.isl 3 1 (a0.L.map e3),.v (.int .i64 a0.at_)]] 0] (fun r=>.v (.int .i64 r.1)) fun r=>[.arr true 51 2 [[.isl 3 1 (r.2.L.map e3),.v (.int .i64 r.2.at_)]] 0])∧(∀ N (a0:THeader),OK (ref03_Valid N a0) 124 [.agg (e75 a0)] [] (fun r=>.v (.bool r)) fun r=>[])∧(∀ N (a0:THandle),OK (ref16_Valid N a0) 189 [.agg (e193 a0)] [] (fun r=>.v (.bool r)) fun r=>[])∧(∀ N (a0:TTable) (a1:Int) (a2:TEntry),OK (ref15_put N a0 a1 a2) 190 [.agg (e32 a0),.v (.int .i64 a1),.agg (e132 a2)] [] (fun r=>.agg (e32 r)) fun r=>[])∧(∀ N (a0:List Int) (a1:Int) (a2:Int),OK (ref02_span N a0 a1 a2) 274 [.isl 37 1 (a0.map e37),.v (.int .u64 a1),.v (.int .i64 a2)] [] (fun r=>.tup [.v (.int .i64 r.1),.v (.bool r.2)]) fun r=>[])∧(∀ N (a0:TWork) (a1:Int),OK (ref10_keep N a0 a1) 266 [.agg (e265 a0),.v (.int .u64 a1)] [] (fun r=>.agg (e265 r)) fun r=>[])∧(∀ N (a0:TConf),OK (page_ValidConf N a0) 55 [.agg (e23 a0)] [] (fun r=>.v (.bool r)) fun r=>[])∧(∀ N (a0:Int),OK (scope_Valid_1 N a0) 193 [.v (.int .i64 a0)] [] (fun r=>.v (.bool r)) fun r=>[])∧(∀ N (a0:TMark) (a1:Int),OK (rules_World_mark_1_2 N a0 a1) 225 [.agg (e116 a0),.ept 1000000 0 1 0 0] [.arr true 37 1 [[.v (.int .u64 a1)]] 0] (fun r=>.v (.bool r)) fun r=>[.arr true 37 1 [[.v (.int .u64 a1)]] 0]):=by
 refine ⟨fun N _ _=>rn Tryz.f35 [.tmp 4] [] 48 (by kernel_rfl) ?_,fun N _=>rn Tryz.f124 [.tmp 2] [] 40 (by kernel_rfl) ?_,fun N _=>rn Tryz.f189 [.tmp 2] [] 31 (by kernel_rfl) ?_,fun N _ _ _=>rn Tryz.f190 [.cell 6 32] [] 18 (by kernel_rfl) ?_,fun N _ _ _=>rn Tryz.f274 [.tmp 6,.tmp 7] [] 29 (by kernel_rfl) ?_,fun N _ _=>rn Tryz.f266 [.cell 4 265] [] 20 (by kernel_rfl) ?_,fun N _=>rn Tryz.f55 [.tmp 2] [] 27 (by kernel_rfl) ?_,fun N _=>rn Tryz.f193 [.tmp 2] [] 9 (by kernel_rfl) ?_,fun N _ _=>rn Tryz.f225 [.tmp 3] [] 8 (by kernel_rfl) ?_⟩<;>(rintro _ hw r hr C _ rfl hwf hf;simp only[Tryz.f35,Tryz.f124,Tryz.f189,Tryz.f190,Tryz.f274,Tryz.f266,Tryz.f55,Tryz.f193,Tryz.f225,Option.get!];(first|rw[made_Tape_Next] at hr|rw[ref03_Valid] at hr|rw[ref16_Valid] at hr|rw[ref15_put] at hr|rw[ref02_span] at hr|rw[ref10_keep] at hr|rw[page_ValidConf] at hr|rw[scope_Valid_1] at hr|rw[rules_World_mark_1_2] at hr);repeat' first
 |(refine El.el hr ?_;intro hr)
 |(with_reducible intro h;refine bc_e hr h ?_;intro hr)
 |with_reducible intro _
 |simp only[go_sem,simprocAttr,hl3,hl132]
 |(with_reducible first|apply guard_of_f|apply guard_of_t|apply cond_of|apply doT_of_t|apply doT_of_f)
 |((first|with_reducible refine idx_s hr (by assumption) ?_ ?_|(with_reducible refine idx_e hr ?_ ?_;rotate_left;intro p;rotate_right));(·simp only[go_sem,simprocAttr]);intro hp hn hd hr;(try have hl3:=hd _ e3);(try simp only[go_sem,simprocAttr] at hl3);(try have hl132:=hd _ e132);(try simp only[go_sem,simprocAttr] at hl132))
 |(refine and_of' ?_ ?_;·first|assumption|omega)
 |refine db 35 4 hf [([],[],[18,19,20,21,22],[]),([0],[],[18,19,20,21,22],[]),([0,1],[],[18,19,20,21,22],[]),([0,1,2],[],[18,19,20,21,22],[]),([],[],[14,15,16,17],[]),([4],[],[14,15,16,17],[]),([4,5],[],[14,15,16,17],[]),([4,5,6],[],[14,15,16,17],[]),([4,5,6,7],[],[14,15,16,17],[]),([0,1,2,3,4,5,6,7,8],[],[],[])] rfl rfl (by kernel_rfl) ?_ _
 |refine db 35 5 hf [([],[],[28,29,30,31],[]),([0],[],[28,29,30,31],[]),([0,1],[],[28,29,30,31],[]),([0,1,2],[],[28,29,30,31],[]),([],[],[24,25,26,27],[]),([4],[],[24,25,26,27],[]),([4,5],[],[24,25,26,27],[]),([4,5,6],[],[24,25,26,27],[]),([0,1,2,3,4,5,6,7],[],[],[]),([0,1,2,3,4,5,6,7,8],[],[],[]),([0,1,2,3,4,5,6,7,8,9],[],[],[])] rfl rfl (by kernel_rfl) ?_ _
 |(refine some_e hr ?_;rintro rfl;with_reducible refine ret_k ?_)
 |exact no_e hr
 |fail)
@[reducible,instance] def made_Tape_Next_i:=g1.1
@[reducible,instance] def ref03_Valid_i:=g1.2.1
@[reducible,instance] def ref16_Valid_i:=g1.2.2.1
@[reducible,instance] def ref15_put_i:=g1.2.2.2.1
@[reducible,instance] def ref02_span_i:=g1.2.2.2.2.1
@[reducible,instance] def ref10_keep_i:=g1.2.2.2.2.2.1
@[reducible,instance] def page_ValidConf_i:=g1.2.2.2.2.2.2.1
@[reducible,instance] def scope_Valid_1_i:=g1.2.2.2.2.2.2.2.1
@[reducible,instance] def rules_World_mark_1_2_i:=g1.2.2.2.2.2.2.2.2
theorem g3:(∀ N (a0:TTape),OK (made_Tape_Done N a0) 33 [.ept 1000000 0 2 0 0] [.arr true 51 2 [[.isl 3 1 (a0.L.map e3),.v (.int .i64 a0.at_)]] 0] (fun r=>.v (.bool r)) fun r=>[.arr true 51 2 [[.isl 3 1 (a0.L.map e3),.v (.int .i64 a0.at_)]] 0])∧(∀ N (a0:Int) (a1:Int) (a2:Int),OK (ref19_Asked N a0 a1 a2) 45 [.v (.int .i64 a0),.v (.int .u64 a1),.v (.int .u64 a2)] [] (fun r=>.tup [.agg (e75 r.1),.v (.bool r.2)]) fun r=>[])∧(∀ N (a0:TWorld) (a1:Int) (a2:Int) (a3:Int),OK (ref21_put N a0 a1 a2 a3) 47 [.agg (e36 a0),.v (.int .u64 a1),.v (.int .i64 a2),.v (.int .u64 a3)] [] (fun r=>.agg (e36 r)) fun r=>[])∧(∀ N (a0:Int),OK (ref04_pins N a0) 244 [.v (.int .i64 a0)] [] (fun r=>.v (.bool r)) fun r=>[])∧(∀ N (a0:Int),OK (ref03_Target N a0) 249 [.v (.int .u64 a0)] [] (fun r=>.tup [.v (.int .u64 r.1),.v (.bool r.2)]) fun r=>[])∧(∀ N (a0:Int),OK (ref19_failed N a0) 134 [.v (.int .i64 a0)] [] (fun r=>.tup [.agg (e45 r.1),.v (.int .u64 r.2.1),.v (.int .i64 r.2.2)]) fun r=>[])∧(∀ N (a0:Tframes) (a1:Int),OK (scope_frames_slots N a0 a1) 236 [.agg (e255 a0),.v (.int .i64 a1)] [] (fun r=>.isl 210 3 (r.map e210)) fun r=>[])∧(∀ N (a0:Int) (a1:TWorld),OK (rules_World_known_1_2 N a0 a1) 203 [.v (.int .u64 a0),.ept 1000000 0 10 0 0] [.arr true 61 10 [[.v (.int .i64 a1.Conf.PageWords),.v (.int .i64 a1.Conf.Pages),.isl 77 4 (a1.Things.map e77),.isl 210 3 (a1.Locals.Slots.map e210),.isl 159 3 (a1.Locals.Scopes.map e159),.isl 3 1 (a1.Locals.Issued.map e3),.isl 132 3 (a1.Globals.Entries.map e132),.isl 132 3 (a1.Weaks.Entries.map e132),.isl 116 3 (a1.Marks.map e116),.isl 37 1 (a1.Roots.map e37)]] 0] (fun r=>.v (.bool r)) fun r=>[.arr true 61 10 [[.v (.int .i64 a1.Conf.PageWords),.v (.int .i64 a1.Conf.Pages),.isl 77 4 (a1.Things.map e77),.isl 210 3 (a1.Locals.Slots.map e210),.isl 159 3 (a1.Locals.Scopes.map e159),.isl 3 1 (a1.Locals.Issued.map e3),.isl 132 3 (a1.Globals.Entries.map e132),.isl 132 3 (a1.Weaks.Entries.map e132),.isl 116 3 (a1.Marks.map e116),.isl 37 1 (a1.Roots.map e37)]] 0]):=by
 refine ⟨fun N _=>rn Tryz.f33 [.tmp 2] [] 13 (by kernel_rfl) ?_,fun N _ _ _=>rn Tryz.f45 [.cell 6 75,.tmp 7] [] 29 (by kernel_rfl) ?_,fun N _ _ _ _=>rn Tryz.f47 [.cell 8 36] [] 38 (by kernel_rfl) ?_,fun N _=>rn Tryz.f244 [.tmp 2] [] 9 (by kernel_rfl) ?_,fun N _=>rn Tryz.f249 [.tmp 2,.tmp 3] [] 14 (by kernel_rfl) ?_,fun N _=>rn Tryz.f134 [.cell 2 45,.tmp 3,.tmp 4] [] 7 (by kernel_rfl) ?_,fun N _ _=>rn Tryz.f236 [.tmp 4] [] 42 (by kernel_rfl) ?_,fun N _ _=>rn Tryz.f203 [.tmp 3] [] 10 (by kernel_rfl) ?_⟩<;>(rintro _ hw r hr C _ rfl hwf hf;simp only[Tryz.f33,Tryz.f45,Tryz.f47,Tryz.f244,Tryz.f249,Tryz.f134,Tryz.f236,Tryz.f203,Option.get!];(first|rw[made_Tape_Done] at hr|rw[ref19_Asked] at hr|rw[ref21_put] at hr|rw[ref04_pins] at hr|rw[ref03_Target] at hr|rw[ref19_failed] at hr|rw[scope_frames_slots] at hr|rw[rules_World_known_1_2] at hr);repeat' first
 |(refine El.el hr ?_;intro hr)
 |(with_reducible intro h;refine bc_e hr h ?_;intro hr)
 |with_reducible intro _
 |simp only[go_sem,simprocAttr,hl37,hl115,hl159,List.length_take,List.length_drop,Nat.min_self]
 |(with_reducible first|apply guard_of_f|apply guard_of_t|apply cond_of|apply doT_of_t|apply doT_of_f)
 |((first|with_reducible refine idx_s hr (by assumption) ?_ ?_|(with_reducible refine idx_e hr ?_ ?_;rotate_left;intro p;rotate_right));(·simp only[go_sem,simprocAttr,List.length_take,List.length_drop,Nat.min_self]);intro hp hn hd hr;(try have hl37:=hd _ e37);(try simp only[go_sem,simprocAttr] at hl37);(try have hl115:=hd _ e115);(try simp only[go_sem,simprocAttr] at hl115);(try have hl159:=hd _ e159);(try simp only[go_sem,simprocAttr] at hl159))
 |(refine and_of' ?_ ?_;·first|assumption|omega)
 |refine db 33 1 hf [([],[],[7,8,9,10,11],[]),([0],[],[7,8,9,10,11],[]),([0,1],[],[7,8,9,10,11],[]),([0,1,2],[],[7,8,9,10,11],[]),([],[],[3,4,5,6],[]),([4],[],[3,4,5,6],[]),([4,5],[],[3,4,5,6],[]),([4,5,6],[],[3,4,5,6],[]),([4,5,6,7],[],[3,4,5,6],[]),([0,1,2,3,4,5,6,7,8],[],[],[]),([0,1,2,3,4,5,6,7,8,9],[],[],[])] rfl rfl (by kernel_rfl) ?_ _
 |refine db 236 2 hf [([],[],[15,16,17,18,19,20,21,22,23,24,25,26,27,28,29],[]),([0],[],[15,16,17,18,19,20,21,22,23,24,25,26,27,28,29],[]),([0,1],[],[15,16,17,18,19,20,21,22,23,24,25,26,27,28,29],[]),([],[],[12,13,14,18,22,23,24,25,26,27,28,29],[]),([3],[],[12,13,14,18,22,23,24,25,26,27,28,29],[]),([3,4],[],[12,13,14,18,22,23,24,25,26,27,28,29],[]),([],[],[12,13,14,15,16,17,22,23,24,25,26,27,28,29],[]),([3,4,5,6],[],[12,13,14,22,23,24,25,26,27,28,29],[]),([3,4,5,6,7],[],[12,13,14,22,23,24,25,26,27,28,29],[]),([3,4,5,6,7,8],[],[12,13,14,22,23,24,25,26,27,28,29],[]),([],[],[12,13,14,15,16,17,18,19,20,21,25,26],[]),([10],[],[12,13,14,15,16,17,18,19,20,21,25,26],[]),([10,11],[],[12,13,14,15,16,17,18,19,20,21,25,26],[]),([],[],[12,13,14,15,16,17,18,19,20,21,22,23,24],[]),([13],[],[12,13,14,15,16,17,18,19,20,21,22,23,24],[]),([10,11,12,13,14],[],[12,13,14,15,16,17,18,19,20,21],[]),([10,11,12,13,14,15],[],[12,13,14,15,16,17,18,19,20,21],[]),([10,11,12,13,14,15,16],[],[12,13,14,15,16,17,18,19,20,21],[]),([0,1,2,3,4,5,6,7,8,9,10,11,12,13,14,15,16,17],[],[],[]),([0,1,2,3,4,5,6,7,8,9,10,11,12,13,14,15,16,17,18],[],[],[])] rfl rfl (by kernel_rfl) ?_ _
 |refine db 236 3 hf [([],[],[34,35,36,37,38,39,40],[]),([0],[],[34,35,36,37,38,39,40],[]),([0,1],[],[34,35,36,37,38,39,40],[]),([],[],[31,32,33,37],[]),([3],[],[31,32,33,37],[]),([3,4],[],[31,32,33,37],[]),([],[],[31,32,33,34,35,36],[]),([3,4,5,6],[],[31,32,33],[]),([3,4,5,6,7],[],[31,32,33],[]),([3,4,5,6,7,8],[],[31,32,33],[]),([0,1,2,3,4,5,6,7,8,9],[],[],[]),([0,1,2,3,4,5,6,7,8,9,10],[],[],[])] rfl rfl (by kernel_rfl) ?_ _
 |(refine some_e hr ?_;rintro rfl;with_reducible refine ret_k ?_)
 |exact no_e hr
 |fail)
@[reducible,instance] def made_Tape_Done_i:=g3.1
@[reducible,instance] def ref19_Asked_i:=g3.2.1
@[reducible,instance] def ref21_put_i:=g3.2.2.1
@[reducible,instance] def ref04_pins_i:=g3.2.2.2.1
@[reducible,instance] def ref03_Target_i:=g3.2.2.2.2.1
@[reducible,instance] def ref19_failed_i:=g3.2.2.2.2.2.1
@[reducible,instance] def scope_frames_slots_i:=g3.2.2.2.2.2.2.1
@[reducible,instance] def rules_World_known_1_2_i:=g3.2.2.2.2.2.2.2
instance slices_Clone_api_Entry_api_Entry_i:∀ N (a0:List TEntry),OK (slices_Clone_api_Entry_api_Entry N a0) 173 [.isl 132 3 (a0.map e132)] [] (fun r=>.fsl 132 3 (r.map e132)) fun r=>[]:=by
 refine fun N a0=>⟨fun G hw r hr=>?_⟩
 rw[slices_Clone_api_Entry_api_Entry] at hr
 obtain rfl:=Option.some.inj hr
 obtain _|⟨x,l⟩:=a0
 refine acalls_empty fun a cap=>?_
 obtain _|a:=a
 all_goals
  refine acalls_of_run (fn:=Tryz.f173) (body:=(Tryz.f173.body).get!) (rs:=[.tmp 2]) 1000 [320] 8 (by kernel_rfl) (by kernel_rfl) (by kernel_rfl) (by kernel_rfl) (by kernel_rfl) (by simp) fun C _ hG hwf=>?_;subst hG;have hw2:=hwf;simp only[WfL,Wf,List.length_map,and_true,List.length_cons,bytes132,top47] at hw2;simp only[Tryz.f173,Option.get!]
  simp only[go_sem,simprocAttr]
  try refine ⟨by omega,?_⟩
  with_reducible refine ret_k ?_
  simp only[go_sem,simprocAttr]
instance slices_Clone_rules_Thing_rules_Thing_i:∀ N (a0:List TThing),OK (slices_Clone_rules_Thing_rules_Thing N a0) 81 [.isl 77 4 (a0.map e77)] [] (fun r=>.fsl 77 4 (r.map e77)) fun r=>[]:=by
 refine fun N a0=>⟨fun G hw r hr=>?_⟩
 rw[slices_Clone_rules_Thing_rules_Thing] at hr
 obtain rfl:=Option.some.inj hr
 obtain _|⟨x,l⟩:=a0
 refine acalls_empty fun a cap=>?_
 obtain _|a:=a
 all_goals
  refine acalls_of_run (fn:=Tryz.f81) (body:=(Tryz.f81.body).get!) (rs:=[.tmp 2]) 1000 [320] 8 (by kernel_rfl) (by kernel_rfl) (by kernel_rfl) (by kernel_rfl) (by kernel_rfl) (by simp) fun C _ hG hwf=>?_;subst hG;have hw2:=hwf;simp only[WfL,Wf,List.length_map,and_true,List.length_cons,bytes77,top47] at hw2;simp only[Tryz.f81,Option.get!]
  simp only[go_sem,simprocAttr]
  try refine ⟨by omega,?_⟩
  with_reducible refine ret_k ?_
  simp only[go_sem,simprocAttr]
instance slices_Clone_uint64_uint64_i:∀ N (a0:List Int),OK (slices_Clone_uint64_uint64 N a0) 82 [.isl 37 1 (a0.map e37)] [] (fun r=>.fsl 37 1 (r.map e37)) fun r=>[]:=by
 refine fun N a0=>⟨fun G hw r hr=>?_⟩
 rw[slices_Clone_uint64_uint64] at hr
 obtain rfl:=Option.some.inj hr
 obtain _|⟨x,l⟩:=a0
 refine acalls_empty fun a cap=>?_
 obtain _|a:=a
 all_goals
  refine acalls_of_run (fn:=Tryz.f82) (body:=(Tryz.f82.body).get!) (rs:=[.tmp 2]) 1000 [320] 8 (by kernel_rfl) (by kernel_rfl) (by kernel_rfl) (by kernel_rfl) (by kernel_rfl) (by simp) fun C _ hG hwf=>?_;subst hG;have hw2:=hwf;simp only[WfL,Wf,List.length_map,and_true,List.length_cons,bytes37,top47] at hw2;simp only[Tryz.f82,Option.get!]
  simp only[go_sem,simprocAttr]
  try refine ⟨by omega,?_⟩
  with_reducible refine ret_k ?_
  simp only[go_sem,simprocAttr]
instance slices_Clone_api_Slot_api_Slot_i:∀ N (a0:List TSlot),OK (slices_Clone_api_Slot_api_Slot N a0) 170 [.isl 210 3 (a0.map e210)] [] (fun r=>.fsl 210 3 (r.map e210)) fun r=>[]:=by
 refine fun N a0=>⟨fun G hw r hr=>?_⟩
 rw[slices_Clone_api_Slot_api_Slot] at hr
 obtain rfl:=Option.some.inj hr
 obtain _|⟨x,l⟩:=a0
 refine acalls_empty fun a cap=>?_
 obtain _|a:=a
 all_goals
  refine acalls_of_run (fn:=Tryz.f170) (body:=(Tryz.f170.body).get!) (rs:=[.tmp 2]) 1000 [320] 8 (by kernel_rfl) (by kernel_rfl) (by kernel_rfl) (by kernel_rfl) (by kernel_rfl) (by simp) fun C _ hG hwf=>?_;subst hG;have hw2:=hwf;simp only[WfL,Wf,List.length_map,and_true,List.length_cons,bytes210,top47] at hw2;simp only[Tryz.f170,Option.get!]
  simp only[go_sem,simprocAttr]
  try refine ⟨by omega,?_⟩
  with_reducible refine ret_k ?_
  simp only[go_sem,simprocAttr]
instance slices_Clone_api_Scope_api_Scope_i:∀ N (a0:List TScope),OK (slices_Clone_api_Scope_api_Scope N a0) 171 [.isl 159 3 (a0.map e159)] [] (fun r=>.fsl 159 3 (r.map e159)) fun r=>[]:=by
 refine fun N a0=>⟨fun G hw r hr=>?_⟩
 rw[slices_Clone_api_Scope_api_Scope] at hr
 obtain rfl:=Option.some.inj hr
 obtain _|⟨x,l⟩:=a0
 refine acalls_empty fun a cap=>?_
 obtain _|a:=a
 all_goals
  refine acalls_of_run (fn:=Tryz.f171) (body:=(Tryz.f171.body).get!) (rs:=[.tmp 2]) 1000 [320] 8 (by kernel_rfl) (by kernel_rfl) (by kernel_rfl) (by kernel_rfl) (by kernel_rfl) (by simp) fun C _ hG hwf=>?_;subst hG;have hw2:=hwf;simp only[WfL,Wf,List.length_map,and_true,List.length_cons,bytes159,top47] at hw2;simp only[Tryz.f171,Option.get!]
  simp only[go_sem,simprocAttr]
  try refine ⟨by omega,?_⟩
  with_reducible refine ret_k ?_
  simp only[go_sem,simprocAttr]
end Go.Sx
