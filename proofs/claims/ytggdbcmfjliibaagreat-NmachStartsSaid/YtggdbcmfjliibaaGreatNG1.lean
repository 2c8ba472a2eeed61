import Derived.Test.YtggdbcmfjliibaaGreatNF
set_option linter.all false
namespace Go.Sx
open Go.Proofs
set_option maxRecDepth 10000
set_option maxHeartbeats 100000000
theorem g1:(∀ N (a0:TIns),OK (ncode_Ins_formed N a0) 29 [.agg (e40 a0)] [] (fun r=>.v (.bool r)) fun r=>[])∧(∀ N (a0:TFrame),OK (law23_frame N a0) 8 [.agg (e28 a0)] [] (fun r=>.agg (e29 r)) fun r=>[])∧(∀ N (a0:TConf),OK (page_ValidConf N a0) 176 [.agg (e56 a0)] [] (fun r=>.v (.bool r)) fun r=>[])∧(∀ N (a0:TPage),OK (page_entry_spaced N a0) 258 [.agg (e343 a0)] [] (fun r=>.v (.bool r)) fun r=>[])∧(∀ N (a0:TPage) (a1:TPage),OK (page_entry_tailOf N a0 a1) 237 [.agg (e343 a0),.agg (e343 a1)] [] (fun r=>.v (.bool r)) fun r=>[])∧(∀ N (a0:Int),OK (audit_dirt_1 N a0) 243 [.v (.int .u64 a0)] [] (fun r=>.v (.bool r)) fun r=>[])∧(∀ N (a0:Int),OK (cmp_isNaN_uint64 N a0) 179 [.v (.int .u64 a0)] [] (fun r=>.v (.bool r)) fun r=>[])∧(∀ N (a0:TPin) (a1:Int),OK (pin_list_find_1_2 N a0 a1) 175 [.agg (e121 a0),.ept 1000000 0 1 0 0] [.arr true 38 1 [[.v (.int .u64 a1)]] 0] (fun r=>.v (.bool r)) fun r=>[.arr true 38 1 [[.v (.int .u64 a1)]] 0])∧(∀ N (a0:Int),OK (scope_Valid_1 N a0) 60 [.v (.int .i64 a0)] [] (fun r=>.v (.bool r)) fun r=>[])∧(∀ N (a1:Int),OK (slices_Grow_uint64_uint64_nil N a1) 124 [.nsl,.v (.int .i64 a1)] [] (fun r=>.fsl 38 1 (r.map e38)) fun r=>[])∧(∀ N (a0:TTape) (a1:Int),OK (made_Tape_Next N a0 a1) 49 [.ept 1000000 0 2 0 0,.v (.int .i64 a1)] [.arr true 100 2 [[.isl 3 1 (a0.L.map e3),.v (.int .i64 a0.at_)]] 0] (fun r=>.v (.int .i64 r.1)) fun r=>[.arr true 100 2 [[.isl 3 1 (r.2.L.map e3),.v (.int .i64 r.2.at_)]] 0])∧(∀ N (a0:TTape),OK (made_Tape_Done N a0) 26 [.ept 1000000 0 2 0 0] [.arr true 100 2 [[.isl 3 1 (a0.L.map e3),.v (.int .i64 a0.at_)]] 0] (fun r=>.v (.bool r)) fun r=>[.arr true 100 2 [[.isl 3 1 (a0.L.map e3),.v (.int .i64 a0.at_)]] 0]):=by
 refine ⟨fun N _=>rn Tryz.f29 [.tmp 2] [] 41 (by kernel_rfl) ?_,fun N _=>rn Tryz.f8 [.cell 2 29] [] 10 (by kernel_rfl) ?_,fun N _=>rn Tryz.f176 [.tmp 2] [] 27 (by kernel_rfl) ?_,fun N _=>rn Tryz.f258 [.tmp 2] [] 11 (by kernel_rfl) ?_,fun N _ _=>rn Tryz.f237 [.tmp 4] [] 10 (by kernel_rfl) ?_,fun N _=>rn Tryz.f243 [.tmp 2] [] 5 (by kernel_rfl) ?_,fun N _=>rn Tryz.f179 [.tmp 2] [] 6 (by kernel_rfl) ?_,fun N _ _=>rn Tryz.f175 [.tmp 3] [] 8 (by kernel_rfl) ?_,fun N _=>rn Tryz.f60 [.tmp 2] [] 9 (by kernel_rfl) ?_,fun N _=>rn Tryz.f124 [.tmp 4] [1408] 27 (by kernel_rfl) ?_,fun N _ _=>rn Tryz.f49 [.tmp 4] [] 48 (by kernel_rfl) ?_,fun N _=>rn Tryz.f26 [.tmp 2] [] 13 (by kernel_rfl) ?_⟩<;>(rintro _ hw r hr C _ rfl hwf hf;simp only[Tryz.f29,Tryz.f8,Tryz.f176,Tryz.f258,Tryz.f237,Tryz.f243,Tryz.f179,Tryz.f175,Tryz.f60,Tryz.f124,Tryz.f49,Tryz.f26,Option.get!];(first|rw[ncode_Ins_formed] at hr|rw[law23_frame] at hr|rw[page_ValidConf] at hr|rw[page_entry_spaced] at hr|rw[page_entry_tailOf] at hr|rw[audit_dirt_1] at hr|rw[cmp_isNaN_uint64] at hr|rw[pin_list_find_1_2] at hr|rw[scope_Valid_1] at hr|rw[slices_Grow_uint64_uint64_nil] at hr|rw[made_Tape_Next] at hr|rw[made_Tape_Done] at hr);repeat' first
 |(refine El.el hr ?_;intro hr)
 |(with_reducible intro h;refine bc_e hr h ?_;intro hr)
 |with_reducible intro _
 |simp only[go_sem,simprocAttr,hl3,List.length_take,List.length_drop,Nat.min_self]
 |(with_reducible first|apply guard_of_f|apply guard_of_t|apply cond_of|apply doT_of_t|apply doT_of_f)
 |((first|with_reducible refine idx_s hr (by assumption) ?_ ?_|(with_reducible refine idx_e hr ?_ ?_;rotate_left;intro p;rotate_right));(·simp only[go_sem,simprocAttr,List.length_take,List.length_drop,Nat.min_self]);intro hp hn hd hr;(try have hl3:=hd _ e3);(try simp only[go_sem,simprocAttr] at hl3))
 |(refine and_of' ?_ ?_;·first|assumption|omega)
 |refine db 49 4 hf 14 [(0,496,[]),(1,496,[]),(3,496,[]),(7,496,[]),(0,15,[]),(16,15,[]),(48,15,[]),(112,15,[]),(240,15,[]),(511,0,[])] rfl rfl (by kernel_rfl) ?_ _
 |refine db 49 5 hf 24 [(0,240,[]),(1,240,[]),(3,240,[]),(7,240,[]),(0,15,[]),(16,15,[]),(48,15,[]),(112,15,[]),(255,0,[]),(511,0,[]),(1023,0,[])] rfl rfl (by kernel_rfl) ?_ _
 |refine db 26 1 hf 3 [(0,496,[]),(1,496,[]),(3,496,[]),(7,496,[]),(0,15,[]),(16,15,[]),(48,15,[]),(112,15,[]),(240,15,[]),(511,0,[]),(1023,0,[])] rfl rfl (by kernel_rfl) ?_ _
 |(refine some_e hr ?_;rintro rfl;with_reducible refine ret_k ?_)
 |exact no_e hr
 |fail)
@[reducible,instance] def ncode_Ins_formed_i:=g1.1
@[reducible,instance] def law23_frame_i:=g1.2.1
@[reducible,instance] def page_ValidConf_i:=g1.2.2.1
@[reducible,instance] def page_entry_spaced_i:=g1.2.2.2.1
@[reducible,instance] def page_entry_tailOf_i:=g1.2.2.2.2.1
@[reducible,instance] def audit_dirt_1_i:=g1.2.2.2.2.2.1
@[reducible,instance] def cmp_isNaN_uint64_i:=g1.2.2.2.2.2.2.1
@[reducible,instance] def pin_list_find_1_2_i:=g1.2.2.2.2.2.2.2.1
@[reducible,instance] def scope_Valid_1_i:=g1.2.2.2.2.2.2.2.2.1
@[reducible,instance] def slices_Grow_uint64_uint64_nil_i:=g1.2.2.2.2.2.2.2.2.2.1
@[reducible,instance] def made_Tape_Next_i:=g1.2.2.2.2.2.2.2.2.2.2.1
@[reducible,instance] def made_Tape_Done_i:=g1.2.2.2.2.2.2.2.2.2.2.2
theorem g2:(∀ N (a0:TFrame) (a1:TCode),OK (nmach_Frame_valid N a0 a1) 14 [.agg (e29 a0),.agg (e34 a1)] [] (fun r=>.v (.bool r)) fun r=>[])∧(∀ N (a0:TCode) (a1:TFrame),OK (ref23_Valid N a0 a1) 15 [.agg (e24 a0),.agg (e28 a1)] [] (fun r=>.v (.bool r)) fun r=>[])∧(∀ N (a0:TPage) (a1:TConf),OK (page_entry_free N a0 a1) 233 [.agg (e343 a0),.agg (e56 a1)] [] (fun r=>.v (.bool r)) fun r=>[])∧(∀ N (a0:TPage),OK (page_entry_pinned N a0) 259 [.agg (e343 a0)] [] (fun r=>.v (.bool r)) fun r=>[])∧(∀ N (a0:List Int) (a1:Int) (a2:Int),OK (arena_place N a0 a1 a2) 261 [.isl 38 1 (a0.map e38),.v (.int .u64 a1),.v (.int .i64 a2)] [] (fun r=>.tup [.v (.int .i64 r.1),.v (.bool r.2)]) fun r=>[])∧(∀ N (a0:Tfound),OK (walk_Objects_1 N a0) 120 [.agg (e233 a0)] [] (fun r=>.v (.bool r)) fun r=>[])∧(∀ N (a0:Int),OK (slices_isNaN_uint64 N a0) 123 [.v (.int .u64 a0)] [] (fun r=>.v (.bool r)) fun r=>[])∧(∀ N (a0:Tframes) (a1:Int),OK (scope_frames_slots N a0 a1) 115 [.agg (e156 a0),.v (.int .i64 a1)] [] (fun r=>.isl 174 3 (r.map e174)) fun r=>[])∧(∀ N (a0:TEntry),OK (slots_Valid_1 N a0) 65 [.agg (e161 a0)] [] (fun r=>.v (.bool r)) fun r=>[])∧(∀ N (a0:Int),OK (ncode_Args N a0) 79 [.v (.int .i64 a0)] [] (fun r=>.v (.int .i64 r)) fun r=>[])∧(∀ N (a0:TConf),OK (ref04_ValidConf N a0) 83 [.agg (e56 a0)] [] (fun r=>.v (.bool r)) fun r=>[]):=by
 refine ⟨fun N _ _=>rn Tryz.f14 [.tmp 4] [] 22 (by kernel_rfl) ?_,fun N _ _=>rn Tryz.f15 [.tmp 4] [] 22 (by kernel_rfl) ?_,fun N _ _=>rn Tryz.f233 [.tmp 4] [] 8 (by kernel_rfl) ?_,fun N _=>rn Tryz.f259 [.tmp 2] [] 11 (by kernel_rfl) ?_,fun N _ _ _=>rn Tryz.f261 [.tmp 6,.tmp 7] [] 29 (by kernel_rfl) ?_,fun N _=>rn Tryz.f120 [.tmp 2] [] 7 (by kernel_rfl) ?_,fun N _=>rn Tryz.f123 [.tmp 2] [] 6 (by kernel_rfl) ?_,fun N _ _=>rn Tryz.f115 [.tmp 4] [] 42 (by kernel_rfl) ?_,fun N _=>rn Tryz.f65 [.tmp 2] [] 21 (by kernel_rfl) ?_,fun N _=>rn Tryz.f79 [.tmp 2] [] 18 (by kernel_rfl) ?_,fun N _=>rn Tryz.f83 [.tmp 2] [] 27 (by kernel_rfl) ?_⟩<;>(rintro _ hw r hr C _ rfl hwf hf;simp only[Tryz.f14,Tryz.f15,Tryz.f233,Tryz.f259,Tryz.f261,Tryz.f120,Tryz.f123,Tryz.f115,Tryz.f65,Tryz.f79,Tryz.f83,Option.get!];(first|rw[nmach_Frame_valid] at hr|rw[ref23_Valid] at hr|rw[page_entry_free] at hr|rw[page_entry_pinned] at hr|rw[arena_place] at hr|rw[walk_Objects_1] at hr|rw[slices_isNaN_uint64] at hr|rw[scope_frames_slots] at hr|rw[slots_Valid_1] at hr|rw[ncode_Args] at hr|rw[ref04_ValidConf] at hr);repeat' first
 |(refine El.el hr ?_;intro hr)
 |(with_reducible intro h;refine bc_e hr h ?_;intro hr)
 |with_reducible intro _
 |simp only[go_sem,simprocAttr,hl134,List.length_take,List.length_drop,Nat.min_self]
 |(with_reducible first|apply guard_of_f|apply guard_of_t|apply cond_of|apply doT_of_t|apply doT_of_f)
 |((first|with_reducible refine idx_s hr (by assumption) ?_ ?_|(with_reducible refine idx_e hr ?_ ?_;rotate_left;intro p;rotate_right));(·simp only[go_sem,simprocAttr,List.length_take,List.length_drop,Nat.min_self]);intro hp hn hd hr;(try have hl134:=hd _ e134);(try simp only[go_sem,simprocAttr] at hl134))
 |(refine and_of' ?_ ?_;·first|assumption|omega)
 |refine db 115 2 hf 12 [(0,262136,[]),(1,262136,[]),(3,262136,[]),(0,261191,[]),(8,261191,[]),(24,261191,[]),(0,261183,[]),(120,261127,[]),(248,261127,[]),(504,261127,[]),(0,25599,[]),(1024,25599,[]),(3072,25599,[]),(0,8191,[]),(8192,8191,[]),(31744,1023,[]),(64512,1023,[]),(130048,1023,[]),(262143,0,[]),(524287,0,[])] rfl rfl (by kernel_rfl) ?_ _
 |refine db 115 3 hf 31 [(0,1016,[]),(1,1016,[]),(3,1016,[]),(0,71,[]),(8,71,[]),(24,71,[]),(0,63,[]),(120,7,[]),(248,7,[]),(504,7,[]),(1023,0,[]),(2047,0,[])] rfl rfl (by kernel_rfl) ?_ _
 |(refine some_e hr ?_;rintro rfl;with_reducible refine ret_k ?_)
 |exact no_e hr
 |fail)
@[reducible,instance] def nmach_Frame_valid_i:=g2.1
@[reducible,instance] def ref23_Valid_i:=g2.2.1
@[reducible,instance] def page_entry_free_i:=g2.2.2.1
@[reducible,instance] def page_entry_pinned_i:=g2.2.2.2.1
@[reducible,instance] def arena_place_i:=g2.2.2.2.2.1
@[reducible,instance] def walk_Objects_1_i:=g2.2.2.2.2.2.1
@[reducible,instance] def slices_isNaN_uint64_i:=g2.2.2.2.2.2.2.1
@[reducible,instance] def scope_frames_slots_i:=g2.2.2.2.2.2.2.2.1
@[reducible,instance] def slots_Valid_1_i:=g2.2.2.2.2.2.2.2.2.1
@[reducible,instance] def ncode_Args_i:=g2.2.2.2.2.2.2.2.2.2.1
@[reducible,instance] def ref04_ValidConf_i:=g2.2.2.2.2.2.2.2.2.2.2
instance slices_Clone_api_Scope_api_Scope_i:∀ N (a0:List TScope),OK (slices_Clone_api_Scope_api_Scope N a0) 76 [.isl 134 3 (a0.map e134)] [] (fun r=>.fsl 134 3 (r.map e134)) fun r=>[]:=by
 refine fun N a0=>⟨fun G hw r hr=>?_⟩
 rw[slices_Clone_api_Scope_api_Scope] at hr
 obtain rfl:=Option.some.inj hr
 obtain _|⟨x,l⟩:=a0
 refine acalls_empty fun a cap=>?_
 obtain _|a:=a
 all_goals
  refine acalls_of_run (fn:=Tryz.f76) (body:=(Tryz.f76.body).get!) (rs:=[.tmp 2]) 1000 [320] 8 (by kernel_rfl) (by kernel_rfl) (by kernel_rfl) (by kernel_rfl) (by kernel_rfl) (by simp) fun C _ hG hwf=>?_;subst hG;have hw2:=hwf;simp only[WfL,Wf,List.length_map,and_true,List.length_cons,bytes134,top47] at hw2;simp only[Tryz.f76,Option.get!]
  simp only[go_sem,simprocAttr]
  try refine ⟨by omega,?_⟩
  with_reducible refine ret_k ?_
  simp only[go_sem,simprocAttr]
instance slices_Clone_api_Page_api_Page_i:∀ N (a0:List TPage),OK (slices_Clone_api_Page_api_Page N a0) 74 [.isl 154 4 (a0.map e154)] [] (fun r=>.fsl 154 4 (r.map e154)) fun r=>[]:=by
 refine fun N a0=>⟨fun G hw r hr=>?_⟩
 rw[slices_Clone_api_Page_api_Page] at hr
 obtain rfl:=Option.some.inj hr
 obtain _|⟨x,l⟩:=a0
 refine acalls_empty fun a cap=>?_
 obtain _|a:=a
 all_goals
  refine acalls_of_run (fn:=Tryz.f74) (body:=(Tryz.f74.body).get!) (rs:=[.tmp 2]) 1000 [320] 8 (by kernel_rfl) (by kernel_rfl) (by kernel_rfl) (by kernel_rfl) (by kernel_rfl) (by simp) fun C _ hG hwf=>?_;subst hG;have hw2:=hwf;simp only[WfL,Wf,List.length_map,and_true,List.length_cons,bytes154,top47] at hw2;simp only[Tryz.f74,Option.get!]
  simp only[go_sem,simprocAttr]
  try refine ⟨by omega,?_⟩
  with_reducible refine ret_k ?_
  simp only[go_sem,simprocAttr]
instance slices_Clone_uint64_uint64_i:∀ N (a0:List Int),OK (slices_Clone_uint64_uint64 N a0) 43 [.isl 38 1 (a0.map e38)] [] (fun r=>.fsl 38 1 (r.map e38)) fun r=>[]:=by
 refine fun N a0=>⟨fun G hw r hr=>?_⟩
 rw[slices_Clone_uint64_uint64] at hr
 obtain rfl:=Option.some.inj hr
 obtain _|⟨x,l⟩:=a0
 refine acalls_empty fun a cap=>?_
 obtain _|a:=a
 all_goals
  refine acalls_of_run (fn:=Tryz.f43) (body:=(Tryz.f43.body).get!) (rs:=[.tmp 2]) 1000 [320] 8 (by kernel_rfl) (by kernel_rfl) (by kernel_rfl) (by kernel_rfl) (by kernel_rfl) (by simp) fun C _ hG hwf=>?_;subst hG;have hw2:=hwf;simp only[WfL,Wf,List.length_map,and_true,List.length_cons,bytes38,top47] at hw2;simp only[Tryz.f43,Option.get!]
  simp only[go_sem,simprocAttr]
  try refine ⟨by omega,?_⟩
  with_reducible refine ret_k ?_
  simp only[go_sem,simprocAttr]
instance slices_Clone_api_Slot_api_Slot_i:∀ N (a0:List TSlot),OK (slices_Clone_api_Slot_api_Slot N a0) 75 [.isl 174 3 (a0.map e174)] [] (fun r=>.fsl 174 3 (r.map e174)) fun r=>[]:=by
 refine fun N a0=>⟨fun G hw r hr=>?_⟩
 rw[slices_Clone_api_Slot_api_Slot] at hr
 obtain rfl:=Option.some.inj hr
 obtain _|⟨x,l⟩:=a0
 refine acalls_empty fun a cap=>?_
 obtain _|a:=a
 all_goals
  refine acalls_of_run (fn:=Tryz.f75) (body:=(Tryz.f75.body).get!) (rs:=[.tmp 2]) 1000 [320] 8 (by kernel_rfl) (by kernel_rfl) (by kernel_rfl) (by kernel_rfl) (by kernel_rfl) (by simp) fun C _ hG hwf=>?_;subst hG;have hw2:=hwf;simp only[WfL,Wf,List.length_map,and_true,List.length_cons,bytes174,top47] at hw2;simp only[Tryz.f75,Option.get!]
  simp only[go_sem,simprocAttr]
  try refine ⟨by omega,?_⟩
  with_reducible refine ret_k ?_
  simp only[go_sem,simprocAttr]
instance slices_Clone_int_int_i:∀ N (a0:List Int),OK (slices_Clone_int_int N a0) 77 [.isl 3 1 (a0.map e3)] [] (fun r=>.fsl 3 1 (r.map e3)) fun r=>[]:=by
 refine fun N a0=>⟨fun G hw r hr=>?_⟩
 rw[slices_Clone_int_int] at hr
 obtain rfl:=Option.some.inj hr
 obtain _|⟨x,l⟩:=a0
 refine acalls_empty fun a cap=>?_
 obtain _|a:=a
 all_goals
  refine acalls_of_run (fn:=Tryz.f77) (body:=(Tryz.f77.body).get!) (rs:=[.tmp 2]) 1000 [320] 8 (by kernel_rfl) (by kernel_rfl) (by kernel_rfl) (by kernel_rfl) (by kernel_rfl) (by simp) fun C _ hG hwf=>?_;subst hG;have hw2:=hwf;simp only[WfL,Wf,List.length_map,and_true,List.length_cons,bytes3,top47] at hw2;simp only[Tryz.f77,Option.get!]
  simp only[go_sem,simprocAttr]
  try refine ⟨by omega,?_⟩
  with_reducible refine ret_k ?_
  simp only[go_sem,simprocAttr]
instance slices_Clone_api_Pin_api_Pin_i:∀ N (a0:List TPin),OK (slices_Clone_api_Pin_api_Pin N a0) 42 [.isl 121 2 (a0.map e121)] [] (fun r=>.fsl 121 2 (r.map e121)) fun r=>[]:=by
 refine fun N a0=>⟨fun G hw r hr=>?_⟩
 rw[slices_Clone_api_Pin_api_Pin] at hr
 obtain rfl:=Option.some.inj hr
 obtain _|⟨x,l⟩:=a0
 refine acalls_empty fun a cap=>?_
 obtain _|a:=a
 all_goals
  refine acalls_of_run (fn:=Tryz.f42) (body:=(Tryz.f42.body).get!) (rs:=[.tmp 2]) 1000 [320] 8 (by kernel_rfl) (by kernel_rfl) (by kernel_rfl) (by kernel_rfl) (by kernel_rfl) (by simp) fun C _ hG hwf=>?_;subst hG;have hw2:=hwf;simp only[WfL,Wf,List.length_map,and_true,List.length_cons,bytes121,top47] at hw2;simp only[Tryz.f42,Option.get!]
  simp only[go_sem,simprocAttr]
  try refine ⟨by omega,?_⟩
  with_reducible refine ret_k ?_
  simp only[go_sem,simprocAttr]
instance slices_Clone_api_Entry_api_Entry_i:∀ N (a0:List TEntry),OK (slices_Clone_api_Entry_api_Entry N a0) 78 [.isl 161 3 (a0.map e161)] [] (fun r=>.fsl 161 3 (r.map e161)) fun r=>[]:=by
 refine fun N a0=>⟨fun G hw r hr=>?_⟩
 rw[slices_Clone_api_Entry_api_Entry] at hr
 obtain rfl:=Option.some.inj hr
 obtain _|⟨x,l⟩:=a0
 refine acalls_empty fun a cap=>?_
 obtain _|a:=a
 all_goals
  refine acalls_of_run (fn:=Tryz.f78) (body:=(Tryz.f78.body).get!) (rs:=[.tmp 2]) 1000 [320] 8 (by kernel_rfl) (by kernel_rfl) (by kernel_rfl) (by kernel_rfl) (by kernel_rfl) (by simp) fun C _ hG hwf=>?_;subst hG;have hw2:=hwf;simp only[WfL,Wf,List.length_map,and_true,List.length_cons,bytes161,top47] at hw2;simp only[Tryz.f78,Option.get!]
  simp only[go_sem,simprocAttr]
  try refine ⟨by omega,?_⟩
  with_reducible refine ret_k ?_
  simp only[go_sem,simprocAttr]
end Go.Sx
