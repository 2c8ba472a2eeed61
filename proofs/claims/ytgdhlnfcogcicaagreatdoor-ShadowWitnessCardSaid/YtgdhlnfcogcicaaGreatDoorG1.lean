import Derived.Test.YtgdhlnfcogcicaaGreatDoorF
set_option linter.all false
namespace Go.Sx
open Go.Proofs
set_option maxRecDepth 10000
set_option maxHeartbeats 100000000
theorem g2:(∀ N (a0:TTape) (a1:Int),OK (made_Tape_Next N a0 a1) 35 [.ept 1000000 0 2 0 0,.v (.int .i64 a1)] [.arr true 51 2 [[.isl 3 1 (a0.L.map e3),.v (.int .i64 a0.at_)]] 0] (fun r=>.v (.int .i64 r.1)) fun r=>[.arr true 51 2 [[.isl 3 1 (r.2.L.map e3),.v (.int .i64 r.2.at_)]] 0])∧(∀ N (a0:TConf),OK (page_ValidConf N a0) 55 [.agg (e23 a0)] [] (fun r=>.v (.bool r)) fun r=>[])∧(∀ N (a0:Tframes) (a1:Int),OK (scope_frames_slots N a0 a1) 236 [.agg (e255 a0),.v (.int .i64 a1)] [] (fun r=>.isl 210 3 (r.map e210)) fun r=>[])∧(∀ N (a0:TEntry),OK (slots_Valid_1 N a0) 198 [.agg (e132 a0)] [] (fun r=>.v (.bool r)) fun r=>[])∧(∀ N (a0:TMark) (a1:Int),OK (rules_World_mark_1_2 N a0 a1) 225 [.agg (e116 a0),.ept 1000000 0 1 0 0] [.arr true 37 1 [[.v (.int .u64 a1)]] 0] (fun r=>.v (.bool r)) fun r=>[.arr true 37 1 [[.v (.int .u64 a1)]] 0])∧(∀ N (a0:TEnv) (a1:TEnv) (a2:Int) (a3:Int) (a4:Int),OK (shadow_Witness N a0 a1 a2 a3 a4) 26 [.agg (e45 a0),.agg (e45 a1),.v (.int .i64 a2),.v (.int .u64 a3),.v (.int .i64 a4)] [] (fun r=>.agg (e66 r)) fun r=>[]):=by
 refine ⟨fun N _ _=>rn Tryz.f35 [.tmp 4] [] 48 (by kernel_rfl) ?_,fun N _=>rn Tryz.f55 [.tmp 2] [] 27 (by kernel_rfl) ?_,fun N _ _=>rn Tryz.f236 [.tmp 4] [] 42 (by kernel_rfl) ?_,fun N _=>rn Tryz.f198 [.tmp 2] [] 21 (by kernel_rfl) ?_,fun N _ _=>rn Tryz.f225 [.tmp 3] [] 8 (by kernel_rfl) ?_,fun N _ _ _ _ _=>rn Tryz.f26 [.cell 10 66] [] 44 (by kernel_rfl) ?_⟩<;>(rintro _ hw r hr C _ rfl hwf hf;simp only[Tryz.f35,Tryz.f55,Tryz.f236,Tryz.f198,Tryz.f225,Tryz.f26,Option.get!];(first|rw[made_Tape_Next] at hr|rw[page_ValidConf] at hr|rw[scope_frames_slots] at hr|rw[slots_Valid_1] at hr|rw[rules_World_mark_1_2] at hr|rw[shadow_Witness] at hr);repeat' first
 |(refine El.el hr ?_;intro hr)
 |(with_reducible intro h;refine bc_e hr h ?_;intro hr)
 |with_reducible intro _
 |simp only[go_sem,simprocAttr,hl3,hl159,List.length_take,List.length_drop,Nat.min_self]
 |(with_reducible first|apply guard_of_f|apply guard_of_t|apply cond_of|apply doT_of_t|apply doT_of_f)
 |((first|with_reducible refine idx_s hr (by assumption) ?_ ?_|(with_reducible refine idx_e hr ?_ ?_;rotate_left;intro p;rotate_right));(·simp only[go_sem,simprocAttr,List.length_take,List.length_drop,Nat.min_self]);intro hp hn hd hr;(try have hl3:=hd _ e3);(try simp only[go_sem,simprocAttr] at hl3);(try have hl159:=hd _ e159);(try simp only[go_sem,simprocAttr] at hl159))
 |(refine and_of' ?_ ?_;·first|assumption|omega)
 |refine db 35 4 hf [([],[],[18,19,20,21,22],[]),([0],[],[18,19,20,21,22],[]),([0,1],[],[18,19,20,21,22],[]),([0,1,2],[],[18,19,20,21,22],[]),([],[],[14,15,16,17],[]),([4],[],[14,15,16,17],[]),([4,5],[],[14,15,16,17],[]),([4,5,6],[],[14,15,16,17],[]),([4,5,6,7],[],[14,15,16,17],[]),([0,1,2,3,4,5,6,7,8],[],[],[])] rfl rfl (by kernel_rfl) ?_ _
 |refine db 35 5 hf [([],[],[28,29,30,31],[]),([0],[],[28,29,30,31],[]),([0,1],[],[28,29,30,31],[]),([0,1,2],[],[28,29,30,31],[]),([],[],[24,25,26,27],[]),([4],[],[24,25,26,27],[]),([4,5],[],[24,25,26,27],[]),([4,5,6],[],[24,25,26,27],[]),([0,1,2,3,4,5,6,7],[],[],[]),([0,1,2,3,4,5,6,7,8],[],[],[]),([0,1,2,3,4,5,6,7,8,9],[],[],[])] rfl rfl (by kernel_rfl) ?_ _
 |refine db 236 2 hf [([],[],[15,16,17,18,19,20,21,22,23,24,25,26,27,28,29],[]),([0],[],[15,16,17,18,19,20,21,22,23,24,25,26,27,28,29],[]),([0,1],[],[15,16,17,18,19,20,21,22,23,24,25,26,27,28,29],[]),([],[],[12,13,14,18,22,23,24,25,26,27,28,29],[]),([3],[],[12,13,14,18,22,23,24,25,26,27,28,29],[]),([3,4],[],[12,13,14,18,22,23,24,25,26,27,28,29],[]),([],[],[12,13,14,15,16,17,22,23,24,25,26,27,28,29],[]),([3,4,5,6],[],[12,13,14,22,23,24,25,26,27,28,29],[]),([3,4,5,6,7],[],[12,13,14,22,23,24,25,26,27,28,29],[]),([3,4,5,6,7,8],[],[12,13,14,22,23,24,25,26,27,28,29],[]),([],[],[12,13,14,15,16,17,18,19,20,21,25,26],[]),([10],[],[12,13,14,15,16,17,18,19,20,21,25,26],[]),([10,11],[],[12,13,14,15,16,17,18,19,20,21,25,26],[]),([],[],[12,13,14,15,16,17,18,19,20,21,22,23,24],[]),([13],[],[12,13,14,15,16,17,18,19,20,21,22,23,24],[]),([10,11,12,13,14],[],[12,13,14,15,16,17,18,19,20,21],[]),([10,11,12,13,14,15],[],[12,13,14,15,16,17,18,19,20,21],[]),([10,11,12,13,14,15,16],[],[12,13,14,15,16,17,18,19,20,21],[]),([0,1,2,3,4,5,6,7,8,9,10,11,12,13,14,15,16,17],[],[],[]),([0,1,2,3,4,5,6,7,8,9,10,11,12,13,14,15,16,17,18],[],[],[])] rfl rfl (by kernel_rfl) ?_ _
 |refine db 236 3 hf [([],[],[34,35,36,37,38,39,40],[]),([0],[],[34,35,36,37,38,39,40],[]),([0,1],[],[34,35,36,37,38,39,40],[]),([],[],[31,32,33,37],[]),([3],[],[31,32,33,37],[]),([3,4],[],[31,32,33,37],[]),([],[],[31,32,33,34,35,36],[]),([3,4,5,6],[],[31,32,33],[]),([3,4,5,6,7],[],[31,32,33],[]),([3,4,5,6,7,8],[],[31,32,33],[]),([0,1,2,3,4,5,6,7,8,9],[],[],[]),([0,1,2,3,4,5,6,7,8,9,10],[],[],[])] rfl rfl (by kernel_rfl) ?_ _
 |(refine some_e hr ?_;rintro rfl;with_reducible refine ret_k ?_)
 |exact no_e hr
 |fail)
@[reducible,instance] def made_Tape_Next_i:=g2.1
@[reducible,instance] def page_ValidConf_i:=g2.2.1
@[reducible,instance] def scope_frames_slots_i:=g2.2.2.1
@[reducible,instance] def slots_Valid_1_i:=g2.2.2.2.1
@[reducible,instance] def rules_World_mark_1_2_i:=g2.2.2.2.2.1
@[reducible,instance] def shadow_Witness_i:=g2.2.2.2.2.2
theorem g1:(∀ N (a0:TConf),OK (ref04_ValidConf N a0) 56 [.agg (e23 a0)] [] (fun r=>.v (.bool r)) fun r=>[])∧(∀ N (a0:TTape),OK (made_Tape_Done N a0) 33 [.ept 1000000 0 2 0 0] [.arr true 51 2 [[.isl 3 1 (a0.L.map e3),.v (.int .i64 a0.at_)]] 0] (fun r=>.v (.bool r)) fun r=>[.arr true 51 2 [[.isl 3 1 (a0.L.map e3),.v (.int .i64 a0.at_)]] 0])∧(∀ N (a1:Int),OK (slices_Grow_uint64_uint64_nil N a1) 119 [.nsl,.v (.int .i64 a1)] [] (fun r=>.fsl 37 1 (r.map e37)) fun r=>[])∧(∀ N (a0:Int),OK (scope_Valid_1 N a0) 193 [.v (.int .i64 a0)] [] (fun r=>.v (.bool r)) fun r=>[])∧(∀ N (a0:Int) (a1:TWorld),OK (rules_World_known_1_2 N a0 a1) 203 [.v (.int .u64 a0),.ept 1000000 0 10 0 0] [.arr true 61 10 [[.v (.int .i64 a1.Conf.PageWords),.v (.int .i64 a1.Conf.Pages),.isl 77 4 (a1.Things.map e77),.isl 210 3 (a1.Locals.Slots.map e210),.isl 159 3 (a1.Locals.Scopes.map e159),.isl 3 1 (a1.Locals.Issued.map e3),.isl 132 3 (a1.Globals.Entries.map e132),.isl 132 3 (a1.Weaks.Entries.map e132),.isl 116 3 (a1.Marks.map e116),.isl 37 1 (a1.Roots.map e37)]] 0] (fun r=>.v (.bool r)) fun r=>[.arr true 61 10 [[.v (.int .i64 a1.Conf.PageWords),.v (.int .i64 a1.Conf.Pages),.isl 77 4 (a1.Things.map e77),.isl 210 3 (a1.Locals.Slots.map e210),.isl 159 3 (a1.Locals.Scopes.map e159),.isl 3 1 (a1.Locals.Issued.map e3),.isl 132 3 (a1.Globals.Entries.map e132),.isl 132 3 (a1.Weaks.Entries.map e132),.isl 116 3 (a1.Marks.map e116),.isl 37 1 (a1.Roots.map e37)]] 0])∧(∀ N (a0:THeap),OK (made_Light N a0) 70 [.agg (e42 a0)] [] (fun r=>.v (.bool r)) fun r=>[])∧(∀ N (a0:TEnv) (a1:TEnv) (a2:Int) (a3:Int) (a4:Int),OK (ref21_Witness N a0 a1 a2 a3 a4) 27 [.agg (e45 a0),.agg (e45 a1),.v (.int .i64 a2),.v (.int .u64 a3),.v (.int .i64 a4)] [] (fun r=>.agg (e39 r)) fun r=>[]):=by
 refine ⟨fun N _=>rn Tryz.f56 [.tmp 2] [] 27 (by kernel_rfl) ?_,fun N _=>rn Tryz.f33 [.tmp 2] [] 13 (by kernel_rfl) ?_,fun N _=>rn Tryz.f119 [.tmp 4] [1408] 27 (by kernel_rfl) ?_,fun N _=>rn Tryz.f193 [.tmp 2] [] 9 (by kernel_rfl) ?_,fun N _ _=>rn Tryz.f203 [.tmp 3] [] 10 (by kernel_rfl) ?_,fun N _=>rn Tryz.f70 [.tmp 2] [] 13 (by kernel_rfl) ?_,fun N _ _ _ _ _=>rn Tryz.f27 [.cell 10 39] [] 44 (by kernel_rfl) ?_⟩<;>(rintro _ hw r hr C _ rfl hwf hf;simp only[Tryz.f56,Tryz.f33,Tryz.f119,Tryz.f193,Tryz.f203,Tryz.f70,Tryz.f27,Option.get!];(first|rw[ref04_ValidConf] at hr|rw[made_Tape_Done] at hr|rw[slices_Grow_uint64_uint64_nil] at hr|rw[scope_Valid_1] at hr|rw[rules_World_known_1_2] at hr|rw[made_Light] at hr|rw[ref21_Witness] at hr);repeat' first
 |(refine El.el hr ?_;intro hr)
 |(with_reducible intro h;refine bc_e hr h ?_;intro hr)
 |with_reducible intro _
 |simp only[go_sem,simprocAttr,List.length_take,List.length_drop,Nat.min_self]
 |(with_reducible first|apply guard_of_f|apply guard_of_t|apply cond_of|apply doT_of_t|apply doT_of_f)
 |(refine and_of' ?_ ?_;·first|assumption|omega)
 |refine db 33 1 hf [([],[],[7,8,9,10,11],[]),([0],[],[7,8,9,10,11],[]),([0,1],[],[7,8,9,10,11],[]),([0,1,2],[],[7,8,9,10,11],[]),([],[],[3,4,5,6],[]),([4],[],[3,4,5,6],[]),([4,5],[],[3,4,5,6],[]),([4,5,6],[],[3,4,5,6],[]),([4,5,6,7],[],[3,4,5,6],[]),([0,1,2,3,4,5,6,7,8],[],[],[]),([0,1,2,3,4,5,6,7,8,9],[],[],[])] rfl rfl (by kernel_rfl) ?_ _
 |(refine some_e hr ?_;rintro rfl;with_reducible refine ret_k ?_)
 |exact no_e hr
 |fail)
@[reducible,instance] def ref04_ValidConf_i:=g1.1
@[reducible,instance] def made_Tape_Done_i:=g1.2.1
@[reducible,instance] def slices_Grow_uint64_uint64_nil_i:=g1.2.2.1
@[reducible,instance] def scope_Valid_1_i:=g1.2.2.2.1
@[reducible,instance] def rules_World_known_1_2_i:=g1.2.2.2.2.1
@[reducible,instance] def made_Light_i:=g1.2.2.2.2.2.1
@[reducible,instance] def ref21_Witness_i:=g1.2.2.2.2.2.2
instance slices_Clone_api_Slot_api_Slot_i:∀ N (a0:List TSlot),OK (slices_Clone_api_Slot_api_Slot N a0) 170 [.isl 210 3 (a0.map e210)] [] (fun r=>.fsl 210 3 (r.map e210)) fun r=>[]:=by
 refine fun N a0=>⟨fun G hw r hr=>?_⟩
 rw[slices_Clone_api_Slot_api_Slot] at hr
 obtain rfl:=Option.some.inj hr
 obtain _|⟨x,l⟩:=a0
 refine acalls_empty fun a cap=>?_
 obtain _|a:=a
 all_goals
  refine acalls_of_run (fn:=Tryz.f170) (body:=(Tryz.f170.body).get!) (rs:=[.tmp 2]) 1000 [320] 8 (by kernel_rfl) (by kernel_rfl) (by kernel_rfl) (by kernel_rfl) (by kernel_rfl) (by simp) fun C _ hG hwf=>?_;subst hG;have hw2:=hwf;simp only[WfL,Wf,List.length_map,and_true,List.length_cons,bytes210,top47] at hw2;simp only[Tryz.f170,Option.get!]
  simp only[go_sem,simprocAttr]
  try refine ⟨by omega,?_⟩
  with_reducible refine ret_k ?_
  simp only[go_sem,simprocAttr]
instance slices_Clone_api_Scope_api_Scope_i:∀ N (a0:List TScope),OK (slices_Clone_api_Scope_api_Scope N a0) 171 [.isl 159 3 (a0.map e159)] [] (fun r=>.fsl 159 3 (r.map e159)) fun r=>[]:=by
 refine fun N a0=>⟨fun G hw r hr=>?_⟩
 rw[slices_Clone_api_Scope_api_Scope] at hr
 obtain rfl:=Option.some.inj hr
 obtain _|⟨x,l⟩:=a0
 refine acalls_empty fun a cap=>?_
 obtain _|a:=a
 all_goals
  refine acalls_of_run (fn:=Tryz.f171) (body:=(Tryz.f171.body).get!) (rs:=[.tmp 2]) 1000 [320] 8 (by kernel_rfl) (by kernel_rfl) (by kernel_rfl) (by kernel_rfl) (by kernel_rfl) (by simp) fun C _ hG hwf=>?_;subst hG;have hw2:=hwf;simp only[WfL,Wf,List.length_map,and_true,List.length_cons,bytes159,top47] at hw2;simp only[Tryz.f171,Option.get!]
  simp only[go_sem,simprocAttr]
  try refine ⟨by omega,?_⟩
  with_reducible refine ret_k ?_
  simp only[go_sem,simprocAttr]
instance slices_Clone_rules_Thing_rules_Thing_i:∀ N (a0:List TThing),OK (slices_Clone_rules_Thing_rules_Thing N a0) 81 [.isl 77 4 (a0.map e77)] [] (fun r=>.fsl 77 4 (r.map e77)) fun r=>[]:=by
 refine fun N a0=>⟨fun G hw r hr=>?_⟩
 rw[slices_Clone_rules_Thing_rules_Thing] at hr
 obtain rfl:=Option.some.inj hr
 obtain _|⟨x,l⟩:=a0
 refine acalls_empty fun a cap=>?_
 obtain _|a:=a
 all_goals
  refine acalls_of_run (fn:=Tryz.f81) (body:=(Tryz.f81.body).get!) (rs:=[.tmp 2]) 1000 [320] 8 (by kernel_rfl) (by kernel_rfl) (by kernel_rfl) (by kernel_rfl) (by kernel_rfl) (by simp) fun C _ hG hwf=>?_;subst hG;have hw2:=hwf;simp only[WfL,Wf,List.length_map,and_true,List.length_cons,bytes77,top47] at hw2;simp only[Tryz.f81,Option.get!]
  simp only[go_sem,simprocAttr]
  try refine ⟨by omega,?_⟩
  with_reducible refine ret_k ?_
  simp only[go_sem,simprocAttr]
instance slices_Clone_int_int_i:∀ N (a0:List Int),OK (slices_Clone_int_int N a0) 172 [.isl 3 1 (a0.map e3)] [] (fun r=>.fsl 3 1 (r.map e3)) fun r=>[]:=by
 refine fun N a0=>⟨fun G hw r hr=>?_⟩
 rw[slices_Clone_int_int] at hr
 obtain rfl:=Option.some.inj hr
 obtain _|⟨x,l⟩:=a0
 refine acalls_empty fun a cap=>?_
 obtain _|a:=a
 all_goals
  refine acalls_of_run (fn:=Tryz.f172) (body:=(Tryz.f172.body).get!) (rs:=[.tmp 2]) 1000 [320] 8 (by kernel_rfl) (by kernel_rfl) (by kernel_rfl) (by kernel_rfl) (by kernel_rfl) (by simp) fun C _ hG hwf=>?_;subst hG;have hw2:=hwf;simp only[WfL,Wf,List.length_map,and_true,List.length_cons,bytes3,top47] at hw2;simp only[Tryz.f172,Option.get!]
  simp only[go_sem,simprocAttr]
  try refine ⟨by omega,?_⟩
  with_reducible refine ret_k ?_
  simp only[go_sem,simprocAttr]
instance slices_Clone_api_Entry_api_Entry_i:∀ N (a0:List TEntry),OK (slices_Clone_api_Entry_api_Entry N a0) 173 [.isl 132 3 (a0.map e132)] [] (fun r=>.fsl 132 3 (r.map e132)) fun r=>[]:=by
 refine fun N a0=>⟨fun G hw r hr=>?_⟩
 rw[slices_Clone_api_Entry_api_Entry] at hr
 obtain rfl:=Option.some.inj hr
 obtain _|⟨x,l⟩:=a0
 refine acalls_empty fun a cap=>?_
 obtain _|a:=a
 all_goals
  refine acalls_of_run (fn:=Tryz.f173) (body:=(Tryz.f173.body).get!) (rs:=[.tmp 2]) 1000 [320] 8 (by kernel_rfl) (by kernel_rfl) (by kernel_rfl) (by kernel_rfl) (by kernel_rfl) (by simp) fun C _ hG hwf=>?_;subst hG;have hw2:=hwf;simp only[WfL,Wf,List.length_map,and_true,List.length_cons,bytes132,top47] at hw2;simp only[Tryz.f173,Option.get!]
  simp only[go_sem,simprocAttr]
  try refine ⟨by omega,?_⟩
  with_reducible refine ret_k ?_
  simp only[go_sem,simprocAttr]
instance slices_Clone_rules_Mark_rules_Mark_i:∀ N (a0:List TMark),OK (slices_Clone_rules_Mark_rules_Mark N a0) 85 [.isl 116 3 (a0.map e116)] [] (fun r=>.fsl 116 3 (r.map e116)) fun r=>[]:=by
 refine fun N a0=>⟨fun G hw r hr=>?_⟩
 rw[slices_Clone_rules_Mark_rules_Mark] at hr
 obtain rfl:=Option.some.inj hr
 obtain _|⟨x,l⟩:=a0
 refine acalls_empty fun a cap=>?_
 obtain _|a:=a
 all_goals
  refine acalls_of_run (fn:=Tryz.f85) (body:=(Tryz.f85.body).get!) (rs:=[.tmp 2]) 1000 [320] 8 (by kernel_rfl) (by kernel_rfl) (by kernel_rfl) (by kernel_rfl) (by kernel_rfl) (by simp) fun C _ hG hwf=>?_;subst hG;have hw2:=hwf;simp only[WfL,Wf,List.length_map,and_true,List.length_cons,bytes116,top47] at hw2;simp only[Tryz.f85,Option.get!]
  simp only[go_sem,simprocAttr]
  try refine ⟨by omega,?_⟩
  with_reducible refine ret_k ?_
  simp only[go_sem,simprocAttr]
instance slices_Clone_uint64_uint64_i:∀ N (a0:List Int),OK (slices_Clone_uint64_uint64 N a0) 82 [.isl 37 1 (a0.map e37)] [] (fun r=>.fsl 37 1 (r.map e37)) fun r=>[]:=by
 refine fun N a0=>⟨fun G hw r hr=>?_⟩
 rw[slices_Clone_uint64_uint64] at hr
 obtain rfl:=Option.some.inj hr
 obtain _|⟨x,l⟩:=a0
 refine acalls_empty fun a cap=>?_
 obtain _|a:=a
 all_goals
  refine acalls_of_run (fn:=Tryz.f82) (body:=(Tryz.f82.body).get!) (rs:=[.tmp 2]) 1000 [320] 8 (by kernel_rfl) (by kernel_rfl) (by kernel_rfl) (by kernel_rfl) (by kernel_rfl) (by simp) fun C _ hG hwf=>?_;subst hG;have hw2:=hwf;simp only[WfL,Wf,List.length_map,and_true,List.length_cons,bytes37,top47] at hw2;simp only[Tryz.f82,Option.get!]
  simp only[go_sem,simprocAttr]
  try refine ⟨by omega,?_⟩
  with_reducible refine ret_k ?_
  simp only[go_sem,simprocAttr]
end Go.Sx
