import Derived.Test.YtgdhlnfcogcicaaGreatDoorSF
set_option linter.all false
namespace Go.Sx
open Go.Proofs
set_option maxRecDepth 10000
set_option maxHeartbeats 100000000
theorem g1:(∀ N (a0:TTape) (a1:Int),OK (Qaa N a0 a1) 35 [.ept 1000000 0 2 0 0,.v (.int .i64 a1)] [.arr true 51 2 [[.isl 3 1 (a0.L.map e3),.v (.int .i64 a0.at_)]] 0] (fun r=>.v (.int .i64 r.1)) fun r=>[.arr true 51 2 [[.isl 3 1 (r.2.L.map e3),.v (.int .i64 r.2.at_)]] 0])∧(∀ N (a0:THeader),OK (QbR N a0) 124 [.agg (e75 a0)] [] (fun r=>.v (.bool r)) fun r=>[])∧(∀ N (a0:THandle),OK (Qe5 N a0) 189 [.agg (e193 a0)] [] (fun r=>.v (.bool r)) fun r=>[])∧(∀ N (a0:TTable) (a1:Int) (a2:TEntry),OK (Qfi N a0 a1 a2) 190 [.agg (e32 a0),.v (.int .i64 a1),.agg (e132 a2)] [] (fun r=>.agg (e32 r)) fun r=>[])∧(∀ N (a0:List Int) (a1:Int) (a2:Int),OK (Qee N a0 a1 a2) 274 [.isl 37 1 (a0.map e37),.v (.int .u64 a1),.v (.int .i64 a2)] [] (fun r=>.tup [.v (.int .i64 r.1),.v (.bool r.2)]) fun r=>[])∧(∀ N (a0:TWork) (a1:Int),OK (QdJ N a0 a1) 266 [.agg (e265 a0),.v (.int .u64 a1)] [] (fun r=>.agg (e265 r)) fun r=>[])∧(∀ N (a0:TConf),OK (Qbd N a0) 55 [.agg (e23 a0)] [] (fun r=>.v (.bool r)) fun r=>[])∧(∀ N (a0:Int),OK (Qeu N a0) 193 [.v (.int .i64 a0)] [] (fun r=>.v (.bool r)) fun r=>[])∧(∀ N (a0:TMark) (a1:Int),OK (QcZ N a0 a1) 225 [.agg (e116 a0),.ept 1000000 0 1 0 0] [.arr true 37 1 [[.v (.int .u64 a1)]] 0] (fun r=>.v (.bool r)) fun r=>[.arr true 37 1 [[.v (.int .u64 a1)]] 0]):=by
 refine ⟨fun N _ _=>rn Tryz.f35 [.tmp 4] [] 48 (by kernel_rfl) ?_,fun N _=>rn Tryz.f124 [.tmp 2] [] 40 (by kernel_rfl) ?_,fun N _=>rn Tryz.f189 [.tmp 2] [] 31 (by kernel_rfl) ?_,fun N _ _ _=>rn Tryz.f190 [.cell 6 32] [] 18 (by kernel_rfl) ?_,fun N _ _ _=>rn Tryz.f274 [.tmp 6,.tmp 7] [] 29 (by kernel_rfl) ?_,fun N _ _=>rn Tryz.f266 [.cell 4 265] [] 20 (by kernel_rfl) ?_,fun N _=>rn Tryz.f55 [.tmp 2] [] 27 (by kernel_rfl) ?_,fun N _=>rn Tryz.f193 [.tmp 2] [] 9 (by kernel_rfl) ?_,fun N _ _=>rn Tryz.f225 [.tmp 3] [] 8 (by kernel_rfl) ?_⟩<;>(rintro _ hw r hr C _ rfl hwf hf;simp only[Tryz.f35,Tryz.f124,Tryz.f189,Tryz.f190,Tryz.f274,Tryz.f266,Tryz.f55,Tryz.f193,Tryz.f225,Option.get!];(first|rw[Qaa] at hr|rw[QbR] at hr|rw[Qe5] at hr|rw[Qfi] at hr|rw[Qee] at hr|rw[QdJ] at hr|rw[Qbd] at hr|rw[Qeu] at hr|rw[QcZ] at hr);repeat' first
 |(refine El.el hr ?_;intro hr)
 |(with_reducible intro h;refine bc_e hr h ?_;intro hr)
 |with_reducible intro _
 |simp only[go_sem,simprocAttr,hl3,hl132]
 |(with_reducible first|apply guard_of_f|apply guard_of_t|apply cond_of|apply doT_of_t|apply doT_of_f)
 |((first|with_reducible refine idx_s hr (by assumption) ?_ ?_|(with_reducible refine idx_e hr ?_ ?_;rotate_left;intro p;rotate_right));(·simp only[go_sem,simprocAttr]);intro hp hn hd hr;(try have hl3:=hd _ e3);(try simp only[go_sem,simprocAttr] at hl3);(try have hl132:=hd _ e132);(try simp only[go_sem,simprocAttr] at hl132))
 |(refine and_of' ?_ ?_;·first|assumption|omega)
 |refine db 35 4 hf [([],[],[18,19,20,21,22],[]),([0],[],[18,19,20,21,22],[]),([0,1],[],[18,19,20,21,22],[]),([0,1,2],[],[18,19,20,21,22],[]),([],[],[14,15,16,17],[]),([4],[],[14,15,16,17],[]),([4,5],[],[14,15,16,17],[]),([4,5,6],[],[14,15,16,17],[]),([4,5,6,7],[],[14,15,16,17],[]),([0,1,2,3,4,5,6,7,8],[],[],[])] rfl rfl (by kernel_rfl) ?_ _
 |refine db 35 5 hf [([],[],[28,29,30,31],[]),([0],[],[28,29,30,31],[]),([0,1],[],[28,29,30,31],[]),([0,1,2],[],[28,29,30,31],[]),([],[],[24,25,26,27],[]),([4],[],[24,25,26,27],[]),([4,5],[],[24,25,26,27],[]),([4,5,6],[],[24,25,26,27],[]),([0,1,2,3,4,5,6,7],[],[],[]),([0,1,2,3,4,5,6,7,8],[],[],[]),([0,1,2,3,4,5,6,7,8,9],[],[],[])] rfl rfl (by kernel_rfl) ?_ _
 |(refine some_e hr ?_;rintro rfl;with_reducible refine ret_k ?_)
 |exact no_e hr
 |fail)
@[reducible,instance] def QjR:=g1.1
@[reducible,instance] def Qk4:=g1.2.1
@[reducible,instance] def Qk5:=g1.2.2.1
@[reducible,instance] def QmD:=g1.2.2.2.1
@[reducible,instance] def QlY:=g1.2.2.2.2.1
@[reducible,instance] def QlZ:=g1.2.2.2.2.2.1
@[reducible,instance] def QjS:=g1.2.2.2.2.2.2.1
@[reducible,instance] def Qj9:=g1.2.2.2.2.2.2.2.1
@[reducible,instance] def Qjx:=g1.2.2.2.2.2.2.2.2
theorem g3:(∀ N (a0:TTape),OK (QeP N a0) 33 [.ept 1000000 0 2 0 0] [.arr true 51 2 [[.isl 3 1 (a0.L.map e3),.v (.int .i64 a0.at_)]] 0] (fun r=>.v (.bool r)) fun r=>[.arr true 51 2 [[.isl 3 1 (a0.L.map e3),.v (.int .i64 a0.at_)]] 0])∧(∀ N (a0:Int) (a1:Int) (a2:Int),OK (Qbo N a0 a1 a2) 45 [.v (.int .i64 a0),.v (.int .u64 a1),.v (.int .u64 a2)] [] (fun r=>.tup [.agg (e75 r.1),.v (.bool r.2)]) fun r=>[])∧(∀ N (a0:TWorld) (a1:Int) (a2:Int) (a3:Int),OK (Qd8 N a0 a1 a2 a3) 47 [.agg (e36 a0),.v (.int .u64 a1),.v (.int .i64 a2),.v (.int .u64 a3)] [] (fun r=>.agg (e36 r)) fun r=>[])∧(∀ N (a0:Int),OK (Qfn N a0) 244 [.v (.int .i64 a0)] [] (fun r=>.v (.bool r)) fun r=>[])∧(∀ N (a0:Int),OK (Qcy N a0) 249 [.v (.int .u64 a0)] [] (fun r=>.tup [.v (.int .u64 r.1),.v (.bool r.2)]) fun r=>[])∧(∀ N (a0:Int),OK (Qab N a0) 134 [.v (.int .i64 a0)] [] (fun r=>.tup [.agg (e45 r.1),.v (.int .u64 r.2.1),.v (.int .i64 r.2.2)]) fun r=>[])∧(∀ N (a0:Tframes) (a1:Int),OK (Qcz N a0 a1) 236 [.agg (e255 a0),.v (.int .i64 a1)] [] (fun r=>.isl 210 3 (r.map e210)) fun r=>[])∧(∀ N (a0:Int) (a1:TWorld),OK (QcD N a0 a1) 203 [.v (.int .u64 a0),.ept 1000000 0 10 0 0] [.arr true 61 10 [[.v (.int .i64 a1.Conf.PageWords),.v (.int .i64 a1.Conf.Pages),.isl 77 4 (a1.Things.map e77),.isl 210 3 (a1.Locals.Slots.map e210),.isl 159 3 (a1.Locals.Scopes.map e159),.isl 3 1 (a1.Locals.Issued.map e3),.isl 132 3 (a1.Globals.Entries.map e132),.isl 132 3 (a1.Weaks.Entries.map e132),.isl 116 3 (a1.Marks.map e116),.isl 37 1 (a1.Roots.map e37)]] 0] (fun r=>.v (.bool r)) fun r=>[.arr true 61 10 [[.v (.int .i64 a1.Conf.PageWords),.v (.int .i64 a1.Conf.Pages),.isl 77 4 (a1.Things.map e77),.isl 210 3 (a1.Locals.Slots.map e210),.isl 159 3 (a1.Locals.Scopes.map e159),.isl 3 1 (a1.Locals.Issued.map e3),.isl 132 3 (a1.Globals.Entries.map e132),.isl 132 3 (a1.Weaks.Entries.map e132),.isl 116 3 (a1.Marks.map e116),.isl 37 1 (a1.Roots.map e37)]] 0]):=by
 refine ⟨fun N _=>rn Tryz.f33 [.tmp 2] [] 13 (by kernel_rfl) ?_,fun N _ _ _=>rn Tryz.f45 [.cell 6 75,.tmp 7] [] 29 (by kernel_rfl) ?_,fun N _ _ _ _=>rn Tryz.f47 [.cell 8 36] [] 38 (by kernel_rfl) ?_,fun N _=>rn Tryz.f244 [.tmp 2] [] 9 (by kernel_rfl) ?_,fun N _=>rn Tryz.f249 [.tmp 2,.tmp 3] [] 14 (by kernel_rfl) ?_,fun N _=>rn Tryz.f134 [.cell 2 45,.tmp 3,.tmp 4] [] 7 (by kernel_rfl) ?_,fun N _ _=>rn Tryz.f236 [.tmp 4] [] 42 (by kernel_rfl) ?_,fun N _ _=>rn Tryz.f203 [.tmp 3] [] 10 (by kernel_rfl) ?_⟩<;>(rintro _ hw r hr C _ rfl hwf hf;simp only[Tryz.f33,Tryz.f45,Tryz.f47,Tryz.f244,Tryz.f249,Tryz.f134,Tryz.f236,Tryz.f203,Option.get!];(first|rw[QeP] at hr|rw[Qbo] at hr|rw[Qd8] at hr|rw[Qfn] at hr|rw[Qcy] at hr|rw[Qab] at hr|rw[Qcz] at hr|rw[QcD] at hr);repeat' first
 |(refine El.el hr ?_;intro hr)
 |(with_reducible intro h;refine bc_e hr h ?_;intro hr)
 |with_reducible intro _
 |simp only[go_sem,simprocAttr,hl37,hl115,hl159,List.length_take,List.length_drop,Nat.min_self]
 |(with_reducible first|apply guard_of_f|apply guard_of_t|apply cond_of|apply doT_of_t|apply doT_of_f)
 |((first|with_reducible refine idx_s hr (by assumption) ?_ ?_|(with_reducible refine idx_e hr ?_ ?_;rotate_left;intro p;rotate_right));(·simp only[go_sem,simprocAttr,List.length_take,List.length_drop,Nat.min_self]);intro hp hn hd hr;(try have hl37:=hd _ e37);(try simp only[go_sem,simprocAttr] at hl37);(try have hl115:=hd _ e115);(try simp only[go_sem,simprocAttr] at hl115);(try have hl159:=hd _ e159);(try simp only[go_sem,simprocAttr] at hl159))
 |(refine and_of' ?_ ?_;·first|assumption|omega)
 |refine db 33 1 hf [([],[],[7,8,9,10,11],[]),([0],[],[7,8,9,10,11],[]),([0,1],[],[7,8,9,10,11],[]),([0,1,2],[],[7,8,9,10,11],[]),([],[],[3,4,5,6],[]),([4],[],[3,4,5,6],[]),([4,5],[],[3,4,5,6],[]),([4,5,6],[],[3,4,5,6],[]),([4,5,6,7],[],[3,4,5,6],[]),([0,1,2,3,4,5,6,7,8],[],[],[]),([0,1,2,3,4,5,6,7,8,9],[],[],[])] rfl rfl (by kernel_rfl) ?_ _
 |refine db 236 2 hf [([],[],[15,16,17,18,19,20,21,22,23,24,25,26,27,28,29],[]),([0],[],[15,16,17,18,19,20,21,22,23,24,25,26,27,28,29],[]),([0,1],[],[15,16,17,18,19,20,21,22,23,24,25,26,27,28,29],[]),([],[],[12,13,14,18,22,23,24,25,26,27,28,29],[]),([3],[],[12,13,14,18,22,23,24,25,26,27,28,29],[]),([3,4],[],[12,13,14,18,22,23,24,25,26,27,28,29],[]),([],[],[12,13,14,15,16,17,22,23,24,25,26,27,28,29],[]),([3,4,5,6],[],[12,13,14,22,23,24,25,26,27,28,29],[]),([3,4,5,6,7],[],[12,13,14,22,23,24,25,26,27,28,29],[]),([3,4,5,6,7,8],[],[12,13,14,22,23,24,25,26,27,28,29],[]),([],[],[12,13,14,15,16,17,18,19,20,21,25,26],[]),([10],[],[12,13,14,15,16,17,18,19,20,21,25,26],[]),([10,11],[],[12,13,14,15,16,17,18,19,20,21,25,26],[]),([],[],[12,13,14,15,16,17,18,19,20,21,22,23,24],[]),([13],[],[12,13,14,15,16,17,18,19,20,21,22,23,24],[]),([10,11,12,13,14],[],[12,13,14,15,16,17,18,19,20,21],[]),([10,11,12,13,14,15],[],[12,13,14,15,16,17,18,19,20,21],[]),([10,11,12,13,14,15,16],[],[12,13,14,15,16,17,18,19,20,21],[]),([0,1,2,3,4,5,6,7,8,9,10,11,12,13,14,15,16,17],[],[],[]),([0,1,2,3,4,5,6,7,8,9,10,11,12,13,14,15,16,17,18],[],[],[])] rfl rfl (by kernel_rfl) ?_ _
 |refine db 236 3 hf [([],[],[34,35,36,37,38,39,40],[]),([0],[],[34,35,36,37,38,39,40],[]),([0,1],[],[34,35,36,37,38,39,40],[]),([],[],[31,32,33,37],[]),([3],[],[31,32,33,37],[]),([3,4],[],[31,32,33,37],[]),([],[],[31,32,33,34,35,36],[]),([3,4,5,6],[],[31,32,33],[]),([3,4,5,6,7],[],[31,32,33],[]),([3,4,5,6,7,8],[],[31,32,33],[]),([0,1,2,3,4,5,6,7,8,9],[],[],[]),([0,1,2,3,4,5,6,7,8,9,10],[],[],[])] rfl rfl (by kernel_rfl) ?_ _
 |(refine some_e hr ?_;rintro rfl;with_reducible refine ret_k ?_)
 |exact no_e hr
 |fail)
@[reducible,instance] def QjT:=g3.1
@[reducible,instance] def Qk6:=g3.2.1
@[reducible,instance] def QmE:=g3.2.2.1
@[reducible,instance] def Ql0:=g3.2.2.2.1
@[reducible,instance] def Qkz:=g3.2.2.2.2.1
@[reducible,instance] def QkA:=g3.2.2.2.2.2.1
@[reducible,instance] def QjD:=g3.2.2.2.2.2.2.1
@[reducible,instance] def Qjv:=g3.2.2.2.2.2.2.2
instance QgL:∀ N (a0:List TThing),OK (QaK N a0) 81 [.isl 77 4 (a0.map e77)] [] (fun r=>.fsl 77 4 (r.map e77)) fun r=>[]:=by
 refine fun N a0=>⟨fun G hw r hr=>?_⟩
 rw[QaK] at hr
 obtain rfl:=Option.some.inj hr
 obtain _|⟨x,l⟩:=a0
 refine acalls_empty fun a cap=>?_
 obtain _|a:=a
 all_goals
  refine acalls_of_run (fn:=Tryz.f81) (body:=(Tryz.f81.body).get!) (rs:=[.tmp 2]) 1000 [320] 8 (by kernel_rfl) (by kernel_rfl) (by kernel_rfl) (by kernel_rfl) (by kernel_rfl) (by simp) fun C _ hG hwf=>?_;subst hG;have hw2:=hwf;simp only[WfL,Wf,List.length_map,and_true,List.length_cons,bytes77,top47] at hw2;simp only[Tryz.f81,Option.get!]
  simp only[go_sem,simprocAttr]
  try refine ⟨by omega,?_⟩
  with_reducible refine ret_k ?_
  simp only[go_sem,simprocAttr]
instance QhN:∀ N (a0:List TSlot),OK (QaL N a0) 170 [.isl 210 3 (a0.map e210)] [] (fun r=>.fsl 210 3 (r.map e210)) fun r=>[]:=by
 refine fun N a0=>⟨fun G hw r hr=>?_⟩
 rw[QaL] at hr
 obtain rfl:=Option.some.inj hr
 obtain _|⟨x,l⟩:=a0
 refine acalls_empty fun a cap=>?_
 obtain _|a:=a
 all_goals
  refine acalls_of_run (fn:=Tryz.f170) (body:=(Tryz.f170.body).get!) (rs:=[.tmp 2]) 1000 [320] 8 (by kernel_rfl) (by kernel_rfl) (by kernel_rfl) (by kernel_rfl) (by kernel_rfl) (by simp) fun C _ hG hwf=>?_;subst hG;have hw2:=hwf;simp only[WfL,Wf,List.length_map,and_true,List.length_cons,bytes210,top47] at hw2;simp only[Tryz.f170,Option.get!]
  simp only[go_sem,simprocAttr]
  try refine ⟨by omega,?_⟩
  with_reducible refine ret_k ?_
  simp only[go_sem,simprocAttr]
instance Qhg:∀ N (a0:List TEntry),OK (QaD N a0) 173 [.isl 132 3 (a0.map e132)] [] (fun r=>.fsl 132 3 (r.map e132)) fun r=>[]:=by
 refine fun N a0=>⟨fun G hw r hr=>?_⟩
 rw[QaD] at hr
 obtain rfl:=Option.some.inj hr
 obtain _|⟨x,l⟩:=a0
 refine acalls_empty fun a cap=>?_
 obtain _|a:=a
 all_goals
  refine acalls_of_run (fn:=Tryz.f173) (body:=(Tryz.f173.body).get!) (rs:=[.tmp 2]) 1000 [320] 8 (by kernel_rfl) (by kernel_rfl) (by kernel_rfl) (by kernel_rfl) (by kernel_rfl) (by simp) fun C _ hG hwf=>?_;subst hG;have hw2:=hwf;simp only[WfL,Wf,List.length_map,and_true,List.length_cons,bytes132,top47] at hw2;simp only[Tryz.f173,Option.get!]
  simp only[go_sem,simprocAttr]
  try refine ⟨by omega,?_⟩
  with_reducible refine ret_k ?_
  simp only[go_sem,simprocAttr]
instance Qhh:∀ N (a0:List TScope),OK (QaC N a0) 171 [.isl 159 3 (a0.map e159)] [] (fun r=>.fsl 159 3 (r.map e159)) fun r=>[]:=by
 refine fun N a0=>⟨fun G hw r hr=>?_⟩
 rw[QaC] at hr
 obtain rfl:=Option.some.inj hr
 obtain _|⟨x,l⟩:=a0
 refine acalls_empty fun a cap=>?_
 obtain _|a:=a
 all_goals
  refine acalls_of_run (fn:=Tryz.f171) (body:=(Tryz.f171.body).get!) (rs:=[.tmp 2]) 1000 [320] 8 (by kernel_rfl) (by kernel_rfl) (by kernel_rfl) (by kernel_rfl) (by kernel_rfl) (by simp) fun C _ hG hwf=>?_;subst hG;have hw2:=hwf;simp only[WfL,Wf,List.length_map,and_true,List.length_cons,bytes159,top47] at hw2;simp only[Tryz.f171,Option.get!]
  simp only[go_sem,simprocAttr]
  try refine ⟨by omega,?_⟩
  with_reducible refine ret_k ?_
  simp only[go_sem,simprocAttr]
instance Qjy:∀ N (a0:List Int),OK (Qb4 N a0) 172 [.isl 3 1 (a0.map e3)] [] (fun r=>.fsl 3 1 (r.map e3)) fun r=>[]:=by
 refine fun N a0=>⟨fun G hw r hr=>?_⟩
 rw[Qb4] at hr
 obtain rfl:=Option.some.inj hr
 obtain _|⟨x,l⟩:=a0
 refine acalls_empty fun a cap=>?_
 obtain _|a:=a
 all_goals
  refine acalls_of_run (fn:=Tryz.f172) (body:=(Tryz.f172.body).get!) (rs:=[.tmp 2]) 1000 [320] 8 (by kernel_rfl) (by kernel_rfl) (by kernel_rfl) (by kernel_rfl) (by kernel_rfl) (by simp) fun C _ hG hwf=>?_;subst hG;have hw2:=hwf;simp only[WfL,Wf,List.length_map,and_true,List.length_cons,bytes3,top47] at hw2;simp only[Tryz.f172,Option.get!]
  simp only[go_sem,simprocAttr]
  try refine ⟨by omega,?_⟩
  with_reducible refine ret_k ?_
  simp only[go_sem,simprocAttr]
instance Qi1:∀ N (a0:List Int),OK (QaI N a0) 82 [.isl 37 1 (a0.map e37)] [] (fun r=>.fsl 37 1 (r.map e37)) fun r=>[]:=by
 refine fun N a0=>⟨fun G hw r hr=>?_⟩
 rw[QaI] at hr
 obtain rfl:=Option.some.inj hr
 obtain _|⟨x,l⟩:=a0
 refine acalls_empty fun a cap=>?_
 obtain _|a:=a
 all_goals
  refine acalls_of_run (fn:=Tryz.f82) (body:=(Tryz.f82.body).get!) (rs:=[.tmp 2]) 1000 [320] 8 (by kernel_rfl) (by kernel_rfl) (by kernel_rfl) (by kernel_rfl) (by kernel_rfl) (by simp) fun C _ hG hwf=>?_;subst hG;have hw2:=hwf;simp only[WfL,Wf,List.length_map,and_true,List.length_cons,bytes37,top47] at hw2;simp only[Tryz.f82,Option.get!]
  simp only[go_sem,simprocAttr]
  try refine ⟨by omega,?_⟩
  with_reducible refine ret_k ?_
  simp only[go_sem,simprocAttr]
instance Qg2:∀ N (a0:List TMark),OK (QaT N a0) 85 [.isl 116 3 (a0.map e116)] [] (fun r=>.fsl 116 3 (r.map e116)) fun r=>[]:=by
 refine fun N a0=>⟨fun G hw r hr=>?_⟩
 rw[QaT] at hr
 obtain rfl:=Option.some.inj hr
 obtain _|⟨x,l⟩:=a0
 refine acalls_empty fun a cap=>?_
 obtain _|a:=a
 all_goals
  refine acalls_of_run (fn:=Tryz.f85) (body:=(Tryz.f85.body).get!) (rs:=[.tmp 2]) 1000 [320] 8 (by kernel_rfl) (by kernel_rfl) (by kernel_rfl) (by kernel_rfl) (by kernel_rfl) (by simp) fun C _ hG hwf=>?_;subst hG;have hw2:=hwf;simp only[WfL,Wf,List.length_map,and_true,List.length_cons,bytes116,top47] at hw2;simp only[Tryz.f85,Option.get!]
  simp only[go_sem,simprocAttr]
  try refine ⟨by omega,?_⟩
  with_reducible refine ret_k ?_
  simp only[go_sem,simprocAttr]
end Go.Sx
