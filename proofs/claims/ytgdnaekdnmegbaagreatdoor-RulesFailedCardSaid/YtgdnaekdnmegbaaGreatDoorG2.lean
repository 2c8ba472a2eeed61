import Derived.Test.YtgdnaekdnmegbaaGreatDoorF
set_option linter.all false
namespace Go.Sx
open Go.Proofs
set_option maxRecDepth 10000
set_option maxHeartbeats 100000000
theorem g2:(∀ N (a0:TTape) (a1:Int),OK (made_Tape_Next N a0 a1) 25 [.ept 1000000 0 2 0 0,.v (.int .i64 a1)] [.arr true 49 2 [[.isl 3 1 (a0.L.map e3),.v (.int .i64 a0.at_)]] 0] (fun r=>.v (.int .i64 r.1)) fun r=>[.arr true 49 2 [[.isl 3 1 (r.2.L.map e3),.v (.int .i64 r.2.at_)]] 0])∧(∀ N (a0:TLocals) (a1:Int),OK (ref14_to N a0 a1) 117 [.agg (e29 a0),.v (.int .i64 a1)] [] (fun r=>.v (.int .i64 r)) fun r=>[])∧(∀ N (a0:List Int) (a1:Int) (a2:Int),OK (ref02_span N a0 a1 a2) 232 [.isl 37 1 (a0.map e37),.v (.int .u64 a1),.v (.int .i64 a2)] [] (fun r=>.tup [.v (.int .i64 r.1),.v (.bool r.2)]) fun r=>[])∧(∀ N (a0:TWork) (a1:Int),OK (ref10_keep N a0 a1) 224 [.agg (e227 a0),.v (.int .u64 a1)] [] (fun r=>.agg (e227 r)) fun r=>[])∧(∀ N (a0:Int) (a1:Int) (a2:Int),OK (ref19_Asked N a0 a1 a2) 95 [.v (.int .i64 a0),.v (.int .u64 a1),.v (.int .u64 a2)] [] (fun r=>.tup [.agg (e97 r.1),.v (.bool r.2)]) fun r=>[])∧(∀ N (a0:TLocals) (a1:Int),OK (ref14_cut N a0 a1) 153 [.agg (e29 a0),.v (.int .i64 a1)] [] (fun r=>.agg (e29 r)) fun r=>[])∧(∀ N (a0:TConf),OK (page_ValidConf N a0) 37 [.agg (e23 a0)] [] (fun r=>.v (.bool r)) fun r=>[])∧(∀ N (a0:TEntry),OK (slots_Valid_1 N a0) 108 [.agg (e148 a0)] [] (fun r=>.v (.bool r)) fun r=>[])∧(∀ N (a0:TMark) (a1:Int),OK (rules_World_mark_1_2 N a0 a1) 148 [.agg (e101 a0),.ept 1000000 0 1 0 0] [.arr true 37 1 [[.v (.int .u64 a1)]] 0] (fun r=>.v (.bool r)) fun r=>[.arr true 37 1 [[.v (.int .u64 a1)]] 0]):=by
 refine ⟨fun N _ _=>rn Tryz.f25 [.tmp 4] [] 48 (by kernel_rfl) ?_,fun N _ _=>rn Tryz.f117 [.tmp 4] [] 21 (by kernel_rfl) ?_,fun N _ _ _=>rn Tryz.f232 [.tmp 6,.tmp 7] [] 29 (by kernel_rfl) ?_,fun N _ _=>rn Tryz.f224 [.cell 4 227] [] 20 (by kernel_rfl) ?_,fun N _ _ _=>rn Tryz.f95 [.cell 6 97,.tmp 7] [] 29 (by kernel_rfl) ?_,fun N _ _=>rn Tryz.f153 [.cell 4 29] [] 25 (by kernel_rfl) ?_,fun N _=>rn Tryz.f37 [.tmp 2] [] 27 (by kernel_rfl) ?_,fun N _=>rn Tryz.f108 [.tmp 2] [] 21 (by kernel_rfl) ?_,fun N _ _=>rn Tryz.f148 [.tmp 3] [] 8 (by kernel_rfl) ?_⟩<;>(rintro _ hw r hr C rfl hwf hf;simp only[Tryz.f25,Tryz.f117,Tryz.f232,Tryz.f224,Tryz.f95,Tryz.f153,Tryz.f37,Tryz.f108,Tryz.f148,Option.get!];(first|rw[made_Tape_Next] at hr|rw[ref14_to] at hr|rw[ref02_span] at hr|rw[ref10_keep] at hr|rw[ref19_Asked] at hr|rw[ref14_cut] at hr|rw[page_ValidConf] at hr|rw[slots_Valid_1] at hr|rw[rules_World_mark_1_2] at hr);repeat' first
 |(refine El.el hr ?_;intro hr)
 |(with_reducible intro h;refine bc_e hr h ?_;intro hr)
 |with_reducible intro _
 |simp only[go_sem,simprocAttr,hl3,hl134,List.length_take,List.length_drop,Nat.min_self]
 |(with_reducible first|apply guard_of_f|apply guard_of_t|apply cond_of|apply doT_of_t|apply doT_of_f)
 |((first|with_reducible refine idx_s hr (by assumption) ?_ ?_|(with_reducible refine idx_e hr ?_ ?_;rotate_left;intro p;rotate_right));(·simp only[go_sem,simprocAttr,List.length_take,List.length_drop,Nat.min_self]);intro hp hn hd hr;(try have hl3:=hd _ e3);(try simp only[go_sem,simprocAttr] at hl3);(try have hl134:=hd _ e134);(try simp only[go_sem,simprocAttr] at hl134))
 |(refine and_of' ?_ ?_;·first|assumption|omega)
 |refine db 25 4 hf [([],[],[18,19,20,21,22],[]),([0],[],[18,19,20,21,22],[]),([0,1],[],[18,19,20,21,22],[]),([0,1,2],[],[18,19,20,21,22],[]),([],[],[14,15,16,17],[]),([4],[],[14,15,16,17],[]),([4,5],[],[14,15,16,17],[]),([4,5,6],[],[14,15,16,17],[]),([4,5,6,7],[],[14,15,16,17],[]),([0,1,2,3,4,5,6,7,8],[],[],[])] rfl rfl (by kernel_rfl) ?_ _
 |refine db 25 5 hf [([],[],[28,29,30,31],[]),([0],[],[28,29,30,31],[]),([0,1],[],[28,29,30,31],[]),([0,1,2],[],[28,29,30,31],[]),([],[],[24,25,26,27],[]),([4],[],[24,25,26,27],[]),([4,5],[],[24,25,26,27],[]),([4,5,6],[],[24,25,26,27],[]),([0,1,2,3,4,5,6,7],[],[],[]),([0,1,2,3,4,5,6,7,8],[],[],[]),([0,1,2,3,4,5,6,7,8,9],[],[],[])] rfl rfl (by kernel_rfl) ?_ _
 |refine db 153 1 hf [([],[320],[6,7,8,9,10,11,12,13,14],[]),([],[],[5,8,9,10,11,12,13],[320]),([1],[],[5,8,9,10,11,12,13],[320]),([],[],[5,6,7,10],[320]),([3],[],[5,6,7,10],[320]),([],[],[5,6,7,8,9],[320]),([3,4,5],[],[5,6,7],[320]),([3,4,5,6],[],[5,6,7],[320]),([3,4,5,6,7],[],[5,6,7],[320]),([1,2,3,4,5,6,7,8],[],[5],[320]),([0,1,2,3,4,5,6,7,8,9],[320],[],[]),([0,1,2,3,4,5,6,7,8,9,10],[],[],[]),([0,1,2,3,4,5,6,7,8,9,10,11],[128],[],[])] rfl rfl (by kernel_rfl) ?_ _
 |(refine some_e hr ?_;rintro rfl;with_reducible refine ret_k ?_)
 |exact no_e hr
 |fail)
@[reducible,instance] def made_Tape_Next_i:=g2.1
@[reducible,instance] def ref14_to_i:=g2.2.1
@[reducible,instance] def ref02_span_i:=g2.2.2.1
@[reducible,instance] def ref10_keep_i:=g2.2.2.2.1
@[reducible,instance] def ref19_Asked_i:=g2.2.2.2.2.1
@[reducible,instance] def ref14_cut_i:=g2.2.2.2.2.2.1
@[reducible,instance] def page_ValidConf_i:=g2.2.2.2.2.2.2.1
@[reducible,instance] def slots_Valid_1_i:=g2.2.2.2.2.2.2.2.1
@[reducible,instance] def rules_World_mark_1_2_i:=g2.2.2.2.2.2.2.2.2
theorem g4:(∀ N (a0:TTape),OK (made_Tape_Done N a0) 23 [.ept 1000000 0 2 0 0] [.arr true 49 2 [[.isl 3 1 (a0.L.map e3),.v (.int .i64 a0.at_)]] 0] (fun r=>.v (.bool r)) fun r=>[.arr true 49 2 [[.isl 3 1 (a0.L.map e3),.v (.int .i64 a0.at_)]] 0])∧(∀ N (a0:THeader),OK (ref03_Valid N a0) 50 [.agg (e97 a0)] [] (fun r=>.v (.bool r)) fun r=>[])∧(∀ N (a0:Int),OK (ref03_Target N a0) 204 [.v (.int .u64 a0)] [] (fun r=>.tup [.v (.int .u64 r.1),.v (.bool r.2)]) fun r=>[])∧(∀ N (a0:Int),OK (ref19_failed N a0) 129 [.v (.int .i64 a0)] [] (fun r=>.tup [.agg (e43 r.1),.v (.int .u64 r.2.1),.v (.int .i64 r.2.2)]) fun r=>[])∧(∀ N (a0:TTable) (a1:Int) (a2:TEntry),OK (ref15_put N a0 a1 a2) 213 [.agg (e32 a0),.v (.int .i64 a1),.agg (e148 a2)] [] (fun r=>.agg (e32 r)) fun r=>[])∧(∀ N (a0:TWorld) (a1:Int) (a2:Int) (a3:Int),OK (ref21_put N a0 a1 a2 a3) 138 [.agg (e36 a0),.v (.int .u64 a1),.v (.int .i64 a2),.v (.int .u64 a3)] [] (fun r=>.agg (e36 r)) fun r=>[])∧(∀ N (a0:Int),OK (scope_Valid_1 N a0) 103 [.v (.int .i64 a0)] [] (fun r=>.v (.bool r)) fun r=>[])∧(∀ N (a1:Int),OK (slices_Grow_uint64_uint64_nil N a1) 115 [.nsl,.v (.int .i64 a1)] [] (fun r=>.fsl 37 1 (r.map e37)) fun r=>[]):=by
 refine ⟨fun N _=>rn Tryz.f23 [.tmp 2] [] 13 (by kernel_rfl) ?_,fun N _=>rn Tryz.f50 [.tmp 2] [] 40 (by kernel_rfl) ?_,fun N _=>rn Tryz.f204 [.tmp 2,.tmp 3] [] 14 (by kernel_rfl) ?_,fun N _=>rn Tryz.f129 [.cell 2 43,.tmp 3,.tmp 4] [] 7 (by kernel_rfl) ?_,fun N _ _ _=>rn Tryz.f213 [.cell 6 32] [] 18 (by kernel_rfl) ?_,fun N _ _ _ _=>rn Tryz.f138 [.cell 8 36] [] 38 (by kernel_rfl) ?_,fun N _=>rn Tryz.f103 [.tmp 2] [] 9 (by kernel_rfl) ?_,fun N _=>rn Tryz.f115 [.tmp 4] [1408] 27 (by kernel_rfl) ?_⟩<;>(rintro _ hw r hr C rfl hwf hf;simp only[Tryz.f23,Tryz.f50,Tryz.f204,Tryz.f129,Tryz.f213,Tryz.f138,Tryz.f103,Tryz.f115,Option.get!];(first|rw[made_Tape_Done] at hr|rw[ref03_Valid] at hr|rw[ref03_Target] at hr|rw[ref19_failed] at hr|rw[ref15_put] at hr|rw[ref21_put] at hr|rw[scope_Valid_1] at hr|rw[slices_Grow_uint64_uint64_nil] at hr);repeat' first
 |(refine El.el hr ?_;intro hr)
 |(with_reducible intro h;refine bc_e hr h ?_;intro hr)
 |with_reducible intro _
 |simp only[go_sem,simprocAttr,hl37,hl99,hl148,List.length_take,List.length_drop,Nat.min_self]
 |(with_reducible first|apply guard_of_f|apply guard_of_t|apply cond_of|apply doT_of_t|apply doT_of_f)
 |((first|with_reducible refine idx_s hr (by assumption) ?_ ?_|(with_reducible refine idx_e hr ?_ ?_;rotate_left;intro p;rotate_right));(·simp only[go_sem,simprocAttr,List.length_take,List.length_drop,Nat.min_self]);intro hp hn hd hr;(try have hl37:=hd _ e37);(try simp only[go_sem,simprocAttr] at hl37);(try have hl99:=hd _ e99);(try simp only[go_sem,simprocAttr] at hl99);(try have hl148:=hd _ e148);(try simp only[go_sem,simprocAttr] at hl148))
 |(refine and_of' ?_ ?_;·first|assumption|omega)
 |refine db 23 1 hf [([],[],[7,8,9,10,11],[]),([0],[],[7,8,9,10,11],[]),([0,1],[],[7,8,9,10,11],[]),([0,1,2],[],[7,8,9,10,11],[]),([],[],[3,4,5,6],[]),([4],[],[3,4,5,6],[]),([4,5],[],[3,4,5,6],[]),([4,5,6],[],[3,4,5,6],[]),([4,5,6,7],[],[3,4,5,6],[]),([0,1,2,3,4,5,6,7,8],[],[],[]),([0,1,2,3,4,5,6,7,8,9],[],[],[])] rfl rfl (by kernel_rfl) ?_ _
 |(refine some_e hr ?_;rintro rfl;with_reducible refine ret_k ?_)
 |exact no_e hr
 |fail)
@[reducible,instance] def made_Tape_Done_i:=g4.1
@[reducible,instance] def ref03_Valid_i:=g4.2.1
@[reducible,instance] def ref03_Target_i:=g4.2.2.1
@[reducible,instance] def ref19_failed_i:=g4.2.2.2.1
@[reducible,instance] def ref15_put_i:=g4.2.2.2.2.1
@[reducible,instance] def ref21_put_i:=g4.2.2.2.2.2.1
@[reducible,instance] def scope_Valid_1_i:=g4.2.2.2.2.2.2.1
@[reducible,instance] def slices_Grow_uint64_uint64_nil_i:=g4.2.2.2.2.2.2.2
instance slices_Clone_api_Scope_api_Scope_i:∀ N (a0:List TScope),OK (slices_Clone_api_Scope_api_Scope N a0) 219 [.isl 134 3 (a0.map e134)] [] (fun r=>.fsl 134 3 (r.map e134)) fun r=>[]:=by
 refine fun N a0=>⟨fun G hw r hr=>?_⟩
 rw[slices_Clone_api_Scope_api_Scope] at hr
 obtain rfl:=Option.some.inj hr
 obtain _|⟨x,l⟩:=a0
 refine acalls_empty fun a cap=>?_
 obtain _|a:=a
 all_goals
  refine acalls_of_run (fn:=Tryz.f219) (body:=(Tryz.f219.body).get!) (rs:=[.tmp 2]) 1000 [320] 8 (by kernel_rfl) (by kernel_rfl) (by kernel_rfl) (by kernel_rfl) (by kernel_rfl) (by simp) fun C hG hwf=>?_;subst hG;have hw2:=hwf;simp only[WfL,Wf,List.length_map,and_true,List.length_cons,bytes134,top47] at hw2;simp only[Tryz.f219,Option.get!]
  simp only[go_sem,simprocAttr]
  try refine ⟨by omega,?_⟩
  with_reducible refine ret_k ?_
  simp only[go_sem,simprocAttr]
instance slices_Clone_api_Slot_api_Slot_i:∀ N (a0:List TSlot),OK (slices_Clone_api_Slot_api_Slot N a0) 218 [.isl 179 3 (a0.map e179)] [] (fun r=>.fsl 179 3 (r.map e179)) fun r=>[]:=by
 refine fun N a0=>⟨fun G hw r hr=>?_⟩
 rw[slices_Clone_api_Slot_api_Slot] at hr
 obtain rfl:=Option.some.inj hr
 obtain _|⟨x,l⟩:=a0
 refine acalls_empty fun a cap=>?_
 obtain _|a:=a
 all_goals
  refine acalls_of_run (fn:=Tryz.f218) (body:=(Tryz.f218.body).get!) (rs:=[.tmp 2]) 1000 [320] 8 (by kernel_rfl) (by kernel_rfl) (by kernel_rfl) (by kernel_rfl) (by kernel_rfl) (by simp) fun C hG hwf=>?_;subst hG;have hw2:=hwf;simp only[WfL,Wf,List.length_map,and_true,List.length_cons,bytes179,top47] at hw2;simp only[Tryz.f218,Option.get!]
  simp only[go_sem,simprocAttr]
  try refine ⟨by omega,?_⟩
  with_reducible refine ret_k ?_
  simp only[go_sem,simprocAttr]
end Go.Sx
namespace Go.Sx
open Go.Proofs
set_option maxRecDepth 10000
set_option maxHeartbeats 4000000
theorem map284:mapTy Tryz.prog 284=some (.i64,4):=by kernel_rfl
theorem und284:Tryz.prog.underlying 284=some (.map 3 4):=by kernel_rfl
def freeU (e:TEntry):Bool:=!(e.Live||(e.Gen==4294967295))
def frU (l:List TEntry) (j:Nat):Bool:=match l[j]? with | some e=>freeU e | none=>false
def keysM (xs:List Nat):List (Int×D):=xs.map fun (j:Nat)=>((j:Int),D.v (.bool true))
theorem mset_new {xs:List Nat} {k:Nat} (h:k∉xs):mset (keysM xs) (k:Int) (.v (.bool true))=keysM (xs++[k]):=by
 induction xs with
 | nil=>rfl
 | cons x xs ih =>
  simp only[List.mem_cons,not_or] at h
  have:¬ ((k:Int)=(x:Int)):=by omega
  simp only[keysM,List.map_cons,mset,if_neg this,List.cons_append]
  exact congrArg _ (ih h.2)
theorem mdel_key {xs:List Nat} {k:Nat} (h:xs.Nodup):mdel (keysM xs) (k:Int)=keysM (xs.filter (·!= k)):=by
 induction xs with
 | nil=>rfl
 | cons x xs ih =>
  simp only[List.nodup_cons] at h
  by_cases hx:k=x
  ·subst hx
   simp only[keysM,List.map_cons,mdel,if_true,List.filter_cons,bne_self_eq_false,Bool.false_eq_true,if_false]
   have:xs.filter (·!= k)=xs:=List.filter_eq_self.2 fun y hy=>by simp;rintro rfl;exact h.1 hy
   rw[this]
  ·have h1:¬ ((k:Int)=(x:Int)):=by omega
   have h2:(x != k)=true:=by simp;omega
   simp only[keysM,List.map_cons,mdel,if_neg h1,List.filter_cons,h2,if_true]
   exact congrArg _ (ih h.2)
def left (l:List TEntry) (k:Nat):List Nat:=(List.range l.length).filter fun j=>decide (k<=j)||frU l j
theorem left_zero (l:List TEntry):left l 0=List.range l.length:=List.filter_eq_self.2 fun j _=>by simp
theorem left_nodup (l:List TEntry) (k:Nat):(left l k).Nodup:=List.Pairwise.filter _ List.nodup_range
theorem left_del {l:List TEntry} {k:Nat} (h:frU l k=false):(left l k).filter (·!= k)=left l (k+1):=by
 unfold left
 rw[List.filter_filter]
 refine List.filter_congr fun j _=>?_
 by_cases hj:j=k
 ·subst hj;simp[h]
 ·have:(j != k)=true:=by simpa using hj
  rw[this,Bool.true_and]
  have:decide (k<=j)=decide (k+1<=j):=decide_eq_decide.2 (by omega)
  rw[this]
theorem left_keep {l:List TEntry} {k:Nat} (h:frU l k=true):left l k=left l (k+1):=by
 unfold left
 refine List.filter_congr fun j _=>?_
 by_cases hj:j=k
 ·subst hj;simp[h]
 ·have:decide (k<=j)=decide (k+1<=j):=decide_eq_decide.2 (by omega)
  rw[this]
theorem left_all (l:List TEntry):left l l.length=(List.range l.length).filter (frU l):=List.filter_congr fun j hj=>by
 have:j<l.length:=by simpa using hj
 have:decide (l.length<=j)=false:=decide_eq_false (by omega)
 rw[this,Bool.false_or]
theorem find_left (l:List TEntry):(l.findIdx? freeU=none∧left l l.length=[])∨∃ k,l.findIdx? freeU=some k∧k∈left l l.length∧∀ j∈left l l.length,k<=j:=by
 rw[left_all]
 cases h:l.findIdx? freeU with
 | none =>
  refine .inl ⟨rfl,?_⟩
  rw[List.findIdx?_eq_none_iff] at h
  refine List.filter_eq_nil_iff.2 fun j hj=>?_
  have hl:j<l.length:=by simpa using hj
  simp only[frU,List.getElem?_eq_getElem hl]
  simp[h _ (List.getElem_mem hl)]
 | some k =>
  obtain ⟨hk,h1,h2⟩:=List.findIdx?_eq_some_iff_getElem.1 h
  refine .inr ⟨k,rfl,List.mem_filter.2 ⟨by simpa using hk,by simp[frU,hk,h1]⟩,fun j hj=>?_⟩
  obtain ⟨hj1,hj2⟩:=List.mem_filter.1 hj
  rcases Nat.lt_or_ge j k with hlt | hge
  ·have:=h2 j hlt
   simp only[frU,List.getElem?_eq_getElem (show j<l.length by omega)] at hj2
   rw[hj2] at this;simp at this
  ·exact hge
theorem EntL.keys {P:Program} {M:Mem} {xs:List Nat}:∀ {l:List MapEntry},EntL P M .i64 l (keysM xs)->l.map (·.key)=xs.map fun (j:Nat)=>Value.int .i64 (j:Int):=by
 intro l
 induction l generalizing xs with
 | nil=>intro h;simp only[EntL,keysM,List.map_eq_nil_iff] at h;subst h;rfl
 | cons e l ih =>
  intro h
  simp only[EntL] at h
  obtain ⟨x,d,es',h1,h2,h3,h4⟩:=h
  cases xs with
  | nil=>simp[keysM] at h1
  | cons y ys =>
   simp only[keysM,List.map_cons,List.cons.injEq,Prod.mk.injEq] at h1
   obtain ⟨⟨rfl,rfl⟩,rfl⟩:=h1
   simp only[List.map_cons,h2,List.cons.injEq,true_and]
   exact ih h4
theorem min_eq {P:Program} {M:Mem} {l:List TEntry} {ents:List MapEntry} (h:EntL P M .i64 ents (keysM (left l l.length))) {x:Int} (hx:MinOf (l.length:Int) ents x):x=(((l.findIdx? freeU).getD l.length:Nat):Int):=by
 have hk:=h.keys
 obtain ⟨h1,h2,h3⟩:=hx
 have mem:∀ j,j∈left l l.length->∃ e∈ents,e.key=.int .i64 (j:Int):=fun j hj=>by
  have:Value.int .i64 (j:Int)∈ents.map (·.key):=by rw[hk];exact List.mem_map.2 ⟨j,hj,rfl⟩
  obtain ⟨e,he,h⟩:=List.mem_map.1 this
  exact ⟨e,he,h⟩
 have mem2:∀ e∈ents,∀ n,e.key=.int .i64 n->∃ j∈left l l.length,n=(j:Int):=fun e he n hn=>by
  have:e.key∈ents.map (·.key):=List.mem_map.2 ⟨e,he,rfl⟩
  rw[hk,hn] at this
  obtain ⟨j,hj,h⟩:=List.mem_map.1 this
  simp only[Value.int.injEq,true_and] at h
  exact ⟨j,hj,h.symm⟩
 rcases find_left l with ⟨g1,g2⟩ | ⟨k,g1,g2,g3⟩
 ·rw[g1]
  rcases h1 with h1 | ⟨e,he,hn⟩
  ·exact h1
  ·obtain ⟨j,hj,_⟩:=mem2 e he x hn
   rw[g2] at hj;cases hj
 ·rw[g1]
  obtain ⟨e,he,hn⟩:=mem k g2
  have:=h3 e he _ hn
  rcases h1 with h1 | ⟨e2,he2,hn2⟩
  ·have hl:k<l.length:=by have:=(List.mem_filter.1 g2).1;simpa using this
   simp only[Option.getD_some];omega
  ·obtain ⟨j,hj,rfl⟩:=mem2 e2 he2 x hn2
   have:=g3 j hj
   simp only[Option.getD_some];omega
theorem len_left (l:List TEntry):decide (((keysM (left l l.length)).length:Int)>0)=(l.findIdx? freeU).isSome:=by
 rcases find_left l with ⟨g1,g2⟩ | ⟨k,g1,g2,g3⟩
 ·rw[g1,g2];rfl
 ·rw[g1]
  have:0<(left l l.length).length:=List.length_pos_of_mem g2
  simp only[keysM,List.length_map,Option.isSome_some]
  exact decide_eq_true (by omega)
def Q1 (l:List TEntry) (st:St):Prop:=∃ v,st.n=54∧st.t 4=.omp 640 v∧st.s 640=some (v,.mp .i64 (keysM (left l l.length)))∧st.t 8=.v (.int .i64 (l.length:Int))
def U1 (l:List TEntry) (n:Nat) (st:St):Prop:=∃ (k v w1:Nat),k<=l.length∧n=l.length-k∧st.n=54∧st.t 14=.v (.int .i64 (k:Int))∧st.t 13=.v (.int .i64 (l.length:Int))∧st.t 4=.omp 640 v∧st.s 640=some (v,.mp .i64 (keysM (List.range k))) ∧
 st.t 1=.ept 64 w1 1 0 0∧st.s 64=some (w1,.arr true 32 1 [[.isl 148 3 (l.map e148)]] 0)
def U2 (l:List TEntry) (n:Nat) (st:St):Prop:=∃ (k v w1:Nat),k<=l.length∧n=l.length-k∧st.n=54∧st.t 23=.v (.int .i64 (k:Int))∧st.t 22=.v (.int .i64 (l.length:Int))∧st.t 21=.isl 148 3 (l.map e148)∧st.t 4=.omp 640 v∧st.s 640=some (v,.mp .i64 (keysM (left l k))) ∧
 st.t 1=.ept 64 w1 1 0 0∧st.s 64=some (w1,.arr true 32 1 [[.isl 148 3 (l.map e148)]] 0)
theorem slots_unused_ok (G:Nat->Option (List D)) (hw:GW G) (N:Nat) (a0:TTable) (r:Int×Bool) (hr:slots_unused N a0=some r):ACalls Tryz.prog G 190 [.agg (e32 a0)] [] (Eqs (.tup [.v (.int .i64 r.1),.v (.bool r.2)]) []):=by
 rw[slots_unused] at hr
 obtain rfl:=Option.some.inj hr
 clear hr
 obtain ⟨l⟩:=a0
 refine acalls_of_sem (fn:=Tryz.f190) (body:=(Tryz.f190.body).get!) (rs:=[.tmp 2,.tmp 3]) [] 54 (by kernel_rfl) (by kernel_rfl) (by kernel_rfl) (by kernel_rfl) (by kernel_rfl) (by simp) fun C hG hwf a w hrel=>?_
 subst hG
 have hlen:l.length<=140737488355328:=by
  have h:=hwf
  simp only[WfL,Wf,e32,List.length_map] at h
  exact h.1.1.2.1
 simp only[Tryz.f190,Option.get!]
 refine sem_unroll 6 _ none a w ?_
 simp only[unroll,List.map_cons,List.map_nil,List.cons_append,List.nil_append]
 refine sem_cut (Q:=Q1 l) ?_ [_,_,_,_,_] none a w ?_
 rotate_left
 ·simp only[List.map_cons,List.map_nil,List.cons_append,List.nil_append]
  refine run_ok 1000 _ hrel ?_
  simp only[go_sem,Nat.reduceAdd,Nat.reduceMul,Nat.reduceSub,Nat.reduceLT,Nat.reduceLeDiff,Nat.reduceEqDiff,Nat.reduceBEq,Nat.reduceBNe,Int.reduceBEq,Int.reduceBNe,Int.reduceEq,Int.reduceNe,Int.reduceMul,Int.reduceSub,Int.reduceLE,Int.reduceLT,Int.reduceGT,Int.reduceGE,Int.reduceNeg,Int.reduceAdd,Int.reduceToNat,reduceCtorEq,reduceIte,eq_self,map284]
  refine LoopG.of (U1 l) 1000 l.length ?_ ?_ _
  ·exact ⟨0,4,1,Nat.zero_le _,rfl,by (first | rfl | (simp only[go_sem,Nat.reduceAdd,Nat.reduceMul,Nat.reduceSub,Nat.reduceLT,Nat.reduceLeDiff,Nat.reduceEqDiff,Nat.reduceBEq,Nat.reduceBNe,Int.reduceBEq,Int.reduceBNe,Int.reduceEq,Int.reduceNe,Int.reduceMul,Int.reduceSub,Int.reduceLE,Int.reduceLT,Int.reduceGT,Int.reduceGE,Int.reduceNeg,Int.reduceAdd,Int.reduceToNat,reduceCtorEq,reduceIte,eq_self,map284];done) | (simp only[go_sem,Nat.reduceAdd,Nat.reduceMul,Nat.reduceSub,Nat.reduceLT,Nat.reduceLeDiff,Nat.reduceEqDiff,Nat.reduceBEq,Nat.reduceBNe,Int.reduceBEq,Int.reduceBNe,Int.reduceEq,Int.reduceNe,Int.reduceMul,Int.reduceSub,Int.reduceLE,Int.reduceLT,Int.reduceGT,Int.reduceGE,Int.reduceNeg,Int.reduceAdd,Int.reduceToNat,reduceCtorEq,reduceIte,eq_self,map284];rfl)),by (first | rfl | (simp only[go_sem,Nat.reduceAdd,Nat.reduceMul,Nat.reduceSub,Nat.reduceLT,Nat.reduceLeDiff,Nat.reduceEqDiff,Nat.reduceBEq,Nat.reduceBNe,Int.reduceBEq,Int.reduceBNe,Int.reduceEq,Int.reduceNe,Int.reduceMul,Int.reduceSub,Int.reduceLE,Int.reduceLT,Int.reduceGT,Int.reduceGE,Int.reduceNeg,Int.reduceAdd,Int.reduceToNat,reduceCtorEq,reduceIte,eq_self,map284];done) | (simp only[go_sem,Nat.reduceAdd,Nat.reduceMul,Nat.reduceSub,Nat.reduceLT,Nat.reduceLeDiff,Nat.reduceEqDiff,Nat.reduceBEq,Nat.reduceBNe,Int.reduceBEq,Int.reduceBNe,Int.reduceEq,Int.reduceNe,Int.reduceMul,Int.reduceSub,Int.reduceLE,Int.reduceLT,Int.reduceGT,Int.reduceGE,Int.reduceNeg,Int.reduceAdd,Int.reduceToNat,reduceCtorEq,reduceIte,eq_self,map284];rfl)),by (first | rfl | (simp only[go_sem,Nat.reduceAdd,Nat.reduceMul,Nat.reduceSub,Nat.reduceLT,Nat.reduceLeDiff,Nat.reduceEqDiff,Nat.reduceBEq,Nat.reduceBNe,Int.reduceBEq,Int.reduceBNe,Int.reduceEq,Int.reduceNe,Int.reduceMul,Int.reduceSub,Int.reduceLE,Int.reduceLT,Int.reduceGT,Int.reduceGE,Int.reduceNeg,Int.reduceAdd,Int.reduceToNat,reduceCtorEq,reduceIte,eq_self,map284];done) | (simp only[go_sem,Nat.reduceAdd,Nat.reduceMul,Nat.reduceSub,Nat.reduceLT,Nat.reduceLeDiff,Nat.reduceEqDiff,Nat.reduceBEq,Nat.reduceBNe,Int.reduceBEq,Int.reduceBNe,Int.reduceEq,Int.reduceNe,Int.reduceMul,Int.reduceSub,Int.reduceLE,Int.reduceLT,Int.reduceGT,Int.reduceGE,Int.reduceNeg,Int.reduceAdd,Int.reduceToNat,reduceCtorEq,reduceIte,eq_self,map284];rfl)),by (first | rfl | (simp only[go_sem,Nat.reduceAdd,Nat.reduceMul,Nat.reduceSub,Nat.reduceLT,Nat.reduceLeDiff,Nat.reduceEqDiff,Nat.reduceBEq,Nat.reduceBNe,Int.reduceBEq,Int.reduceBNe,Int.reduceEq,Int.reduceNe,Int.reduceMul,Int.reduceSub,Int.reduceLE,Int.reduceLT,Int.reduceGT,Int.reduceGE,Int.reduceNeg,Int.reduceAdd,Int.reduceToNat,reduceCtorEq,reduceIte,eq_self,map284];done) | (simp only[go_sem,Nat.reduceAdd,Nat.reduceMul,Nat.reduceSub,Nat.reduceLT,Nat.reduceLeDiff,Nat.reduceEqDiff,Nat.reduceBEq,Nat.reduceBNe,Int.reduceBEq,Int.reduceBNe,Int.reduceEq,Int.reduceNe,Int.reduceMul,Int.reduceSub,Int.reduceLE,Int.reduceLT,Int.reduceGT,Int.reduceGE,Int.reduceNeg,Int.reduceAdd,Int.reduceToNat,reduceCtorEq,reduceIte,eq_self,map284];rfl)),by (first | rfl | (simp only[go_sem,Nat.reduceAdd,Nat.reduceMul,Nat.reduceSub,Nat.reduceLT,Nat.reduceLeDiff,Nat.reduceEqDiff,Nat.reduceBEq,Nat.reduceBNe,Int.reduceBEq,Int.reduceBNe,Int.reduceEq,Int.reduceNe,Int.reduceMul,Int.reduceSub,Int.reduceLE,Int.reduceLT,Int.reduceGT,Int.reduceGE,Int.reduceNeg,Int.reduceAdd,Int.reduceToNat,reduceCtorEq,reduceIte,eq_self,map284];done) | (simp only[go_sem,Nat.reduceAdd,Nat.reduceMul,Nat.reduceSub,Nat.reduceLT,Nat.reduceLeDiff,Nat.reduceEqDiff,Nat.reduceBEq,Nat.reduceBNe,Int.reduceBEq,Int.reduceBNe,Int.reduceEq,Int.reduceNe,Int.reduceMul,Int.reduceSub,Int.reduceLE,Int.reduceLT,Int.reduceGT,Int.reduceGE,Int.reduceNeg,Int.reduceAdd,Int.reduceToNat,reduceCtorEq,reduceIte,eq_self,map284];rfl)),by (first | rfl | (simp only[go_sem,Nat.reduceAdd,Nat.reduceMul,Nat.reduceSub,Nat.reduceLT,Nat.reduceLeDiff,Nat.reduceEqDiff,Nat.reduceBEq,Nat.reduceBNe,Int.reduceBEq,Int.reduceBNe,Int.reduceEq,Int.reduceNe,Int.reduceMul,Int.reduceSub,Int.reduceLE,Int.reduceLT,Int.reduceGT,Int.reduceGE,Int.reduceNeg,Int.reduceAdd,Int.reduceToNat,reduceCtorEq,reduceIte,eq_self,map284];done) | (simp only[go_sem,Nat.reduceAdd,Nat.reduceMul,Nat.reduceSub,Nat.reduceLT,Nat.reduceLeDiff,Nat.reduceEqDiff,Nat.reduceBEq,Nat.reduceBNe,Int.reduceBEq,Int.reduceBNe,Int.reduceEq,Int.reduceNe,Int.reduceMul,Int.reduceSub,Int.reduceLE,Int.reduceLT,Int.reduceGT,Int.reduceGE,Int.reduceNeg,Int.reduceAdd,Int.reduceToNat,reduceCtorEq,reduceIte,eq_self,map284];rfl)),by (first | rfl | (simp only[go_sem,Nat.reduceAdd,Nat.reduceMul,Nat.reduceSub,Nat.reduceLT,Nat.reduceLeDiff,Nat.reduceEqDiff,Nat.reduceBEq,Nat.reduceBNe,Int.reduceBEq,Int.reduceBNe,Int.reduceEq,Int.reduceNe,Int.reduceMul,Int.reduceSub,Int.reduceLE,Int.reduceLT,Int.reduceGT,Int.reduceGE,Int.reduceNeg,Int.reduceAdd,Int.reduceToNat,reduceCtorEq,reduceIte,eq_self,map284];done) | (simp only[go_sem,Nat.reduceAdd,Nat.reduceMul,Nat.reduceSub,Nat.reduceLT,Nat.reduceLeDiff,Nat.reduceEqDiff,Nat.reduceBEq,Nat.reduceBNe,Int.reduceBEq,Int.reduceBNe,Int.reduceEq,Int.reduceNe,Int.reduceMul,Int.reduceSub,Int.reduceLE,Int.reduceLT,Int.reduceGT,Int.reduceGE,Int.reduceNeg,Int.reduceAdd,Int.reduceToNat,reduceCtorEq,reduceIte,eq_self,map284];rfl))⟩
  ·rintro n st ⟨k,v,w1,hk,rfl,e0,e1,e2,e3,e4,e5,e6⟩
   by_cases h:k<l.length
   ·have hd:decide ((k:Int)<(l.length:Int))=true:=decide_eq_true (by omega)
    have hm:mset (keysM (List.range k)) (k:Int) (D.v (.bool true))=keysM (List.range (k+1)):=by rw[mset_new (by simp),List.range_succ]
    have hkl:(keysM (List.range k)).length=k:=by simp[keysM]
    have hwI:wI ((k:Int)+1)=((k+1:Nat):Int):=by simp only[wI,IntKind.wrap,IntKind.bits,IntKind.signed];simp;omega
    simp only[go_sem,Nat.reduceAdd,Nat.reduceMul,Nat.reduceSub,Nat.reduceLT,Nat.reduceLeDiff,Nat.reduceEqDiff,Nat.reduceBEq,Nat.reduceBNe,Int.reduceBEq,Int.reduceBNe,Int.reduceEq,Int.reduceNe,Int.reduceMul,Int.reduceSub,Int.reduceLE,Int.reduceLT,Int.reduceGT,Int.reduceGE,Int.reduceNeg,Int.reduceAdd,Int.reduceToNat,reduceCtorEq,reduceIte,eq_self,map284,e0,e1,e2,e3,e4,e5,e6,hd,hm,hkl,hwI]
    refine ⟨by omega,l.length-(k+1),by omega,k+1,v,w1,by omega,rfl,?_,?_,?_,?_,?_,?_,?_⟩<;>(first | rfl | (simp only[go_sem,Nat.reduceAdd,Nat.reduceMul,Nat.reduceSub,Nat.reduceLT,Nat.reduceLeDiff,Nat.reduceEqDiff,Nat.reduceBEq,Nat.reduceBNe,Int.reduceBEq,Int.reduceBNe,Int.reduceEq,Int.reduceNe,Int.reduceMul,Int.reduceSub,Int.reduceLE,Int.reduceLT,Int.reduceGT,Int.reduceGE,Int.reduceNeg,Int.reduceAdd,Int.reduceToNat,reduceCtorEq,reduceIte,eq_self,map284,e0,e1,e2,e3,e4,e5,e6,hwI,hm];done) | (simp only[go_sem,Nat.reduceAdd,Nat.reduceMul,Nat.reduceSub,Nat.reduceLT,Nat.reduceLeDiff,Nat.reduceEqDiff,Nat.reduceBEq,Nat.reduceBNe,Int.reduceBEq,Int.reduceBNe,Int.reduceEq,Int.reduceNe,Int.reduceMul,Int.reduceSub,Int.reduceLE,Int.reduceLT,Int.reduceGT,Int.reduceGE,Int.reduceNeg,Int.reduceAdd,Int.reduceToNat,reduceCtorEq,reduceIte,eq_self,map284,e0,e1,e2,e3,e4,e5,e6,hwI,hm];rfl))
   ·obtain rfl:k=l.length:=by omega
    have hd:decide ((l.length:Int)<(l.length:Int))=false:=decide_eq_false (by omega)
    simp only[go_sem,Nat.reduceAdd,Nat.reduceMul,Nat.reduceSub,Nat.reduceLT,Nat.reduceLeDiff,Nat.reduceEqDiff,Nat.reduceBEq,Nat.reduceBNe,Int.reduceBEq,Int.reduceBNe,Int.reduceEq,Int.reduceNe,Int.reduceMul,Int.reduceSub,Int.reduceLE,Int.reduceLT,Int.reduceGT,Int.reduceGE,Int.reduceNeg,Int.reduceAdd,Int.reduceToNat,reduceCtorEq,reduceIte,eq_self,map284,e0,e1,e2,e3,e4,e5,e6,hd]
    refine LoopG.of (U2 l) 1000 l.length ?_ ?_ _
    ·refine ⟨0,v,w1,Nat.zero_le _,rfl,?_,?_,?_,?_,?_,?_,?_,?_⟩<;>(first | rfl | (simp only[left_zero,go_sem,Nat.reduceAdd,Nat.reduceMul,Nat.reduceSub,Nat.reduceLT,Nat.reduceLeDiff,Nat.reduceEqDiff,Nat.reduceBEq,Nat.reduceBNe,Int.reduceBEq,Int.reduceBNe,Int.reduceEq,Int.reduceNe,Int.reduceMul,Int.reduceSub,Int.reduceLE,Int.reduceLT,Int.reduceGT,Int.reduceGE,Int.reduceNeg,Int.reduceAdd,Int.reduceToNat,reduceCtorEq,reduceIte,eq_self,map284,e0,e1,e2,e3,e4,e5,e6];done) | (simp only[left_zero,go_sem,Nat.reduceAdd,Nat.reduceMul,Nat.reduceSub,Nat.reduceLT,Nat.reduceLeDiff,Nat.reduceEqDiff,Nat.reduceBEq,Nat.reduceBNe,Int.reduceBEq,Int.reduceBNe,Int.reduceEq,Int.reduceNe,Int.reduceMul,Int.reduceSub,Int.reduceLE,Int.reduceLT,Int.reduceGT,Int.reduceGE,Int.reduceNeg,Int.reduceAdd,Int.reduceToNat,reduceCtorEq,reduceIte,eq_self,map284,e0,e1,e2,e3,e4,e5,e6];rfl))
    ·clear e0 e1 e2 e3 e4 e5 e6 hk h hd
     clear st v w1
     rintro n st ⟨k,v,w1,hk,rfl,e0,e1,e2,e3,e4,e5,e6,e7⟩
     by_cases h:k<l.length
     ·have hd:decide ((k:Int)<(l.length:Int))=true:=decide_eq_true (by omega)
      have hwI:wI ((k:Int)+1)=((k+1:Nat):Int):=by simp only[wI,IntKind.wrap,IntKind.bits,IntKind.signed];simp;omega
      have hg:(l.map e148).getD k []=e148 l[k]:=by simp[h]
      have h0:(0:Int)<=(k:Int):=by omega
      have h1:(k:Int)<(l.length:Int):=by omega
      cases hL:l[k].Live with
      | true =>
       have hf:frU l k=false:=by simp[frU,h,freeU,hL]
       have hm:mdel (keysM (left l k)) (k:Int)=keysM (left l (k+1)):=by rw[mdel_key (left_nodup l k),left_del hf]
       simp only[go_sem,Nat.reduceAdd,Nat.reduceMul,Nat.reduceSub,Nat.reduceLT,Nat.reduceLeDiff,Nat.reduceEqDiff,Nat.reduceBEq,Nat.reduceBNe,Int.reduceBEq,Int.reduceBNe,Int.reduceEq,Int.reduceNe,Int.reduceMul,Int.reduceSub,Int.reduceLE,Int.reduceLT,Int.reduceGT,Int.reduceGE,Int.reduceNeg,Int.reduceAdd,Int.reduceToNat,reduceCtorEq,reduceIte,eq_self,map284,e0,e1,e2,e3,e4,e5,e6,e7,hd,hm,hwI,hg,h0,h1,hL]
       refine ⟨l.length-(k+1),by omega,k+1,v,w1,by omega,rfl,?_,?_,?_,?_,?_,?_,?_,?_⟩<;>(first | rfl | (simp only[go_sem,Nat.reduceAdd,Nat.reduceMul,Nat.reduceSub,Nat.reduceLT,Nat.reduceLeDiff,Nat.reduceEqDiff,Nat.reduceBEq,Nat.reduceBNe,Int.reduceBEq,Int.reduceBNe,Int.reduceEq,Int.reduceNe,Int.reduceMul,Int.reduceSub,Int.reduceLE,Int.reduceLT,Int.reduceGT,Int.reduceGE,Int.reduceNeg,Int.reduceAdd,Int.reduceToNat,reduceCtorEq,reduceIte,eq_self,map284,e0,e1,e2,e3,e4,e5,e6,e7,hwI,hm];done) | (simp only[go_sem,Nat.reduceAdd,Nat.reduceMul,Nat.reduceSub,Nat.reduceLT,Nat.reduceLeDiff,Nat.reduceEqDiff,Nat.reduceBEq,Nat.reduceBNe,Int.reduceBEq,Int.reduceBNe,Int.reduceEq,Int.reduceNe,Int.reduceMul,Int.reduceSub,Int.reduceLE,Int.reduceLT,Int.reduceGT,Int.reduceGE,Int.reduceNeg,Int.reduceAdd,Int.reduceToNat,reduceCtorEq,reduceIte,eq_self,map284,e0,e1,e2,e3,e4,e5,e6,e7,hwI,hm];rfl))
      | false =>
       cases hG:(l[k].Gen==4294967295) with
       | true =>
        have hf:frU l k=false:=by simp only[frU,h,List.getElem?_eq_getElem,freeU,hL,hG];rfl
        have hm:mdel (keysM (left l k)) (k:Int)=keysM (left l (k+1)):=by rw[mdel_key (left_nodup l k),left_del hf]
        simp only[go_sem,Nat.reduceAdd,Nat.reduceMul,Nat.reduceSub,Nat.reduceLT,Nat.reduceLeDiff,Nat.reduceEqDiff,Nat.reduceBEq,Nat.reduceBNe,Int.reduceBEq,Int.reduceBNe,Int.reduceEq,Int.reduceNe,Int.reduceMul,Int.reduceSub,Int.reduceLE,Int.reduceLT,Int.reduceGT,Int.reduceGE,Int.reduceNeg,Int.reduceAdd,Int.reduceToNat,reduceCtorEq,reduceIte,eq_self,map284,e0,e1,e2,e3,e4,e5,e6,e7,hd,hm,hwI,hg,h0,h1,hL,hG]
        refine ⟨l.length-(k+1),by omega,k+1,v,w1,by omega,rfl,?_,?_,?_,?_,?_,?_,?_,?_⟩<;>(first | rfl | (simp only[go_sem,Nat.reduceAdd,Nat.reduceMul,Nat.reduceSub,Nat.reduceLT,Nat.reduceLeDiff,Nat.reduceEqDiff,Nat.reduceBEq,Nat.reduceBNe,Int.reduceBEq,Int.reduceBNe,Int.reduceEq,Int.reduceNe,Int.reduceMul,Int.reduceSub,Int.reduceLE,Int.reduceLT,Int.reduceGT,Int.reduceGE,Int.reduceNeg,Int.reduceAdd,Int.reduceToNat,reduceCtorEq,reduceIte,eq_self,map284,e0,e1,e2,e3,e4,e5,e6,e7,hwI,hm];done) | (simp only[go_sem,Nat.reduceAdd,Nat.reduceMul,Nat.reduceSub,Nat.reduceLT,Nat.reduceLeDiff,Nat.reduceEqDiff,Nat.reduceBEq,Nat.reduceBNe,Int.reduceBEq,Int.reduceBNe,Int.reduceEq,Int.reduceNe,Int.reduceMul,Int.reduceSub,Int.reduceLE,Int.reduceLT,Int.reduceGT,Int.reduceGE,Int.reduceNeg,Int.reduceAdd,Int.reduceToNat,reduceCtorEq,reduceIte,eq_self,map284,e0,e1,e2,e3,e4,e5,e6,e7,hwI,hm];rfl))
       | false =>
        have hf:frU l k=true:=by simp only[frU,h,List.getElem?_eq_getElem,freeU,hL,hG];rfl
        have hm:keysM (left l k)=keysM (left l (k+1)):=by rw[left_keep hf]
        rw[hm] at e5
        simp only[go_sem,Nat.reduceAdd,Nat.reduceMul,Nat.reduceSub,Nat.reduceLT,Nat.reduceLeDiff,Nat.reduceEqDiff,Nat.reduceBEq,Nat.reduceBNe,Int.reduceBEq,Int.reduceBNe,Int.reduceEq,Int.reduceNe,Int.reduceMul,Int.reduceSub,Int.reduceLE,Int.reduceLT,Int.reduceGT,Int.reduceGE,Int.reduceNeg,Int.reduceAdd,Int.reduceToNat,reduceCtorEq,reduceIte,eq_self,map284,e0,e1,e2,e3,e4,e5,e6,e7,hd,hwI,hg,h0,h1,hL,hG]
        refine ⟨l.length-(k+1),by omega,k+1,v,w1,by omega,rfl,?_,?_,?_,?_,?_,?_,?_,?_⟩<;>(first | rfl | (simp only[go_sem,Nat.reduceAdd,Nat.reduceMul,Nat.reduceSub,Nat.reduceLT,Nat.reduceLeDiff,Nat.reduceEqDiff,Nat.reduceBEq,Nat.reduceBNe,Int.reduceBEq,Int.reduceBNe,Int.reduceEq,Int.reduceNe,Int.reduceMul,Int.reduceSub,Int.reduceLE,Int.reduceLT,Int.reduceGT,Int.reduceGE,Int.reduceNeg,Int.reduceAdd,Int.reduceToNat,reduceCtorEq,reduceIte,eq_self,map284,e0,e1,e2,e3,e4,e5,e6,e7,hwI];done) | (simp only[go_sem,Nat.reduceAdd,Nat.reduceMul,Nat.reduceSub,Nat.reduceLT,Nat.reduceLeDiff,Nat.reduceEqDiff,Nat.reduceBEq,Nat.reduceBNe,Int.reduceBEq,Int.reduceBNe,Int.reduceEq,Int.reduceNe,Int.reduceMul,Int.reduceSub,Int.reduceLE,Int.reduceLT,Int.reduceGT,Int.reduceGE,Int.reduceNeg,Int.reduceAdd,Int.reduceToNat,reduceCtorEq,reduceIte,eq_self,map284,e0,e1,e2,e3,e4,e5,e6,e7,hwI];rfl))
     ·obtain rfl:k=l.length:=by omega
      have hd:decide ((l.length:Int)<(l.length:Int))=false:=decide_eq_false (by omega)
      simp only[go_sem,Nat.reduceAdd,Nat.reduceMul,Nat.reduceSub,Nat.reduceLT,Nat.reduceLeDiff,Nat.reduceEqDiff,Nat.reduceBEq,Nat.reduceBNe,Int.reduceBEq,Int.reduceBNe,Int.reduceEq,Int.reduceNe,Int.reduceMul,Int.reduceSub,Int.reduceLE,Int.reduceLT,Int.reduceGT,Int.reduceGE,Int.reduceNeg,Int.reduceAdd,Int.reduceToNat,reduceCtorEq,reduceIte,eq_self,map284,e0,e1,e2,e3,e4,e5,e6,e7,hd]
      refine ⟨v,?_,?_,?_,?_⟩<;>(first | rfl | (simp only[go_sem,Nat.reduceAdd,Nat.reduceMul,Nat.reduceSub,Nat.reduceLT,Nat.reduceLeDiff,Nat.reduceEqDiff,Nat.reduceBEq,Nat.reduceBNe,Int.reduceBEq,Int.reduceBNe,Int.reduceEq,Int.reduceNe,Int.reduceMul,Int.reduceSub,Int.reduceLE,Int.reduceLT,Int.reduceGT,Int.reduceGE,Int.reduceNeg,Int.reduceAdd,Int.reduceToNat,reduceCtorEq,reduceIte,eq_self,map284,e0,e1,e2,e3,e4,e5,e6,e7];done) | (simp only[go_sem,Nat.reduceAdd,Nat.reduceMul,Nat.reduceSub,Nat.reduceLT,Nat.reduceLeDiff,Nat.reduceEqDiff,Nat.reduceBEq,Nat.reduceBNe,Int.reduceBEq,Int.reduceBNe,Int.reduceEq,Int.reduceNe,Int.reduceMul,Int.reduceSub,Int.reduceLE,Int.reduceLT,Int.reduceGT,Int.reduceGE,Int.reduceNeg,Int.reduceAdd,Int.reduceToNat,reduceCtorEq,reduceIte,eq_self,map284,e0,e1,e2,e3,e4,e5,e6,e7];rfl))
 ·clear hrel a w
  rintro st a w hrel ⟨v,q1,q2,q3,q4⟩
  obtain ⟨h1,h2,M,β,h0,h3,I⟩:=id hrel
  have m4:=h3 4
  have m8:=h3 8
  rw[q2] at m4
  rw[q4] at m8
  simp only[Rep] at m4 m8
  obtain ⟨b,cb,hb,he⟩:=m4
  obtain ⟨x0,hx0,hob⟩:=I.obs 640 v _ q3
  rw[hb] at hx0
  obtain rfl:some (b,cb)=x0:=by simpa using hx0
  obtain ⟨rfl,l1,l2,ents,clock,g3,g4,g5,g6⟩:=hob
  have hkeys:∀ e∈ents.toList,∃ n,e.key=.int .i64 n:=fun e hee=>by
   have:e.key∈ents.toList.map (·.key):=List.mem_map.2 ⟨e,hee,rfl⟩
   rw[g4.keys] at this
   obtain ⟨j,_,hj⟩:=List.mem_map.1 this
   exact ⟨_,hj.symm⟩
  refine range_min und284 h1 (by rw[h2,q1];decide) (by decide) he m8.1 g3 g5 g6 hkeys ?_
  intro a' w' x hd' hs' hm' hf' hmin hsame
  have hx:=min_eq g4 hmin
  have hle:0<=x∧x<=l.length:=⟨by rw[hx];omega,hmin.2.1⟩
  have hr2:=hrel.same hsame hd' hs' (t':=fun i=>if i=4 then .omp 640 v else if i=8 then .v (.int .i64 x) else .any) (fun M β hall i=>by
   by_cases h4:i=4
   ·subst h4
    have:=hall 4
    rw[q2,he] at this
    rw[if_pos rfl,hm'];exact this
   ·rw[if_neg h4]
    by_cases h8:i=8
    ·subst h8
     rw[if_pos rfl,hf']
     simp only[Rep]
     exact ⟨trivial,by rw[hx];exact len_nat (by simp only[top47];omega)⟩
    ·rw[if_neg h8];simp[Rep])
  refine run_ok 1000 _ hr2 ?_
  have hl:=len_left l
  subst hx
  simp only[go_sem,Nat.reduceAdd,Nat.reduceMul,Nat.reduceSub,Nat.reduceLT,Nat.reduceLeDiff,Nat.reduceEqDiff,Nat.reduceBEq,Nat.reduceBNe,Int.reduceBEq,Int.reduceBNe,Int.reduceEq,Int.reduceNe,Int.reduceMul,Int.reduceSub,Int.reduceLE,Int.reduceLT,Int.reduceGT,Int.reduceGE,Int.reduceNeg,Int.reduceAdd,Int.reduceToNat,reduceCtorEq,reduceIte,eq_self,map284,q1,q3]
  with_reducible refine ret_k ?_
  rw[hl]
  simp only[go_sem,Nat.reduceAdd,Nat.reduceMul,Nat.reduceSub,Nat.reduceLT,Nat.reduceLeDiff,Nat.reduceEqDiff,Nat.reduceBEq,Nat.reduceBNe,Int.reduceBEq,Int.reduceBNe,Int.reduceEq,Int.reduceNe,Int.reduceMul,Int.reduceSub,Int.reduceLE,Int.reduceLT,Int.reduceGT,Int.reduceGE,Int.reduceNeg,Int.reduceAdd,Int.reduceToNat,reduceCtorEq,reduceIte,eq_self]
  exact ⟨rfl,rfl⟩
@[reducible,instance] def slots_unused_i (N:Nat) (a0:TTable):=OK.mk fun G hw r hr=>slots_unused_ok G hw N a0 r hr
end Go.Sx
