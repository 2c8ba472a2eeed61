import Derived.Test.YtgdhlnfcogcicaaGreatDoorQF
import Derived.Test.YtgdhlnfcogcicaaGreatDoorQG8
import Derived.Test.YtgdhlnfcogcicaaGreatDoorQG13
import Derived.Test.YtgdhlnfcogcicaaGreatDoorQG14
import Derived.Test.YtgdhlnfcogcicaaGreatDoorQG16
set_option linter.all false
namespace Go.Sx
open Go.Proofs
set_option maxRecDepth 10000
set_option maxHeartbeats 100000000
abbrev I_ref09_Check_l1:=fun N (a0:THeap) (Q:(Ex TFinding Unit)→Prop) n (st:St)=>∃ (v2:Int) (ex:_),ref09_Check_l1 N a0 n v2=some ex∧Q ex∧((∃ w64 w128,st.n=65∧st.t 1=.ept 64 w64 6 0 0∧st.t 2=.ept 128 w128 3 0 0∧st.t 3=.v (.int .i64 v2)∧st.s 64=some (w64,.arr true 42 6 [[.v (.int .i64 a0.Conf.PageWords),.v (.int .i64 a0.Conf.Pages),.isl 37 1 (a0.Words.map e37),.isl 306 4 (a0.Pages.map e306),.v (.int .i64 a0.Space),.v (.int .i64 a0.Bump)]] 0)∧st.s 128=some (w128,.arr true 330 3 [[.v (.int .i64 0),.v (.int .i64 0),.v (.int .u64 0)]] 0)))
abbrev I_ref09_Check_l2:=fun N (a0:THeap) (Q:Int→Prop) n (st:St)=>∃ (v6:Int) (v7:Int) (ex:_),ref09_Check_l2 N a0 n v6 v7=some ex∧Q ex∧((∃ w64 w128,st.n=65∧st.t 1=.ept 64 w64 6 0 0∧st.t 2=.ept 128 w128 3 0 0∧st.t 6=.v (.int .i64 v6)∧st.t 7=.v (.int .i64 v7)∧st.s 64=some (w64,.arr true 42 6 [[.v (.int .i64 a0.Conf.PageWords),.v (.int .i64 a0.Conf.Pages),.isl 37 1 (a0.Words.map e37),.isl 306 4 (a0.Pages.map e306),.v (.int .i64 a0.Space),.v (.int .i64 a0.Bump)]] 0)∧st.s 128=some (w128,.arr true 330 3 [[.v (.int .i64 0),.v (.int .i64 0),.v (.int .u64 0)]] 0)))
abbrev I_rules_Extent_l1:=fun N (a0:TWorld) (a1:Int) (Q:(Ex (Int × Int × Int) Unit)→Prop) n (st:St)=>∃ (v2:Int) (ex:_),rules_Extent_l1 N a0 a1 n v2=some ex∧Q ex∧((∃ w128,st.n=48∧st.t 1=.v (.int .u64 a1)∧st.t 2=.ept 128 w128 10 0 0∧st.t 13=.isl 116 3 (a0.Marks.map e116)∧st.t 14=.v (.int .i64 ((a0.Marks.length:Nat):Int))∧st.t 15=.v (.int .i64 v2)∧st.s 128=some (w128,.arr true 61 10 [[.v (.int .i64 a0.Conf.PageWords),.v (.int .i64 a0.Conf.Pages),.isl 77 4 (a0.Things.map e77),.isl 210 3 (a0.Locals.Slots.map e210),.isl 159 3 (a0.Locals.Scopes.map e159),.isl 3 1 (a0.Locals.Issued.map e3),.isl 132 3 (a0.Globals.Entries.map e132),.isl 132 3 (a0.Weaks.Entries.map e132),.isl 116 3 (a0.Marks.map e116),.isl 37 1 (a0.Roots.map e37)]] 0)))
theorem g33:(∀ N (a0:THeap),OK (ref09_Check N a0) 264 [.agg (e42 a0)] [] (fun r=>.agg (e330 r)) fun r=>[])∧(∀ N (a0:TWorld) (a1:Int),OK (rules_Extent N a0 a1) 72 [.agg (e61 a0),.v (.int .u64 a1)] [] (fun r=>.tup [.v (.int .u64 r.1),.v (.int .i64 r.2.1),.v (.int .i64 r.2.2)]) fun r=>[]):=by
 refine ⟨fun N _=>rn Tryz.f264 [.cell 2 330] [] 65 (by kernel_rfl) ?_,fun N _ _=>rn Tryz.f72 [.tmp 4,.tmp 5,.tmp 6] [] 48 (by kernel_rfl) ?_⟩<;>(rintro _ hw r hr C _ rfl hwf hf;simp only[Tryz.f264,Tryz.f72,Option.get!];(first|rw[ref09_Check] at hr|rw[rules_Extent] at hr);repeat' first
 |(refine El.el hr ?_;intro hr)
 |(with_reducible intro h;refine bc_e hr h ?_;intro hr)
 |with_reducible intro _
 |(refine some_e hr ?_;rintro rfl;have hr:=hk;clear hk)
 |simp only[go_sem,simprocAttr,E,hl77,hl116,hl306]
 |(with_reducible first|apply guard_of_f|apply guard_of_t|apply cond_of|apply doT_of_t|apply doT_of_f)
 |((first|with_reducible refine idx_s hr (by assumption) ?_ ?_|(with_reducible refine idx_e hr ?_ ?_;rotate_left;intro p;rotate_right));(·simp only[go_sem,simprocAttr]);intro hp hn hd hr;(try have hl77:=hd _ e77);(try simp only[go_sem,simprocAttr] at hl77);(try have hl116:=hd _ e116);(try simp only[go_sem,simprocAttr] at hl116);(try have hl306:=hd _ e306);(try simp only[go_sem,simprocAttr] at hl306))
 |(refine and_of' ?_ ?_;·first|assumption|omega)
 |with_reducible refine CallX.c ?_ _
 |with_reducible refine OK.c hr hw ?_ (fun y hr=>?_) _
 |(with_reducible refine loop_e (I:=I_ref09_Check_l1 N _) hr 1000 N (fun ex hq hk=>⟨_,ex,hq,hk,?_⟩) ?_ _;rotate_left;clear hr;(try clear E);rintro n1 st ⟨v2,ex,hr,hk,⟨_,_,E⟩⟩<;>(obtain _|n1:=n1<;>rw[ref09_Check_l1] at hr))
 |refine ⟨_,Nat.lt_succ_self _,_,_,hr,hk,?_⟩
 |(with_reducible refine loop_e (I:=I_ref09_Check_l2 N _) hr 1000 N (fun ex hq hk=>⟨_,_,ex,hq,hk,?_⟩) ?_ _;rotate_left;clear hr;(try clear E);rintro n2 st ⟨v6,v7,ex,hr,hk,⟨_,_,E⟩⟩<;>(obtain _|n2:=n2<;>rw[ref09_Check_l2] at hr))
 |refine ⟨_,Nat.lt_succ_self _,_,_,_,hr,hk,?_⟩
 |(with_reducible refine loop_e (I:=I_rules_Extent_l1 N _ _) hr 1000 N (fun ex hq hk=>⟨_,ex,hq,hk,?_⟩) ?_ _;rotate_left;clear hr;(try clear E);rintro n1 st ⟨v2,ex,hr,hk,⟨_,E⟩⟩<;>(obtain _|n1:=n1<;>rw[rules_Extent_l1] at hr))
 |refine db 72 6 hf [([],[],[20,21],[]),([],[],[19],[]),([1],[],[19],[]),([0,1,2],[],[],[]),([0,1,2,3],[],[],[]),([0,1,2,3,4],[],[25,26,28,29,30,31,32,33,34,35,36,37],[]),([0,1,2,3,4],[],[24,28,29,30,31,32,33,34,35,36,37],[]),([0,1,2,3,4,6],[],[24,28,29,30,31,32,33,34,35,36,37],[]),([0,1,2,3,4,5,6,7],[],[28,29,30,31,32,33,34,35,36,37],[]),([0,1,2,3,4],[],[24,25,26,27,30,31,32],[]),([0,1,2,3,4,9],[],[24,25,26,27,30,31,32],[]),([0,1,2,3,4],[],[24,25,26,27,28,29],[]),([0,1,2,3,4,11],[],[24,25,26,27,28,29],[]),([0,1,2,3,4,11,12],[],[24,25,26,27,28,29],[]),([0,1,2,3,4,9,10,11,12,13],[],[24,25,26,27],[]),([0,1,2,3,4,9,10,11,12,13,14],[],[24,25,26,27],[]),([0,1,2,3,4,9,10,11,12,13,14,15],[],[24,25,26,27],[]),([0,1,2,3,4,9,10,11,12,13,14,15,16],[],[24,25,26,27],[]),([0,1,2,3,4,9,10,11,12,13,14,15,16,17],[],[24,25,26,27],[]),([0,1,2,3,4,5,6,7,8,9,10,11,12,13,14,15,16,17,18],[],[],[]),([0,1,2,3,4,5,6,7,8,9,10,11,12,13,14,15,16,17,18,19],[],[],[])] rfl rfl (by kernel_rfl) ?_ _
 |refine db 72 7 hf [([],[],[42,43,44,45,46],[]),([0],[],[42,43,44,45,46],[]),([],[],[4,40,41,43,44],[]),([],[],[4,40,41,42],[]),([3],[],[4,40,41,42],[]),([2,3,4],[],[4,40,41],[]),([2,3,4,5],[],[4,40,41],[]),([0,1],[],[42,43,44,45,46],[]),([0,1,2,3,4,5,6,7],[],[],[]),([0,1,2,3,4,5,6,7,8],[],[],[])] rfl rfl (by kernel_rfl) ?_ _
 |(refine some_e hr ?_;rintro rfl;with_reducible refine ret_k ?_)
 |exact no_e hr
 |((first|refine bc_e (c:=true) hr rfl ?_|refine bc_e (c:=false) hr rfl ?_|refine bc_e hr (by assumption) ?_);intro hr)
 |fail)
@[reducible,instance] def ref09_Check_i:=g33.1
@[reducible,instance] def rules_Extent_i:=g33.2
theorem H0:True:=trivial
theorem mapT:mapTy Tryz.prog 170=some (.i64,168):=by kernel_rfl
theorem rules_table_ok (G:Nat→Option (List D)):ACalls Tryz.prog G 79 [] [] (Eqs (.fmp .i64 [1,2,3,4,5,6,7,8,9,10,11,13,15,12,14,16,17,18,19,20] [.agg [.clo (.func 146) [] []],.agg [.clo (.func 148) [] []],.agg [.clo (.func 149) [] []],.agg [.clo (.func 144) [] []],.agg [.clo (.func 144) [] []],.agg [.clo (.func 142) [] []],.agg [.clo (.func 142) [] []],.agg [.clo (.func 150) [] []],.agg [.clo (.func 151) [] []],.agg [.clo (.func 152) [] []],.agg [.clo (.func 153) [] []],.agg [.clo (.func 155) [] []],.agg [.clo (.func 157) [] []],.agg [.clo (.func 158) [] []],.agg [.clo (.func 160) [] []],.agg [.clo (.func 161) [] []],.agg [.clo (.func 162) [] []],.agg [.clo (.func 163) [] []],.agg [.clo (.func 164) [] []],.agg [.clo (.func 165) [] []]]) []):=by
 refine acalls_of_run (fn:=Tryz.f79) (body:=(Tryz.f79.body).get!) (rs:=[.tmp 0]) 1000 [192] 29 (by kernel_rfl) (by kernel_rfl) (by kernel_rfl) (by kernel_rfl) (by kernel_rfl) (by simp) fun C _ hG hwf=>?_
 subst hG
 simp only[Tryz.f79,Option.get!]
 simp only[go_sem,simprocAttr,mapT]
 with_reducible refine ret_k ?_
 simp only[go_sem,simprocAttr]
instance rules_Verdict_i:∀ N (a0:TWorld) (a1:Int) (a2:Int) (a3:Int) (a4:Int) (a5:Bool),OK (rules_Verdict N a0 a1 a2 a3 a4 a5) 39 [.agg (e61 a0),.v (.int .i64 a1),.v (.int .u64 a2),.v (.int .u64 a3),.v (.int .u64 a4),.v (.bool a5)] [] (fun r=>.v (.int .i64 r)) fun r=>[]:=by
 refine fun N a0 a1 a2 a3 a4 a5=>?_
 have hc:a1=3∨(a1≠3):=by omega
 rcases hc with rfl|H0
 all_goals
  refine rn Tryz.f39 [.tmp 12] [] 35 (by kernel_rfl) ?_
  rintro _ hw r hr C _ rfl hwf hf
  rw[rules_Verdict] at hr
  simp only[Tryz.f39,Option.get!]
  repeat' first
   |simp only[go_sem,simprocAttr,mapT,List.zip_cons_cons,List.zip_nil_left,H0]
   |(with_reducible intro h;refine bc_e hr h ?_;intro hr)
   |(refine El.el hr ?_;intro hr)
   |(with_reducible first|apply guard_of_f|apply guard_of_t|apply cond_of)
   |(refine and_of' ?_ ?_;(·first|assumption|omega))
   |with_reducible refine CallX.c ?_ _
   |with_reducible refine OK.c hr hw ?_ (fun y hr=>?_) _
   |with_reducible refine CallG.ofE (rules_table_ok _) ?_ ?_ _
   |with_reducible refine CallG.ofE (OK.h _ hw _ hr) ?_ ?_ _
   |(refine some_e hr ?_;rintro rfl;with_reducible refine ret_k ?_)
   |((first|refine bc_e (c:=true) hr rfl ?_|refine bc_e (c:=false) hr rfl ?_|refine bc_e (c:=false) hr (beq_eq_false_iff_ne.2 (by simp only[H0,ne_eq,not_false_eq_true])) ?_);intro hr)
   |exact no_e hr
   |with_reducible refine ret_k ?_
   |fail
instance rules_Resolve_i:∀ N (a0:TWorld) (a1:Int),OK (rules_Resolve N a0 a1) 40 [.agg (e61 a0),.v (.int .u64 a1)] [] (fun r=>.tup [.v (.int .u64 r.1),.v (.int .i64 r.2)]) fun r=>[]:=by
 refine fun N _ _=>rn Tryz.f40 [.tmp 4,.tmp 5] [] 14 (by kernel_rfl) ?_<;>(rintro _ hw r hr C _ rfl hwf hf;simp only[Tryz.f40,Option.get!];(rw[rules_Resolve] at hr);repeat' first
 |(refine El.el hr ?_;intro hr)
 |(with_reducible intro h;refine bc_e hr h ?_;intro hr)
 |with_reducible intro _
 |simp only[go_sem,simprocAttr]
 |(with_reducible first|apply guard_of_f|apply guard_of_t|apply cond_of)
 |(refine and_of' ?_ ?_;·first|assumption|omega)
 |with_reducible refine CallX.c ?_ _
 |with_reducible refine OK.c hr hw ?_ (fun y hr=>?_) _
 |(refine some_e hr ?_;rintro rfl;with_reducible refine ret_k ?_)
 |exact no_e hr
 |fail)
end Go.Sx
