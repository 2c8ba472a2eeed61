import Derived.Test.YtgdnaekdnmegbaaGreatDoorF
import Derived.Test.YtgdnaekdnmegbaaGreatDoorG8
import Derived.Test.YtgdnaekdnmegbaaGreatDoorG12
import Derived.Test.YtgdnaekdnmegbaaGreatDoorG13
import Derived.Test.YtgdnaekdnmegbaaGreatDoorG14
import Derived.Test.YtgdnaekdnmegbaaGreatDoorG16
set_option linter.all false
namespace Go.Sx
open Go.Proofs
set_option maxRecDepth 10000
set_option maxHeartbeats 100000000
abbrev I_ref09_Check_l1:=fun N (a0:THeap) (Q:(Ex TFinding Unit)→Prop) n (st:St)=>∃ (v2:Int) (ex:_),ref09_Check_l1 N a0 n v2=some ex∧Q ex∧((∃ w64 w128,st.n=65∧st.t 1=.ept 64 w64 6 0 0∧st.t 2=.ept 128 w128 3 0 0∧st.t 3=.v (.int .i64 v2)∧st.s 64=some (w64,.arr true 40 6 [[.v (.int .i64 a0.Conf.PageWords),.v (.int .i64 a0.Conf.Pages),.isl 37 1 (a0.Words.map e37),.isl 260 4 (a0.Pages.map e260),.v (.int .i64 a0.Space),.v (.int .i64 a0.Bump)]] 0)∧st.s 128=some (w128,.arr true 287 3 [[.v (.int .i64 0),.v (.int .i64 0),.v (.int .u64 0)]] 0)))
abbrev I_ref09_Check_l2:=fun N (a0:THeap) (Q:Int→Prop) n (st:St)=>∃ (v6:Int) (v7:Int) (ex:_),ref09_Check_l2 N a0 n v6 v7=some ex∧Q ex∧((∃ w64 w128,st.n=65∧st.t 1=.ept 64 w64 6 0 0∧st.t 2=.ept 128 w128 3 0 0∧st.t 6=.v (.int .i64 v6)∧st.t 7=.v (.int .i64 v7)∧st.s 64=some (w64,.arr true 40 6 [[.v (.int .i64 a0.Conf.PageWords),.v (.int .i64 a0.Conf.Pages),.isl 37 1 (a0.Words.map e37),.isl 260 4 (a0.Pages.map e260),.v (.int .i64 a0.Space),.v (.int .i64 a0.Bump)]] 0)∧st.s 128=some (w128,.arr true 287 3 [[.v (.int .i64 0),.v (.int .i64 0),.v (.int .u64 0)]] 0)))
abbrev I_rules_Extent_l1:=fun N (a0:TWorld) (a1:Int) (Q:(Ex (Int × Int × Int) Unit)→Prop) n (st:St)=>∃ (v2:Int) (ex:_),rules_Extent_l1 N a0 a1 n v2=some ex∧Q ex∧((∃ w128,st.n=48∧st.t 1=.v (.int .u64 a1)∧st.t 2=.ept 128 w128 10 0 0∧st.t 13=.isl 101 3 (a0.Marks.map e101)∧st.t 14=.v (.int .i64 ((a0.Marks.length:Nat):Int))∧st.t 15=.v (.int .i64 v2)∧st.s 128=some (w128,.arr true 61 10 [[.v (.int .i64 a0.Conf.PageWords),.v (.int .i64 a0.Conf.Pages),.isl 100 4 (a0.Things.map e100),.isl 179 3 (a0.Locals.Slots.map e179),.isl 134 3 (a0.Locals.Scopes.map e134),.isl 3 1 (a0.Locals.Issued.map e3),.isl 148 3 (a0.Globals.Entries.map e148),.isl 148 3 (a0.Weaks.Entries.map e148),.isl 101 3 (a0.Marks.map e101),.isl 37 1 (a0.Roots.map e37)]] 0)))
theorem g35:(∀ N (a0:THeap),OK (ref09_Check N a0) 222 [.agg (e40 a0)] [] (fun r=>.agg (e287 r)) fun r=>[])∧(∀ N (a0:TWorld) (a1:Int),OK (rules_Extent N a0 a1) 18 [.agg (e61 a0),.v (.int .u64 a1)] [] (fun r=>.tup [.v (.int .u64 r.1),.v (.int .i64 r.2.1),.v (.int .i64 r.2.2)]) fun r=>[]):=by
 refine ⟨fun N _=>rn Tryz.f222 [.cell 2 287] [] 65 (by kernel_rfl) ?_,fun N _ _=>rn Tryz.f18 [.tmp 4,.tmp 5,.tmp 6] [] 48 (by kernel_rfl) ?_⟩<;>(rintro _ hw r hr C rfl hwf hf;simp only[Tryz.f222,Tryz.f18,Option.get!];(first|rw[ref09_Check] at hr|rw[rules_Extent] at hr);repeat' first
 |(refine El.el hr ?_;intro hr)
 |(with_reducible intro h;refine bc_e hr h ?_;intro hr)
 |with_reducible intro _
 |(refine some_e hr ?_;rintro rfl;have hr:=hk;clear hk)
 |simp only[go_sem,simprocAttr,E,hl100,hl101,hl260]
 |(with_reducible first|apply guard_of_f|apply guard_of_t|apply cond_of|apply doT_of_t|apply doT_of_f)
 |((first|with_reducible refine idx_s hr (by assumption) ?_ ?_|(with_reducible refine idx_e hr ?_ ?_;rotate_left;intro p;rotate_right));(·simp only[go_sem,simprocAttr]);intro hp hn hd hr;(try have hl100:=hd _ e100);(try simp only[go_sem,simprocAttr] at hl100);(try have hl101:=hd _ e101);(try simp only[go_sem,simprocAttr] at hl101);(try have hl260:=hd _ e260);(try simp only[go_sem,simprocAttr] at hl260))
 |(refine and_of' ?_ ?_;·first|assumption|omega)
 |with_reducible refine OK.c hr hw ?_ (fun y hr=>?_) _
 |(with_reducible refine loop_e (I:=I_ref09_Check_l1 N _) hr 1000 N (fun ex hq hk=>⟨_,ex,hq,hk,?_⟩) ?_ _;rotate_left;clear hr;(try clear E);rintro n1 st ⟨v2,ex,hr,hk,⟨_,_,E⟩⟩<;>(obtain _|n1:=n1<;>rw[ref09_Check_l1] at hr))
 |refine ⟨_,Nat.lt_succ_self _,_,_,hr,hk,?_⟩
 |(with_reducible refine loop_e (I:=I_ref09_Check_l2 N _) hr 1000 N (fun ex hq hk=>⟨_,_,ex,hq,hk,?_⟩) ?_ _;rotate_left;clear hr;(try clear E);rintro n2 st ⟨v6,v7,ex,hr,hk,⟨_,_,E⟩⟩<;>(obtain _|n2:=n2<;>rw[ref09_Check_l2] at hr))
 |refine ⟨_,Nat.lt_succ_self _,_,_,_,hr,hk,?_⟩
 |(with_reducible refine loop_e (I:=I_rules_Extent_l1 N _ _) hr 1000 N (fun ex hq hk=>⟨_,ex,hq,hk,?_⟩) ?_ _;rotate_left;clear hr;(try clear E);rintro n1 st ⟨v2,ex,hr,hk,⟨_,E⟩⟩<;>(obtain _|n1:=n1<;>rw[rules_Extent_l1] at hr))
 |refine db 18 6 hf [([],[],[20,21],[]),([],[],[19],[]),([1],[],[19],[]),([0,1,2],[],[],[]),([0,1,2,3],[],[],[]),([0,1,2,3,4],[],[25,26,28,29,30,31,32,33,34,35,36,37],[]),([0,1,2,3,4],[],[24,28,29,30,31,32,33,34,35,36,37],[]),([0,1,2,3,4,6],[],[24,28,29,30,31,32,33,34,35,36,37],[]),([0,1,2,3,4,5,6,7],[],[28,29,30,31,32,33,34,35,36,37],[]),([0,1,2,3,4],[],[24,25,26,27,30,31,32],[]),([0,1,2,3,4,9],[],[24,25,26,27,30,31,32],[]),([0,1,2,3,4],[],[24,25,26,27,28,29],[]),([0,1,2,3,4,11],[],[24,25,26,27,28,29],[]),([0,1,2,3,4,11,12],[],[24,25,26,27,28,29],[]),([0,1,2,3,4,9,10,11,12,13],[],[24,25,26,27],[]),([0,1,2,3,4,9,10,11,12,13,14],[],[24,25,26,27],[]),([0,1,2,3,4,9,10,11,12,13,14,15],[],[24,25,26,27],[]),([0,1,2,3,4,9,10,11,12,13,14,15,16],[],[24,25,26,27],[]),([0,1,2,3,4,9,10,11,12,13,14,15,16,17],[],[24,25,26,27],[]),([0,1,2,3,4,5,6,7,8,9,10,11,12,13,14,15,16,17,18],[],[],[]),([0,1,2,3,4,5,6,7,8,9,10,11,12,13,14,15,16,17,18,19],[],[],[])] rfl rfl (by kernel_rfl) ?_ _
 |refine db 18 7 hf [([],[],[42,43,44,45,46],[]),([0],[],[42,43,44,45,46],[]),([],[],[4,40,41,43,44],[]),([],[],[4,40,41,42],[]),([3],[],[4,40,41,42],[]),([2,3,4],[],[4,40,41],[]),([2,3,4,5],[],[4,40,41],[]),([0,1],[],[42,43,44,45,46],[]),([0,1,2,3,4,5,6,7],[],[],[]),([0,1,2,3,4,5,6,7,8],[],[],[])] rfl rfl (by kernel_rfl) ?_ _
 |(refine some_e hr ?_;rintro rfl;with_reducible refine ret_k ?_)
 |exact no_e hr
 |((first|refine bc_e (c:=true) hr rfl ?_|refine bc_e (c:=false) hr rfl ?_|refine bc_e hr (by assumption) ?_);intro hr)
 |fail)
@[reducible,instance] def ref09_Check_i:=g35.1
@[reducible,instance] def rules_Extent_i:=g35.2
theorem g34:(∀ N (a0:Tasked),OK (rules_table_1 N a0) 70 [.agg (e94 a0)] [] (fun r=>.v (.int .i64 r)) fun r=>[])∧(∀ N (a0:Tasked),OK (rules_asked_getRef N a0) 78 [.agg (e94 a0)] [] (fun r=>.v (.int .i64 r)) fun r=>[])∧(∀ N (a0:Tasked),OK (rules_table_6 N a0) 79 [.agg (e94 a0)] [] (fun r=>.v (.int .i64 r)) fun r=>[])∧(∀ N (a0:Tasked),OK (rules_table_9 N a0) 83 [.agg (e94 a0)] [] (fun r=>.v (.int .i64 r)) fun r=>[])∧(∀ N (a0:Tasked),OK (rules_table_10 N a0) 85 [.agg (e94 a0)] [] (fun r=>.v (.int .i64 r)) fun r=>[])∧(∀ N (a0:TWorld) (a1:Int),OK (rules_Resolve N a0 a1) 16 [.agg (e61 a0),.v (.int .u64 a1)] [] (fun r=>.tup [.v (.int .u64 r.1),.v (.int .i64 r.2)]) fun r=>[]):=by
 refine ⟨fun N _=>rn Tryz.f70 [.tmp 2] [] 11 (by kernel_rfl) ?_,fun N _=>rn Tryz.f78 [.tmp 2] [] 23 (by kernel_rfl) ?_,fun N _=>rn Tryz.f79 [.tmp 2] [] 21 (by kernel_rfl) ?_,fun N _=>rn Tryz.f83 [.tmp 2] [] 8 (by kernel_rfl) ?_,fun N _=>rn Tryz.f85 [.tmp 2] [] 8 (by kernel_rfl) ?_,fun N _ _=>rn Tryz.f16 [.tmp 4,.tmp 5] [] 14 (by kernel_rfl) ?_⟩<;>(rintro _ hw r hr C rfl hwf hf;simp only[Tryz.f70,Tryz.f78,Tryz.f79,Tryz.f83,Tryz.f85,Tryz.f16,Option.get!];(first|rw[rules_table_1] at hr|rw[rules_asked_getRef] at hr|rw[rules_table_6] at hr|rw[rules_table_9] at hr|rw[rules_table_10] at hr|rw[rules_Resolve] at hr);repeat' first
 |(refine El.el hr ?_;intro hr)
 |(with_reducible intro h;refine bc_e hr h ?_;intro hr)
 |with_reducible intro _
 |simp only[go_sem,simprocAttr,hl37]
 |(with_reducible first|apply guard_of_f|apply guard_of_t|apply cond_of|apply doT_of_t|apply doT_of_f)
 |((first|with_reducible refine idx_s hr (by assumption) ?_ ?_|(with_reducible refine idx_e hr ?_ ?_;rotate_left;intro p;rotate_right));(·simp only[go_sem,simprocAttr]);intro hp hn hd hr;(try have hl37:=hd _ e37);(try simp only[go_sem,simprocAttr] at hl37))
 |(refine and_of' ?_ ?_;·first|assumption|omega)
 |with_reducible refine OK.c hr hw ?_ (fun y hr=>?_) _
 |with_reducible refine OK.d hr hw ?_ (fun y hr=>?_) _
 |refine db 78 4 hf [([],[],[16,17,18,19,20,21],[]),([0],[],[16,17,18,19,20,21],[]),([0,1],[],[16,17,18,19,20,21],[]),([],[],[13,14,15,18,19],[]),([3],[],[13,14,15,18,19],[]),([],[],[13,14,15,16,17],[]),([5],[],[13,14,15,16,17],[]),([3,4,5,6],[],[13,14,15],[]),([3,4,5,6,7],[],[13,14,15],[]),([0,1,2,3,4,5,6,7,8],[],[],[]),([0,1,2,3,4,5,6,7,8,9],[],[],[])] rfl rfl (by kernel_rfl) ?_ _
 |(refine some_e hr ?_;rintro rfl;with_reducible refine ret_k ?_)
 |exact no_e hr
 |fail)
@[reducible,instance] def rules_table_1_i:=g34.1
@[reducible,instance] def rules_asked_getRef_i:=g34.2.1
@[reducible,instance] def rules_table_6_i:=g34.2.2.1
@[reducible,instance] def rules_table_9_i:=g34.2.2.2.1
@[reducible,instance] def rules_table_10_i:=g34.2.2.2.2.1
@[reducible,instance] def rules_Resolve_i:=g34.2.2.2.2.2
end Go.Sx
