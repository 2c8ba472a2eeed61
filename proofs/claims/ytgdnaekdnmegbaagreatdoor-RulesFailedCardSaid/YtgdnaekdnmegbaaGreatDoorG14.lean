import Derived.Test.YtgdnaekdnmegbaaGreatDoorF
import Derived.Test.YtgdnaekdnmegbaaGreatDoorG4
import Derived.Test.YtgdnaekdnmegbaaGreatDoorG7
import Derived.Test.YtgdnaekdnmegbaaGreatDoorG8
import Derived.Test.YtgdnaekdnmegbaaGreatDoorG10
import Derived.Test.YtgdnaekdnmegbaaGreatDoorG12
import Derived.Test.YtgdnaekdnmegbaaGreatDoorG13
set_option linter.all false
namespace Go.Sx
open Go.Proofs
set_option maxRecDepth 10000
set_option maxHeartbeats 100000000
theorem g28:(∀ N (a0:THeap) (a1:Int),OK (ref09_page N a0 a1) 236 [.agg (e40 a0),.v (.int .i64 a1)] [] (fun r=>.agg (e287 r)) fun r=>[])∧(∀ N (a0:TWorld) (a1:Int) (a2:Int) (a3:Int) (a4:Int) (a5:Bool),OK (ref20_Verdict N a0 a1 a2 a3 a4 a5) 12 [.agg (e36 a0),.v (.int .i64 a1),.v (.int .u64 a2),.v (.int .u64 a3),.v (.int .u64 a4),.v (.bool a5)] [] (fun r=>.v (.int .i64 r)) fun r=>[])∧(∀ N (a0:Tasked),OK (rules_asked_object N a0) 73 [.agg (e94 a0)] [] (fun r=>.tup [.v (.int .u64 r.1),.agg (e97 r.2.1),.v (.int .i64 r.2.2)]) fun r=>[])∧(∀ N (a0:Tasked),OK (rules_table_4 N a0) 76 [.agg (e94 a0)] [] (fun r=>.v (.int .i64 r)) fun r=>[])∧(∀ N (a0:Tasked),OK (rules_table_7 N a0) 80 [.agg (e94 a0)] [] (fun r=>.v (.int .i64 r)) fun r=>[])∧(∀ N (a0:Tasked) (a1:Int),OK (rules_asked_deleted N a0 a1) 87 [.agg (e94 a0),.v (.int .i64 a1)] [] (fun r=>.v (.int .i64 r)) fun r=>[]):=by
 refine ⟨fun N _ _=>rn Tryz.f236 [.cell 4 287] [] 57 (by kernel_rfl) ?_,fun N _ _ _ _ _ _=>rn Tryz.f12 [.tmp 12] [] 78 (by kernel_rfl) ?_,fun N _=>rn Tryz.f73 [.tmp 2,.cell 3 97,.tmp 4] [] 33 (by kernel_rfl) ?_,fun N _=>rn Tryz.f76 [.tmp 2] [] 5 (by kernel_rfl) ?_,fun N _=>rn Tryz.f80 [.tmp 2] [] 24 (by kernel_rfl) ?_,fun N _ _=>rn Tryz.f87 [.tmp 4] [] 33 (by kernel_rfl) ?_⟩<;>(rintro _ hw r hr C rfl hwf hf;simp only[Tryz.f236,Tryz.f12,Tryz.f73,Tryz.f76,Tryz.f80,Tryz.f87,Option.get!];(first|rw[ref09_page] at hr|rw[ref20_Verdict] at hr|rw[rules_asked_object] at hr|rw[rules_table_4] at hr|rw[rules_table_7] at hr|rw[rules_asked_deleted] at hr);repeat' first
 |(refine El.el hr ?_;intro hr)
 |(with_reducible intro h;refine bc_e hr h ?_;intro hr)
 |with_reducible intro _
 |simp only[go_sem,simprocAttr,hl100,hl260]
 |(with_reducible first|apply guard_of_f|apply guard_of_t|apply cond_of|apply doT_of_t|apply doT_of_f)
 |((first|with_reducible refine idx_s hr (by assumption) ?_ ?_|(with_reducible refine idx_e hr ?_ ?_;rotate_left;intro p;rotate_right));(·simp only[go_sem,simprocAttr]);intro hp hn hd hr;(try have hl100:=hd _ e100);(try simp only[go_sem,simprocAttr] at hl100);(try have hl260:=hd _ e260);(try simp only[go_sem,simprocAttr] at hl260))
 |(refine and_of' ?_ ?_;·first|assumption|omega)
 |with_reducible refine OK.c hr hw ?_ (fun y hr=>?_) _
 |refine db 236 1 hf [([],[],[11],[]),([0],[],[11],[]),([],[],[9,10],[]),([0,1,2],[],[],[]),([0,1,2,3],[],[],[]),([0,1,2,3,4],[],[],[]),([0,1,2,3,4,5],[],[],[]),([0,1,2,3,4,5,6],[],[],[]),([0,1,2,3,4,5,6,7],[],[19,23,24],[]),([0,1,2,3,4,5,6,7,8],[],[19,23,24],[]),([0,1,2,3,4,5,6,7],[],[17,18,23,24],[]),([0,1,2,3,4,5,6,7,8,9,10],[],[23,24],[]),([0,1,2,3,4,5,6,7,8,9,10,11],[],[23,24],[]),([0,1,2,3,4,5,6,7,8,9,10,11,12],[],[23,24],[]),([0,1,2,3,4,5,6,7],[],[17,18,19,20,21,22],[]),([0,1,2,3,4,5,6,7,14],[],[17,18,19,20,21,22],[]),([0,1,2,3,4,5,6,7,8,9,10,11,12,13,14,15],[],[],[]),([0,1,2,3,4,5,6,7,8,9,10,11,12,13,14,15,16],[],[],[])] rfl rfl (by kernel_rfl) ?_ _
 |refine db 73 6 hf [([],[],[25,26,27,28,29,30,31,32],[]),([],[],[2,24,28,29],[]),([1],[],[2,24,28,29],[]),([1,2],[],[2,24,28,29],[]),([],[],[2,24,25,26,27],[]),([4],[],[2,24,25,26,27],[]),([1,2,3,4,5],[],[2,24],[]),([1,2,3,4,5,6],[],[2,24],[]),([1,2,3,4,5,6,7],[],[2,24],[]),([0],[],[25,26,27,28,29,30,31,32],[]),([0,1,2,3,4,5,6,7,8,9],[192],[],[]),([0,1,2,3,4,5,6,7,8,9,10],[],[],[])] rfl rfl (by kernel_rfl) ?_ _
 |(refine some_e hr ?_;rintro rfl;with_reducible refine ret_k ?_)
 |exact no_e hr
 |fail)
@[reducible,instance] def ref09_page_i:=g28.1
@[reducible,instance] def ref20_Verdict_i:=g28.2.1
@[reducible,instance] def rules_asked_object_i:=g28.2.2.1
@[reducible,instance] def rules_table_4_i:=g28.2.2.2.1
@[reducible,instance] def rules_table_7_i:=g28.2.2.2.2.1
@[reducible,instance] def rules_asked_deleted_i:=g28.2.2.2.2.2
theorem g29:(∀ N (a0:THeap) (a1:Int) (a2:Int) (a3:Int),OK (ref05_SetField N a0 a1 a2 a3) 180 [.agg (e40 a0),.v (.int .u64 a1),.v (.int .i64 a2),.v (.int .u64 a3)] [] (fun r=>.tup [.agg (e40 r.1),.v (.int .i64 r.2)]) fun r=>[])∧(∀ N (a0:TWorld) (a1:TThing),OK (rules_World_formed N a0 a1) 42 [.agg (e61 a0),.agg (e100 a1)] [] (fun r=>.v (.bool r)) fun r=>[])∧(∀ N (a0:Tasked),OK (rules_table_3 N a0) 74 [.agg (e94 a0)] [] (fun r=>.v (.int .i64 r)) fun r=>[])∧(∀ N (a0:Tasked),OK (rules_table_5 N a0) 77 [.agg (e94 a0)] [] (fun r=>.v (.int .i64 r)) fun r=>[])∧(∀ N (a0:Tasked),OK (rules_table_8 N a0) 81 [.agg (e94 a0)] [] (fun r=>.v (.int .i64 r)) fun r=>[])∧(∀ N (a0:Tasked),OK (rules_asked_pop N a0) 91 [.agg (e94 a0)] [] (fun r=>.v (.int .i64 r)) fun r=>[]):=by
 refine ⟨fun N _ _ _ _=>rn Tryz.f180 [.cell 8 40,.tmp 9] [] 37 (by kernel_rfl) ?_,fun N _ _=>rn Tryz.f42 [.tmp 4] [] 30 (by kernel_rfl) ?_,fun N _=>rn Tryz.f74 [.tmp 2] [] 5 (by kernel_rfl) ?_,fun N _=>rn Tryz.f77 [.tmp 2] [] 5 (by kernel_rfl) ?_,fun N _=>rn Tryz.f81 [.tmp 2] [] 21 (by kernel_rfl) ?_,fun N _=>rn Tryz.f91 [.tmp 2] [] 30 (by kernel_rfl) ?_⟩<;>(rintro _ hw r hr C rfl hwf hf;simp only[Tryz.f180,Tryz.f42,Tryz.f74,Tryz.f77,Tryz.f81,Tryz.f91,Option.get!];(first|rw[ref05_SetField] at hr|rw[rules_World_formed] at hr|rw[rules_table_3] at hr|rw[rules_table_5] at hr|rw[rules_table_8] at hr|rw[rules_asked_pop] at hr);repeat' first
 |(refine El.el hr ?_;intro hr)
 |(with_reducible intro h;refine bc_e hr h ?_;intro hr)
 |with_reducible intro _
 |simp only[go_sem,simprocAttr]
 |(with_reducible first|apply guard_of_f|apply guard_of_t|apply cond_of)
 |(refine and_of' ?_ ?_;·first|assumption|omega)
 |with_reducible refine OK.c hr hw ?_ (fun y hr=>?_) _
 |(refine some_e hr ?_;rintro rfl;with_reducible refine ret_k ?_)
 |exact no_e hr
 |fail)
@[reducible,instance] def ref05_SetField_i:=g29.1
@[reducible,instance] def rules_World_formed_i:=g29.2.1
@[reducible,instance] def rules_table_3_i:=g29.2.2.1
@[reducible,instance] def rules_table_5_i:=g29.2.2.2.1
@[reducible,instance] def rules_table_8_i:=g29.2.2.2.2.1
@[reducible,instance] def rules_asked_pop_i:=g29.2.2.2.2.2
abbrev I_ref06_Objects_l1:=fun N (a0:THeap) (y1:List Int × Int) (Q:(List Int)→Prop) n (st:St)=>∃ (v2:Int) (v3:List Int) (ex:_),ref06_Objects_l1 N a0 y1 n v2 v3=some ex∧Q ex∧((∃ w2496 w64,st.n=42∧st.s 2496=some (w2496,.arr false 37 1 (v3.map e37) 0)∧st.t 1=.ept 64 w64 6 0 0∧st.t 4=.isl 37 1 (y1.1.map e37)∧st.t 5=.v (.int .i64 y1.2)∧st.t 6=.osl 2496 w2496 1 0 v3.length∧st.t 7=.v (.int .i64 v2)∧st.s 64=some (w64,.arr true 40 6 [[.v (.int .i64 a0.Conf.PageWords),.v (.int .i64 a0.Conf.Pages),.isl 37 1 (a0.Words.map e37),.isl 260 4 (a0.Pages.map e260),.v (.int .i64 a0.Space),.v (.int .i64 a0.Bump)]] 0))∨(∃ w64,(st.n=42∧st.t 1=.ept 64 w64 6 0 0∧st.t 4=.isl 37 1 (y1.1.map e37)∧st.t 5=.v (.int .i64 y1.2)∧st.t 6=.nsl∧st.t 7=.v (.int .i64 v2)∧st.s 64=some (w64,.arr true 40 6 [[.v (.int .i64 a0.Conf.PageWords),.v (.int .i64 a0.Conf.Pages),.isl 37 1 (a0.Words.map e37),.isl 260 4 (a0.Pages.map e260),.v (.int .i64 a0.Space),.v (.int .i64 a0.Bump)]] 0))∧v3=[]))
instance ref06_Objects_i:∀ N (a0:THeap),OK (ref06_Objects N a0) 196 [.agg (e40 a0)] [] (fun r=>.tup [.isl 37 1 (r.1.map e37),.v (.int .i64 r.2)]) fun r=>[]:=by
 refine fun N _=>rn Tryz.f196 [.tmp 2,.tmp 3] [] 42 (by kernel_rfl) ?_<;>(rintro _ hw r hr C rfl hwf hf;simp only[Tryz.f196,Option.get!];(rw[ref06_Objects] at hr);repeat' first
 |(refine El.el hr ?_;intro hr)
 |(with_reducible intro h;refine bc_e hr h ?_;intro hr)
 |with_reducible intro _
 |(refine some_e hr ?_;rintro rfl;have hr:=hk;clear hk)
 |simp only[go_sem,simprocAttr,E,hl37]
 |(with_reducible first|apply guard_of_f|apply guard_of_t|apply cond_of|apply doT_of_t|apply doT_of_f)
 |((first|with_reducible refine idx_s hr (by assumption) ?_ ?_|(with_reducible refine idx_e hr ?_ ?_;rotate_left;intro p;rotate_right));(·simp only[go_sem,simprocAttr]);intro hp hn hd hr;(try have hl37:=hd _ e37);(try simp only[go_sem,simprocAttr] at hl37))
 |(refine and_of' ?_ ?_;·first|assumption|omega)
 |with_reducible refine OK.c hr hw ?_ (fun y hr=>?_) _
 |with_reducible refine OK.d hr hw ?_ (fun y hr=>?_) _
 |(with_reducible refine loop_e (I:=I_ref06_Objects_l1 N _ _) hr 1000 N (fun ex hq hk=>⟨_,_,ex,hq,hk,?_⟩) ?_ _;rotate_left;clear hr;(try clear E);rintro n1 st ⟨v2,v3,ex,hr,hk,(⟨_,_,E⟩|⟨_,E,z0⟩)⟩<;>(try subst z0)<;>(obtain _|n1:=n1<;>rw[ref06_Objects_l1] at hr))
 |refine ⟨_,Nat.lt_succ_self _,_,_,_,hr,hk,?_⟩
 |refine db 196 6 hf [([],[],[8,23,24,25,26],[512]),([],[],[8,22,24],[512]),([],[],[8,22,23],[512]),([1,2],[],[8,22],[512]),([1,2,3],[],[8,22],[512]),([0,1,2,3,4],[],[8],[512]),([0,1,2,3,4,5],[],[8],[512]),([0,1,2,3,4,5,6],[],[8,29],[512]),([0,1,2,3,4,5,6],[],[8,28],[512]),([],[512],[21,22,23,24,25,26,27,28,29],[]),([0,1,2,3,4,5,6,7,9],[512],[29],[]),([0,1,2,3,4,5,6,7,8,9,10],[],[],[])] rfl rfl (by kernel_rfl) ?_ _
 |(refine some_e hr ?_;rintro rfl;with_reducible refine ret_k ?_)
 |exact no_e hr
 |((first|refine bc_e (c:=true) hr rfl ?_|refine bc_e (c:=false) hr rfl ?_|refine bc_e hr (by assumption) ?_);intro hr)
 |fail)
end Go.Sx
