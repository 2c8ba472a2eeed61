import Derived.Test.YtgdhlnfcogcicaaGreatDoorRF
set_option linter.all false
namespace Go.Sx
open Go.Proofs
set_option maxRecDepth 10000
set_option maxHeartbeats 100000000
abbrev Qi0:=fun N (a0:TLocals) (a2:Int) (Q:Int→Prop) n (st:St)=>∃ (v1:Int) (v2:Int) (ex:_),Qcr N a0 a2 n v1 v2=some ex∧Q ex∧((∃ w192,st.n=24∧st.t 2=.v (.int .i64 a2)∧st.t 3=.ept 192 w192 3 0 0∧st.t 7=.v (.int .i64 v1)∧st.t 8=.v (.int .i64 v2)∧st.s 192=some (w192,.arr true 29 3 [e29 a0] 0)))
abbrev Qju:=fun N (a0:List Int) (a1:Int) (Q:(Ex Bool Unit)→Prop) n (st:St)=>∃ (v1:Int) (ex:_),QeA N a0 a1 n v1=some ex∧Q ex∧((st.n=18∧st.t 0=.isl 37 1 (a0.map e37)∧st.t 1=.v (.int .u64 a1)∧st.t 5=.v (.int .i64 v1)))
abbrev QjR:=fun N (a0:List TPin) (a1:Int) (Q:(Ex Int Unit)→Prop) n (st:St)=>∃ (v1:Int) (ex:_),Qfm N a0 a1 n v1=some ex∧Q ex∧((st.n=20∧st.t 0=.isl 229 2 (a0.map e229)∧st.t 1=.v (.int .u64 a1)∧st.t 5=.v (.int .i64 v1)))
abbrev Qi1:=fun N (a1:Int) (a2:Int) (a3:TPage) (a4:TPage) (Q:(Ex (List TPage × Int) (List TPage))→Prop) n (st:St)=>∃ (v1:Int) (v2:List TPage) (ex:_),Qec N a1 a2 a3 a4 n v1 v2=some ex∧Q ex∧((∃ w1920 w512 w576,st.n=57∧st.s 1920=some (w1920,.arr false 306 4 (v2.map e306) 0)∧st.t 1=.v (.int .i64 a1)∧st.t 2=.v (.int .i64 a2)∧st.t 8=.ept 512 w512 4 0 0∧st.t 9=.ept 576 w576 4 0 0∧st.t 12=.osl 1920 w1920 4 0 v2.length∧st.t 13=.v (.int .i64 v1)∧st.s 512=some (w512,.arr true 306 4 [e306 a3] 0)∧st.s 576=some (w576,.arr true 306 4 [e306 a4] 0)))
abbrev Qg2:=fun N (a0:Tframes) (Q:(Ex Bool Unit)→Prop) n (st:St)=>∃ (v1:Int) (v2:Int) (ex:_),QaA N a0 n v1 v2=some ex∧Q ex∧((∃ w64,st.n=74∧st.t 1=.ept 64 w64 3 0 0∧st.t 3=.v (.int .i64 v1)∧st.t 27=.isl 159 3 (a0.Locals.Scopes.map e159)∧st.t 28=.v (.int .i64 ((a0.Locals.Scopes.length:Nat):Int))∧st.t 29=.v (.int .i64 v2)∧st.s 64=some (w64,.arr true 255 3 [e255 a0] 0)))
abbrev Qjv:=fun N (a0:Int) (Q:Int→Prop) n (st:St)=>∃ (v1:Int) (v2:Int) (ex:_),QeE N a0 n v1 v2=some ex∧Q ex∧((st.n=14∧st.t 3=.v (.int .u64 v1)∧st.t 6=.v (.int .i64 (if 64 < (if a0 < 0 then 0 else a0) then 64 else (if a0 < 0 then 0 else a0)))∧st.t 7=.v (.int .i64 v2)))
theorem g5:(∀ N (a0:TLocals) (a1:Int) (a2:Int),OK (QfM N a0 a1 a2) 188 [.agg (e29 a0),.v (.int .i64 a1),.v (.int .i64 a2)] [] (fun r=>.v (.int .i64 r)) fun r=>[])∧(∀ N (a0:List Int) (a1:Int),OK (Qb7 N a0 a1) 205 [.isl 37 1 (a0.map e37),.v (.int .u64 a1)] [] (fun r=>.v (.bool r)) fun r=>[])∧(∀ N (a0:List TPin) (a1:Int),OK (Qf3 N a0 a1) 242 [.isl 229 2 (a0.map e229),.v (.int .u64 a1)] [] (fun r=>.v (.int .i64 r)) fun r=>[])∧(∀ N (a0:List TPage) (a1:Int) (a2:Int) (a3:TPage) (a4:TPage),OK (QfP N a0 a1 a2 a3 a4) 293 [.isl 306 4 (a0.map e306),.v (.int .i64 a1),.v (.int .i64 a2),.agg (e306 a3),.agg (e306 a4)] [] (fun r=>.tup [.fsl 306 4 (r.1.map e306),.v (.int .i64 r.2)]) fun r=>[])∧(∀ N (a0:Tframes),OK (Qcz N a0) 194 [.agg (e255 a0)] [] (fun r=>.v (.bool r)) fun r=>[])∧(∀ N (a0:Int),OK (Qbx N a0) 238 [.v (.int .i64 a0)] [] (fun r=>.v (.int .u64 r)) fun r=>[]):=by
 refine ⟨fun N _ _ _=>rn Tryz.f188 [.tmp 6] [] 24 (by kernel_rfl) ?_,fun N _ _=>rn Tryz.f205 [.tmp 4] [] 18 (by kernel_rfl) ?_,fun N _ _=>rn Tryz.f242 [.tmp 4] [] 20 (by kernel_rfl) ?_,fun N _ _ _ _ _=>rn Tryz.f293 [.tmp 10,.tmp 11] [1920] 57 (by kernel_rfl) ?_,fun N _=>rn Tryz.f194 [.tmp 2] [] 74 (by kernel_rfl) ?_,fun N _=>rn Tryz.f238 [.tmp 2] [] 14 (by kernel_rfl) ?_⟩<;>(rintro _ hw r hr C _ rfl hwf hf;simp only[Tryz.f188,Tryz.f205,Tryz.f242,Tryz.f293,Tryz.f194,Tryz.f238,Option.get!];(first|rw[QfM] at hr|rw[Qb7] at hr|rw[Qf3] at hr|rw[QfP] at hr|rw[Qcz] at hr|rw[Qbx] at hr);repeat' first
 |(refine El.el hr ?_;intro hr)
 |(with_reducible intro h;refine bc_e hr h ?_;intro hr)
 |with_reducible intro _
 |(refine some_e hr ?_;rintro rfl;have hr:=hk;clear hk)
 |simp only[go_sem,simprocAttr,E,hl37,hl159,hl210,hl229,hl306]
 |(with_reducible first|apply guard_of_f|apply guard_of_t|apply cond_of)
 |((first|with_reducible refine idx_s hr (by assumption) ?_ ?_|(with_reducible refine idx_e hr ?_ ?_;rotate_left;intro p;rotate_right));(·simp only[go_sem,simprocAttr]);intro hp hn hd hr;(try have hl37:=hd _ e37);(try simp only[go_sem,simprocAttr] at hl37);(try have hl159:=hd _ e159);(try simp only[go_sem,simprocAttr] at hl159);(try have hl210:=hd _ e210);(try simp only[go_sem,simprocAttr] at hl210);(try have hl229:=hd _ e229);(try simp only[go_sem,simprocAttr] at hl229);(try have hl306:=hd _ e306);(try simp only[go_sem,simprocAttr] at hl306))
 |(refine and_of' ?_ ?_;·first|assumption|omega)
 |(with_reducible refine loop_e (I:=Qi0 N _ _) hr 1000 N (fun ex hq hk=>⟨_,_,ex,hq,hk,?_⟩) ?_ _;rotate_left;clear hr;(try clear E);rintro n1 st ⟨v1,v2,ex,hr,hk,⟨_,E⟩⟩<;>(obtain _|n1:=n1<;>rw[Qcr] at hr))
 |refine ⟨_,Nat.lt_succ_self _,_,_,_,hr,hk,?_⟩
 |(with_reducible refine loop_e (I:=Qju N _ _) hr 1000 N (fun ex hq hk=>⟨_,ex,hq,hk,?_⟩) ?_ _;rotate_left;clear hr;(try clear E);rintro n1 st ⟨v1,ex,hr,hk,E⟩<;>(obtain _|n1:=n1<;>rw[QeA] at hr))
 |refine ⟨_,Nat.lt_succ_self _,_,_,hr,hk,?_⟩
 |(with_reducible refine loop_e (I:=QjR N _ _) hr 1000 N (fun ex hq hk=>⟨_,ex,hq,hk,?_⟩) ?_ _;rotate_left;clear hr;(try clear E);rintro n1 st ⟨v1,ex,hr,hk,E⟩<;>(obtain _|n1:=n1<;>rw[Qfm] at hr))
 |(with_reducible refine loop_e (I:=Qi1 N _ _ _ _) hr 1000 N (fun ex hq hk=>⟨_,_,ex,hq,hk,?_⟩) ?_ _;rotate_left;clear hr;(try clear E);rintro n1 st ⟨v1,v2,ex,hr,hk,⟨_,_,_,E⟩⟩<;>(obtain _|n1:=n1<;>rw[Qec] at hr))
 |(with_reducible refine loop_e (I:=Qg2 N _) hr 1000 N (fun ex hq hk=>⟨_,_,ex,hq,hk,?_⟩) ?_ _;rotate_left;clear hr;(try clear E);rintro n1 st ⟨v1,v2,ex,hr,hk,⟨_,E⟩⟩<;>(obtain _|n1:=n1<;>rw[QaA] at hr))
 |(with_reducible refine loop_e (I:=Qjv N _) hr 1000 N (fun ex hq hk=>⟨_,_,ex,hq,hk,?_⟩) ?_ _;rotate_left;clear hr;(try clear E);rintro n1 st ⟨v1,v2,ex,hr,hk,E⟩<;>(obtain _|n1:=n1<;>rw[QeE] at hr))
 |(refine some_e hr ?_;rintro rfl;with_reducible refine ret_k ?_)
 |exact no_e hr
 |((first|refine bc_e (c:=true) hr rfl ?_|refine bc_e (c:=false) hr rfl ?_|refine bc_e hr (by assumption) ?_);intro hr)
 |fail)
@[reducible,instance] def Qm3:=g5.1
@[reducible,instance] def QnK:=g5.2.1
@[reducible,instance] def Qoa:=g5.2.2.1
@[reducible,instance] def Qm4:=g5.2.2.2.1
@[reducible,instance] def Qj6:=g5.2.2.2.2.1
@[reducible,instance] def QnL:=g5.2.2.2.2.2
abbrev Qio:=fun N (a0:TTable) (Q:(Ex Bool Unit)→Prop) n (st:St)=>∃ (v1:Int) (ex:_),Qb5 N a0 n v1=some ex∧Q ex∧((∃ w64,st.n=39∧st.t 1=.ept 64 w64 1 0 0∧st.t 3=.v (.int .i64 v1)∧st.s 64=some (w64,.arr true 32 1 [e32 a0] 0)))
abbrev Qi2:=fun N (a0:TWorld) (a1:Int) (Q:(Ex Int Unit)→Prop) n (st:St)=>∃ (v1:Int) (ex:_),Qea N a0 a1 n v1=some ex∧Q ex∧((∃ w128,st.n=22∧st.t 1=.v (.int .u64 a1)∧st.t 2=.ept 128 w128 10 0 0∧st.t 5=.v (.int .i64 v1)∧st.s 128=some (w128,.arr true 36 10 [e36 a0] 0)))
abbrev Qi3:=fun N (a0:THeap) (Q:Int→Prop) n (st:St)=>∃ (v1:Int) (ex:_),Qeb N a0 n v1=some ex∧Q ex∧((∃ w128,st.n=15∧st.t 1=.v (.int .i64 v1)∧st.t 2=.ept 128 w128 6 0 0∧st.s 128=some (w128,.arr true 42 6 [e42 a0] 0)))
abbrev Qi4:=fun N (a0:List TPage) (Q:(List TRun)→Prop) n (st:St)=>∃ (v1:Int) (v2:List TRun) (ex:_),Qb1 N a0 n v1 v2=some ex∧Q ex∧((∃ w3328,st.n=54∧st.s 3328=some (w3328,.arr false 359 2 (v2.map e359) 0)∧st.t 0=.isl 306 4 (a0.map e306)∧st.t 3=.osl 3328 w3328 2 0 v2.length∧st.t 4=.v (.int .i64 v1))∨((st.n=54∧st.t 0=.isl 306 4 (a0.map e306)∧st.t 3=.nsl∧st.t 4=.v (.int .i64 v1))∧v2=[]))
abbrev Qip:=fun N (a0:List TPage) (Q:Int→Prop) n (st:St)=>∃ (v1:Int) (v2:Int) (ex:_),QcH N a0 n v1 v2=some ex∧Q ex∧((st.n=20∧st.t 0=.isl 306 4 (a0.map e306)∧st.t 3=.v (.int .i64 v1)∧st.t 4=.v (.int .i64 v2)))
abbrev Qgc:=fun N (a0:List Int) (a1:Int) (Q:(Ex Int Unit)→Prop) n (st:St)=>∃ (v1:Int) (ex:_),QaL N a0 a1 n v1=some ex∧Q ex∧((st.n=19∧st.t 0=.isl 37 1 (a0.map e37)∧st.t 1=.v (.int .u64 a1)∧st.t 7=.v (.int .i64 ((a0.length:Nat):Int))∧st.t 8=.v (.int .i64 v1)))
abbrev Qi5:=fun N (a0:List Int) (a1:List Int) (Q:(Ex Bool Unit)→Prop) n (st:St)=>∃ (v1:Int) (ex:_),Qb3 N a0 a1 n v1=some ex∧Q ex∧((st.n=26∧st.t 0=.isl 37 1 (a0.map e37)∧st.t 1=.isl 37 1 (a1.map e37)∧st.t 5=.v (.int .i64 v1)))
theorem g4:(∀ N (a0:TTable),OK (Qbl N a0) 18 [.agg (e32 a0)] [] (fun r=>.v (.bool r)) fun r=>[])∧(∀ N (a0:TWorld) (a1:Int),OK (QeR N a0 a1) 126 [.agg (e36 a0),.v (.int .u64 a1)] [] (fun r=>.v (.int .i64 r)) fun r=>[])∧(∀ N (a0:THeap) (a1:Int),OK (QgE N a0 a1) 294 [.agg (e42 a0),.v (.int .i64 a1)] [] (fun r=>.v (.int .i64 r)) fun r=>[])∧(∀ N (a0:List TPage),OK (QgH N a0) 292 [.isl 306 4 (a0.map e306)] [] (fun r=>.isl 359 2 (r.map e359)) fun r=>[])∧(∀ N (a0:List TPage),OK (QfZ N a0) 286 [.isl 306 4 (a0.map e306)] [] (fun r=>.v (.int .i64 r)) fun r=>[])∧(∀ N (a0:List Int) (a1:Int),OK (Qb2 N a0 a1) 199 [.isl 37 1 (a0.map e37),.v (.int .u64 a1)] [] (fun r=>.v (.int .i64 r)) fun r=>[])∧(∀ N (a0:List Int) (a1:List Int),OK (Qe5 N a0 a1) 17 [.isl 37 1 (a0.map e37),.isl 37 1 (a1.map e37)] [] (fun r=>.v (.bool r)) fun r=>[]):=by
 refine ⟨fun N _=>rn Tryz.f18 [.tmp 2] [] 39 (by kernel_rfl) ?_,fun N _ _=>rn Tryz.f126 [.tmp 4] [] 22 (by kernel_rfl) ?_,fun N _ _=>rn Tryz.f294 [.tmp 4] [] 15 (by kernel_rfl) ?_,fun N _=>rn Tryz.f292 [.tmp 2] [] 54 (by kernel_rfl) ?_,fun N _=>rn Tryz.f286 [.tmp 2] [] 20 (by kernel_rfl) ?_,fun N _ _=>rn Tryz.f199 [.tmp 4] [] 19 (by kernel_rfl) ?_,fun N _ _=>rn Tryz.f17 [.tmp 4] [] 26 (by kernel_rfl) ?_⟩<;>(rintro _ hw r hr C _ rfl hwf hf;simp only[Tryz.f18,Tryz.f126,Tryz.f294,Tryz.f292,Tryz.f286,Tryz.f199,Tryz.f17,Option.get!];(first|rw[Qbl] at hr|rw[QeR] at hr|rw[QgE] at hr|rw[QgH] at hr|rw[QfZ] at hr|rw[Qb2] at hr|rw[Qe5] at hr);repeat' first
 |(refine El.el hr ?_;intro hr)
 |(with_reducible intro h;refine bc_e hr h ?_;intro hr)
 |with_reducible intro _
 |(refine some_e hr ?_;rintro rfl;have hr:=hk;clear hk)
 |simp only[go_sem,simprocAttr,E,hl37,hl96,hl132,hl306,hl359]
 |(with_reducible first|apply guard_of_f|apply guard_of_t|apply cond_of|apply doT_of_t|apply doT_of_f)
 |((first|with_reducible refine idx_s hr (by assumption) ?_ ?_|(with_reducible refine idx_e hr ?_ ?_;rotate_left;intro p;rotate_right));(·simp only[go_sem,simprocAttr]);intro hp hn hd hr;(try have hl37:=hd _ e37);(try simp only[go_sem,simprocAttr] at hl37);(try have hl96:=hd _ e96);(try simp only[go_sem,simprocAttr] at hl96);(try have hl132:=hd _ e132);(try simp only[go_sem,simprocAttr] at hl132);(try have hl306:=hd _ e306);(try simp only[go_sem,simprocAttr] at hl306);(try have hl359:=hd _ e359);(try simp only[go_sem,simprocAttr] at hl359))
 |(refine and_of' ?_ ?_;·first|assumption|omega)
 |(with_reducible refine loop_e (I:=Qio N _) hr 1000 N (fun ex hq hk=>⟨_,ex,hq,hk,?_⟩) ?_ _;rotate_left;clear hr;(try clear E);rintro n1 st ⟨v1,ex,hr,hk,⟨_,E⟩⟩<;>(obtain _|n1:=n1<;>rw[Qb5] at hr))
 |refine ⟨_,Nat.lt_succ_self _,_,_,hr,hk,?_⟩
 |(with_reducible refine loop_e (I:=Qi2 N _ _) hr 1000 N (fun ex hq hk=>⟨_,ex,hq,hk,?_⟩) ?_ _;rotate_left;clear hr;(try clear E);rintro n1 st ⟨v1,ex,hr,hk,⟨_,E⟩⟩<;>(obtain _|n1:=n1<;>rw[Qea] at hr))
 |(with_reducible refine loop_e (I:=Qi3 N _) hr 1000 N (fun ex hq hk=>⟨_,ex,hq,hk,?_⟩) ?_ _;rotate_left;clear hr;(try clear E);rintro n1 st ⟨v1,ex,hr,hk,⟨_,E⟩⟩<;>(obtain _|n1:=n1<;>rw[Qeb] at hr))
 |(with_reducible refine loop_e (I:=Qi4 N _) hr 1000 N (fun ex hq hk=>⟨_,_,ex,hq,hk,?_⟩) ?_ _;rotate_left;clear hr;(try clear E);rintro n1 st ⟨v1,v2,ex,hr,hk,(⟨_,E⟩|⟨E,z0⟩)⟩<;>(try subst z0)<;>(obtain _|n1:=n1<;>rw[Qb1] at hr))
 |refine ⟨_,Nat.lt_succ_self _,_,_,_,hr,hk,?_⟩
 |(with_reducible refine loop_e (I:=Qip N _) hr 1000 N (fun ex hq hk=>⟨_,_,ex,hq,hk,?_⟩) ?_ _;rotate_left;clear hr;(try clear E);rintro n1 st ⟨v1,v2,ex,hr,hk,E⟩<;>(obtain _|n1:=n1<;>rw[QcH] at hr))
 |(with_reducible refine loop_e (I:=Qgc N _ _) hr 1000 N (fun ex hq hk=>⟨_,ex,hq,hk,?_⟩) ?_ _;rotate_left;clear hr;(try clear E);rintro n1 st ⟨v1,ex,hr,hk,E⟩<;>(obtain _|n1:=n1<;>rw[QaL] at hr))
 |(with_reducible refine loop_e (I:=Qi5 N _ _) hr 1000 N (fun ex hq hk=>⟨_,ex,hq,hk,?_⟩) ?_ _;rotate_left;clear hr;(try clear E);rintro n1 st ⟨v1,ex,hr,hk,E⟩<;>(obtain _|n1:=n1<;>rw[Qb3] at hr))
 |refine db 292 7 hf [([],[],[],[]),([0],[],[],[]),([0,1],[],[],[]),([0,1,2],[],[24,25,29,30,31,32,33,34,36],[]),([0,1,2],[],[23,29,30,31,32,33,34,36],[]),([0,1,2,4],[],[23,29,30,31,32,33,34,36],[]),([0,1,2,3,4,5],[],[29,30,31,32,33,34,36],[]),([0,1,2,3,4,5,6],[],[29,30,31,32,33,34,36],[]),([0,1,2,3,4,5,6,7],[],[29,30,31,32,33,34,36],[]),([0,1,2],[],[23,24,25,26,27,28,30,31,36],[]),([0,1,2],[],[23,24,25,26,27,28,29,36],[]),([0,1,2,10],[],[23,24,25,26,27,28,29,36],[]),([0,1,2,9,10,11],[],[23,24,25,26,27,28,36],[]),([0,1,2,9,10,11,12],[],[23,24,25,26,27,28,36],[]),([0,1,2,9,10,11,12,13],[],[23,24,25,26,27,28,36],[]),([0,1,2,3,4,5,6,7,8,9,10,11,12,13,14],[],[36],[]),([0,1,2],[],[23,24,25,26,27,28,29,30,31,32,33,34,35],[]),([0,1,2,3,4,5,6,7,8,9,10,11,12,13,14,15,16],[],[],[]),([0,1,2,3,4,5,6,7,8,9,10,11,12,13,14,15,16,17],[],[],[])] rfl rfl (by kernel_rfl) ?_ _
 |refine db 17 6 hf [([],[],[18,21,22,23,24],[]),([],[],[17,21,22,23,24],[]),([0,1],[],[21,22,23,24],[]),([0,1,2],[],[21,22,23,24],[]),([],[],[17,18,19,20,22],[]),([],[],[17,18,19,20,21],[]),([4,5],[],[17,18,19,20],[]),([4,5,6],[],[17,18,19,20],[]),([0,1,2,3,4,5,6,7],[],[],[])] rfl rfl (by kernel_rfl) ?_ _
 |(refine some_e hr ?_;rintro rfl;with_reducible refine ret_k ?_)
 |exact no_e hr
 |((first|refine bc_e (c:=true) hr rfl ?_|refine bc_e (c:=false) hr rfl ?_|refine bc_e hr (by assumption) ?_);intro hr)
 |fail)
@[reducible,instance] def Qmf:=g4.1
@[reducible,instance] def Qm5:=g4.2.1
@[reducible,instance] def Qm6:=g4.2.2.1
@[reducible,instance] def Qm7:=g4.2.2.2.1
@[reducible,instance] def Qmg:=g4.2.2.2.2.1
@[reducible,instance] def Qjw:=g4.2.2.2.2.2.1
@[reducible,instance] def Qm8:=g4.2.2.2.2.2.2
theorem g2:(∀ N (a0:TConf),OK (Qat N a0) 56 [.agg (e23 a0)] [] (fun r=>.v (.bool r)) fun r=>[])∧(∀ N (a0:TLocals) (a1:Int),OK (QgL N a0 a1) 191 [.agg (e29 a0),.v (.int .i64 a1)] [] (fun r=>.v (.int .i64 r)) fun r=>[])∧(∀ N (a0:TLocals) (a1:Int),OK (Qf7 N a0 a1) 111 [.agg (e29 a0),.v (.int .i64 a1)] [] (fun r=>.agg (e29 r)) fun r=>[])∧(∀ N (a0:TEnv) (a1:TEnv) (a2:Int) (a3:Int) (a4:Int),OK (Qdg N a0 a1 a2 a3 a4) 27 [.agg (e45 a0),.agg (e45 a1),.v (.int .i64 a2),.v (.int .u64 a3),.v (.int .i64 a4)] [] (fun r=>.agg (e39 r)) fun r=>[])∧(∀ N (a0:THeap) (a1:Int) (a2:Int),OK (Qf2 N a0 a1 a2) 297 [.agg (e42 a0),.v (.int .i64 a1),.v (.int .i64 a2)] [] (fun r=>.v (.int .u64 r)) fun r=>[])∧(∀ N (a0:Int),OK (Qdj N a0) 270 [.v (.int .u64 a0)] [] (fun r=>.tup [.v (.int .u64 r.1),.v (.int .i64 r.2)]) fun r=>[])∧(∀ N (a1:Int),OK (QaX N a1) 119 [.nsl,.v (.int .i64 a1)] [] (fun r=>.fsl 37 1 (r.map e37)) fun r=>[])∧(∀ N (a0:TEntry),OK (Qfc N a0) 198 [.agg (e132 a0)] [] (fun r=>.v (.bool r)) fun r=>[])∧(∀ N (a0:TMark) (a1:Int),OK (Qfv N a0 a1) 182 [.agg (e116 a0),.ept 1000000 0 1 0 0] [.arr true 37 1 [[.v (.int .u64 a1)]] 0] (fun r=>.v (.bool r)) fun r=>[.arr true 37 1 [[.v (.int .u64 a1)]] 0]):=by
 refine ⟨fun N _=>rn Tryz.f56 [.tmp 2] [] 27 (by kernel_rfl) ?_,fun N _ _=>rn Tryz.f191 [.tmp 4] [] 21 (by kernel_rfl) ?_,fun N _ _=>rn Tryz.f111 [.cell 4 29] [] 25 (by kernel_rfl) ?_,fun N _ _ _ _ _=>rn Tryz.f27 [.cell 10 39] [] 44 (by kernel_rfl) ?_,fun N _ _ _=>rn Tryz.f297 [.tmp 6] [] 16 (by kernel_rfl) ?_,fun N _=>rn Tryz.f270 [.tmp 2,.tmp 3] [] 9 (by kernel_rfl) ?_,fun N _=>rn Tryz.f119 [.tmp 4] [1408] 27 (by kernel_rfl) ?_,fun N _=>rn Tryz.f198 [.tmp 2] [] 21 (by kernel_rfl) ?_,fun N _ _=>rn Tryz.f182 [.tmp 3] [] 8 (by kernel_rfl) ?_⟩<;>(rintro _ hw r hr C _ rfl hwf hf;simp only[Tryz.f56,Tryz.f191,Tryz.f111,Tryz.f27,Tryz.f297,Tryz.f270,Tryz.f119,Tryz.f198,Tryz.f182,Option.get!];(first|rw[Qat] at hr|rw[QgL] at hr|rw[Qf7] at hr|rw[Qdg] at hr|rw[Qf2] at hr|rw[Qdj] at hr|rw[QaX] at hr|rw[Qfc] at hr|rw[Qfv] at hr);repeat' first
 |(refine El.el hr ?_;intro hr)
 |(with_reducible intro h;refine bc_e hr h ?_;intro hr)
 |with_reducible intro _
 |simp only[go_sem,simprocAttr,hl159,List.length_take,List.length_drop,Nat.min_self]
 |(with_reducible first|apply guard_of_f|apply guard_of_t|apply cond_of|apply doT_of_t|apply doT_of_f)
 |((first|with_reducible refine idx_s hr (by assumption) ?_ ?_|(with_reducible refine idx_e hr ?_ ?_;rotate_left;intro p;rotate_right));(·simp only[go_sem,simprocAttr,List.length_take,List.length_drop,Nat.min_self]);intro hp hn hd hr;(try have hl159:=hd _ e159);(try simp only[go_sem,simprocAttr] at hl159))
 |(refine and_of' ?_ ?_;·first|assumption|omega)
 |refine db 111 1 hf [([],[320],[6,7,8,9,10,11,12,13,14],[]),([],[],[5,8,9,10,11,12,13],[320]),([1],[],[5,8,9,10,11,12,13],[320]),([],[],[5,6,7,10],[320]),([3],[],[5,6,7,10],[320]),([],[],[5,6,7,8,9],[320]),([3,4,5],[],[5,6,7],[320]),([3,4,5,6],[],[5,6,7],[320]),([3,4,5,6,7],[],[5,6,7],[320]),([1,2,3,4,5,6,7,8],[],[5],[320]),([0,1,2,3,4,5,6,7,8,9],[320],[],[]),([0,1,2,3,4,5,6,7,8,9,10],[],[],[]),([0,1,2,3,4,5,6,7,8,9,10,11],[128],[],[])] rfl rfl (by kernel_rfl) ?_ _
 |(refine some_e hr ?_;rintro rfl;with_reducible refine ret_k ?_)
 |exact no_e hr
 |fail)
@[reducible,instance] def Qkn:=g2.1
@[reducible,instance] def Qob:=g2.2.1
@[reducible,instance] def QnM:=g2.2.2.1
@[reducible,instance] def Qk6:=g2.2.2.2.1
@[reducible,instance] def Qk7:=g2.2.2.2.2.1
@[reducible,instance] def Qk8:=g2.2.2.2.2.2.1
@[reducible,instance] def QiM:=g2.2.2.2.2.2.2.1
@[reducible,instance] def Qk9:=g2.2.2.2.2.2.2.2.1
@[reducible,instance] def Qko:=g2.2.2.2.2.2.2.2.2
theorem g1:(∀ N (a0:TTape) (a1:Int),OK (Qae N a0 a1) 35 [.ept 1000000 0 2 0 0,.v (.int .i64 a1)] [.arr true 51 2 [[.isl 3 1 (a0.L.map e3),.v (.int .i64 a0.at_)]] 0] (fun r=>.v (.int .i64 r.1)) fun r=>[.arr true 51 2 [[.isl 3 1 (r.2.L.map e3),.v (.int .i64 r.2.at_)]] 0])∧(∀ N (a0:THeader),OK (Qcb N a0) 124 [.agg (e75 a0)] [] (fun r=>.v (.bool r)) fun r=>[])∧(∀ N (a0:THandle),OK (QfV N a0) 189 [.agg (e193 a0)] [] (fun r=>.v (.bool r)) fun r=>[])∧(∀ N (a0:TTable) (a1:Int) (a2:TEntry),OK (Qf8 N a0 a1 a2) 190 [.agg (e32 a0),.v (.int .i64 a1),.agg (e132 a2)] [] (fun r=>.agg (e32 r)) fun r=>[])∧(∀ N (a0:List Int) (a1:Int) (a2:Int),OK (QeU N a0 a1 a2) 274 [.isl 37 1 (a0.map e37),.v (.int .u64 a1),.v (.int .i64 a2)] [] (fun r=>.tup [.v (.int .i64 r.1),.v (.bool r.2)]) fun r=>[])∧(∀ N (a0:TWork) (a1:Int),OK (Qej N a0 a1) 266 [.agg (e265 a0),.v (.int .u64 a1)] [] (fun r=>.agg (e265 r)) fun r=>[])∧(∀ N (a0:TConf),OK (QbK N a0) 55 [.agg (e23 a0)] [] (fun r=>.v (.bool r)) fun r=>[])∧(∀ N (a0:Int),OK (Qfb N a0) 193 [.v (.int .i64 a0)] [] (fun r=>.v (.bool r)) fun r=>[])∧(∀ N (a0:TMark) (a1:Int),OK (Qdt N a0 a1) 225 [.agg (e116 a0),.ept 1000000 0 1 0 0] [.arr true 37 1 [[.v (.int .u64 a1)]] 0] (fun r=>.v (.bool r)) fun r=>[.arr true 37 1 [[.v (.int .u64 a1)]] 0]):=by
 refine ⟨fun N _ _=>rn Tryz.f35 [.tmp 4] [] 48 (by kernel_rfl) ?_,fun N _=>rn Tryz.f124 [.tmp 2] [] 40 (by kernel_rfl) ?_,fun N _=>rn Tryz.f189 [.tmp 2] [] 31 (by kernel_rfl) ?_,fun N _ _ _=>rn Tryz.f190 [.cell 6 32] [] 18 (by kernel_rfl) ?_,fun N _ _ _=>rn Tryz.f274 [.tmp 6,.tmp 7] [] 29 (by kernel_rfl) ?_,fun N _ _=>rn Tryz.f266 [.cell 4 265] [] 20 (by kernel_rfl) ?_,fun N _=>rn Tryz.f55 [.tmp 2] [] 27 (by kernel_rfl) ?_,fun N _=>rn Tryz.f193 [.tmp 2] [] 9 (by kernel_rfl) ?_,fun N _ _=>rn Tryz.f225 [.tmp 3] [] 8 (by kernel_rfl) ?_⟩<;>(rintro _ hw r hr C _ rfl hwf hf;simp only[Tryz.f35,Tryz.f124,Tryz.f189,Tryz.f190,Tryz.f274,Tryz.f266,Tryz.f55,Tryz.f193,Tryz.f225,Option.get!];(first|rw[Qae] at hr|rw[Qcb] at hr|rw[QfV] at hr|rw[Qf8] at hr|rw[QeU] at hr|rw[Qej] at hr|rw[QbK] at hr|rw[Qfb] at hr|rw[Qdt] at hr);repeat' first
 |(refine El.el hr ?_;intro hr)
 |(with_reducible intro h;refine bc_e hr h ?_;intro hr)
 |with_reducible intro _
 |simp only[go_sem,simprocAttr,hl3,hl132]
 |(with_reducible first|apply guard_of_f|apply guard_of_t|apply cond_of|apply doT_of_t|apply doT_of_f)
 |((first|with_reducible refine idx_s hr (by assumption) ?_ ?_|(with_reducible refine idx_e hr ?_ ?_;rotate_left;intro p;rotate_right));(·simp only[go_sem,simprocAttr]);intro hp hn hd hr;(try have hl3:=hd _ e3);(try simp only[go_sem,simprocAttr] at hl3);(try have hl132:=hd _ e132);(try simp only[go_sem,simprocAttr] at hl132))
 |(refine and_of' ?_ ?_;·first|assumption|omega)
 |refine db 35 4 hf [([],[],[18,19,20,21,22],[]),([0],[],[18,19,20,21,22],[]),([0,1],[],[18,19,20,21,22],[]),([0,1,2],[],[18,19,20,21,22],[]),([],[],[14,15,16,17],[]),([4],[],[14,15,16,17],[]),([4,5],[],[14,15,16,17],[]),([4,5,6],[],[14,15,16,17],[]),([4,5,6,7],[],[14,15,16,17],[]),([0,1,2,3,4,5,6,7,8],[],[],[])] rfl rfl (by kernel_rfl) ?_ _
 |refine db 35 5 hf [([],[],[28,29,30,31],[]),([0],[],[28,29,30,31],[]),([0,1],[],[28,29,30,31],[]),([0,1,2],[],[28,29,30,31],[]),([],[],[24,25,26,27],[]),([4],[],[24,25,26,27],[]),([4,5],[],[24,25,26,27],[]),([4,5,6],[],[24,25,26,27],[]),([0,1,2,3,4,5,6,7],[],[],[]),([0,1,2,3,4,5,6,7,8],[],[],[]),([0,1,2,3,4,5,6,7,8,9],[],[],[])] rfl rfl (by kernel_rfl) ?_ _
 |(refine some_e hr ?_;rintro rfl;with_reducible refine ret_k ?_)
 |exact no_e hr
 |fail)
@[reducible,instance] def QkG:=g1.1
@[reducible,instance] def Qmh:=g1.2.1
@[reducible,instance] def Qmi:=g1.2.2.1
@[reducible,instance] def QnN:=g1.2.2.2.1
@[reducible,instance] def Qm9:=g1.2.2.2.2.1
@[reducible,instance] def Qna:=g1.2.2.2.2.2.1
@[reducible,instance] def QkH:=g1.2.2.2.2.2.2.1
@[reducible,instance] def Qla:=g1.2.2.2.2.2.2.2.1
@[reducible,instance] def Qj2:=g1.2.2.2.2.2.2.2.2
instance QhG:∀ N (a0:List TMark),OK (QaK N a0) 85 [.isl 116 3 (a0.map e116)] [] (fun r=>.fsl 116 3 (r.map e116)) fun r=>[]:=by
 refine fun N a0=>⟨fun G hw r hr=>?_⟩
 rw[QaK] at hr
 obtain rfl:=Option.some.inj hr
 obtain _|⟨x,l⟩:=a0
 refine acalls_empty fun a cap=>?_
 obtain _|a:=a
 all_goals
  refine acalls_of_run (fn:=Tryz.f85) (body:=(Tryz.f85.body).get!) (rs:=[.tmp 2]) 1000 [320] 8 (by kernel_rfl) (by kernel_rfl) (by kernel_rfl) (by kernel_rfl) (by kernel_rfl) (by simp) fun C _ hG hwf=>?_;subst hG;have hw2:=hwf;simp only[WfL,Wf,List.length_map,and_true,List.length_cons,bytes116,top47] at hw2;simp only[Tryz.f85,Option.get!]
  simp only[go_sem,simprocAttr]
  try refine ⟨by omega,?_⟩
  with_reducible refine ret_k ?_
  simp only[go_sem,simprocAttr]
instance Qiq:∀ N (a0:List TSlot),OK (QaF N a0) 170 [.isl 210 3 (a0.map e210)] [] (fun r=>.fsl 210 3 (r.map e210)) fun r=>[]:=by
 refine fun N a0=>⟨fun G hw r hr=>?_⟩
 rw[QaF] at hr
 obtain rfl:=Option.some.inj hr
 obtain _|⟨x,l⟩:=a0
 refine acalls_empty fun a cap=>?_
 obtain _|a:=a
 all_goals
  refine acalls_of_run (fn:=Tryz.f170) (body:=(Tryz.f170.body).get!) (rs:=[.tmp 2]) 1000 [320] 8 (by kernel_rfl) (by kernel_rfl) (by kernel_rfl) (by kernel_rfl) (by kernel_rfl) (by simp) fun C _ hG hwf=>?_;subst hG;have hw2:=hwf;simp only[WfL,Wf,List.length_map,and_true,List.length_cons,bytes210,top47] at hw2;simp only[Tryz.f170,Option.get!]
  simp only[go_sem,simprocAttr]
  try refine ⟨by omega,?_⟩
  with_reducible refine ret_k ?_
  simp only[go_sem,simprocAttr]
instance Qhu:∀ N (a0:List TThing),OK (QaB N a0) 81 [.isl 77 4 (a0.map e77)] [] (fun r=>.fsl 77 4 (r.map e77)) fun r=>[]:=by
 refine fun N a0=>⟨fun G hw r hr=>?_⟩
 rw[QaB] at hr
 obtain rfl:=Option.some.inj hr
 obtain _|⟨x,l⟩:=a0
 refine acalls_empty fun a cap=>?_
 obtain _|a:=a
 all_goals
  refine acalls_of_run (fn:=Tryz.f81) (body:=(Tryz.f81.body).get!) (rs:=[.tmp 2]) 1000 [320] 8 (by kernel_rfl) (by kernel_rfl) (by kernel_rfl) (by kernel_rfl) (by kernel_rfl) (by simp) fun C _ hG hwf=>?_;subst hG;have hw2:=hwf;simp only[WfL,Wf,List.length_map,and_true,List.length_cons,bytes77,top47] at hw2;simp only[Tryz.f81,Option.get!]
  simp only[go_sem,simprocAttr]
  try refine ⟨by omega,?_⟩
  with_reducible refine ret_k ?_
  simp only[go_sem,simprocAttr]
instance Qj3:∀ N (a0:List Int),OK (QbN N a0) 172 [.isl 3 1 (a0.map e3)] [] (fun r=>.fsl 3 1 (r.map e3)) fun r=>[]:=by
 refine fun N a0=>⟨fun G hw r hr=>?_⟩
 rw[QbN] at hr
 obtain rfl:=Option.some.inj hr
 obtain _|⟨x,l⟩:=a0
 refine acalls_empty fun a cap=>?_
 obtain _|a:=a
 all_goals
  refine acalls_of_run (fn:=Tryz.f172) (body:=(Tryz.f172.body).get!) (rs:=[.tmp 2]) 1000 [320] 8 (by kernel_rfl) (by kernel_rfl) (by kernel_rfl) (by kernel_rfl) (by kernel_rfl) (by simp) fun C _ hG hwf=>?_;subst hG;have hw2:=hwf;simp only[WfL,Wf,List.length_map,and_true,List.length_cons,bytes3,top47] at hw2;simp only[Tryz.f172,Option.get!]
  simp only[go_sem,simprocAttr]
  try refine ⟨by omega,?_⟩
  with_reducible refine ret_k ?_
  simp only[go_sem,simprocAttr]
instance QhT:∀ N (a0:List TEntry),OK (Qaq N a0) 173 [.isl 132 3 (a0.map e132)] [] (fun r=>.fsl 132 3 (r.map e132)) fun r=>[]:=by
 refine fun N a0=>⟨fun G hw r hr=>?_⟩
 rw[Qaq] at hr
 obtain rfl:=Option.some.inj hr
 obtain _|⟨x,l⟩:=a0
 refine acalls_empty fun a cap=>?_
 obtain _|a:=a
 all_goals
  refine acalls_of_run (fn:=Tryz.f173) (body:=(Tryz.f173.body).get!) (rs:=[.tmp 2]) 1000 [320] 8 (by kernel_rfl) (by kernel_rfl) (by kernel_rfl) (by kernel_rfl) (by kernel_rfl) (by simp) fun C _ hG hwf=>?_;subst hG;have hw2:=hwf;simp only[WfL,Wf,List.length_map,and_true,List.length_cons,bytes132,top47] at hw2;simp only[Tryz.f173,Option.get!]
  simp only[go_sem,simprocAttr]
  try refine ⟨by omega,?_⟩
  with_reducible refine ret_k ?_
  simp only[go_sem,simprocAttr]
instance QhU:∀ N (a0:List TScope),OK (Qay N a0) 171 [.isl 159 3 (a0.map e159)] [] (fun r=>.fsl 159 3 (r.map e159)) fun r=>[]:=by
 refine fun N a0=>⟨fun G hw r hr=>?_⟩
 rw[Qay] at hr
 obtain rfl:=Option.some.inj hr
 obtain _|⟨x,l⟩:=a0
 refine acalls_empty fun a cap=>?_
 obtain _|a:=a
 all_goals
  refine acalls_of_run (fn:=Tryz.f171) (body:=(Tryz.f171.body).get!) (rs:=[.tmp 2]) 1000 [320] 8 (by kernel_rfl) (by kernel_rfl) (by kernel_rfl) (by kernel_rfl) (by kernel_rfl) (by simp) fun C _ hG hwf=>?_;subst hG;have hw2:=hwf;simp only[WfL,Wf,List.length_map,and_true,List.length_cons,bytes159,top47] at hw2;simp only[Tryz.f171,Option.get!]
  simp only[go_sem,simprocAttr]
  try refine ⟨by omega,?_⟩
  with_reducible refine ret_k ?_
  simp only[go_sem,simprocAttr]
end Go.Sx
