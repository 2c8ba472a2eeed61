import Derived.Test.YtgdhlnfcogcicaaGreatDoorSF
import Derived.Test.YtgdhlnfcogcicaaGreatDoorSG5
import Derived.Test.YtgdhlnfcogcicaaGreatDoorSG6
import Derived.Test.YtgdhlnfcogcicaaGreatDoorSG7
import Derived.Test.YtgdhlnfcogcicaaGreatDoorSG9
import Derived.Test.YtgdhlnfcogcicaaGreatDoorSG10
import Derived.Test.YtgdhlnfcogcicaaGreatDoorSG11
import Derived.Test.YtgdhlnfcogcicaaGreatDoorSG12
import Derived.Test.YtgdhlnfcogcicaaGreatDoorSG13
set_option linter.all false
namespace Go.Sx
open Go.Proofs
set_option maxRecDepth 10000
set_option maxHeartbeats 100000000
abbrev Qg6:=fun N (a0:TWorld) (y2:List Bool) (Q:(List Int)→Prop) n (st:St)=>∃ (v4:Int) (v5:List Int) (ex:_),Qal N a0 y2 n v4 v5=some ex∧Q ex∧((∃ w960 w64 w128,st.n=50∧st.s 960=some (w960,.arr false 37 1 (v5.map e37) 0)∧st.t 1=.ept 64 w64 10 0 0∧st.t 2=.ept 128 w128 10 0 0∧st.t 4=.isl 4 1 (y2.map e4)∧st.t 5=.osl 960 w960 1 0 v5.length∧st.t 6=.v (.int .i64 v4)∧st.s 64=some (w64,.arr true 36 10 [e36 a0] 0)∧st.s 128=some (w128,.arr true 36 10 [[.v (.int .i64 0),.v (.int .i64 0),.nsl,.nsl,.nsl,.nsl,.nsl,.nsl,.nsl,.nsl]] 0)))
abbrev QiK:=fun N (a0:THeap) (a1:Int) (p2:TPage) (Q:(Ex (List Int × Int) (List Int))→Prop) n (st:St)=>∃ (v3:Int) (v4:List Int) (ex:_),Qbp N a0 a1 p2 n v3 v4=some ex∧Q ex∧((∃ w3904 w128 w384,st.n=70∧st.s 3904=some (w3904,.arr false 37 1 (v4.map e37) 0)∧st.t 1=.v (.int .i64 a1)∧st.t 2=.ept 128 w128 6 0 0∧st.t 6=.ept 384 w384 4 0 0∧st.t 7=.osl 3904 w3904 1 0 v4.length∧st.t 8=.v (.int .i64 v3)∧st.s 128=some (w128,.arr true 42 6 [e42 a0] 0)∧st.s 384=some (w384,.arr true 306 4 [e306 p2] 0))∨(∃ w128 w384,(st.n=70∧st.t 1=.v (.int .i64 a1)∧st.t 2=.ept 128 w128 6 0 0∧st.t 6=.ept 384 w384 4 0 0∧st.t 7=.nsl∧st.t 8=.v (.int .i64 v3)∧st.s 128=some (w128,.arr true 42 6 [e42 a0] 0)∧st.s 384=some (w384,.arr true 306 4 [e306 p2] 0))∧v4=[]))
abbrev Qh2:=fun N (a0:THeap) (a1:Int) (a2:List Int) (Q:(Ex Int Unit)→Prop) n (st:St)=>∃ (v1:Int) (ex:_),Qba N a0 a1 a2 n v1=some ex∧Q ex∧((∃ w192,st.n=61∧st.t 1=.v (.int .i64 a1)∧st.t 2=.isl 37 1 (a2.map e37)∧st.t 3=.ept 192 w192 6 0 0∧st.t 7=.v (.int .i64 v1)∧st.s 192=some (w192,.arr true 42 6 [e42 a0] 0)))
abbrev QiL:=fun N (a0:THeap) (a1:Int) (a2:List Int) (v1:Int) (x6:Int) (Q:(List Bool)→Prop) n (st:St)=>∃ (v7:Int) (v8:List Bool) (ex:_),QbF N a0 a1 a2 v1 x6 n v7 v8=some ex∧Q ex∧((∃ w1088 w192,st.n=69∧st.s 1088=some (w1088,.arr false 4 1 (v8.map e4) 0)∧st.t 1=.v (.int .i64 a1)∧st.t 2=.isl 37 1 (a2.map e37)∧st.t 3=.ept 192 w192 6 0 0∧st.t 7=.osl 1088 w1088 1 0 v8.length∧st.t 8=.v (.int .i64 v1)∧st.t 11=.v (.int .i64 x6)∧st.t 12=.v (.int .i64 v7)∧st.s 192=some (w192,.arr true 42 6 [e42 a0] 0)))
abbrev QiM:=fun N (a0:THeap) (a1:Int) (a2:List Int) (Q:(List Bool)→Prop) n (st:St)=>∃ (v1:Int) (v2:List Bool) (ex:_),QcH N a0 a1 a2 n v1 v2=some ex∧Q ex∧((∃ w1088 w192,st.n=69∧st.s 1088=some (w1088,.arr false 4 1 (v2.map e4) 0)∧st.t 1=.v (.int .i64 a1)∧st.t 2=.isl 37 1 (a2.map e37)∧st.t 3=.ept 192 w192 6 0 0∧st.t 7=.osl 1088 w1088 1 0 v2.length∧st.t 8=.v (.int .i64 v1)∧st.s 192=some (w192,.arr true 42 6 [e42 a0] 0)))
abbrev Qi5:=fun N (Q:(TWork × Int)→Prop) n (st:St)=>∃ (v1:Int) (v2:Int) (v3:List Int) (v4:List TPage) (v5:Int) (v6:Int) (v7:List Int) (v8:List Int) (v9:List Int) (v10:Int) (v11:Int) (v12:Int) (v13:Int) (v14:Int) (v15:Int) (v16:Int) (ex:_),QbB N n v1 v2 v3 v4 v5 v6 v7 v8 v9 v10 v11 v12 v13 v14 v15 v16=some ex∧Q ex∧((∃ w64 w128,st.n=21∧st.t 1=.ept 64 w64 16 0 0∧st.t 2=.ept 128 w128 16 0 0∧st.s 64=some (w64,.arr true 265 16 [[.v (.int .i64 v1),.v (.int .i64 v2),.isl 37 1 (v3.map e37),.isl 306 4 (v4.map e306),.v (.int .i64 v5),.v (.int .i64 v6),.isl 37 1 (v7.map e37),.isl 3 1 (v8.map e3),.isl 37 1 (v9.map e37),.v (.int .i64 v10),.v (.int .i64 v11),.v (.int .i64 v12),.v (.int .i64 v13),.v (.int .i64 v14),.v (.int .i64 v15),.v (.int .i64 v16)]] 0)∧st.s 128=some (w128,.arr true 265 16 [[.v (.int .i64 0),.v (.int .i64 0),.nsl,.nsl,.v (.int .i64 0),.v (.int .i64 0),.nsl,.nsl,.nsl,.v (.int .i64 0),.v (.int .i64 0),.v (.int .i64 0),.v (.int .i64 0),.v (.int .i64 0),.v (.int .i64 0),.v (.int .i64 0)]] 0)))
abbrev QeE:=fun N (a0:List Int) (c0:TWorld) (c1:TThing) (Q:(Ex Int Unit)→Prop) n (st:St)=>∃ (v1:Int) (ex:_),Qaj N a0 c0 c1 n v1=some ex∧Q ex∧((st.n=19∧st.t 0=.isl 3 1 (a0.map e3)∧st.t 1=.clo (.func 201) [] [.ept 1000000 0 10 0 0,.ept 1000001 0 4 0 0]∧st.t 7=.v (.int .i64 ((a0.length:Nat):Int))∧st.t 8=.v (.int .i64 v1)∧st.s 1000000=some (0,.arr true 61 10 [e61 c0] 0)∧st.s 1000001=some (0,.arr true 77 4 [e115 c1] 0)))
theorem g24:(∀ N (a0:TWorld),OK (Qa4 N a0) 24 [.agg (e36 a0)] [] (fun r=>.tup [.agg (e36 r.1),.v (.int .i64 r.2)]) fun r=>[])∧(∀ N (a0:THeap) (a1:Int),OK (QaJ N a0 a1) 281 [.agg (e42 a0),.v (.int .i64 a1)] [] (fun r=>.tup [.isl 37 1 (r.1.map e37),.v (.int .i64 r.2)]) fun r=>[])∧(∀ N (a0:THeap) (a1:Int) (a2:List Int),OK (Qex N a0 a1 a2) 288 [.agg (e42 a0),.v (.int .i64 a1),.isl 37 1 (a2.map e37)] [] (fun r=>.v (.int .u64 r)) fun r=>[])∧(∀ N (a0:THeap) (a1:Int) (a2:List Int),OK (QfT N a0 a1 a2) 295 [.agg (e42 a0),.v (.int .i64 a1),.isl 37 1 (a2.map e37)] [] (fun r=>.isl 4 1 (r.map e4)) fun r=>[])∧(∀ N (a0:TWork),OK (QeJ N a0) 210 [.agg (e265 a0)] [] (fun r=>.tup [.agg (e265 r.1),.v (.int .i64 r.2)]) fun r=>[])∧(∀ N (a0:List Int) (c0:TWorld) (c1:TThing),OK (Qa3 N a0 c0 c1) 235 [.isl 3 1 (a0.map e3),.clo (.func 201) [] [.ept 1000000 0 10 0 0,.ept 1000001 0 4 0 0]] [.arr true 61 10 [[.v (.int .i64 c0.Conf.PageWords),.v (.int .i64 c0.Conf.Pages),.isl 77 4 (c0.Things.map e77),.isl 210 3 (c0.Locals.Slots.map e210),.isl 159 3 (c0.Locals.Scopes.map e159),.isl 3 1 (c0.Locals.Issued.map e3),.isl 132 3 (c0.Globals.Entries.map e132),.isl 132 3 (c0.Weaks.Entries.map e132),.isl 116 3 (c0.Marks.map e116),.isl 37 1 (c0.Roots.map e37)]] 0,.arr true 77 4 [[.v (.int .i64 c1.Header.Kind),.v (.int .i64 c1.Header.Length),.v (.int .u32 c1.Header.Map),.isl 37 1 (c1.Fields.map e37)]] 0] (fun r=>.v (.int .i64 r)) fun r=>[.arr true 61 10 [[.v (.int .i64 c0.Conf.PageWords),.v (.int .i64 c0.Conf.Pages),.isl 77 4 (c0.Things.map e77),.isl 210 3 (c0.Locals.Slots.map e210),.isl 159 3 (c0.Locals.Scopes.map e159),.isl 3 1 (c0.Locals.Issued.map e3),.isl 132 3 (c0.Globals.Entries.map e132),.isl 132 3 (c0.Weaks.Entries.map e132),.isl 116 3 (c0.Marks.map e116),.isl 37 1 (c0.Roots.map e37)]] 0,.arr true 77 4 [[.v (.int .i64 c1.Header.Kind),.v (.int .i64 c1.Header.Length),.v (.int .u32 c1.Header.Map),.isl 37 1 (c1.Fields.map e37)]] 0]):=by
 refine ⟨fun N _=>rn Tryz.f24 [.cell 2 36,.tmp 3] [] 50 (by kernel_rfl) ?_,fun N _ _=>rn Tryz.f281 [.tmp 4,.tmp 5] [] 70 (by kernel_rfl) ?_,fun N _ _ _=>rn Tryz.f288 [.tmp 6] [] 61 (by kernel_rfl) ?_,fun N _ _ _=>rn Tryz.f295 [.tmp 6] [] 69 (by kernel_rfl) ?_,fun N _=>rn Tryz.f210 [.cell 2 265,.tmp 3] [] 21 (by kernel_rfl) ?_,fun N _ _ _=>rn Tryz.f235 [.tmp 4] [] 19 (by kernel_rfl) ?_⟩<;>(rintro _ hw r hr C _ rfl hwf hf;simp only[Tryz.f24,Tryz.f281,Tryz.f288,Tryz.f295,Tryz.f210,Tryz.f235,Option.get!];(first|rw[Qa4] at hr|rw[QaJ] at hr|rw[Qex] at hr|rw[QfT] at hr|rw[QeJ] at hr|rw[Qa3] at hr);repeat' first
 |(refine El.el hr ?_;intro hr)
 |(with_reducible intro h;refine bc_e hr h ?_;intro hr)
 |with_reducible intro _
 |(refine some_e hr ?_;rintro rfl;have hr:=hk;clear hk)
 |simp only[go_sem,simprocAttr,E,hl3,hl4,hl37,hl306]
 |(with_reducible first|apply guard_of_f|apply guard_of_t|apply cond_of|apply doT_of_t|apply doT_of_f)
 |((first|with_reducible refine idx_s hr (by assumption) ?_ ?_|(with_reducible refine idx_e hr ?_ ?_;rotate_left;intro p;rotate_right));(·simp only[go_sem,simprocAttr]);intro hp hn hd hr;(try have hl3:=hd _ e3);(try simp only[go_sem,simprocAttr] at hl3);(try have hl4:=hd _ e4);(try simp only[go_sem,simprocAttr] at hl4);(try have hl37:=hd _ e37);(try simp only[go_sem,simprocAttr] at hl37);(try have hl306:=hd _ e306);(try simp only[go_sem,simprocAttr] at hl306))
 |(refine and_of' ?_ ?_;·first|assumption|omega)
 |with_reducible refine CallX.c ?_ _
 |with_reducible refine OK.c hr hw ?_ (fun y hr=>?_) _
 |with_reducible refine OK.d hr hw ?_ (fun y hr=>?_) _
 |(with_reducible refine loop_e (I:=Qg6 N _ _) hr 1000 N (fun ex hq hk=>⟨_,_,ex,hq,hk,?_⟩) ?_ _;rotate_left;clear hr;(try clear E);rintro n1 st ⟨v4,v5,ex,hr,hk,⟨_,_,_,E⟩⟩<;>(obtain _|n1:=n1<;>rw[Qal] at hr))
 |refine ⟨_,Nat.lt_succ_self _,_,_,_,hr,hk,?_⟩
 |(with_reducible refine loop_e (I:=QiK N _ _ _) hr 1000 N (fun ex hq hk=>⟨_,_,ex,hq,hk,?_⟩) ?_ _;rotate_left;clear hr;(try clear E);rintro n1 st ⟨v3,v4,ex,hr,hk,(⟨_,_,_,E⟩|⟨_,_,E,z0⟩)⟩<;>(try subst z0)<;>(obtain _|n1:=n1<;>rw[Qbp] at hr))
 |(with_reducible refine loop_e (I:=Qh2 N _ _ _) hr 1000 N (fun ex hq hk=>⟨_,ex,hq,hk,?_⟩) ?_ _;rotate_left;clear hr;(try clear E);rintro n1 st ⟨v1,ex,hr,hk,⟨_,E⟩⟩<;>(obtain _|n1:=n1<;>rw[Qba] at hr))
 |refine ⟨_,Nat.lt_succ_self _,_,_,hr,hk,?_⟩
 |(with_reducible refine loop_e (I:=QiL N _ _ _ _ _) hr 1000 N (fun ex hq hk=>⟨_,_,ex,hq,hk,?_⟩) ?_ _;rotate_left;clear hr;(try clear E);rintro n1 st ⟨v7,v8,ex,hr,hk,⟨_,_,E⟩⟩<;>(obtain _|n1:=n1<;>rw[QbF] at hr))
 |(with_reducible refine loop_e (I:=QiM N _ _ _) hr 1000 N (fun ex hq hk=>⟨_,_,ex,hq,hk,?_⟩) ?_ _;rotate_left;clear hr;(try clear E);rintro n2 st ⟨v1,v2,ex,hr,hk,⟨_,_,E⟩⟩<;>(obtain _|n2:=n2<;>rw[QcH] at hr))
 |(with_reducible refine loop_e (I:=Qi5 N) hr 1000 N (fun ex hq hk=>⟨_,_,_,_,_,_,_,_,_,_,_,_,_,_,_,_,ex,hq,hk,?_⟩) ?_ _;rotate_left;clear hr;(try clear E);rintro n1 st ⟨v1,v2,v3,v4,v5,v6,v7,v8,v9,v10,v11,v12,v13,v14,v15,v16,ex,hr,hk,⟨_,_,E⟩⟩<;>(obtain _|n1:=n1<;>rw[QbB] at hr))
 |refine ⟨_,Nat.lt_succ_self _,_,_,_,_,_,_,_,_,_,_,_,_,_,_,_,_,_,hr,hk,?_⟩
 |(with_reducible refine loop_e (I:=QeE N _ _ _) hr 1000 N (fun ex hq hk=>⟨_,ex,hq,hk,?_⟩) ?_ _;rotate_left;clear hr;(try clear E);rintro n1 st ⟨v1,ex,hr,hk,E⟩<;>(obtain _|n1:=n1<;>rw[Qaj] at hr))
 |refine db 288 4 hf [([],[],[8,19,20,21,22],[512]),([],[],[8,18,20],[512]),([],[],[8,18,19],[512]),([1,2],[],[8,18],[512]),([1,2,3],[],[8,18],[512]),([0,1,2,3,4],[],[8],[512]),([0,1,2,3,4,5],[],[8],[512]),([0,1,2,3,4,5,6],[],[8,25],[512]),([0,1,2,3,4,5,6],[],[8,24],[512]),([],[512],[17,18,19,20,21,22,23,24,25],[]),([0,1,2,3,4,5,6,7,9],[512],[25],[]),([0,1,2,3,4,5,6,7,8,9,10],[],[],[])] rfl rfl (by kernel_rfl) ?_ _
 |refine db 288 5 hf [([],[],[28,29],[]),([0],[],[28,29],[]),([],[],[26,27],[]),([2],[],[26,27],[]),([0,1,2,3],[],[],[]),([0,1,2,3,4],[],[],[]),([0,1,2,3,4,5],[],[],[])] rfl rfl (by kernel_rfl) ?_ _
 |refine db 295 5 hf [([],[],[9,26,27,28,29],[576]),([],[],[9,25,27],[576]),([],[],[9,25,26],[576]),([1,2],[],[9,25],[576]),([1,2,3],[],[9,25],[576]),([0,1,2,3,4],[],[9],[576]),([0,1,2,3,4,5],[],[9],[576]),([0,1,2,3,4,5,6],[],[9,32],[576]),([0,1,2,3,4,5,6],[],[9,31],[576]),([],[576],[24,25,26,27,28,29,30,31,32],[]),([0,1,2,3,4,5,6,7,9],[576],[32],[]),([0,1,2,3,4,5,6,7,8,9,10],[],[],[])] rfl rfl (by kernel_rfl) ?_ _
 |refine db 295 12 hf [([],[],[44,49,51,52,53,54,55],[]),([],[],[43,49,51,52,53,54,55],[]),([0,1],[],[49,51,52,53,54,55],[]),([0,1,2],[],[49,51,52,53,54,55],[]),([0,1,2,3],[],[49,51,52,53,54,55],[]),([0,1,2,3,4],[],[49,51,52,53,54,55],[]),([],[],[43,44,45,46,47,48,51,52,53,54,55],[]),([0,1,2,3,4,5,6],[],[51,52,53,54,55],[]),([],[],[43,44,45,46,47,48,49,50,52,53,54],[]),([],[],[43,44,45,46,47,48,49,50,51],[]),([9],[],[43,44,45,46,47,48,49,50,51],[]),([9,10],[],[43,44,45,46,47,48,49,50,51],[]),([8,9,10,11],[],[43,44,45,46,47,48,49,50],[]),([0,1,2,3,4,5,6,7,8,9,10,11,12],[],[],[]),([0,1,2,3,4,5,6,7,8,9,10,11,12,13],[],[],[])] rfl rfl (by kernel_rfl) ?_ _
 |(refine some_e hr ?_;rintro rfl;with_reducible refine ret_k ?_)
 |exact no_e hr
 |((first|refine bc_e (c:=true) hr rfl ?_|refine bc_e (c:=false) hr rfl ?_|refine bc_e hr (by assumption) ?_);intro hr)
 |fail)
@[reducible,instance] def Qkk:=g24.1
@[reducible,instance] def Qmr:=g24.2.1
@[reducible,instance] def Qlw:=g24.2.2.1
@[reducible,instance] def Qms:=g24.2.2.2.1
@[reducible,instance] def QmT:=g24.2.2.2.2.1
@[reducible,instance] def Qhl:=g24.2.2.2.2.2
theorem g23:(∀ N (a0:TWorld) (a1:Int),OK (Qc3 N a0 a1) 187 [.agg (e36 a0),.v (.int .u64 a1)] [] (fun r=>.tup [.v (.int .u64 r.1),.v (.int .i64 r.2)]) fun r=>[])∧(∀ N (a0:TWorld) (a1:Int) (a2:Int),OK (Qes N a0 a1 a2) 96 [.agg (e36 a0),.v (.int .i64 a1),.v (.int .u64 a2)] [] (fun r=>.v (.int .i64 r)) fun r=>[])∧(∀ N (a0:TWorld) (a1:Int) (a2:Int),OK (QeH N a0 a1 a2) 98 [.agg (e36 a0),.v (.int .i64 a1),.v (.int .u64 a2)] [] (fun r=>.v (.int .i64 r)) fun r=>[])∧(∀ N (a0:THeap) (a1:Int),OK (Qcx N a0 a1) 221 [.agg (e42 a0),.v (.int .u64 a1)] [] (fun r=>.tup [.agg (e75 r.1),.v (.int .i64 r.2)]) fun r=>[])∧(∀ N (a0:THeap) (a1:THeader),OK (Qea N a0 a1) 255 [.agg (e42 a0),.agg (e75 a1)] [] (fun r=>.tup [.agg (e42 r.1),.v (.int .u64 r.2.1),.v (.int .i64 r.2.2)]) fun r=>[])∧(∀ N (a0:TLocals) (a1:Int),OK (Qgr N a0 a1) 154 [.agg (e29 a0),.v (.int .u64 a1)] [] (fun r=>.v (.int .i64 r)) fun r=>[])∧(∀ N (a0:TTable) (a1:Int) (a2:Int),OK (Qgk N a0 a1 a2) 169 [.agg (e32 a0),.v (.int .i64 a1),.v (.int .i64 a2)] [] (fun r=>.tup [.v (.int .u64 r.1),.v (.int .i64 r.2)]) fun r=>[]):=by
 refine ⟨fun N _ _=>rn Tryz.f187 [.tmp 4,.tmp 5] [] 22 (by kernel_rfl) ?_,fun N _ _ _=>rn Tryz.f96 [.tmp 6] [] 36 (by kernel_rfl) ?_,fun N _ _ _=>rn Tryz.f98 [.tmp 6] [] 46 (by kernel_rfl) ?_,fun N _ _=>rn Tryz.f221 [.cell 4 75,.tmp 5] [] 31 (by kernel_rfl) ?_,fun N _ _=>rn Tryz.f255 [.cell 4 42,.tmp 5,.tmp 6] [] 58 (by kernel_rfl) ?_,fun N _ _=>rn Tryz.f154 [.tmp 4] [] 20 (by kernel_rfl) ?_,fun N _ _ _=>rn Tryz.f169 [.tmp 6,.tmp 7] [] 22 (by kernel_rfl) ?_⟩<;>(rintro _ hw r hr C _ rfl hwf hf;simp only[Tryz.f187,Tryz.f96,Tryz.f98,Tryz.f221,Tryz.f255,Tryz.f154,Tryz.f169,Option.get!];(first|rw[Qc3] at hr|rw[Qes] at hr|rw[QeH] at hr|rw[Qcx] at hr|rw[Qea] at hr|rw[Qgr] at hr|rw[Qgk] at hr);repeat' first
 |(refine El.el hr ?_;intro hr)
 |(with_reducible intro h;refine bc_e hr h ?_;intro hr)
 |with_reducible intro _
 |simp only[go_sem,simprocAttr,hl132]
 |(with_reducible first|apply guard_of_f|apply guard_of_t|apply cond_of)
 |((first|with_reducible refine idx_s hr (by assumption) ?_ ?_|(with_reducible refine idx_e hr ?_ ?_;rotate_left;intro p;rotate_right));(·simp only[go_sem,simprocAttr]);intro hp hn hd hr;(try have hl132:=hd _ e132);(try simp only[go_sem,simprocAttr] at hl132))
 |(refine and_of' ?_ ?_;·first|assumption|omega)
 |with_reducible refine CallX.c ?_ _
 |with_reducible refine OK.c hr hw ?_ (fun y hr=>?_) _
 |(refine some_e hr ?_;rintro rfl;with_reducible refine ret_k ?_)
 |exact no_e hr
 |fail)
@[reducible,instance] def Qlx:=g23.1
@[reducible,instance] def Qkl:=g23.2.1
@[reducible,instance] def QkP:=g23.2.2.1
@[reducible,instance] def QmU:=g23.2.2.2.1
@[reducible,instance] def QmV:=g23.2.2.2.2.1
@[reducible,instance] def Qly:=g23.2.2.2.2.2.1
@[reducible,instance] def QmW:=g23.2.2.2.2.2.2
end Go.Sx
