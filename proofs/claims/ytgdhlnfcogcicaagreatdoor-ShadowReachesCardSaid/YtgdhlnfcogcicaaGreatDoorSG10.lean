import Derived.Test.YtgdhlnfcogcicaaGreatDoorSF
import Derived.Test.YtgdhlnfcogcicaaGreatDoorSG0
import Derived.Test.YtgdhlnfcogcicaaGreatDoorSG1
import Derived.Test.YtgdhlnfcogcicaaGreatDoorSG2
import Derived.Test.YtgdhlnfcogcicaaGreatDoorSG3
import Derived.Test.YtgdhlnfcogcicaaGreatDoorSG4
import Derived.Test.YtgdhlnfcogcicaaGreatDoorSG5
import Derived.Test.YtgdhlnfcogcicaaGreatDoorSG6
import Derived.Test.YtgdhlnfcogcicaaGreatDoorSG7
import Derived.Test.YtgdhlnfcogcicaaGreatDoorSG8
import Derived.Test.YtgdhlnfcogcicaaGreatDoorSG9
set_option linter.all false
namespace Go.Sx
open Go.Proofs
set_option maxRecDepth 10000
set_option maxHeartbeats 100000000
abbrev QhX:=fun N (a0:TWorld) (Q:(Ex Bool Unit)→Prop) n (st:St)=>∃ (v5:Int) (ex:_),Qci N a0 n v5=some ex∧Q ex∧((∃ w64,st.n=154∧st.t 1=.ept 64 w64 10 0 0∧st.t 3=.v (.int .i64 v5)∧st.s 64=some (w64,.arr true 36 10 [e36 a0] 0)))
abbrev QhY:=fun N (a0:TWorld) (y11:List Int) (Q:(Ex Bool Unit)→Prop) n (st:St)=>∃ (v12:Int) (ex:_),Qcj N a0 y11 n v12=some ex∧Q ex∧((∃ w4928 w64,st.n=154∧st.s 4928=some (w4928,.arr false 37 1 (y11.map e37) 0)∧st.t 1=.ept 64 w64 10 0 0∧st.t 5=.osl 4928 w4928 1 0 y11.length∧st.t 6=.v (.int .i64 v12)∧st.s 64=some (w64,.arr true 36 10 [e36 a0] 0)))
abbrev QhZ:=fun N (a0:TWorld) (y11:List Int) (Q:(Ex Bool Unit)→Prop) n (st:St)=>∃ (v15:Int) (ex:_),Qck N a0 y11 n v15=some ex∧Q ex∧((∃ w4928 w64,st.n=154∧st.s 4928=some (w4928,.arr false 37 1 (y11.map e37) 0)∧st.t 1=.ept 64 w64 10 0 0∧st.t 5=.osl 4928 w4928 1 0 y11.length∧st.t 7=.v (.int .i64 v15)∧st.s 64=some (w64,.arr true 36 10 [e36 a0] 0)))
abbrev Qhi:=fun N (a0:TWorld) (Q:(List Int)→Prop) n (st:St)=>∃ (v3:Int) (v4:List Int) (ex:_),Qbw N a0 n v3 v4=some ex∧Q ex∧((∃ w320 w64,st.n=35∧st.s 320=some (w320,.arr false 37 1 (v4.map e37) 0)∧st.t 1=.ept 64 w64 10 0 0∧st.t 3=.osl 320 w320 1 0 v4.length∧st.t 4=.v (.int .i64 v3)∧st.s 64=some (w64,.arr true 36 10 [e36 a0] 0)))
abbrev Qhj:=fun N (a0:THeap) (Q:(Ex Bool Unit)→Prop) n (st:St)=>∃ (v3:Int) (v4:Int) (ex:_),Qby N a0 n v3 v4=some ex∧Q ex∧((∃ w64,st.n=157∧st.t 1=.ept 64 w64 6 0 0∧st.t 3=.v (.int .i64 v3)∧st.t 4=.v (.int .i64 v4)∧st.s 64=some (w64,.arr true 42 6 [e42 a0] 0)))
abbrev Qg4:=fun N (a0:TWork) (a1:Int) (Q:(List TPage)→Prop) n (st:St)=>∃ (v10:Int) (v11:List TPage) (ex:_),Qcn N a0 a1 n v10 v11=some ex∧Q ex∧((∃ w5760 w128 w256,st.n=202∧st.s 5760=some (w5760,.arr false 306 4 (v11.map e306) 0)∧st.t 1=.v (.int .u64 a1)∧st.t 2=.ept 128 w128 16 0 0∧st.t 4=.ept 256 w256 16 0 0∧st.t 14=.v (.int .i64 v10)∧st.s 128=some (w128,.arr true 265 16 [[.v (.int .i64 a0.Heap.Conf.PageWords),.v (.int .i64 a0.Heap.Conf.Pages),.isl 37 1 (a0.Heap.Words.map e37),.osl 5760 w5760 4 0 v11.length,.v (.int .i64 a0.Heap.Space),.v (.int .i64 a0.Heap.Bump),.isl 37 1 (a0.Old.map e37),.isl 3 1 (a0.Taken.map e3),.isl 37 1 (a0.Queue.map e37),.v (.int .i64 a0.Scanned),.v (.int .i64 a0.Report.Copied),.v (.int .i64 a0.Report.Kept),.v (.int .i64 a0.Report.Filled),.v (.int .i64 a0.Report.Freed),.v (.int .i64 a0.Report.Cleared),.v (.int .i64 a0.Report.Steps)]] 0)∧st.s 256=some (w256,.arr true 265 16 [[.v (.int .i64 0),.v (.int .i64 0),.nsl,.nsl,.v (.int .i64 0),.v (.int .i64 0),.nsl,.nsl,.nsl,.v (.int .i64 0),.v (.int .i64 0),.v (.int .i64 0),.v (.int .i64 0),.v (.int .i64 0),.v (.int .i64 0),.v (.int .i64 0)]] 0)))
abbrev Qhk:=fun N (a0:TEnv) (Q:(List Int)→Prop) n (st:St)=>∃ (v3:Int) (v4:List Int) (ex:_),Qa1 N a0 n v3 v4=some ex∧Q ex∧((∃ w320 w64,st.n=35∧st.s 320=some (w320,.arr false 37 1 (v4.map e37) 0)∧st.t 1=.ept 64 w64 13 0 0∧st.t 3=.osl 320 w320 1 0 v4.length∧st.t 4=.v (.int .i64 v3)∧st.s 64=some (w64,.arr true 45 13 [e45 a0] 0)))
abbrev QiF:=fun N (a0:TLocals) (a1:List Int) (Q:(Ex (TLocals × Int) (List TSlot))→Prop) n (st:St)=>∃ (v3:Int) (v4:Int) (v5:List TSlot) (ex:_),Qa8 N a0 a1 n v3 v4 v5=some ex∧Q ex∧((∃ w1280 w128 w256,st.n=57∧st.s 1280=some (w1280,.arr false 210 3 (v5.map e210) 0)∧st.t 1=.isl 37 1 (a1.map e37)∧st.t 2=.ept 128 w128 3 0 0∧st.t 4=.ept 256 w256 3 0 0∧st.t 6=.v (.int .i64 v3)∧st.t 7=.v (.int .i64 v4)∧st.s 128=some (w128,.arr true 29 3 [[.osl 1280 w1280 3 0 v5.length,.isl 159 3 (a0.Scopes.map e159),.isl 3 1 (a0.Issued.map e3)]] 0)∧st.s 256=some (w256,.arr true 29 3 [[.nsl,.nsl,.nsl]] 0)))
abbrev Qh0:=fun N (a0:TLocals) (Q:(Ex Bool Unit)→Prop) n (st:St)=>∃ (v4:Int) (ex:_),Qcp N a0 n v4=some ex∧Q ex∧((∃ w192,st.n=41∧st.t 3=.ept 192 w192 3 0 0∧st.t 27=.isl 159 3 (a0.Scopes.map e159)∧st.t 28=.v (.int .i64 ((a0.Scopes.length:Nat):Int))∧st.t 29=.v (.int .i64 v4)∧st.s 192=some (w192,.arr true 255 3 [e29 a0] 0)))
abbrev QgD:=fun N (a0:THeader) (y1:Int) (Q:(List Int)→Prop) n (st:St)=>∃ (v2:Int) (v3:List Int) (ex:_),Qbk N a0 y1 n v2 v3=some ex∧Q ex∧((∃ w1024 w64,st.n=19∧st.s 1024=some (w1024,.arr false 3 1 (v3.map e3) 0)∧st.t 1=.ept 64 w64 3 0 0∧st.t 3=.osl 1024 w1024 1 0 v3.length∧st.t 6=.v (.int .i64 y1)∧st.t 7=.v (.int .i64 v2)∧st.s 64=some (w64,.arr true 75 3 [e75 a0] 0))∨(∃ w64,(st.n=19∧st.t 1=.ept 64 w64 3 0 0∧st.t 3=.nsl∧st.t 6=.v (.int .i64 y1)∧st.t 7=.v (.int .i64 v2)∧st.s 64=some (w64,.arr true 75 3 [e75 a0] 0))∧v3=[]))
theorem g19:(∀ N (a0:TWorld),OK (Qc1 N a0) 65 [.agg (e36 a0)] [] (fun r=>.v (.bool r)) fun r=>[])∧(∀ N (a0:TWorld),OK (Qdp N a0) 66 [.agg (e36 a0)] [] (fun r=>.fsl 37 1 (r.map e37)) fun r=>[])∧(∀ N (a0:THeap),OK (Qaw N a0) 207 [.agg (e42 a0)] [] (fun r=>.v (.bool r)) fun r=>[])∧(∀ N (a0:TWork) (a1:Int),OK (Qca N a0 a1) 246 [.agg (e265 a0),.v (.int .u64 a1)] [] (fun r=>.tup [.agg (e265 r.1),.v (.int .u64 r.2.1),.v (.int .i64 r.2.2)]) fun r=>[])∧(∀ N (a0:TEnv),OK (Qdt N a0) 132 [.agg (e45 a0)] [] (fun r=>.isl 37 1 (r.map e37)) fun r=>[])∧(∀ N (a0:TLocals) (a1:List Int),OK (Qek N a0 a1) 133 [.agg (e29 a0),.isl 37 1 (a1.map e37)] [] (fun r=>.tup [.agg (e29 r.1),.v (.int .i64 r.2)]) fun r=>[])∧(∀ N (a0:TLocals),OK (Qda N a0) 113 [.agg (e29 a0)] [] (fun r=>.v (.bool r)) fun r=>[])∧(∀ N (a0:THeader),OK (Qbg N a0) 64 [.agg (e75 a0)] [] (fun r=>.isl 3 1 (r.map e3)) fun r=>[]):=by
 refine ⟨fun N _=>rn Tryz.f65 [.tmp 2] [] 154 (by kernel_rfl) ?_,fun N _=>rn Tryz.f66 [.tmp 2] [320] 35 (by kernel_rfl) ?_,fun N _=>rn Tryz.f207 [.tmp 2] [] 157 (by kernel_rfl) ?_,fun N _ _=>rn Tryz.f246 [.cell 4 265,.tmp 5,.tmp 6] [] 202 (by kernel_rfl) ?_,fun N _=>rn Tryz.f132 [.tmp 2] [] 35 (by kernel_rfl) ?_,fun N _ _=>rn Tryz.f133 [.cell 4 29,.tmp 5] [] 57 (by kernel_rfl) ?_,fun N _=>rn Tryz.f113 [.tmp 2] [] 41 (by kernel_rfl) ?_,fun N _=>rn Tryz.f64 [.tmp 2] [] 19 (by kernel_rfl) ?_⟩<;>(rintro _ hw r hr C _ rfl hwf hf;simp only[Tryz.f65,Tryz.f66,Tryz.f207,Tryz.f246,Tryz.f132,Tryz.f133,Tryz.f113,Tryz.f64,Option.get!];(first|rw[Qc1] at hr|rw[Qdp] at hr|rw[Qaw] at hr|rw[Qca] at hr|rw[Qdt] at hr|rw[Qek] at hr|rw[Qda] at hr|rw[Qbg] at hr);repeat' first
 |(refine El.el hr ?_;intro hr)
 |(with_reducible intro h;refine bc_e hr h ?_;intro hr)
 |with_reducible intro _
 |(refine some_e hr ?_;rintro rfl;have hr:=hk;clear hk)
 |simp only[go_sem,simprocAttr,E,hl37,hl96,hl115,hl159,hl210,hl229,hl306]
 |(with_reducible first|apply guard_of_f|apply guard_of_t|apply cond_of|apply doT_of_t|apply doT_of_f)
 |((first|with_reducible refine idx_s hr (by assumption) ?_ ?_|(with_reducible refine idx_e hr ?_ ?_;rotate_left;intro p;rotate_right));(·simp only[go_sem,simprocAttr]);intro hp hn hd hr;(try have hl37:=hd _ e37);(try simp only[go_sem,simprocAttr] at hl37);(try have hl96:=hd _ e96);(try simp only[go_sem,simprocAttr] at hl96);(try have hl115:=hd _ e115);(try simp only[go_sem,simprocAttr] at hl115);(try have hl159:=hd _ e159);(try simp only[go_sem,simprocAttr] at hl159);(try have hl210:=hd _ e210);(try simp only[go_sem,simprocAttr] at hl210);(try have hl229:=hd _ e229);(try simp only[go_sem,simprocAttr] at hl229);(try have hl306:=hd _ e306);(try simp only[go_sem,simprocAttr] at hl306))
 |(refine and_of' ?_ ?_;·first|assumption|omega)
 |with_reducible refine CallX.c ?_ _
 |with_reducible refine OK.c hr hw ?_ (fun y hr=>?_) _
 |with_reducible refine OK.d hr hw ?_ (fun y hr=>?_) _
 |(with_reducible refine loop_e (I:=QhX N _) hr 1000 N (fun ex hq hk=>⟨_,ex,hq,hk,?_⟩) ?_ _;rotate_left;clear hr;(try clear E);rintro n1 st ⟨v5,ex,hr,hk,⟨_,E⟩⟩<;>(obtain _|n1:=n1<;>rw[Qci] at hr))
 |refine ⟨_,Nat.lt_succ_self _,_,_,hr,hk,?_⟩
 |(with_reducible refine loop_e (I:=QhY N _ _) hr 1000 N (fun ex hq hk=>⟨_,ex,hq,hk,?_⟩) ?_ _;rotate_left;clear hr;(try clear E);rintro n2 st ⟨v12,ex,hr,hk,⟨_,_,E⟩⟩<;>(obtain _|n2:=n2<;>rw[Qcj] at hr))
 |(with_reducible refine loop_e (I:=QhZ N _ _) hr 1000 N (fun ex hq hk=>⟨_,ex,hq,hk,?_⟩) ?_ _;rotate_left;clear hr;(try clear E);rintro n3 st ⟨v15,ex,hr,hk,⟨_,_,E⟩⟩<;>(obtain _|n3:=n3<;>rw[Qck] at hr))
 |(with_reducible refine loop_e (I:=Qhi N _) hr 1000 N (fun ex hq hk=>⟨_,_,ex,hq,hk,?_⟩) ?_ _;rotate_left;clear hr;(try clear E);rintro n1 st ⟨v3,v4,ex,hr,hk,⟨_,_,E⟩⟩<;>(obtain _|n1:=n1<;>rw[Qbw] at hr))
 |refine ⟨_,Nat.lt_succ_self _,_,_,_,hr,hk,?_⟩
 |(with_reducible refine loop_e (I:=Qhj N _) hr 1000 N (fun ex hq hk=>⟨_,_,ex,hq,hk,?_⟩) ?_ _;rotate_left;clear hr;(try clear E);rintro n1 st ⟨v3,v4,ex,hr,hk,⟨_,E⟩⟩<;>(obtain _|n1:=n1<;>rw[Qby] at hr))
 |(with_reducible refine loop_e (I:=Qg4 N _ _) hr 1000 N (fun ex hq hk=>⟨_,_,ex,hq,hk,?_⟩) ?_ _;rotate_left;clear hr;(try clear E);rintro n1 st ⟨v10,v11,ex,hr,hk,⟨_,_,_,E⟩⟩<;>(obtain _|n1:=n1<;>rw[Qcn] at hr))
 |(with_reducible refine loop_e (I:=Qhk N _) hr 1000 N (fun ex hq hk=>⟨_,_,ex,hq,hk,?_⟩) ?_ _;rotate_left;clear hr;(try clear E);rintro n1 st ⟨v3,v4,ex,hr,hk,⟨_,_,E⟩⟩<;>(obtain _|n1:=n1<;>rw[Qa1] at hr))
 |(with_reducible refine loop_e (I:=QiF N _ _) hr 1000 N (fun ex hq hk=>⟨_,_,_,ex,hq,hk,?_⟩) ?_ _;rotate_left;clear hr;(try clear E);rintro n1 st ⟨v3,v4,v5,ex,hr,hk,⟨_,_,_,E⟩⟩<;>(obtain _|n1:=n1<;>rw[Qa8] at hr))
 |refine ⟨_,Nat.lt_succ_self _,_,_,_,_,hr,hk,?_⟩
 |(with_reducible refine loop_e (I:=Qh0 N _) hr 1000 N (fun ex hq hk=>⟨_,ex,hq,hk,?_⟩) ?_ _;rotate_left;clear hr;(try clear E);rintro n1 st ⟨v4,ex,hr,hk,⟨_,E⟩⟩<;>(obtain _|n1:=n1<;>rw[Qcp] at hr))
 |(with_reducible refine loop_e (I:=QgD N _ _) hr 1000 N (fun ex hq hk=>⟨_,_,ex,hq,hk,?_⟩) ?_ _;rotate_left;clear hr;(try clear E);rintro n1 st ⟨v2,v3,ex,hr,hk,(⟨_,_,E⟩|⟨_,E,z0⟩)⟩<;>(try subst z0)<;>(obtain _|n1:=n1<;>rw[Qbk] at hr))
 |refine db 65 7 hf [([],[],[],[]),([0],[],[],[]),([0,1],[],[],[]),([0,1,2],[],[],[]),([0,1,2,3],[],[],[]),([0,1,2,3,4],[],[],[]),([0,1,2,3,4,5],[],[],[]),([0,1,2,3,4,5,6],[],[],[]),([0,1,2,3,4,5,6,7],[],[],[]),([0,1,2,3,4,5,6,7,8],[],[],[]),([0,1,2,3,4,5,6,7,8,9],[],[],[]),([0,1,2,3,4,5,6,7,8,9,10],[],[63,64,65],[]),([0,1,2,3,4,5,6,7,8,9,10,11],[],[63,64,65],[]),([0,1,2,3,4,5,6,7,8,9,10,11,12],[],[63,64,65],[]),([0,1,2,3,4,5,6,7,8,9,10],[],[60,61,62],[]),([0,1,2,3,4,5,6,7,8,9,10,14],[],[60,61,62],[]),([0,1,2,3,4,5,6,7,8,9,10,14,15],[],[60,61,62],[]),([0,1,2,3,4,5,6,7,8,9,10,11,12,13,14,15,16],[],[],[]),([0,1,2,3,4,5,6,7,8,9,10,11,12,13,14,15,16,17],[],[],[]),([0,1,2,3,4,5,6,7,8,9,10,11,12,13,14,15,16,17,18],[],[],[]),([0,1,2,3,4,5,6,7,8,9,10,11,12,13,14,15,16,17,18,19],[],[70,71],[]),([0,1,2,3,4,5,6,7,8,9,10,11,12,13,14,15,16,17,18,19],[],[69],[]),([0,1,2,3,4,5,6,7,8,9,10,11,12,13,14,15,16,17,18,19,21],[],[69],[]),([0,1,2,3,4,5,6,7,8,9,10,11,12,13,14,15,16,17,18,19,20,21,22],[],[],[]),([0,1,2,3,4,5,6,7,8,9,10,11,12,13,14,15,16,17,18,19,20,21,22,23],[],[],[]),([0,1,2,3,4,5,6,7,8,9,10,11,12,13,14,15,16,17,18,19,20,21,22,23,24],[],[],[])] rfl rfl (by kernel_rfl) ?_ _
 |refine db 65 21 hf [([],[],[132,133],[]),([],[],[131],[]),([1],[],[131],[]),([0,1,2],[],[],[]),([0,1,2,3],[],[],[]),([0,1,2,3,4],[],[137,138,139],[]),([0,1,2,3,4],[],[136],[]),([0,1,2,3,4,6],[],[136],[]),([0,1,2,3,4,6,7],[],[136],[]),([0,1,2,3,4,5,6,7,8],[],[],[]),([0,1,2,3,4,5,6,7,8,9],[],[],[]),([0,1,2,3,4,5,6,7,8,9,10],[],[],[]),([0,1,2,3,4,5,6,7,8,9,10,11],[],[144],[]),([0,1,2,3,4,5,6,7,8,9,10,11],[],[143],[]),([0,1,2,3,4,5,6,7,8,9,10,11,12,13],[],[],[]),([0,1,2,3,4,5,6,7,8,9,10,11,12,13,14],[],[],[]),([0,1,2,3,4,5,6,7,8,9,10,11,12,13,14,15],[],[],[]),([0,1,2,3,4,5,6,7,8,9,10,11,12,13,14,15,16],[],[149,150,151],[9664]),([0,1,2,3,4,5,6,7,8,9,10,11,12,13,14,15,16],[],[148],[]),([0,1,2,3,4,5,6,7,8,9,10,11,12,13,14,15,16,18],[],[148],[]),([0,1,2,3,4,5,6,7,8,9,10,11,12,13,14,15,16,18,19],[9664],[148],[]),([0,1,2,3,4,5,6,7,8,9,10,11,12,13,14,15,16,17,18,19,20],[],[],[]),([0,1,2,3,4,5,6,7,8,9,10,11,12,13,14,15,16,17,18,19,20,21],[],[],[]),([0,1,2,3,4,5,6,7,8,9,10,11,12,13,14,15,16,17,18,19,20,21,22],[],[],[])] rfl rfl (by kernel_rfl) ?_ _
 |refine db 66 1 hf [([],[320],[6,7,9,10],[]),([],[],[5,9,10],[320]),([1],[],[5,9,10],[320]),([0,1,2],[320],[9,10],[]),([],[],[5,6,7,8],[320]),([4],[],[5,6,7,8],[320]),([0,1,2,3,4,5],[],[],[]),([0,1,2,3,4,5,6],[320],[],[]),([0,1,2,3,4,5,6,7],[],[],[])] rfl rfl (by kernel_rfl) ?_ _
 |refine db 132 1 hf [([],[320],[6,7,9,10],[]),([],[],[5,9,10],[320]),([1],[],[5,9,10],[320]),([0,1,2],[320],[9,10],[]),([],[],[5,6,7,8],[320]),([4],[],[5,6,7,8],[320]),([0,1,2,3,4,5],[],[],[]),([0,1,2,3,4,5,6],[320],[],[]),([0,1,2,3,4,5,6,7],[],[],[])] rfl rfl (by kernel_rfl) ?_ _
 |refine db 133 11 hf [([],[],[47,48,49,50,51],[]),([0],[],[47,48,49,50,51],[]),([],[],[45,46,48,49,50,51],[]),([],[],[45,46,47,49],[]),([],[],[45,46,47,48],[]),([3,4],[],[45,46,47],[]),([3,4,5],[],[45,46,47],[]),([0,1,2,3,4,5,6],[],[],[]),([0,1,2,3,4,5,6,7],[],[],[]),([0,1,2,3,4,5,6,7,8],[1280],[],[])] rfl rfl (by kernel_rfl) ?_ _
 |refine db 113 9 hf [([],[],[35,37,38],[]),([],[],[34,37,38],[]),([0,1],[],[37,38],[]),([],[],[34,35,36],[]),([3],[],[34,35,36],[]),([0,1,2,3,4],[],[],[])] rfl rfl (by kernel_rfl) ?_ _
 |(refine some_e hr ?_;rintro rfl;with_reducible refine ret_k ?_)
 |exact no_e hr
 |((first|refine bc_e (c:=true) hr rfl ?_|refine bc_e (c:=false) hr rfl ?_|refine bc_e hr (by assumption) ?_);intro hr)
 |fail)
@[reducible,instance] def Qlk:=g19.1
@[reducible,instance] def QkK:=g19.2.1
@[reducible,instance] def QkL:=g19.2.2.1
@[reducible,instance] def Qkf:=g19.2.2.2.1
@[reducible,instance] def QkM:=g19.2.2.2.2.1
@[reducible,instance] def Qmg:=g19.2.2.2.2.2.1
@[reducible,instance] def Qll:=g19.2.2.2.2.2.2.1
@[reducible,instance] def QjP:=g19.2.2.2.2.2.2.2
end Go.Sx
