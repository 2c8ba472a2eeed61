import Derived.Test.YtgdhlnfcogcicaaGreatDoorRF
set_option linter.all false
namespace Go.Sx
open Go.Proofs
set_option maxRecDepth 10000
set_option maxHeartbeats 100000000
abbrev QhS:=fun N (a0:TWorld) (a1:List Int) (Q:(Ex Bool Unit)→Prop) n (st:St)=>∃ (v1:Int) (ex:_),Qci N a0 a1 n v1=some ex∧Q ex∧((∃ w128,st.n=21∧st.t 1=.isl 37 1 (a1.map e37)∧st.t 2=.ept 128 w128 10 0 0∧st.t 5=.v (.int .i64 v1)∧st.s 128=some (w128,.arr true 36 10 [e36 a0] 0)))
abbrev Qik:=fun N (a0:List TPage) (a2:Int) (Q:Int→Prop) n (st:St)=>∃ (v1:Int) (v2:Int) (ex:_),QdG N a0 a2 n v1 v2=some ex∧Q ex∧((st.n=37∧st.t 0=.isl 306 4 (a0.map e306)∧st.t 2=.v (.int .i64 a2)∧st.t 7=.v (.int .i64 v1)∧st.t 8=.v (.int .i64 v2)))
abbrev Qil:=fun N (a0:TWork) (a1:Int) (Q:(Ex Bool Unit)→Prop) n (st:St)=>∃ (v1:Int) (ex:_),QdK N a0 a1 n v1=some ex∧Q ex∧((∃ w128,st.n=20∧st.t 1=.v (.int .i64 a1)∧st.t 2=.ept 128 w128 16 0 0∧st.t 5=.v (.int .i64 v1)∧st.s 128=some (w128,.arr true 265 16 [e265 a0] 0)))
abbrev QiX:=fun N (a0:TWork) (v4:List TPage) (p5:TPage) (v1:Int) (v2:Int) (Q:(List Int)→Prop) n (st:St)=>∃ (v7:Int) (v8:List Int) (ex:_),QbG N a0 v4 p5 v1 v2 n v7 v8=some ex∧Q ex∧((∃ w384 w832 w64 w128 w256,st.n=78∧st.s 384=some (w384,.arr false 306 4 ((v4.set v1.toNat (TPage.mk 0 0 0 0)).map e306) 0)∧st.s 832=some (w832,.arr false 37 1 (v8.map e37) 0)∧st.t 1=.ept 64 w64 16 0 0∧st.t 2=.ept 128 w128 16 0 0∧st.t 3=.v (.int .i64 v1)∧st.t 5=.v (.int .i64 v7)∧st.t 38=.ept 256 w256 4 0 1∧st.t 39=.v (.int .i64 p5.Space)∧st.t 40=.ept 64 w64 16 0 0∧st.t 41=.ept 64 w64 16 0 4∧st.t 42=.v (.int .i64 a0.Heap.Space)∧st.t 43=.v (.bool (p5.Space != a0.Heap.Space))∧st.s 64=some (w64,.arr true 265 16 [[.v (.int .i64 a0.Heap.Conf.PageWords),.v (.int .i64 a0.Heap.Conf.Pages),.osl 832 w832 1 0 v8.length,.osl 384 w384 4 0 v4.length,.v (.int .i64 a0.Heap.Space),.v (.int .i64 a0.Heap.Bump),.isl 37 1 (a0.Old.map e37),.isl 3 1 (a0.Taken.map e3),.isl 37 1 (a0.Queue.map e37),.v (.int .i64 a0.Scanned),.v (.int .i64 a0.Report.Copied),.v (.int .i64 a0.Report.Kept),.v (.int .i64 a0.Report.Filled),.v (.int .i64 (wI (v2 + 1))),.v (.int .i64 a0.Report.Cleared),.v (.int .i64 a0.Report.Steps)]] 0)∧st.s 128=some (w128,.arr true 265 16 [[.v (.int .i64 0),.v (.int .i64 0),.nsl,.nsl,.v (.int .i64 0),.v (.int .i64 0),.nsl,.nsl,.nsl,.v (.int .i64 0),.v (.int .i64 0),.v (.int .i64 0),.v (.int .i64 0),.v (.int .i64 0),.v (.int .i64 0),.v (.int .i64 0)]] 0)∧st.s 256=some (w256,.arr true 306 4 [e306 p5] 0)))
abbrev QiY:=fun N (a0:TWork) (Q:(Int × List Int × List TPage)→Prop) n (st:St)=>∃ (v1:Int) (v2:Int) (v3:List Int) (v4:List TPage) (ex:_),Qa4 N a0 n v1 v2 v3 v4=some ex∧Q ex∧((∃ w384 w832 w64 w128,st.n=78∧st.s 384=some (w384,.arr false 306 4 (v4.map e306) 0)∧st.s 832=some (w832,.arr false 37 1 (v3.map e37) 0)∧st.t 1=.ept 64 w64 16 0 0∧st.t 2=.ept 128 w128 16 0 0∧st.t 3=.v (.int .i64 v1)∧st.s 64=some (w64,.arr true 265 16 [[.v (.int .i64 a0.Heap.Conf.PageWords),.v (.int .i64 a0.Heap.Conf.Pages),.osl 832 w832 1 0 v3.length,.osl 384 w384 4 0 v4.length,.v (.int .i64 a0.Heap.Space),.v (.int .i64 a0.Heap.Bump),.isl 37 1 (a0.Old.map e37),.isl 3 1 (a0.Taken.map e3),.isl 37 1 (a0.Queue.map e37),.v (.int .i64 a0.Scanned),.v (.int .i64 a0.Report.Copied),.v (.int .i64 a0.Report.Kept),.v (.int .i64 a0.Report.Filled),.v (.int .i64 v2),.v (.int .i64 a0.Report.Cleared),.v (.int .i64 a0.Report.Steps)]] 0)∧st.s 128=some (w128,.arr true 265 16 [[.v (.int .i64 0),.v (.int .i64 0),.nsl,.nsl,.v (.int .i64 0),.v (.int .i64 0),.nsl,.nsl,.nsl,.v (.int .i64 0),.v (.int .i64 0),.v (.int .i64 0),.v (.int .i64 0),.v (.int .i64 0),.v (.int .i64 0),.v (.int .i64 0)]] 0)))
abbrev QgJ:=fun N (a0:Tframes) (Q:(Ex Bool Unit)→Prop) n (st:St)=>∃ (v1:Int) (v2:Int) (ex:_),QaI N a0 n v1 v2=some ex∧Q ex∧((∃ w64,st.n=51∧st.t 1=.ept 64 w64 3 0 0∧st.t 3=.v (.int .i64 v1)∧st.t 8=.isl 210 3 (a0.Locals.Slots.map e210)∧st.t 9=.v (.int .i64 ((a0.Locals.Slots.length:Nat):Int))∧st.t 10=.v (.int .i64 v2)∧st.s 64=some (w64,.arr true 255 3 [e255 a0] 0)))
abbrev Qim:=fun N (a0:TWorld) (Q:(List TThing)→Prop) n (st:St)=>∃ (v1:Int) (v2:List TThing) (ex:_),QdY N a0 n v1 v2=some ex∧Q ex∧((∃ w2560 w64 w128 w192,st.n=74∧st.s 2560=some (w2560,.arr false 77 4 (v2.map e77) 0)∧st.t 1=.ept 64 w64 10 0 0∧st.t 2=.ept 128 w128 10 0 0∧st.t 3=.ept 192 w192 10 0 0∧st.t 4=.v (.int .i64 v1)∧st.s 64=some (w64,.arr true 36 10 [e36 a0] 0)∧st.s 128=some (w128,.arr true 61 10 [[.v (.int .i64 0),.v (.int .i64 0),.nsl,.nsl,.nsl,.nsl,.nsl,.nsl,.nsl,.nsl]] 0)∧st.s 192=some (w192,.arr true 61 10 [[.v (.int .i64 a0.Conf.PageWords),.v (.int .i64 a0.Conf.Pages),.osl 2560 w2560 4 0 v2.length,.isl 210 3 (a0.Locals.Slots.map e210),.isl 159 3 (a0.Locals.Scopes.map e159),.isl 3 1 (a0.Locals.Issued.map e3),.isl 132 3 (a0.Globals.Entries.map e132),.isl 132 3 (a0.Weaks.Entries.map e132),.nsl,.isl 37 1 (a0.Roots.map e37)]] 0))∨(∃ w64 w128 w192,(st.n=74∧st.t 1=.ept 64 w64 10 0 0∧st.t 2=.ept 128 w128 10 0 0∧st.t 3=.ept 192 w192 10 0 0∧st.t 4=.v (.int .i64 v1)∧st.s 64=some (w64,.arr true 36 10 [e36 a0] 0)∧st.s 128=some (w128,.arr true 61 10 [[.v (.int .i64 0),.v (.int .i64 0),.nsl,.nsl,.nsl,.nsl,.nsl,.nsl,.nsl,.nsl]] 0)∧st.s 192=some (w192,.arr true 61 10 [[.v (.int .i64 a0.Conf.PageWords),.v (.int .i64 a0.Conf.Pages),.nsl,.isl 210 3 (a0.Locals.Slots.map e210),.isl 159 3 (a0.Locals.Scopes.map e159),.isl 3 1 (a0.Locals.Issued.map e3),.isl 132 3 (a0.Globals.Entries.map e132),.isl 132 3 (a0.Weaks.Entries.map e132),.nsl,.isl 37 1 (a0.Roots.map e37)]] 0))∧v2=[]))
abbrev Qin:=fun N (a0:TWorld) (y5:List TThing) (Q:(List TMark)→Prop) n (st:St)=>∃ (v6:Int) (v7:List TMark) (ex:_),QdZ N a0 y5 n v6 v7=some ex∧Q ex∧((∃ w2560 w4544 w64 w128 w192,st.n=74∧st.s 2560=some (w2560,.arr false 77 4 (y5.map e77) 0)∧st.s 4544=some (w4544,.arr false 116 3 (v7.map e116) 0)∧st.t 1=.ept 64 w64 10 0 0∧st.t 2=.ept 128 w128 10 0 0∧st.t 3=.ept 192 w192 10 0 0∧st.t 5=.v (.int .i64 v6)∧st.s 64=some (w64,.arr true 36 10 [e36 a0] 0)∧st.s 128=some (w128,.arr true 61 10 [[.v (.int .i64 0),.v (.int .i64 0),.nsl,.nsl,.nsl,.nsl,.nsl,.nsl,.nsl,.nsl]] 0)∧st.s 192=some (w192,.arr true 61 10 [[.v (.int .i64 a0.Conf.PageWords),.v (.int .i64 a0.Conf.Pages),.osl 2560 w2560 4 0 y5.length,.isl 210 3 (a0.Locals.Slots.map e210),.isl 159 3 (a0.Locals.Scopes.map e159),.isl 3 1 (a0.Locals.Issued.map e3),.isl 132 3 (a0.Globals.Entries.map e132),.isl 132 3 (a0.Weaks.Entries.map e132),.osl 4544 w4544 3 0 v7.length,.isl 37 1 (a0.Roots.map e37)]] 0))∨(∃ w4544 w64 w128 w192,(st.n=74∧st.s 4544=some (w4544,.arr false 116 3 (v7.map e116) 0)∧st.t 1=.ept 64 w64 10 0 0∧st.t 2=.ept 128 w128 10 0 0∧st.t 3=.ept 192 w192 10 0 0∧st.t 5=.v (.int .i64 v6)∧st.s 64=some (w64,.arr true 36 10 [e36 a0] 0)∧st.s 128=some (w128,.arr true 61 10 [[.v (.int .i64 0),.v (.int .i64 0),.nsl,.nsl,.nsl,.nsl,.nsl,.nsl,.nsl,.nsl]] 0)∧st.s 192=some (w192,.arr true 61 10 [[.v (.int .i64 a0.Conf.PageWords),.v (.int .i64 a0.Conf.Pages),.nsl,.isl 210 3 (a0.Locals.Slots.map e210),.isl 159 3 (a0.Locals.Scopes.map e159),.isl 3 1 (a0.Locals.Issued.map e3),.isl 132 3 (a0.Globals.Entries.map e132),.isl 132 3 (a0.Weaks.Entries.map e132),.osl 4544 w4544 3 0 v7.length,.isl 37 1 (a0.Roots.map e37)]] 0))∧y5=[])∨(∃ w2560 w64 w128 w192,(st.n=74∧st.s 2560=some (w2560,.arr false 77 4 (y5.map e77) 0)∧st.t 1=.ept 64 w64 10 0 0∧st.t 2=.ept 128 w128 10 0 0∧st.t 3=.ept 192 w192 10 0 0∧st.t 5=.v (.int .i64 v6)∧st.s 64=some (w64,.arr true 36 10 [e36 a0] 0)∧st.s 128=some (w128,.arr true 61 10 [[.v (.int .i64 0),.v (.int .i64 0),.nsl,.nsl,.nsl,.nsl,.nsl,.nsl,.nsl,.nsl]] 0)∧st.s 192=some (w192,.arr true 61 10 [[.v (.int .i64 a0.Conf.PageWords),.v (.int .i64 a0.Conf.Pages),.osl 2560 w2560 4 0 y5.length,.isl 210 3 (a0.Locals.Slots.map e210),.isl 159 3 (a0.Locals.Scopes.map e159),.isl 3 1 (a0.Locals.Issued.map e3),.isl 132 3 (a0.Globals.Entries.map e132),.isl 132 3 (a0.Weaks.Entries.map e132),.nsl,.isl 37 1 (a0.Roots.map e37)]] 0))∧v7=[])∨(∃ w64 w128 w192,(st.n=74∧st.t 1=.ept 64 w64 10 0 0∧st.t 2=.ept 128 w128 10 0 0∧st.t 3=.ept 192 w192 10 0 0∧st.t 5=.v (.int .i64 v6)∧st.s 64=some (w64,.arr true 36 10 [e36 a0] 0)∧st.s 128=some (w128,.arr true 61 10 [[.v (.int .i64 0),.v (.int .i64 0),.nsl,.nsl,.nsl,.nsl,.nsl,.nsl,.nsl,.nsl]] 0)∧st.s 192=some (w192,.arr true 61 10 [[.v (.int .i64 a0.Conf.PageWords),.v (.int .i64 a0.Conf.Pages),.nsl,.isl 210 3 (a0.Locals.Slots.map e210),.isl 159 3 (a0.Locals.Scopes.map e159),.isl 3 1 (a0.Locals.Issued.map e3),.isl 132 3 (a0.Globals.Entries.map e132),.isl 132 3 (a0.Weaks.Entries.map e132),.nsl,.isl 37 1 (a0.Roots.map e37)]] 0))∧v7=[]∧y5=[]))
theorem g6:(∀ N (a0:TWorld) (a1:List Int),OK (Qcj N a0 a1) 125 [.agg (e36 a0),.isl 37 1 (a1.map e37)] [] (fun r=>.v (.bool r)) fun r=>[])∧(∀ N (a0:List TPage) (a1:Int) (a2:Int),OK (QfY N a0 a1 a2) 245 [.isl 306 4 (a0.map e306),.v (.int .i64 a1),.v (.int .i64 a2)] [] (fun r=>.v (.int .i64 r)) fun r=>[])∧(∀ N (a0:TWork) (a1:Int),OK (Qgv N a0 a1) 273 [.agg (e265 a0),.v (.int .i64 a1)] [] (fun r=>.v (.bool r)) fun r=>[])∧(∀ N (a0:TWork),OK (QeY N a0) 212 [.agg (e265 a0)] [] (fun r=>.agg (e265 r)) fun r=>[])∧(∀ N (a0:Tframes),OK (Qcn N a0) 195 [.agg (e255 a0)] [] (fun r=>.v (.bool r)) fun r=>[])∧(∀ N (a0:TWorld),OK (Qfs N a0) 12 [.agg (e36 a0)] [] (fun r=>.agg (e61 r)) fun r=>[]):=by
 refine ⟨fun N _ _=>rn Tryz.f125 [.tmp 4] [] 21 (by kernel_rfl) ?_,fun N _ _ _=>rn Tryz.f245 [.tmp 6] [] 37 (by kernel_rfl) ?_,fun N _ _=>rn Tryz.f273 [.tmp 4] [] 20 (by kernel_rfl) ?_,fun N _=>rn Tryz.f212 [.cell 2 265] [] 78 (by kernel_rfl) ?_,fun N _=>rn Tryz.f195 [.tmp 2] [] 51 (by kernel_rfl) ?_,fun N _=>rn Tryz.f12 [.cell 2 61] [] 74 (by kernel_rfl) ?_⟩<;>(rintro _ hw r hr C _ rfl hwf hf;simp only[Tryz.f125,Tryz.f245,Tryz.f273,Tryz.f212,Tryz.f195,Tryz.f12,Option.get!];(first|rw[Qcj] at hr|rw[QfY] at hr|rw[Qgv] at hr|rw[QeY] at hr|rw[Qcn] at hr|rw[Qfs] at hr);repeat' first
 |(refine El.el hr ?_;intro hr)
 |(with_reducible intro h;refine bc_e hr h ?_;intro hr)
 |with_reducible intro _
 |(refine some_e hr ?_;rintro rfl;have hr:=hk;clear hk)
 |simp only[go_sem,simprocAttr,E,hl3,hl37,hl96,hl115,hl210,hl306]
 |(with_reducible first|apply guard_of_f|apply guard_of_t|apply cond_of|apply doT_of_t|apply doT_of_f)
 |((first|with_reducible refine idx_s hr (by assumption) ?_ ?_|(with_reducible refine idx_e hr ?_ ?_;rotate_left;intro p;rotate_right));(·simp only[go_sem,simprocAttr]);intro hp hn hd hr;(try have hl3:=hd _ e3);(try simp only[go_sem,simprocAttr] at hl3);(try have hl37:=hd _ e37);(try simp only[go_sem,simprocAttr] at hl37);(try have hl96:=hd _ e96);(try simp only[go_sem,simprocAttr] at hl96);(try have hl115:=hd _ e115);(try simp only[go_sem,simprocAttr] at hl115);(try have hl210:=hd _ e210);(try simp only[go_sem,simprocAttr] at hl210);(try have hl306:=hd _ e306);(try simp only[go_sem,simprocAttr] at hl306))
 |(refine and_of' ?_ ?_;·first|assumption|omega)
 |(with_reducible refine loop_e (I:=QhS N _ _) hr 1000 N (fun ex hq hk=>⟨_,ex,hq,hk,?_⟩) ?_ _;rotate_left;clear hr;(try clear E);rintro n1 st ⟨v1,ex,hr,hk,⟨_,E⟩⟩<;>(obtain _|n1:=n1<;>rw[Qci] at hr))
 |refine ⟨_,Nat.lt_succ_self _,_,_,hr,hk,?_⟩
 |(with_reducible refine loop_e (I:=Qik N _ _) hr 1000 N (fun ex hq hk=>⟨_,_,ex,hq,hk,?_⟩) ?_ _;rotate_left;clear hr;(try clear E);rintro n1 st ⟨v1,v2,ex,hr,hk,E⟩<;>(obtain _|n1:=n1<;>rw[QdG] at hr))
 |refine ⟨_,Nat.lt_succ_self _,_,_,_,hr,hk,?_⟩
 |(with_reducible refine loop_e (I:=Qil N _ _) hr 1000 N (fun ex hq hk=>⟨_,ex,hq,hk,?_⟩) ?_ _;rotate_left;clear hr;(try clear E);rintro n1 st ⟨v1,ex,hr,hk,⟨_,E⟩⟩<;>(obtain _|n1:=n1<;>rw[QdK] at hr))
 |(with_reducible refine loop_e (I:=QiX N _ _ _ _ _) hr 1000 N (fun ex hq hk=>⟨_,_,ex,hq,hk,?_⟩) ?_ _;rotate_left;clear hr;(try clear E);rintro n1 st ⟨v7,v8,ex,hr,hk,⟨_,_,_,_,_,E⟩⟩<;>(obtain _|n1:=n1<;>rw[QbG] at hr))
 |(with_reducible refine loop_e (I:=QiY N _) hr 1000 N (fun ex hq hk=>⟨_,_,_,_,ex,hq,hk,?_⟩) ?_ _;rotate_left;clear hr;(try clear E);rintro n2 st ⟨v1,v2,v3,v4,ex,hr,hk,⟨_,_,_,_,E⟩⟩<;>(obtain _|n2:=n2<;>rw[Qa4] at hr))
 |refine ⟨_,Nat.lt_succ_self _,_,_,_,_,_,hr,hk,?_⟩
 |(with_reducible refine loop_e (I:=QgJ N _) hr 1000 N (fun ex hq hk=>⟨_,_,ex,hq,hk,?_⟩) ?_ _;rotate_left;clear hr;(try clear E);rintro n1 st ⟨v1,v2,ex,hr,hk,⟨_,E⟩⟩<;>(obtain _|n1:=n1<;>rw[QaI] at hr))
 |(with_reducible refine loop_e (I:=Qim N _) hr 1000 N (fun ex hq hk=>⟨_,_,ex,hq,hk,?_⟩) ?_ _;rotate_left;clear hr;(try clear E);rintro n1 st ⟨v1,v2,ex,hr,hk,(⟨_,_,_,_,E⟩|⟨_,_,_,E,z0⟩)⟩<;>(try subst z0)<;>(obtain _|n1:=n1<;>rw[QdY] at hr))
 |(with_reducible refine loop_e (I:=Qin N _ _) hr 1000 N (fun ex hq hk=>⟨_,_,ex,hq,hk,?_⟩) ?_ _;rotate_left;clear hr;(try clear E);rintro n2 st ⟨v6,v7,ex,hr,hk,(⟨_,_,_,_,_,E⟩|⟨_,_,_,_,E,z0⟩|⟨_,_,_,_,E,z0⟩|⟨_,_,_,E,z0,z1⟩)⟩<;>(try subst z0)<;>(try subst z1)<;>(obtain _|n2:=n2<;>rw[QdZ] at hr))
 |refine db 125 4 hf [([],[],[13,16,17,18,19],[]),([],[],[12,16,17,18,19],[]),([0,1],[],[16,17,18,19],[]),([0,1,2],[],[16,17,18,19],[]),([],[],[12,13,14,15],[]),([4],[],[12,13,14,15],[]),([4,5],[],[12,13,14,15],[]),([4,5,6],[],[12,13,14,15],[]),([0,1,2,3,4,5,6,7],[],[],[])] rfl rfl (by kernel_rfl) ?_ _
 |refine db 12 5 hf [([],[],[26,27,28,29,30,31,32,33,34,35,36,37,38,39],[2496]),([0],[],[26,27,28,29,30,31,32,33,34,35,36,37,38,39],[2496]),([],[],[24,25,28,32,33,34,35,36,37],[]),([2],[],[24,25,28,32,33,34,35,36,37],[]),([],[],[24,25,26,27,32,33,34,35,36,37],[]),([2,3,4],[],[24,25,32,33,34,35,36,37],[]),([2,3,4,5],[],[24,25,32,33,34,35,36,37],[]),([2,3,4,5,6],[],[24,25,32,33,34,35,36,37],[]),([],[],[24,25,26,27,28,29,30,31,34],[]),([8],[],[24,25,26,27,28,29,30,31,34],[]),([],[],[24,25,26,27,28,29,30,31,32,33],[]),([8,9,10],[],[24,25,26,27,28,29,30,31],[]),([8,9,10,11],[],[24,25,26,27,28,29,30,31],[]),([8,9,10,11,12],[],[24,25,26,27,28,29,30,31],[]),([2,3,4,5,6,7,8,9,10,11,12,13],[],[24,25],[]),([2,3,4,5,6,7,8,9,10,11,12,13,14],[2496],[24,25],[]),([0,1,2,3,4,5,6,7,8,9,10,11,12,13,14,15],[2560],[],[]),([0,1,2,3,4,5,6,7,8,9,10,11,12,13,14,15,16],[],[],[]),([0,1,2,3,4,5,6,7,8,9,10,11,12,13,14,15,16,17],[192],[],[])] rfl rfl (by kernel_rfl) ?_ _
 |refine db 12 9 hf [([],[],[51,52,53,54,55,56,57,58,59,60,61,62,63,64,65,66,67,68,69,70],[4480]),([0],[],[51,52,53,54,55,56,57,58,59,60,61,62,63,64,65,66,67,68,69,70],[4480]),([],[],[49,50,53,57,58,59,60,61,62,63,64,65,66,67,68],[]),([2],[],[49,50,53,57,58,59,60,61,62,63,64,65,66,67,68],[]),([],[],[49,50,51,52,57,58,59,60,61,62,63,64,65,66,67,68],[]),([2,3,4],[],[49,50,57,58,59,60,61,62,63,64,65,66,67,68],[]),([2,3,4,5],[],[49,50,57,58,59,60,61,62,63,64,65,66,67,68],[]),([2,3,4,5,6],[],[49,50,57,58,59,60,61,62,63,64,65,66,67,68],[]),([],[],[49,50,51,52,53,54,55,56,59,63,64,65,66,67,68],[]),([8],[],[49,50,51,52,53,54,55,56,59,63,64,65,66,67,68],[]),([],[],[49,50,51,52,53,54,55,56,57,58,63,64,65,66,67,68],[]),([8,9,10],[],[49,50,51,52,53,54,55,56,63,64,65,66,67,68],[]),([8,9,10,11],[],[49,50,51,52,53,54,55,56,63,64,65,66,67,68],[]),([8,9,10,11,12],[],[49,50,51,52,53,54,55,56,63,64,65,66,67,68],[]),([],[],[49,50,51,52,53,54,55,56,57,58,59,60,61,62,65],[]),([14],[],[49,50,51,52,53,54,55,56,57,58,59,60,61,62,65],[]),([],[],[49,50,51,52,53,54,55,56,57,58,59,60,61,62,63,64],[]),([14,15,16],[],[49,50,51,52,53,54,55,56,57,58,59,60,61,62],[]),([14,15,16,17],[],[49,50,51,52,53,54,55,56,57,58,59,60,61,62],[]),([14,15,16,17,18],[],[49,50,51,52,53,54,55,56,57,58,59,60,61,62],[]),([2,3,4,5,6,7,8,9,10,11,12,13,14,15,16,17,18,19],[],[49,50],[]),([2,3,4,5,6,7,8,9,10,11,12,13,14,15,16,17,18,19,20],[4480],[49,50],[]),([0,1,2,3,4,5,6,7,8,9,10,11,12,13,14,15,16,17,18,19,20,21],[4544],[],[]),([0,1,2,3,4,5,6,7,8,9,10,11,12,13,14,15,16,17,18,19,20,21,22],[],[],[]),([0,1,2,3,4,5,6,7,8,9,10,11,12,13,14,15,16,17,18,19,20,21,22,23],[192],[],[])] rfl rfl (by kernel_rfl) ?_ _
 |(refine some_e hr ?_;rintro rfl;with_reducible refine ret_k ?_)
 |exact no_e hr
 |((first|refine bc_e (c:=true) hr rfl ?_|refine bc_e (c:=false) hr rfl ?_|refine bc_e hr (by assumption) ?_);intro hr)
 |fail)
@[reducible,instance] def QlH:=g6.1
@[reducible,instance] def Qmb:=g6.2.1
@[reducible,instance] def Qmc:=g6.2.2.1
@[reducible,instance] def Qm1:=g6.2.2.2.1
@[reducible,instance] def Qj1:=g6.2.2.2.2.1
@[reducible,instance] def Qmd:=g6.2.2.2.2.2
theorem g3:(∀ N (a0:TTape),OK (QfK N a0) 33 [.ept 1000000 0 2 0 0] [.arr true 51 2 [[.isl 3 1 (a0.L.map e3),.v (.int .i64 a0.at_)]] 0] (fun r=>.v (.bool r)) fun r=>[.arr true 51 2 [[.isl 3 1 (a0.L.map e3),.v (.int .i64 a0.at_)]] 0])∧(∀ N (a0:Int) (a1:Int) (a2:Int),OK (QbD N a0 a1 a2) 45 [.v (.int .i64 a0),.v (.int .u64 a1),.v (.int .u64 a2)] [] (fun r=>.tup [.agg (e75 r.1),.v (.bool r.2)]) fun r=>[])∧(∀ N (a0:TWorld) (a1:Int) (a2:Int) (a3:Int),OK (QeN N a0 a1 a2 a3) 47 [.agg (e36 a0),.v (.int .u64 a1),.v (.int .i64 a2),.v (.int .u64 a3)] [] (fun r=>.agg (e36 r)) fun r=>[])∧(∀ N (a0:Int),OK (Qgf N a0) 244 [.v (.int .i64 a0)] [] (fun r=>.v (.bool r)) fun r=>[])∧(∀ N (a0:Int),OK (QcT N a0) 249 [.v (.int .u64 a0)] [] (fun r=>.tup [.v (.int .u64 r.1),.v (.bool r.2)]) fun r=>[])∧(∀ N (a0:Int),OK (Qac N a0) 134 [.v (.int .i64 a0)] [] (fun r=>.tup [.agg (e45 r.1),.v (.int .u64 r.2.1),.v (.int .i64 r.2.2)]) fun r=>[])∧(∀ N (a0:Tframes) (a1:Int),OK (QcU N a0 a1) 236 [.agg (e255 a0),.v (.int .i64 a1)] [] (fun r=>.isl 210 3 (r.map e210)) fun r=>[])∧(∀ N (a0:Int) (a1:TWorld),OK (Qc1 N a0 a1) 203 [.v (.int .u64 a0),.ept 1000000 0 10 0 0] [.arr true 61 10 [[.v (.int .i64 a1.Conf.PageWords),.v (.int .i64 a1.Conf.Pages),.isl 77 4 (a1.Things.map e77),.isl 210 3 (a1.Locals.Slots.map e210),.isl 159 3 (a1.Locals.Scopes.map e159),.isl 3 1 (a1.Locals.Issued.map e3),.isl 132 3 (a1.Globals.Entries.map e132),.isl 132 3 (a1.Weaks.Entries.map e132),.isl 116 3 (a1.Marks.map e116),.isl 37 1 (a1.Roots.map e37)]] 0] (fun r=>.v (.bool r)) fun r=>[.arr true 61 10 [[.v (.int .i64 a1.Conf.PageWords),.v (.int .i64 a1.Conf.Pages),.isl 77 4 (a1.Things.map e77),.isl 210 3 (a1.Locals.Slots.map e210),.isl 159 3 (a1.Locals.Scopes.map e159),.isl 3 1 (a1.Locals.Issued.map e3),.isl 132 3 (a1.Globals.Entries.map e132),.isl 132 3 (a1.Weaks.Entries.map e132),.isl 116 3 (a1.Marks.map e116),.isl 37 1 (a1.Roots.map e37)]] 0])∧(∀ N (a0:TMark),OK (QcL N a0) 184 [.agg (e116 a0)] [] (fun r=>.v (.bool r)) fun r=>[]):=by
 refine ⟨fun N _=>rn Tryz.f33 [.tmp 2] [] 13 (by kernel_rfl) ?_,fun N _ _ _=>rn Tryz.f45 [.cell 6 75,.tmp 7] [] 29 (by kernel_rfl) ?_,fun N _ _ _ _=>rn Tryz.f47 [.cell 8 36] [] 38 (by kernel_rfl) ?_,fun N _=>rn Tryz.f244 [.tmp 2] [] 9 (by kernel_rfl) ?_,fun N _=>rn Tryz.f249 [.tmp 2,.tmp 3] [] 14 (by kernel_rfl) ?_,fun N _=>rn Tryz.f134 [.cell 2 45,.tmp 3,.tmp 4] [] 7 (by kernel_rfl) ?_,fun N _ _=>rn Tryz.f236 [.tmp 4] [] 42 (by kernel_rfl) ?_,fun N _ _=>rn Tryz.f203 [.tmp 3] [] 10 (by kernel_rfl) ?_,fun N _=>rn Tryz.f184 [.tmp 2] [] 6 (by kernel_rfl) ?_⟩<;>(rintro _ hw r hr C _ rfl hwf hf;simp only[Tryz.f33,Tryz.f45,Tryz.f47,Tryz.f244,Tryz.f249,Tryz.f134,Tryz.f236,Tryz.f203,Tryz.f184,Option.get!];(first|rw[QfK] at hr|rw[QbD] at hr|rw[QeN] at hr|rw[Qgf] at hr|rw[QcT] at hr|rw[Qac] at hr|rw[QcU] at hr|rw[Qc1] at hr|rw[QcL] at hr);repeat' first
 |(refine El.el hr ?_;intro hr)
 |(with_reducible intro h;refine bc_e hr h ?_;intro hr)
 |with_reducible intro _
 |simp only[go_sem,simprocAttr,hl37,hl115,hl159,List.length_take,List.length_drop,Nat.min_self]
 |(with_reducible first|apply guard_of_f|apply guard_of_t|apply cond_of|apply doT_of_t|apply doT_of_f)
 |((first|with_reducible refine idx_s hr (by assumption) ?_ ?_|(with_reducible refine idx_e hr ?_ ?_;rotate_left;intro p;rotate_right));(·simp only[go_sem,simprocAttr,List.length_take,List.length_drop,Nat.min_self]);intro hp hn hd hr;(try have hl37:=hd _ e37);(try simp only[go_sem,simprocAttr] at hl37);(try have hl115:=hd _ e115);(try simp only[go_sem,simprocAttr] at hl115);(try have hl159:=hd _ e159);(try simp only[go_sem,simprocAttr] at hl159))
 |(refine and_of' ?_ ?_;·first|assumption|omega)
 |refine db 33 1 hf [([],[],[7,8,9,10,11],[]),([0],[],[7,8,9,10,11],[]),([0,1],[],[7,8,9,10,11],[]),([0,1,2],[],[7,8,9,10,11],[]),([],[],[3,4,5,6],[]),([4],[],[3,4,5,6],[]),([4,5],[],[3,4,5,6],[]),([4,5,6],[],[3,4,5,6],[]),([4,5,6,7],[],[3,4,5,6],[]),([0,1,2,3,4,5,6,7,8],[],[],[]),([0,1,2,3,4,5,6,7,8,9],[],[],[])] rfl rfl (by kernel_rfl) ?_ _
 |refine db 236 2 hf [([],[],[15,16,17,18,19,20,21,22,23,24,25,26,27,28,29],[]),([0],[],[15,16,17,18,19,20,21,22,23,24,25,26,27,28,29],[]),([0,1],[],[15,16,17,18,19,20,21,22,23,24,25,26,27,28,29],[]),([],[],[12,13,14,18,22,23,24,25,26,27,28,29],[]),([3],[],[12,13,14,18,22,23,24,25,26,27,28,29],[]),([3,4],[],[12,13,14,18,22,23,24,25,26,27,28,29],[]),([],[],[12,13,14,15,16,17,22,23,24,25,26,27,28,29],[]),([3,4,5,6],[],[12,13,14,22,23,24,25,26,27,28,29],[]),([3,4,5,6,7],[],[12,13,14,22,23,24,25,26,27,28,29],[]),([3,4,5,6,7,8],[],[12,13,14,22,23,24,25,26,27,28,29],[]),([],[],[12,13,14,15,16,17,18,19,20,21,25,26],[]),([10],[],[12,13,14,15,16,17,18,19,20,21,25,26],[]),([10,11],[],[12,13,14,15,16,17,18,19,20,21,25,26],[]),([],[],[12,13,14,15,16,17,18,19,20,21,22,23,24],[]),([13],[],[12,13,14,15,16,17,18,19,20,21,22,23,24],[]),([10,11,12,13,14],[],[12,13,14,15,16,17,18,19,20,21],[]),([10,11,12,13,14,15],[],[12,13,14,15,16,17,18,19,20,21],[]),([10,11,12,13,14,15,16],[],[12,13,14,15,16,17,18,19,20,21],[]),([0,1,2,3,4,5,6,7,8,9,10,11,12,13,14,15,16,17],[],[],[]),([0,1,2,3,4,5,6,7,8,9,10,11,12,13,14,15,16,17,18],[],[],[])] rfl rfl (by kernel_rfl) ?_ _
 |refine db 236 3 hf [([],[],[34,35,36,37,38,39,40],[]),([0],[],[34,35,36,37,38,39,40],[]),([0,1],[],[34,35,36,37,38,39,40],[]),([],[],[31,32,33,37],[]),([3],[],[31,32,33,37],[]),([3,4],[],[31,32,33,37],[]),([],[],[31,32,33,34,35,36],[]),([3,4,5,6],[],[31,32,33],[]),([3,4,5,6,7],[],[31,32,33],[]),([3,4,5,6,7,8],[],[31,32,33],[]),([0,1,2,3,4,5,6,7,8,9],[],[],[]),([0,1,2,3,4,5,6,7,8,9,10],[],[],[])] rfl rfl (by kernel_rfl) ?_ _
 |(refine some_e hr ?_;rintro rfl;with_reducible refine ret_k ?_)
 |exact no_e hr
 |fail)
@[reducible,instance] def QkF:=g3.1
@[reducible,instance] def Qme:=g3.2.1
@[reducible,instance] def QnJ:=g3.2.2.1
@[reducible,instance] def Qm2:=g3.2.2.2.1
@[reducible,instance] def QlI:=g3.2.2.2.2.1
@[reducible,instance] def QlJ:=g3.2.2.2.2.2.1
@[reducible,instance] def Qj8:=g3.2.2.2.2.2.2.1
@[reducible,instance] def Qj0:=g3.2.2.2.2.2.2.2.1
@[reducible,instance] def Qkj:=g3.2.2.2.2.2.2.2.2
end Go.Sx
namespace Go.Sx
open Go.Proofs
set_option maxRecDepth 10000
set_option maxHeartbeats 4000000
theorem map327:mapTy Tryz.prog 327=some (.i64,4):=by kernel_rfl
theorem und327:Tryz.prog.underlying 327=some (.map 3 4):=by kernel_rfl
def freeU (e:TEntry):Bool:=!(e.Live||(e.Gen==4294967295))
def frU (l:List TEntry) (j:Nat):Bool:=match l[j]? with | some e=>freeU e | none=>false
def keysM (xs:List Nat):List (Int×D):=xs.map fun (j:Nat)=>((j:Int),D.v (.bool true))
theorem mset_new {xs:List Nat} {k:Nat} (h:k∉xs):mset (keysM xs) (k:Int) (.v (.bool true))=keysM (xs++[k]):=by
 induction xs with
 | nil=>rfl
 | cons x xs ih =>
  simp only[List.mem_cons,not_or] at h
  have:¬ ((k:Int)=(x:Int)):=by omega
  simp only[keysM,List.map_cons,mset,if_neg this,List.cons_append]
  exact congrArg _ (ih h.2)
theorem mdel_key {xs:List Nat} {k:Nat} (h:xs.Nodup):mdel (keysM xs) (k:Int)=keysM (xs.filter (·!= k)):=by
 induction xs with
 | nil=>rfl
 | cons x xs ih =>
  simp only[List.nodup_cons] at h
  by_cases hx:k=x
  ·subst hx
   simp only[keysM,List.map_cons,mdel,if_true,List.filter_cons,bne_self_eq_false,Bool.false_eq_true,if_false]
   have:xs.filter (·!= k)=xs:=List.filter_eq_self.2 fun y hy=>by simp;rintro rfl;exact h.1 hy
   rw[this]
  ·have h1:¬ ((k:Int)=(x:Int)):=by omega
   have h2:(x != k)=true:=by simp;omega
   simp only[keysM,List.map_cons,mdel,if_neg h1,List.filter_cons,h2,if_true]
   exact congrArg _ (ih h.2)
def left (l:List TEntry) (k:Nat):List Nat:=(List.range l.length).filter fun j=>decide (k<=j)||frU l j
theorem left_zero (l:List TEntry):left l 0=List.range l.length:=List.filter_eq_self.2 fun j _=>by simp
theorem left_nodup (l:List TEntry) (k:Nat):(left l k).Nodup:=List.Pairwise.filter _ List.nodup_range
theorem left_del {l:List TEntry} {k:Nat} (h:frU l k=false):(left l k).filter (·!= k)=left l (k+1):=by
 unfold left
 rw[List.filter_filter]
 refine List.filter_congr fun j _=>?_
 by_cases hj:j=k
 ·subst hj;simp[h]
 ·have:(j != k)=true:=by simpa using hj
  rw[this,Bool.true_and]
  have:decide (k<=j)=decide (k+1<=j):=decide_eq_decide.2 (by omega)
  rw[this]
theorem left_keep {l:List TEntry} {k:Nat} (h:frU l k=true):left l k=left l (k+1):=by
 unfold left
 refine List.filter_congr fun j _=>?_
 by_cases hj:j=k
 ·subst hj;simp[h]
 ·have:decide (k<=j)=decide (k+1<=j):=decide_eq_decide.2 (by omega)
  rw[this]
theorem left_all (l:List TEntry):left l l.length=(List.range l.length).filter (frU l):=List.filter_congr fun j hj=>by
 have:j<l.length:=by simpa using hj
 have:decide (l.length<=j)=false:=decide_eq_false (by omega)
 rw[this,Bool.false_or]
theorem find_left (l:List TEntry):(l.findIdx? freeU=none∧left l l.length=[])∨∃ k,l.findIdx? freeU=some k∧k∈left l l.length∧∀ j∈left l l.length,k<=j:=by
 rw[left_all]
 cases h:l.findIdx? freeU with
 | none =>
  refine .inl ⟨rfl,?_⟩
  rw[List.findIdx?_eq_none_iff] at h
  refine List.filter_eq_nil_iff.2 fun j hj=>?_
  have hl:j<l.length:=by simpa using hj
  simp only[frU,List.getElem?_eq_getElem hl]
  simp[h _ (List.getElem_mem hl)]
 | some k =>
  obtain ⟨hk,h1,h2⟩:=List.findIdx?_eq_some_iff_getElem.1 h
  refine .inr ⟨k,rfl,List.mem_filter.2 ⟨by simpa using hk,by simp[frU,hk,h1]⟩,fun j hj=>?_⟩
  obtain ⟨hj1,hj2⟩:=List.mem_filter.1 hj
  rcases Nat.lt_or_ge j k with hlt | hge
  ·have:=h2 j hlt
   simp only[frU,List.getElem?_eq_getElem (show j<l.length by omega)] at hj2
   rw[hj2] at this;simp at this
  ·exact hge
theorem EntL.keys {P:Program} {M:Mem} {xs:List Nat}:∀ {l:List MapEntry},EntL P M .i64 l (keysM xs)->l.map (·.key)=xs.map fun (j:Nat)=>Value.int .i64 (j:Int):=by
 intro l
 induction l generalizing xs with
 | nil=>intro h;simp only[EntL,keysM,List.map_eq_nil_iff] at h;subst h;rfl
 | cons e l ih =>
  intro h
  simp only[EntL] at h
  obtain ⟨x,d,es',h1,h2,h3,h4⟩:=h
  cases xs with
  | nil=>simp[keysM] at h1
  | cons y ys =>
   simp only[keysM,List.map_cons,List.cons.injEq,Prod.mk.injEq] at h1
   obtain ⟨⟨rfl,rfl⟩,rfl⟩:=h1
   simp only[List.map_cons,h2,List.cons.injEq,true_and]
   exact ih h4
theorem min_eq {P:Program} {M:Mem} {l:List TEntry} {ents:List MapEntry} (h:EntL P M .i64 ents (keysM (left l l.length))) {x:Int} (hx:MinOf (l.length:Int) ents x):x=(((l.findIdx? freeU).getD l.length:Nat):Int):=by
 have hk:=h.keys
 obtain ⟨h1,h2,h3⟩:=hx
 have mem:∀ j,j∈left l l.length->∃ e∈ents,e.key=.int .i64 (j:Int):=fun j hj=>by
  have:Value.int .i64 (j:Int)∈ents.map (·.key):=by rw[hk];exact List.mem_map.2 ⟨j,hj,rfl⟩
  obtain ⟨e,he,h⟩:=List.mem_map.1 this
  exact ⟨e,he,h⟩
 have mem2:∀ e∈ents,∀ n,e.key=.int .i64 n->∃ j∈left l l.length,n=(j:Int):=fun e he n hn=>by
  have:e.key∈ents.map (·.key):=List.mem_map.2 ⟨e,he,rfl⟩
  rw[hk,hn] at this
  obtain ⟨j,hj,h⟩:=List.mem_map.1 this
  simp only[Value.int.injEq,true_and] at h
  exact ⟨j,hj,h.symm⟩
 rcases find_left l with ⟨g1,g2⟩ | ⟨k,g1,g2,g3⟩
 ·rw[g1]
  rcases h1 with h1 | ⟨e,he,hn⟩
  ·exact h1
  ·obtain ⟨j,hj,_⟩:=mem2 e he x hn
   rw[g2] at hj;cases hj
 ·rw[g1]
  obtain ⟨e,he,hn⟩:=mem k g2
  have:=h3 e he _ hn
  rcases h1 with h1 | ⟨e2,he2,hn2⟩
  ·have hl:k<l.length:=by have:=(List.mem_filter.1 g2).1;simpa using this
   simp only[Option.getD_some];omega
  ·obtain ⟨j,hj,rfl⟩:=mem2 e2 he2 x hn2
   have:=g3 j hj
   simp only[Option.getD_some];omega
theorem len_left (l:List TEntry):decide (((keysM (left l l.length)).length:Int)>0)=(l.findIdx? freeU).isSome:=by
 rcases find_left l with ⟨g1,g2⟩ | ⟨k,g1,g2,g3⟩
 ·rw[g1,g2];rfl
 ·rw[g1]
  have:0<(left l l.length).length:=List.length_pos_of_mem g2
  simp only[keysM,List.length_map,Option.isSome_some]
  exact decide_eq_true (by omega)
def Q1 (l:List TEntry) (st:St):Prop:=∃ v,st.n=54∧st.t 4=.omp 640 v∧st.s 640=some (v,.mp .i64 (keysM (left l l.length)))∧st.t 8=.v (.int .i64 (l.length:Int))
def U1 (l:List TEntry) (n:Nat) (st:St):Prop:=∃ (k v w1:Nat),k<=l.length∧n=l.length-k∧st.n=54∧st.t 14=.v (.int .i64 (k:Int))∧st.t 13=.v (.int .i64 (l.length:Int))∧st.t 4=.omp 640 v∧st.s 640=some (v,.mp .i64 (keysM (List.range k))) ∧
 st.t 1=.ept 64 w1 1 0 0∧st.s 64=some (w1,.arr true 32 1 [[.isl 132 3 (l.map e132)]] 0)
def U2 (l:List TEntry) (n:Nat) (st:St):Prop:=∃ (k v w1:Nat),k<=l.length∧n=l.length-k∧st.n=54∧st.t 23=.v (.int .i64 (k:Int))∧st.t 22=.v (.int .i64 (l.length:Int))∧st.t 21=.isl 132 3 (l.map e132)∧st.t 4=.omp 640 v∧st.s 640=some (v,.mp .i64 (keysM (left l k))) ∧
 st.t 1=.ept 64 w1 1 0 0∧st.s 64=some (w1,.arr true 32 1 [[.isl 132 3 (l.map e132)]] 0)
theorem QiZ (G:Nat->Option (List D)) (hw:GW G) (N:Nat) (a0:TTable) (r:Int×Bool) (hr:Qgj N a0=some r):ACalls Tryz.prog G 231 [.agg (e32 a0)] [] (Eqs (.tup [.v (.int .i64 r.1),.v (.bool r.2)]) []):=by
 rw[Qgj] at hr
 obtain rfl:=Option.some.inj hr
 clear hr
 obtain ⟨l⟩:=a0
 refine acalls_of_sem (fn:=Tryz.f231) (body:=(Tryz.f231.body).get!) (rs:=[.tmp 2,.tmp 3]) [] 54 (by kernel_rfl) (by kernel_rfl) (by kernel_rfl) (by kernel_rfl) (by kernel_rfl) (by simp) fun C _ hG _ hwf a w hrel=>?_
 subst hG
 have hlen:l.length<=140737488355328:=by
  have h:=hwf
  simp only[WfL,Wf,e32,List.length_map] at h
  exact h.1.1.2.1
 simp only[Tryz.f231,Option.get!]
 refine sem_unroll 6 _ none a w ?_
 simp only[unroll,List.map_cons,List.map_nil,List.cons_append,List.nil_append]
 refine sem_cut (Q:=Q1 l) ?_ [_,_,_,_,_] none a w ?_
 rotate_left
 ·simp only[List.map_cons,List.map_nil,List.cons_append,List.nil_append]
  refine run_ok 1000 _ hrel ?_
  simp only[go_sem,Nat.reduceAdd,Nat.reduceMul,Nat.reduceSub,Nat.reduceLT,Nat.reduceLeDiff,Nat.reduceEqDiff,Nat.reduceBEq,Nat.reduceBNe,Int.reduceBEq,Int.reduceBNe,Int.reduceEq,Int.reduceNe,Int.reduceMul,Int.reduceSub,Int.reduceLE,Int.reduceLT,Int.reduceGT,Int.reduceGE,Int.reduceNeg,Int.reduceAdd,Int.reduceToNat,reduceCtorEq,reduceIte,eq_self,map327]
  refine LoopG.of (U1 l) 1000 l.length ?_ ?_ _
  ·exact ⟨0,4,1,Nat.zero_le _,rfl,by (first | rfl | (simp only[go_sem,Nat.reduceAdd,Nat.reduceMul,Nat.reduceSub,Nat.reduceLT,Nat.reduceLeDiff,Nat.reduceEqDiff,Nat.reduceBEq,Nat.reduceBNe,Int.reduceBEq,Int.reduceBNe,Int.reduceEq,Int.reduceNe,Int.reduceMul,Int.reduceSub,Int.reduceLE,Int.reduceLT,Int.reduceGT,Int.reduceGE,Int.reduceNeg,Int.reduceAdd,Int.reduceToNat,reduceCtorEq,reduceIte,eq_self,map327];done) | (simp only[go_sem,Nat.reduceAdd,Nat.reduceMul,Nat.reduceSub,Nat.reduceLT,Nat.reduceLeDiff,Nat.reduceEqDiff,Nat.reduceBEq,Nat.reduceBNe,Int.reduceBEq,Int.reduceBNe,Int.reduceEq,Int.reduceNe,Int.reduceMul,Int.reduceSub,Int.reduceLE,Int.reduceLT,Int.reduceGT,Int.reduceGE,Int.reduceNeg,Int.reduceAdd,Int.reduceToNat,reduceCtorEq,reduceIte,eq_self,map327];rfl)),by (first | rfl | (simp only[go_sem,Nat.reduceAdd,Nat.reduceMul,Nat.reduceSub,Nat.reduceLT,Nat.reduceLeDiff,Nat.reduceEqDiff,Nat.reduceBEq,Nat.reduceBNe,Int.reduceBEq,Int.reduceBNe,Int.reduceEq,Int.reduceNe,Int.reduceMul,Int.reduceSub,Int.reduceLE,Int.reduceLT,Int.reduceGT,Int.reduceGE,Int.reduceNeg,Int.reduceAdd,Int.reduceToNat,reduceCtorEq,reduceIte,eq_self,map327];done) | (simp only[go_sem,Nat.reduceAdd,Nat.reduceMul,Nat.reduceSub,Nat.reduceLT,Nat.reduceLeDiff,Nat.reduceEqDiff,Nat.reduceBEq,Nat.reduceBNe,Int.reduceBEq,Int.reduceBNe,Int.reduceEq,Int.reduceNe,Int.reduceMul,Int.reduceSub,Int.reduceLE,Int.reduceLT,Int.reduceGT,Int.reduceGE,Int.reduceNeg,Int.reduceAdd,Int.reduceToNat,reduceCtorEq,reduceIte,eq_self,map327];rfl)),by (first | rfl | (simp only[go_sem,Nat.reduceAdd,Nat.reduceMul,Nat.reduceSub,Nat.reduceLT,Nat.reduceLeDiff,Nat.reduceEqDiff,Nat.reduceBEq,Nat.reduceBNe,Int.reduceBEq,Int.reduceBNe,Int.reduceEq,Int.reduceNe,Int.reduceMul,Int.reduceSub,Int.reduceLE,Int.reduceLT,Int.reduceGT,Int.reduceGE,Int.reduceNeg,Int.reduceAdd,Int.reduceToNat,reduceCtorEq,reduceIte,eq_self,map327];done) | (simp only[go_sem,Nat.reduceAdd,Nat.reduceMul,Nat.reduceSub,Nat.reduceLT,Nat.reduceLeDiff,Nat.reduceEqDiff,Nat.reduceBEq,Nat.reduceBNe,Int.reduceBEq,Int.reduceBNe,Int.reduceEq,Int.reduceNe,Int.reduceMul,Int.reduceSub,Int.reduceLE,Int.reduceLT,Int.reduceGT,Int.reduceGE,Int.reduceNeg,Int.reduceAdd,Int.reduceToNat,reduceCtorEq,reduceIte,eq_self,map327];rfl)),by (first | rfl | (simp only[go_sem,Nat.reduceAdd,Nat.reduceMul,Nat.reduceSub,Nat.reduceLT,Nat.reduceLeDiff,Nat.reduceEqDiff,Nat.reduceBEq,Nat.reduceBNe,Int.reduceBEq,Int.reduceBNe,Int.reduceEq,Int.reduceNe,Int.reduceMul,Int.reduceSub,Int.reduceLE,Int.reduceLT,Int.reduceGT,Int.reduceGE,Int.reduceNeg,Int.reduceAdd,Int.reduceToNat,reduceCtorEq,reduceIte,eq_self,map327];done) | (simp only[go_sem,Nat.reduceAdd,Nat.reduceMul,Nat.reduceSub,Nat.reduceLT,Nat.reduceLeDiff,Nat.reduceEqDiff,Nat.reduceBEq,Nat.reduceBNe,Int.reduceBEq,Int.reduceBNe,Int.reduceEq,Int.reduceNe,Int.reduceMul,Int.reduceSub,Int.reduceLE,Int.reduceLT,Int.reduceGT,Int.reduceGE,Int.reduceNeg,Int.reduceAdd,Int.reduceToNat,reduceCtorEq,reduceIte,eq_self,map327];rfl)),by (first | rfl | (simp only[go_sem,Nat.reduceAdd,Nat.reduceMul,Nat.reduceSub,Nat.reduceLT,Nat.reduceLeDiff,Nat.reduceEqDiff,Nat.reduceBEq,Nat.reduceBNe,Int.reduceBEq,Int.reduceBNe,Int.reduceEq,Int.reduceNe,Int.reduceMul,Int.reduceSub,Int.reduceLE,Int.reduceLT,Int.reduceGT,Int.reduceGE,Int.reduceNeg,Int.reduceAdd,Int.reduceToNat,reduceCtorEq,reduceIte,eq_self,map327];done) | (simp only[go_sem,Nat.reduceAdd,Nat.reduceMul,Nat.reduceSub,Nat.reduceLT,Nat.reduceLeDiff,Nat.reduceEqDiff,Nat.reduceBEq,Nat.reduceBNe,Int.reduceBEq,Int.reduceBNe,Int.reduceEq,Int.reduceNe,Int.reduceMul,Int.reduceSub,Int.reduceLE,Int.reduceLT,Int.reduceGT,Int.reduceGE,Int.reduceNeg,Int.reduceAdd,Int.reduceToNat,reduceCtorEq,reduceIte,eq_self,map327];rfl)),by (first | rfl | (simp only[go_sem,Nat.reduceAdd,Nat.reduceMul,Nat.reduceSub,Nat.reduceLT,Nat.reduceLeDiff,Nat.reduceEqDiff,Nat.reduceBEq,Nat.reduceBNe,Int.reduceBEq,Int.reduceBNe,Int.reduceEq,Int.reduceNe,Int.reduceMul,Int.reduceSub,Int.reduceLE,Int.reduceLT,Int.reduceGT,Int.reduceGE,Int.reduceNeg,Int.reduceAdd,Int.reduceToNat,reduceCtorEq,reduceIte,eq_self,map327];done) | (simp only[go_sem,Nat.reduceAdd,Nat.reduceMul,Nat.reduceSub,Nat.reduceLT,Nat.reduceLeDiff,Nat.reduceEqDiff,Nat.reduceBEq,Nat.reduceBNe,Int.reduceBEq,Int.reduceBNe,Int.reduceEq,Int.reduceNe,Int.reduceMul,Int.reduceSub,Int.reduceLE,Int.reduceLT,Int.reduceGT,Int.reduceGE,Int.reduceNeg,Int.reduceAdd,Int.reduceToNat,reduceCtorEq,reduceIte,eq_self,map327];rfl)),by (first | rfl | (simp only[go_sem,Nat.reduceAdd,Nat.reduceMul,Nat.reduceSub,Nat.reduceLT,Nat.reduceLeDiff,Nat.reduceEqDiff,Nat.reduceBEq,Nat.reduceBNe,Int.reduceBEq,Int.reduceBNe,Int.reduceEq,Int.reduceNe,Int.reduceMul,Int.reduceSub,Int.reduceLE,Int.reduceLT,Int.reduceGT,Int.reduceGE,Int.reduceNeg,Int.reduceAdd,Int.reduceToNat,reduceCtorEq,reduceIte,eq_self,map327];done) | (simp only[go_sem,Nat.reduceAdd,Nat.reduceMul,Nat.reduceSub,Nat.reduceLT,Nat.reduceLeDiff,Nat.reduceEqDiff,Nat.reduceBEq,Nat.reduceBNe,Int.reduceBEq,Int.reduceBNe,Int.reduceEq,Int.reduceNe,Int.reduceMul,Int.reduceSub,Int.reduceLE,Int.reduceLT,Int.reduceGT,Int.reduceGE,Int.reduceNeg,Int.reduceAdd,Int.reduceToNat,reduceCtorEq,reduceIte,eq_self,map327];rfl))⟩
  ·rintro n st ⟨k,v,w1,hk,rfl,e0,e1,e2,e3,e4,e5,e6⟩
   by_cases h:k<l.length
   ·have hd:decide ((k:Int)<(l.length:Int))=true:=decide_eq_true (by omega)
    have hm:mset (keysM (List.range k)) (k:Int) (D.v (.bool true))=keysM (List.range (k+1)):=by rw[mset_new (by simp),List.range_succ]
    have hkl:(keysM (List.range k)).length=k:=by simp[keysM]
    have hwI:wI ((k:Int)+1)=((k+1:Nat):Int):=by simp only[wI,IntKind.wrap,IntKind.bits,IntKind.signed];simp;omega
    simp only[go_sem,Nat.reduceAdd,Nat.reduceMul,Nat.reduceSub,Nat.reduceLT,Nat.reduceLeDiff,Nat.reduceEqDiff,Nat.reduceBEq,Nat.reduceBNe,Int.reduceBEq,Int.reduceBNe,Int.reduceEq,Int.reduceNe,Int.reduceMul,Int.reduceSub,Int.reduceLE,Int.reduceLT,Int.reduceGT,Int.reduceGE,Int.reduceNeg,Int.reduceAdd,Int.reduceToNat,reduceCtorEq,reduceIte,eq_self,map327,e0,e1,e2,e3,e4,e5,e6,hd,hm,hkl,hwI]
    refine ⟨by omega,l.length-(k+1),by omega,k+1,v,w1,by omega,rfl,?_,?_,?_,?_,?_,?_,?_⟩<;>(first | rfl | (simp only[go_sem,Nat.reduceAdd,Nat.reduceMul,Nat.reduceSub,Nat.reduceLT,Nat.reduceLeDiff,Nat.reduceEqDiff,Nat.reduceBEq,Nat.reduceBNe,Int.reduceBEq,Int.reduceBNe,Int.reduceEq,Int.reduceNe,Int.reduceMul,Int.reduceSub,Int.reduceLE,Int.reduceLT,Int.reduceGT,Int.reduceGE,Int.reduceNeg,Int.reduceAdd,Int.reduceToNat,reduceCtorEq,reduceIte,eq_self,map327,e0,e1,e2,e3,e4,e5,e6,hwI,hm];done) | (simp only[go_sem,Nat.reduceAdd,Nat.reduceMul,Nat.reduceSub,Nat.reduceLT,Nat.reduceLeDiff,Nat.reduceEqDiff,Nat.reduceBEq,Nat.reduceBNe,Int.reduceBEq,Int.reduceBNe,Int.reduceEq,Int.reduceNe,Int.reduceMul,Int.reduceSub,Int.reduceLE,Int.reduceLT,Int.reduceGT,Int.reduceGE,Int.reduceNeg,Int.reduceAdd,Int.reduceToNat,reduceCtorEq,reduceIte,eq_self,map327,e0,e1,e2,e3,e4,e5,e6,hwI,hm];rfl))
   ·obtain rfl:k=l.length:=by omega
    have hd:decide ((l.length:Int)<(l.length:Int))=false:=decide_eq_false (by omega)
    simp only[go_sem,Nat.reduceAdd,Nat.reduceMul,Nat.reduceSub,Nat.reduceLT,Nat.reduceLeDiff,Nat.reduceEqDiff,Nat.reduceBEq,Nat.reduceBNe,Int.reduceBEq,Int.reduceBNe,Int.reduceEq,Int.reduceNe,Int.reduceMul,Int.reduceSub,Int.reduceLE,Int.reduceLT,Int.reduceGT,Int.reduceGE,Int.reduceNeg,Int.reduceAdd,Int.reduceToNat,reduceCtorEq,reduceIte,eq_self,map327,e0,e1,e2,e3,e4,e5,e6,hd]
    refine LoopG.of (U2 l) 1000 l.length ?_ ?_ _
    ·refine ⟨0,v,w1,Nat.zero_le _,rfl,?_,?_,?_,?_,?_,?_,?_,?_⟩<;>(first | rfl | (simp only[left_zero,go_sem,Nat.reduceAdd,Nat.reduceMul,Nat.reduceSub,Nat.reduceLT,Nat.reduceLeDiff,Nat.reduceEqDiff,Nat.reduceBEq,Nat.reduceBNe,Int.reduceBEq,Int.reduceBNe,Int.reduceEq,Int.reduceNe,Int.reduceMul,Int.reduceSub,Int.reduceLE,Int.reduceLT,Int.reduceGT,Int.reduceGE,Int.reduceNeg,Int.reduceAdd,Int.reduceToNat,reduceCtorEq,reduceIte,eq_self,map327,e0,e1,e2,e3,e4,e5,e6];done) | (simp only[left_zero,go_sem,Nat.reduceAdd,Nat.reduceMul,Nat.reduceSub,Nat.reduceLT,Nat.reduceLeDiff,Nat.reduceEqDiff,Nat.reduceBEq,Nat.reduceBNe,Int.reduceBEq,Int.reduceBNe,Int.reduceEq,Int.reduceNe,Int.reduceMul,Int.reduceSub,Int.reduceLE,Int.reduceLT,Int.reduceGT,Int.reduceGE,Int.reduceNeg,Int.reduceAdd,Int.reduceToNat,reduceCtorEq,reduceIte,eq_self,map327,e0,e1,e2,e3,e4,e5,e6];rfl))
    ·clear e0 e1 e2 e3 e4 e5 e6 hk h hd
     clear st v w1
     rintro n st ⟨k,v,w1,hk,rfl,e0,e1,e2,e3,e4,e5,e6,e7⟩
     by_cases h:k<l.length
     ·have hd:decide ((k:Int)<(l.length:Int))=true:=decide_eq_true (by omega)
      have hwI:wI ((k:Int)+1)=((k+1:Nat):Int):=by simp only[wI,IntKind.wrap,IntKind.bits,IntKind.signed];simp;omega
      have hg:(l.map e132).getD k []=e132 l[k]:=by simp[h]
      have h0:(0:Int)<=(k:Int):=by omega
      have h1:(k:Int)<(l.length:Int):=by omega
      cases hL:l[k].Live with
      | true =>
       have hf:frU l k=false:=by simp[frU,h,freeU,hL]
       have hm:mdel (keysM (left l k)) (k:Int)=keysM (left l (k+1)):=by rw[mdel_key (left_nodup l k),left_del hf]
       simp only[go_sem,Nat.reduceAdd,Nat.reduceMul,Nat.reduceSub,Nat.reduceLT,Nat.reduceLeDiff,Nat.reduceEqDiff,Nat.reduceBEq,Nat.reduceBNe,Int.reduceBEq,Int.reduceBNe,Int.reduceEq,Int.reduceNe,Int.reduceMul,Int.reduceSub,Int.reduceLE,Int.reduceLT,Int.reduceGT,Int.reduceGE,Int.reduceNeg,Int.reduceAdd,Int.reduceToNat,reduceCtorEq,reduceIte,eq_self,map327,e0,e1,e2,e3,e4,e5,e6,e7,hd,hm,hwI,hg,h0,h1,hL]
       refine ⟨l.length-(k+1),by omega,k+1,v,w1,by omega,rfl,?_,?_,?_,?_,?_,?_,?_,?_⟩<;>(first | rfl | (simp only[go_sem,Nat.reduceAdd,Nat.reduceMul,Nat.reduceSub,Nat.reduceLT,Nat.reduceLeDiff,Nat.reduceEqDiff,Nat.reduceBEq,Nat.reduceBNe,Int.reduceBEq,Int.reduceBNe,Int.reduceEq,Int.reduceNe,Int.reduceMul,Int.reduceSub,Int.reduceLE,Int.reduceLT,Int.reduceGT,Int.reduceGE,Int.reduceNeg,Int.reduceAdd,Int.reduceToNat,reduceCtorEq,reduceIte,eq_self,map327,e0,e1,e2,e3,e4,e5,e6,e7,hwI,hm];done) | (simp only[go_sem,Nat.reduceAdd,Nat.reduceMul,Nat.reduceSub,Nat.reduceLT,Nat.reduceLeDiff,Nat.reduceEqDiff,Nat.reduceBEq,Nat.reduceBNe,Int.reduceBEq,Int.reduceBNe,Int.reduceEq,Int.reduceNe,Int.reduceMul,Int.reduceSub,Int.reduceLE,Int.reduceLT,Int.reduceGT,Int.reduceGE,Int.reduceNeg,Int.reduceAdd,Int.reduceToNat,reduceCtorEq,reduceIte,eq_self,map327,e0,e1,e2,e3,e4,e5,e6,e7,hwI,hm];rfl))
      | false =>
       cases hG:(l[k].Gen==4294967295) with
       | true =>
        have hf:frU l k=false:=by simp only[frU,h,List.getElem?_eq_getElem,freeU,hL,hG];rfl
        have hm:mdel (keysM (left l k)) (k:Int)=keysM (left l (k+1)):=by rw[mdel_key (left_nodup l k),left_del hf]
        simp only[go_sem,Nat.reduceAdd,Nat.reduceMul,Nat.reduceSub,Nat.reduceLT,Nat.reduceLeDiff,Nat.reduceEqDiff,Nat.reduceBEq,Nat.reduceBNe,Int.reduceBEq,Int.reduceBNe,Int.reduceEq,Int.reduceNe,Int.reduceMul,Int.reduceSub,Int.reduceLE,Int.reduceLT,Int.reduceGT,Int.reduceGE,Int.reduceNeg,Int.reduceAdd,Int.reduceToNat,reduceCtorEq,reduceIte,eq_self,map327,e0,e1,e2,e3,e4,e5,e6,e7,hd,hm,hwI,hg,h0,h1,hL,hG]
        refine ⟨l.length-(k+1),by omega,k+1,v,w1,by omega,rfl,?_,?_,?_,?_,?_,?_,?_,?_⟩<;>(first | rfl | (simp only[go_sem,Nat.reduceAdd,Nat.reduceMul,Nat.reduceSub,Nat.reduceLT,Nat.reduceLeDiff,Nat.reduceEqDiff,Nat.reduceBEq,Nat.reduceBNe,Int.reduceBEq,Int.reduceBNe,Int.reduceEq,Int.reduceNe,Int.reduceMul,Int.reduceSub,Int.reduceLE,Int.reduceLT,Int.reduceGT,Int.reduceGE,Int.reduceNeg,Int.reduceAdd,Int.reduceToNat,reduceCtorEq,reduceIte,eq_self,map327,e0,e1,e2,e3,e4,e5,e6,e7,hwI,hm];done) | (simp only[go_sem,Nat.reduceAdd,Nat.reduceMul,Nat.reduceSub,Nat.reduceLT,Nat.reduceLeDiff,Nat.reduceEqDiff,Nat.reduceBEq,Nat.reduceBNe,Int.reduceBEq,Int.reduceBNe,Int.reduceEq,Int.reduceNe,Int.reduceMul,Int.reduceSub,Int.reduceLE,Int.reduceLT,Int.reduceGT,Int.reduceGE,Int.reduceNeg,Int.reduceAdd,Int.reduceToNat,reduceCtorEq,reduceIte,eq_self,map327,e0,e1,e2,e3,e4,e5,e6,e7,hwI,hm];rfl))
       | false =>
        have hf:frU l k=true:=by simp only[frU,h,List.getElem?_eq_getElem,freeU,hL,hG];rfl
        have hm:keysM (left l k)=keysM (left l (k+1)):=by rw[left_keep hf]
        rw[hm] at e5
        simp only[go_sem,Nat.reduceAdd,Nat.reduceMul,Nat.reduceSub,Nat.reduceLT,Nat.reduceLeDiff,Nat.reduceEqDiff,Nat.reduceBEq,Nat.reduceBNe,Int.reduceBEq,Int.reduceBNe,Int.reduceEq,Int.reduceNe,Int.reduceMul,Int.reduceSub,Int.reduceLE,Int.reduceLT,Int.reduceGT,Int.reduceGE,Int.reduceNeg,Int.reduceAdd,Int.reduceToNat,reduceCtorEq,reduceIte,eq_self,map327,e0,e1,e2,e3,e4,e5,e6,e7,hd,hwI,hg,h0,h1,hL,hG]
        refine ⟨l.length-(k+1),by omega,k+1,v,w1,by omega,rfl,?_,?_,?_,?_,?_,?_,?_,?_⟩<;>(first | rfl | (simp only[go_sem,Nat.reduceAdd,Nat.reduceMul,Nat.reduceSub,Nat.reduceLT,Nat.reduceLeDiff,Nat.reduceEqDiff,Nat.reduceBEq,Nat.reduceBNe,Int.reduceBEq,Int.reduceBNe,Int.reduceEq,Int.reduceNe,Int.reduceMul,Int.reduceSub,Int.reduceLE,Int.reduceLT,Int.reduceGT,Int.reduceGE,Int.reduceNeg,Int.reduceAdd,Int.reduceToNat,reduceCtorEq,reduceIte,eq_self,map327,e0,e1,e2,e3,e4,e5,e6,e7,hwI];done) | (simp only[go_sem,Nat.reduceAdd,Nat.reduceMul,Nat.reduceSub,Nat.reduceLT,Nat.reduceLeDiff,Nat.reduceEqDiff,Nat.reduceBEq,Nat.reduceBNe,Int.reduceBEq,Int.reduceBNe,Int.reduceEq,Int.reduceNe,Int.reduceMul,Int.reduceSub,Int.reduceLE,Int.reduceLT,Int.reduceGT,Int.reduceGE,Int.reduceNeg,Int.reduceAdd,Int.reduceToNat,reduceCtorEq,reduceIte,eq_self,map327,e0,e1,e2,e3,e4,e5,e6,e7,hwI];rfl))
     ·obtain rfl:k=l.length:=by omega
      have hd:decide ((l.length:Int)<(l.length:Int))=false:=decide_eq_false (by omega)
      simp only[go_sem,Nat.reduceAdd,Nat.reduceMul,Nat.reduceSub,Nat.reduceLT,Nat.reduceLeDiff,Nat.reduceEqDiff,Nat.reduceBEq,Nat.reduceBNe,Int.reduceBEq,Int.reduceBNe,Int.reduceEq,Int.reduceNe,Int.reduceMul,Int.reduceSub,Int.reduceLE,Int.reduceLT,Int.reduceGT,Int.reduceGE,Int.reduceNeg,Int.reduceAdd,Int.reduceToNat,reduceCtorEq,reduceIte,eq_self,map327,e0,e1,e2,e3,e4,e5,e6,e7,hd]
      refine ⟨v,?_,?_,?_,?_⟩<;>(first | rfl | (simp only[go_sem,Nat.reduceAdd,Nat.reduceMul,Nat.reduceSub,Nat.reduceLT,Nat.reduceLeDiff,Nat.reduceEqDiff,Nat.reduceBEq,Nat.reduceBNe,Int.reduceBEq,Int.reduceBNe,Int.reduceEq,Int.reduceNe,Int.reduceMul,Int.reduceSub,Int.reduceLE,Int.reduceLT,Int.reduceGT,Int.reduceGE,Int.reduceNeg,Int.reduceAdd,Int.reduceToNat,reduceCtorEq,reduceIte,eq_self,map327,e0,e1,e2,e3,e4,e5,e6,e7];done) | (simp only[go_sem,Nat.reduceAdd,Nat.reduceMul,Nat.reduceSub,Nat.reduceLT,Nat.reduceLeDiff,Nat.reduceEqDiff,Nat.reduceBEq,Nat.reduceBNe,Int.reduceBEq,Int.reduceBNe,Int.reduceEq,Int.reduceNe,Int.reduceMul,Int.reduceSub,Int.reduceLE,Int.reduceLT,Int.reduceGT,Int.reduceGE,Int.reduceNeg,Int.reduceAdd,Int.reduceToNat,reduceCtorEq,reduceIte,eq_self,map327,e0,e1,e2,e3,e4,e5,e6,e7];rfl))
 ·clear hrel a w
  rintro st a w hrel ⟨v,q1,q2,q3,q4⟩
  obtain ⟨h1,h2,M,β,h0,h3,I⟩:=id hrel
  have m4:=h3 4
  have m8:=h3 8
  rw[q2] at m4
  rw[q4] at m8
  simp only[Rep] at m4 m8
  obtain ⟨b,cb,hb,he⟩:=m4
  obtain ⟨x0,hx0,hob⟩:=I.obs 640 v _ q3
  rw[hb] at hx0
  obtain rfl:some (b,cb)=x0:=by simpa using hx0
  obtain ⟨rfl,l1,l2,ents,clock,g3,g4,g5,g6⟩:=hob
  have hkeys:∀ e∈ents.toList,∃ n,e.key=.int .i64 n:=fun e hee=>by
   have:e.key∈ents.toList.map (·.key):=List.mem_map.2 ⟨e,hee,rfl⟩
   rw[g4.keys] at this
   obtain ⟨j,_,hj⟩:=List.mem_map.1 this
   exact ⟨_,hj.symm⟩
  refine range_min und327 h1 (by rw[h2,q1];decide) (by decide) he m8.1 g3 g5 g6 hkeys ?_
  intro a' w' x hd' hs' hm' hf' hmin hsame
  have hx:=min_eq g4 hmin
  have hle:0<=x∧x<=l.length:=⟨by rw[hx];omega,hmin.2.1⟩
  have hr2:=hrel.same hsame hd' hs' (t':=fun i=>if i=4 then .omp 640 v else if i=8 then .v (.int .i64 x) else .any) (fun M β hall i=>by
   by_cases h4:i=4
   ·subst h4
    have:=hall 4
    rw[q2,he] at this
    rw[if_pos rfl,hm'];exact this
   ·rw[if_neg h4]
    by_cases h8:i=8
    ·subst h8
     rw[if_pos rfl,hf']
     simp only[Rep]
     exact ⟨trivial,by rw[hx];exact len_nat (by simp only[top47];omega)⟩
    ·rw[if_neg h8];simp[Rep])
  refine run_ok 1000 _ hr2 ?_
  have hl:=len_left l
  subst hx
  simp only[go_sem,Nat.reduceAdd,Nat.reduceMul,Nat.reduceSub,Nat.reduceLT,Nat.reduceLeDiff,Nat.reduceEqDiff,Nat.reduceBEq,Nat.reduceBNe,Int.reduceBEq,Int.reduceBNe,Int.reduceEq,Int.reduceNe,Int.reduceMul,Int.reduceSub,Int.reduceLE,Int.reduceLT,Int.reduceGT,Int.reduceGE,Int.reduceNeg,Int.reduceAdd,Int.reduceToNat,reduceCtorEq,reduceIte,eq_self,map327,q1,q3]
  with_reducible refine ret_k ?_
  rw[hl]
  simp only[go_sem,Nat.reduceAdd,Nat.reduceMul,Nat.reduceSub,Nat.reduceLT,Nat.reduceLeDiff,Nat.reduceEqDiff,Nat.reduceBEq,Nat.reduceBNe,Int.reduceBEq,Int.reduceBNe,Int.reduceEq,Int.reduceNe,Int.reduceMul,Int.reduceSub,Int.reduceLE,Int.reduceLT,Int.reduceGT,Int.reduceGE,Int.reduceNeg,Int.reduceAdd,Int.reduceToNat,reduceCtorEq,reduceIte,eq_self]
  exact ⟨rfl,rfl⟩
@[reducible,instance] def QlK (N:Nat) (a0:TTable):=OK.mk fun G hw r hr=>QiZ G hw N a0 r hr
end Go.Sx
