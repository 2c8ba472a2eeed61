import Derived.Test.YtgdhlnfcogcicaaGreatDoorSF
import Derived.Test.YtgdhlnfcogcicaaGreatDoorSG0
import Derived.Test.YtgdhlnfcogcicaaGreatDoorSG1
import Derived.Test.YtgdhlnfcogcicaaGreatDoorSG2
import Derived.Test.YtgdhlnfcogcicaaGreatDoorSG4
import Derived.Test.YtgdhlnfcogcicaaGreatDoorSG5
import Derived.Test.YtgdhlnfcogcicaaGreatDoorSG9
import Derived.Test.YtgdhlnfcogcicaaGreatDoorSG10
import Derived.Test.YtgdhlnfcogcicaaGreatDoorSG11
import Derived.Test.YtgdhlnfcogcicaaGreatDoorSG12
import Derived.Test.YtgdhlnfcogcicaaGreatDoorSG14
import Derived.Test.YtgdhlnfcogcicaaGreatDoorSG18
import Derived.Test.YtgdhlnfcogcicaaGreatDoorSG21
set_option linter.all false
namespace Go.Sx
open Go.Proofs
set_option maxRecDepth 10000
set_option maxHeartbeats 100000000
theorem g38:(∀ N (a0:TEnv),OK (Qc4 N a0) 130 [.agg (e45 a0)] [] (fun r=>.v (.bool r)) fun r=>[])∧(∀ N (a0:THeap) (a1:List TPin) (a2:Int),OK (QcM N a0 a1 a2) 222 [.agg (e42 a0),.isl 229 2 (a1.map e229),.v (.int .u64 a2)] [] (fun r=>.tup [.agg (e42 r.1),.isl 229 2 (r.2.1.map e229),.v (.int .i64 r.2.2)]) fun r=>[])∧(∀ N (a0:THeap) (a1:List TPin) (a2:Int),OK (QeK N a0 a1 a2) 223 [.agg (e42 a0),.isl 229 2 (a1.map e229),.v (.int .u64 a2)] [] (fun r=>.tup [.agg (e42 r.1),.isl 229 2 (r.2.1.map e229),.v (.int .u64 r.2.2.1),.v (.int .i64 r.2.2.2)]) fun r=>[]):=by
 refine ⟨fun N _=>rn Tryz.f130 [.tmp 2] [] 52 (by kernel_rfl) ?_,fun N _ _ _=>rn Tryz.f222 [.cell 6 42,.tmp 7,.tmp 8] [] 54 (by kernel_rfl) ?_,fun N _ _ _=>rn Tryz.f223 [.cell 6 42,.tmp 7,.tmp 8,.tmp 9] [] 77 (by kernel_rfl) ?_⟩<;>(rintro _ hw r hr C _ rfl hwf hf;simp only[Tryz.f130,Tryz.f222,Tryz.f223,Option.get!];(first|rw[Qc4] at hr|rw[QcM] at hr|rw[QeK] at hr);repeat' first
 |(refine El.el hr ?_;intro hr)
 |(with_reducible intro h;refine bc_e hr h ?_;intro hr)
 |with_reducible intro _
 |simp only[go_sem,simprocAttr,hl229,List.length_take,List.length_drop,Nat.min_self]
 |(with_reducible first|apply guard_of_f|apply guard_of_t|apply cond_of|apply doT_of_t|apply doT_of_f)
 |((first|with_reducible refine idx_s hr (by assumption) ?_ ?_|(with_reducible refine idx_e hr ?_ ?_;rotate_left;intro p;rotate_right));(·simp only[go_sem,simprocAttr,List.length_take,List.length_drop,Nat.min_self]);intro hp hn hd hr;(try have hl229:=hd _ e229);(try simp only[go_sem,simprocAttr] at hl229))
 |(refine and_of' ?_ ?_;·first|assumption|omega)
 |with_reducible refine CallX.c ?_ _
 |with_reducible refine OK.c hr hw ?_ (fun y hr=>?_) _
 |with_reducible refine OK.d hr hw ?_ (fun y hr=>?_) _
 |refine db 130 6 hf [([],[2176],[35,36,38,39],[]),([],[],[34,38,39],[2176]),([1],[],[34,38,39],[2176]),([0,1,2],[2176],[38,39],[]),([],[],[34,35,36,37],[2176]),([4],[],[34,35,36,37],[2176]),([0,1,2,3,4,5],[],[],[]),([0,1,2,3,4,5,6],[2176],[],[]),([0,1,2,3,4,5,6,7],[],[],[])] rfl rfl (by kernel_rfl) ?_ _
 |refine db 130 7 hf [([],[],[44,45,46,47,48,49,50],[2176,3136]),([0],[],[44,45,46,47,48,49,50],[2176,3136]),([],[],[42,43,45,47,48],[]),([],[],[42,43,44,47,48],[]),([2,3],[2176],[42,43,47,48],[]),([],[],[42,43,44,45,46],[2176]),([5],[],[42,43,44,45,46],[2176]),([2,3,4,5,6],[3136],[42,43],[]),([2,3,4,5,6,7],[2176],[42,43],[]),([0,1,2,3,4,5,6,7,8],[],[],[]),([0,1,2,3,4,5,6,7,8,9],[],[],[])] rfl rfl (by kernel_rfl) ?_ _
 |refine db 222 11 hf [([],[],[43,45,46,47,48],[]),([],[],[42,45,46,47,48],[]),([0,1],[],[45,46,47,48],[]),([],[],[42,43,44,46,47],[]),([],[],[42,43,44,45],[]),([4],[],[42,43,44,45],[]),([3,4,5],[],[42,43,44],[]),([0,1,2,3,4,5,6],[1600],[],[]),([0,1,2,3,4,5,6,7],[],[],[])] rfl rfl (by kernel_rfl) ?_ _
 |(refine some_e hr ?_;rintro rfl;with_reducible refine ret_k ?_)
 |exact no_e hr
 |with_reducible refine ite_g (fun hi=>?_) (fun hi=>?_)
 |(exfalso;omega)
 |fail)
@[reducible,instance] def QlH:=g38.1
@[reducible,instance] def Qks:=g38.2.1
@[reducible,instance] def QmX:=g38.2.2
abbrev Qg9:=fun N (a2:List Int) (y5:TWork × List Int × Int) (y6:TWork × Int) (Q:(Int × List Int)→Prop) n (st:St)=>∃ (v7:Int) (v8:Int) (v9:List Int) (ex:_),QaM N a2 y5 y6 n v7 v8 v9=some ex∧Q ex∧((∃ w5824 w384 w576 w704,st.n=122∧st.s 5824=some (w5824,.arr false 37 1 (v9.map e37) 0)∧st.t 2=.isl 37 1 (a2.map e37)∧st.t 6=.ept 384 w384 6 0 0∧st.t 9=.ept 576 w576 6 0 0∧st.t 11=.ept 704 w704 16 0 0∧st.t 13=.isl 37 1 (y5.2.1.map e37)∧st.t 15=.osl 5824 w5824 1 0 v9.length∧st.t 16=.v (.int .i64 v7)∧st.s 384=some (w384,.arr true 42 6 [[.v (.int .i64 0),.v (.int .i64 0),.nsl,.nsl,.v (.int .i64 0),.v (.int .i64 0)]] 0)∧st.s 576=some (w576,.arr true 161 6 [[.v (.int .i64 0),.v (.int .i64 0),.v (.int .i64 0),.v (.int .i64 0),.v (.int .i64 0),.v (.int .i64 0)]] 0)∧st.s 704=some (w704,.arr true 265 16 [[.v (.int .i64 y6.1.Heap.Conf.PageWords),.v (.int .i64 y6.1.Heap.Conf.Pages),.isl 37 1 (y6.1.Heap.Words.map e37),.isl 306 4 (y6.1.Heap.Pages.map e306),.v (.int .i64 y6.1.Heap.Space),.v (.int .i64 y6.1.Heap.Bump),.isl 37 1 (y6.1.Old.map e37),.isl 3 1 (y6.1.Taken.map e3),.isl 37 1 (y6.1.Queue.map e37),.v (.int .i64 y6.1.Scanned),.v (.int .i64 y6.1.Report.Copied),.v (.int .i64 y6.1.Report.Kept),.v (.int .i64 y6.1.Report.Filled),.v (.int .i64 y6.1.Report.Freed),.v (.int .i64 v8),.v (.int .i64 y6.1.Report.Steps)]] 0))∨(∃ w384 w576 w704,(st.n=122∧st.t 2=.isl 37 1 (a2.map e37)∧st.t 6=.ept 384 w384 6 0 0∧st.t 9=.ept 576 w576 6 0 0∧st.t 11=.ept 704 w704 16 0 0∧st.t 13=.isl 37 1 (y5.2.1.map e37)∧st.t 15=.nsl∧st.t 16=.v (.int .i64 v7)∧st.s 384=some (w384,.arr true 42 6 [[.v (.int .i64 0),.v (.int .i64 0),.nsl,.nsl,.v (.int .i64 0),.v (.int .i64 0)]] 0)∧st.s 576=some (w576,.arr true 161 6 [[.v (.int .i64 0),.v (.int .i64 0),.v (.int .i64 0),.v (.int .i64 0),.v (.int .i64 0),.v (.int .i64 0)]] 0)∧st.s 704=some (w704,.arr true 265 16 [[.v (.int .i64 y6.1.Heap.Conf.PageWords),.v (.int .i64 y6.1.Heap.Conf.Pages),.isl 37 1 (y6.1.Heap.Words.map e37),.isl 306 4 (y6.1.Heap.Pages.map e306),.v (.int .i64 y6.1.Heap.Space),.v (.int .i64 y6.1.Heap.Bump),.isl 37 1 (y6.1.Old.map e37),.isl 3 1 (y6.1.Taken.map e3),.isl 37 1 (y6.1.Queue.map e37),.v (.int .i64 y6.1.Scanned),.v (.int .i64 y6.1.Report.Copied),.v (.int .i64 y6.1.Report.Kept),.v (.int .i64 y6.1.Report.Filled),.v (.int .i64 y6.1.Report.Freed),.v (.int .i64 v8),.v (.int .i64 y6.1.Report.Steps)]] 0))∧v9=[]))
instance Qkt:∀ N (a0:THeap) (a1:List Int) (a2:List Int),OK (QcK N a0 a1 a2) 131 [.agg (e42 a0),.isl 37 1 (a1.map e37),.isl 37 1 (a2.map e37)] [] (fun r=>.tup [.agg (e42 r.1),.isl 37 1 (r.2.1.map e37),.isl 37 1 (r.2.2.1.map e37),.agg (e161 r.2.2.2.1),.v (.int .i64 r.2.2.2.2)]) fun r=>[]:=by
 refine fun N _ _ _=>rn Tryz.f131 [.cell 6 42,.tmp 7,.tmp 8,.cell 9 161,.tmp 10] [] 122 (by kernel_rfl) ?_<;>(rintro _ hw r hr C _ rfl hwf hf;simp only[Tryz.f131,Option.get!];(rw[QcK] at hr);repeat' first
 |(refine El.el hr ?_;intro hr)
 |(with_reducible intro h;refine bc_e hr h ?_;intro hr)
 |with_reducible intro _
 |(refine some_e hr ?_;rintro rfl;have hr:=hk;clear hk)
 |simp only[go_sem,simprocAttr,E,hl3,hl37]
 |(with_reducible first|apply guard_of_f|apply guard_of_t|apply cond_of|apply doT_of_t|apply doT_of_f)
 |((first|with_reducible refine idx_s hr (by assumption) ?_ ?_|(with_reducible refine idx_e hr ?_ ?_;rotate_left;intro p;rotate_right));(·simp only[go_sem,simprocAttr]);intro hp hn hd hr;(try have hl3:=hd _ e3);(try simp only[go_sem,simprocAttr] at hl3);(try have hl37:=hd _ e37);(try simp only[go_sem,simprocAttr] at hl37))
 |(refine and_of' ?_ ?_;·first|assumption|omega)
 |with_reducible refine CallX.c ?_ _
 |with_reducible refine OK.c hr hw ?_ (fun y hr=>?_) _
 |with_reducible refine OK.d hr hw ?_ (fun y hr=>?_) _
 |(with_reducible refine loop_e (I:=Qg9 N _ _ _) hr 1000 N (fun ex hq hk=>⟨_,_,_,ex,hq,hk,?_⟩) ?_ _;rotate_left;clear hr;(try clear E);rintro n1 st ⟨v7,v8,v9,ex,hr,hk,(⟨_,_,_,_,E⟩|⟨_,_,_,E,z0⟩)⟩<;>(try subst z0)<;>(obtain _|n1:=n1<;>rw[QaM] at hr))
 |refine ⟨_,Nat.lt_succ_self _,_,_,_,_,hr,hk,?_⟩
 |refine db 131 18 hf [([],[],[75,76,77,78],[]),([],[],[74,76],[]),([],[],[74,75],[]),([1,2],[],[74],[]),([1,2,3],[],[74],[]),([0,1,2,3,4],[],[],[]),([0,1,2,3,4,5],[],[],[])] rfl rfl (by kernel_rfl) ?_ _
 |refine db 131 28 hf [([],[],[118,119,120,121],[]),([0],[],[118,119,120,121],[]),([],[],[116,117,119,120,121],[384]),([],[],[7,116,117,118,120,121],[384]),([],[],[7,8,116,117,118,119],[384]),([4],[],[7,8,116,117,118,119],[384]),([0,1],[384],[118,119,120,121],[]),([0,1,2,6],[],[119,120,121],[]),([0,1,2,3,6,7],[],[120,121],[]),([0,1,2,3,4,5,6,7,8],[576],[],[]),([0,1,2,3,4,5,6,7,8,9],[],[],[])] rfl rfl (by kernel_rfl) ?_ _
 |(refine some_e hr ?_;rintro rfl;with_reducible refine ret_k ?_)
 |exact no_e hr
 |((first|refine bc_e (c:=true) hr rfl ?_|refine bc_e (c:=false) hr rfl ?_|refine bc_e hr (by assumption) ?_);intro hr)
 |fail)
end Go.Sx
