import Derived.Test.YtgdhlnfcogcicaaGreatDoorSF
import Derived.Test.YtgdhlnfcogcicaaGreatDoorSG2
import Derived.Test.YtgdhlnfcogcicaaGreatDoorSG3
import Derived.Test.YtgdhlnfcogcicaaGreatDoorSG5
import Derived.Test.YtgdhlnfcogcicaaGreatDoorSG6
import Derived.Test.YtgdhlnfcogcicaaGreatDoorSG10
import Derived.Test.YtgdhlnfcogcicaaGreatDoorSG11
import Derived.Test.YtgdhlnfcogcicaaGreatDoorSG12
import Derived.Test.YtgdhlnfcogcicaaGreatDoorSG14
import Derived.Test.YtgdhlnfcogcicaaGreatDoorSG15
import Derived.Test.YtgdhlnfcogcicaaGreatDoorSG16
set_option linter.all false
namespace Go.Sx
open Go.Proofs
set_option maxRecDepth 10000
set_option maxHeartbeats 100000000
abbrev QgN:=fun N (a0:THeap) (y1:List Int × Int) (y6:List Int × Int) (v2:Int) (y4:THeader × Int) (Q:(Ex TFinding Unit)→Prop) n (st:St)=>∃ (v7:Int) (ex:_),Qbe N a0 y1 y6 v2 y4 n v7=some ex∧Q ex∧((∃ w64 w128 w384,st.n=89∧st.t 1=.ept 64 w64 6 0 0∧st.t 2=.ept 128 w128 3 0 0∧st.t 3=.isl 37 1 (y1.1.map e37)∧st.t 5=.v (.int .i64 v2)∧st.t 6=.ept 384 w384 3 0 0∧st.t 8=.isl 37 1 (y6.1.map e37)∧st.t 10=.v (.int .i64 v7)∧st.s 64=some (w64,.arr true 42 6 [e42 a0] 0)∧st.s 128=some (w128,.arr true 330 3 [[.v (.int .i64 0),.v (.int .i64 0),.v (.int .u64 0)]] 0)∧st.s 384=some (w384,.arr true 75 3 [e75 y4.1] 0)))
abbrev QgO:=fun N (a0:THeap) (y1:List Int × Int) (Q:(Ex TFinding Unit)→Prop) n (st:St)=>∃ (v2:Int) (ex:_),Qb5 N a0 y1 n v2=some ex∧Q ex∧((∃ w64 w128,st.n=89∧st.t 1=.ept 64 w64 6 0 0∧st.t 2=.ept 128 w128 3 0 0∧st.t 3=.isl 37 1 (y1.1.map e37)∧st.t 5=.v (.int .i64 v2)∧st.s 64=some (w64,.arr true 42 6 [e42 a0] 0)∧st.s 128=some (w128,.arr true 330 3 [[.v (.int .i64 0),.v (.int .i64 0),.v (.int .u64 0)]] 0)))
abbrev Qh3:=fun N (a0:TWorld) (Q:(Ex Bool Unit)→Prop) n (st:St)=>∃ (v7:Int) (ex:_),Qcq N a0 n v7=some ex∧Q ex∧((∃ w64,st.n=64∧st.t 1=.ept 64 w64 10 0 0∧st.t 34=.isl 77 4 (a0.Things.map e77)∧st.t 35=.v (.int .i64 ((a0.Things.length:Nat):Int))∧st.t 36=.v (.int .i64 v7)∧st.s 64=some (w64,.arr true 61 10 [e61 a0] 0)))
theorem g31:(∀ N (a0:THeap),OK (Qd1 N a0) 280 [.agg (e42 a0)] [] (fun r=>.agg (e330 r)) fun r=>[])∧(∀ N (a0:TWorld),OK (Qdc N a0) 57 [.agg (e61 a0)] [] (fun r=>.v (.bool r)) fun r=>[]):=by
 refine ⟨fun N _=>rn Tryz.f280 [.cell 2 330] [] 89 (by kernel_rfl) ?_,fun N _=>rn Tryz.f57 [.tmp 2] [] 64 (by kernel_rfl) ?_⟩<;>(rintro _ hw r hr C _ rfl hwf hf;simp only[Tryz.f280,Tryz.f57,Option.get!];(first|rw[Qd1] at hr|rw[Qdc] at hr);repeat' first
 |(refine El.el hr ?_;intro hr)
 |(with_reducible intro h;refine bc_e hr h ?_;intro hr)
 |with_reducible intro _
 |(refine some_e hr ?_;rintro rfl;have hr:=hk;clear hk)
 |simp only[go_sem,simprocAttr,E,hl37,hl77]
 |(with_reducible first|apply guard_of_f|apply guard_of_t|apply cond_of|apply doT_of_t|apply doT_of_f)
 |((first|with_reducible refine idx_s hr (by assumption) ?_ ?_|(with_reducible refine idx_e hr ?_ ?_;rotate_left;intro p;rotate_right));(·simp only[go_sem,simprocAttr]);intro hp hn hd hr;(try have hl37:=hd _ e37);(try simp only[go_sem,simprocAttr] at hl37);(try have hl77:=hd _ e77);(try simp only[go_sem,simprocAttr] at hl77))
 |(refine and_of' ?_ ?_;·first|assumption|omega)
 |with_reducible refine CallX.c ?_ _
 |with_reducible refine OK.c hr hw ?_ (fun y hr=>?_) _
 |with_reducible refine OK.d hr hw ?_ (fun y hr=>?_) _
 |(with_reducible refine loop_e (I:=QgN N _ _ _ _ _) hr 1000 N (fun ex hq hk=>⟨_,ex,hq,hk,?_⟩) ?_ _;rotate_left;clear hr;(try clear E);rintro n1 st ⟨v7,ex,hr,hk,⟨_,_,_,E⟩⟩<;>(obtain _|n1:=n1<;>rw[Qbe] at hr))
 |refine ⟨_,Nat.lt_succ_self _,_,_,hr,hk,?_⟩
 |(with_reducible refine loop_e (I:=QgO N _ _) hr 1000 N (fun ex hq hk=>⟨_,ex,hq,hk,?_⟩) ?_ _;rotate_left;clear hr;(try clear E);rintro n2 st ⟨v2,ex,hr,hk,⟨_,_,E⟩⟩<;>(obtain _|n2:=n2<;>rw[Qb5] at hr))
 |(with_reducible refine loop_e (I:=Qh3 N _) hr 1000 N (fun ex hq hk=>⟨_,ex,hq,hk,?_⟩) ?_ _;rotate_left;clear hr;(try clear E);rintro n1 st ⟨v7,ex,hr,hk,⟨_,E⟩⟩<;>(obtain _|n1:=n1<;>rw[Qcq] at hr))
 |refine db 280 5 hf [([],[],[6,28,29,30,31],[384]),([],[],[6,27,29],[384]),([],[],[6,27,28],[384]),([1,2],[],[6,27],[384]),([1,2,3],[],[6,27],[384]),([0,1,2,3,4],[],[6],[384]),([0,1,2,3,4,5],[],[6],[384]),([0,1,2,3,4,5,6],[],[6,34],[384]),([0,1,2,3,4,5,6],[],[6,33],[384]),([],[384],[26,27,28,29,30,31,32,33,34],[]),([0,1,2,3,4,5,6,7,9],[384],[34],[]),([0,1,2,3,4,5,6,7,8,9,10],[],[],[])] rfl rfl (by kernel_rfl) ?_ _
 |refine db 280 6 hf [([],[],[37,38,39,40],[]),([],[],[36,38],[]),([],[],[36,37],[]),([1,2],[],[36],[]),([1,2,3],[],[36],[]),([0,1,2,3,4],[],[],[]),([0,1,2,3,4,5],[],[],[]),([0,1,2,3,4,5,6],[],[43],[]),([0,1,2,3,4,5,6],[],[8,42],[]),([0,1,2,3,4,5,6,7],[],[43],[]),([0,1,2,3,4,5,6,7,8,9],[],[],[])] rfl rfl (by kernel_rfl) ?_ _
 |refine db 57 9 hf [([],[],[46,47,48,49,50,51,52,53,54,55,56,57,58],[3648]),([],[],[45,48,49,50,51,52,53,54,55,56],[]),([1],[],[45,48,49,50,51,52,53,54,55,56],[]),([],[],[45,46,47,51,52,54,55],[]),([3],[],[45,46,47,51,52,54,55],[]),([3,4],[],[45,46,47,51,52,54,55],[]),([],[],[45,46,47,48,49,50,54,55],[]),([6],[],[45,46,47,48,49,50,54,55],[]),([3,4,5,6,7],[],[45,46,47,54,55],[]),([],[],[45,46,47,48,49,50,51,52,53],[]),([9],[],[45,46,47,48,49,50,51,52,53],[]),([3,4,5,6,7,8,9,10],[],[45,46,47],[]),([1,2,3,4,5,6,7,8,9,10,11],[3648],[45],[]),([1,2,3,4,5,6,7,8,9,10,11,12],[3648],[45],[]),([0,1,2,3,4,5,6,7,8,9,10,11,12,13],[],[],[]),([0,1,2,3,4,5,6,7,8,9,10,11,12,13,14],[],[],[]),([0,1,2,3,4,5,6,7,8,9,10,11,12,13,14,15],[],[],[]),([0,1,2,3,4,5,6,7,8,9,10,11,12,13,14,15,16],[],[],[]),([0,1,2,3,4,5,6,7,8,9,10,11,12,13,14,15,16,17],[],[],[]),([0,1,2,3,4,5,6,7,8,9,10,11,12,13,14,15,16,17,18],[],[],[])] rfl rfl (by kernel_rfl) ?_ _
 |(refine some_e hr ?_;rintro rfl;with_reducible refine ret_k ?_)
 |exact no_e hr
 |((first|refine bc_e (c:=true) hr rfl ?_|refine bc_e (c:=false) hr rfl ?_|refine bc_e hr (by assumption) ?_);intro hr)
 |fail)
@[reducible,instance] def Qj1:=g31.1
@[reducible,instance] def QlC:=g31.2
instance Qj2:∀ N (a0:THeap) (a1:Int),OK (Qdj N a0 a1) 259 [.agg (e42 a0),.v (.int .u64 a1)] [] (fun r=>.v (.bool r)) fun r=>[]:=by
 refine fun N _ _=>rn Tryz.f259 [.tmp 4] [] 15 (by kernel_rfl) ?_<;>(rintro _ hw r hr C _ rfl hwf hf;simp only[Tryz.f259,Option.get!];(rw[Qdj] at hr);repeat' first
 |(refine El.el hr ?_;intro hr)
 |(with_reducible intro h;refine bc_e hr h ?_;intro hr)
 |with_reducible intro _
 |simp only[go_sem,simprocAttr]
 |(with_reducible first|apply guard_of_f|apply guard_of_t|apply cond_of)
 |(refine and_of' ?_ ?_;·first|assumption|omega)
 |with_reducible refine CallX.c ?_ _
 |with_reducible refine OK.c hr hw ?_ (fun y hr=>?_) _
 |(refine some_e hr ?_;rintro rfl;with_reducible refine ret_k ?_)
 |exact no_e hr
 |fail)
end Go.Sx
