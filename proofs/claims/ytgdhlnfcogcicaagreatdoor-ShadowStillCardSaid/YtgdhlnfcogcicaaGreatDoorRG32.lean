import Derived.Test.YtgdhlnfcogcicaaGreatDoorRF
import Derived.Test.YtgdhlnfcogcicaaGreatDoorRG0
import Derived.Test.YtgdhlnfcogcicaaGreatDoorRG1
import Derived.Test.YtgdhlnfcogcicaaGreatDoorRG5
import Derived.Test.YtgdhlnfcogcicaaGreatDoorRG23
import Derived.Test.YtgdhlnfcogcicaaGreatDoorRG30
import Derived.Test.YtgdhlnfcogcicaaGreatDoorRG31
set_option linter.all false
namespace Go.Sx
open Go.Proofs
set_option maxRecDepth 10000
set_option maxHeartbeats 100000000
abbrev Qhg:=fun N (y3:TWorld) (y4:TWorld × Int × Int) (Q:(Ex Bool Int)→Prop) n (st:St)=>∃ (v7:Int) (v8:Int) (ex:_),Qbe N y3 y4 n v7 v8=some ex∧Q ex∧((∃ w448 w512,st.n=110∧st.t 7=.ept 448 w448 10 0 0∧st.t 8=.ept 512 w512 10 0 0∧st.t 11=.v (.int .i64 v7)∧st.t 12=.v (.int .i64 v8)∧st.s 448=some (w448,.arr true 61 10 [e61 y3] 0)∧st.s 512=some (w512,.arr true 61 10 [e61 y4.1] 0)))
instance Qki:∀ N (a0:List Int) (a1:List Int),OK (Qcq N a0 a1) 4 [.isl 3 1 (a0.map e3),.isl 3 1 (a1.map e3)] [] (fun r=>.v (.bool r)) fun r=>[]:=by
 refine fun N _ _=>rn Tryz.f4 [.tmp 4] [] 110 (by kernel_rfl) ?_<;>(rintro _ hw r hr C _ rfl hwf hf;simp only[Tryz.f4,Option.get!];(rw[Qcq] at hr);repeat' first
 |(refine El.el hr ?_;intro hr)
 |(with_reducible intro h;refine bc_e hr h ?_;intro hr)
 |with_reducible intro _
 |(refine some_e hr ?_;rintro rfl;have hr:=hk;clear hk)
 |simp only[go_sem,simprocAttr,E,hl77]
 |(with_reducible first|apply guard_of_f|apply guard_of_t|apply cond_of|apply doT_of_t|apply doT_of_f)
 |((first|with_reducible refine idx_s hr (by assumption) ?_ ?_|(with_reducible refine idx_e hr ?_ ?_;rotate_left;intro p;rotate_right));(·simp only[go_sem,simprocAttr]);intro hp hn hd hr;(try have hl77:=hd _ e77);(try simp only[go_sem,simprocAttr] at hl77))
 |(refine and_of' ?_ ?_;·first|assumption|omega)
 |with_reducible refine CallX.c ?_ _
 |with_reducible refine OK.c hr hw ?_ (fun y hr=>?_) _
 |with_reducible refine OK.d hr hw ?_ (fun y hr=>?_) _
 |(with_reducible refine loop_e (I:=Qhg N _ _) hr 1000 N (fun ex hq hk=>⟨_,_,ex,hq,hk,?_⟩) ?_ _;rotate_left;clear hr;(try clear E);rintro n1 st ⟨v7,v8,ex,hr,hk,⟨_,_,E⟩⟩<;>(obtain _|n1:=n1<;>rw[Qbe] at hr))
 |refine ⟨_,Nat.lt_succ_self _,_,_,_,hr,hk,?_⟩
 |refine db 4 13 hf [([],[],[73,77,78,79,80,81,82],[]),([0],[],[73,77,78,79,80,81,82],[]),([],[],[71,72,77,78,79,80,81,82],[]),([0,1,2],[],[77,78,79,80,81,82],[]),([0,1,2,3],[],[77,78,79,80,81,82],[]),([0,1,2,3,4],[],[77,78,79,80,81,82],[]),([],[],[71,72,73,74,75,76,79],[]),([6],[],[71,72,73,74,75,76,79],[]),([],[],[71,72,73,74,75,76,77,78],[]),([6,7,8],[],[71,72,73,74,75,76],[]),([6,7,8,9],[],[71,72,73,74,75,76],[]),([6,7,8,9,10],[],[71,72,73,74,75,76],[]),([0,1,2,3,4,5,6,7,8,9,10,11],[],[],[])] rfl rfl (by kernel_rfl) ?_ _
 |refine db 4 15 hf [([],[],[86,90,91,92,93,94,95],[]),([0],[],[86,90,91,92,93,94,95],[]),([],[],[84,85,90,91,92,93,94,95],[]),([0,1,2],[],[90,91,92,93,94,95],[]),([0,1,2,3],[],[90,91,92,93,94,95],[]),([0,1,2,3,4],[],[90,91,92,93,94,95],[]),([],[],[84,85,86,87,88,89,92],[]),([6],[],[84,85,86,87,88,89,92],[]),([],[],[84,85,86,87,88,89,90,91],[]),([6,7,8],[],[84,85,86,87,88,89],[]),([6,7,8,9],[],[84,85,86,87,88,89],[]),([6,7,8,9,10],[],[84,85,86,87,88,89],[]),([0,1,2,3,4,5,6,7,8,9,10,11],[],[],[]),([0,1,2,3,4,5,6,7,8,9,10,11,12],[],[],[])] rfl rfl (by kernel_rfl) ?_ _
 |(refine some_e hr ?_;rintro rfl;with_reducible refine ret_k ?_)
 |exact no_e hr
 |((first|refine bc_e (c:=true) hr rfl ?_|refine bc_e (c:=false) hr rfl ?_|refine bc_e hr (by assumption) ?_);intro hr)
 |fail)
end Go.Sx
