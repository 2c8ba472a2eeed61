import Derived.Test.YtgdhlnfcogcicaaGreatDoorSF
import Derived.Test.YtgdhlnfcogcicaaGreatDoorSG0
import Derived.Test.YtgdhlnfcogcicaaGreatDoorSG1
import Derived.Test.YtgdhlnfcogcicaaGreatDoorSG4
import Derived.Test.YtgdhlnfcogcicaaGreatDoorSG6
import Derived.Test.YtgdhlnfcogcicaaGreatDoorSG12
import Derived.Test.YtgdhlnfcogcicaaGreatDoorSG14
import Derived.Test.YtgdhlnfcogcicaaGreatDoorSG19
import Derived.Test.YtgdhlnfcogcicaaGreatDoorSG20
import Derived.Test.YtgdhlnfcogcicaaGreatDoorSG30
set_option linter.all false
namespace Go.Sx
open Go.Proofs
set_option maxRecDepth 10000
set_option maxHeartbeats 100000000
abbrev Qgg:=fun N (y5:List TWorld) (y9:List Bool) (v6:Int) (p7:TWorld) (y10:List Bool) (Q:(Ex Bool Unit)→Prop) n (st:St)=>∃ (v11:Int) (ex:_),Qaz N y5 y9 v6 p7 y10 n v11=some ex∧Q ex∧((∃ w896,st.n=99∧st.t 14=.ept 896 w896 10 0 0∧st.t 15=.isl 4 1 (y9.map e4)∧st.t 16=.isl 4 1 (y10.map e4)∧st.t 17=.v (.int .i64 v11)∧st.t 45=.isl 36 10 (y5.map e36)∧st.t 46=.v (.int .i64 ((y5.length:Nat):Int))∧st.t 47=.v (.int .i64 v6)∧st.s 896=some (w896,.arr true 36 10 [e36 p7] 0)))
abbrev Qgh:=fun N (y5:List TWorld) (Q:(Ex Bool Unit)→Prop) n (st:St)=>∃ (v6:Int) (ex:_),QaA N y5 n v6=some ex∧Q ex∧((st.n=99∧st.t 45=.isl 36 10 (y5.map e36)∧st.t 46=.v (.int .i64 ((y5.length:Nat):Int))∧st.t 47=.v (.int .i64 v6)))
instance QjC:∀ N (a0:TWorld) (a1:List Int) (a2:List Int) (a3:TConf),OK (Qcg N a0 a1 a2 a3) 5 [.agg (e36 a0),.isl 3 1 (a1.map e3),.isl 3 1 (a2.map e3),.agg (e23 a3)] [] (fun r=>.v (.bool r)) fun r=>[]:=by
 refine fun N _ _ _ _=>rn Tryz.f5 [.tmp 8] [] 99 (by kernel_rfl) ?_<;>(rintro _ hw r hr C _ rfl hwf hf;simp only[Tryz.f5,Option.get!];(rw[Qcg] at hr);repeat' first
 |(refine El.el hr ?_;intro hr)
 |(with_reducible intro h;refine bc_e hr h ?_;intro hr)
 |with_reducible intro _
 |(refine some_e hr ?_;rintro rfl;have hr:=hk;clear hk)
 |simp only[go_sem,simprocAttr,E,hl4,hl36]
 |(with_reducible first|apply guard_of_f|apply guard_of_t|apply cond_of|apply doT_of_t|apply doT_of_f)
 |((first|with_reducible refine idx_s hr (by assumption) ?_ ?_|(with_reducible refine idx_e hr ?_ ?_;rotate_left;intro p;rotate_right));(·simp only[go_sem,simprocAttr]);intro hp hn hd hr;(try have hl4:=hd _ e4);(try simp only[go_sem,simprocAttr] at hl4);(try have hl36:=hd _ e36);(try simp only[go_sem,simprocAttr] at hl36))
 |(refine and_of' ?_ ?_;·first|assumption|omega)
 |with_reducible refine CallX.c ?_ _
 |with_reducible refine OK.c hr hw ?_ (fun y hr=>?_) _
 |with_reducible refine OK.d hr hw ?_ (fun y hr=>?_) _
 |(with_reducible refine loop_e (I:=Qgg N _ _ _ _ _) hr 1000 N (fun ex hq hk=>⟨_,ex,hq,hk,?_⟩) ?_ _;rotate_left;clear hr;(try clear E);rintro n1 st ⟨v11,ex,hr,hk,⟨_,E⟩⟩<;>(obtain _|n1:=n1<;>rw[Qaz] at hr))
 |refine ⟨_,Nat.lt_succ_self _,_,_,hr,hk,?_⟩
 |(with_reducible refine loop_e (I:=Qgh N _) hr 1000 N (fun ex hq hk=>⟨_,ex,hq,hk,?_⟩) ?_ _;rotate_left;clear hr;(try clear E);rintro n2 st ⟨v6,ex,hr,hk,E⟩<;>(obtain _|n2:=n2<;>rw[QaA] at hr))
 |refine db 5 3 hf [([],[],[33],[]),([],[],[32],[]),([0,1],[],[],[]),([0,1,2],[],[],[]),([0,1,2,3],[],[38],[]),([0,1,2,3,4],[],[38],[]),([0,1,2,3],[],[36,37],[]),([0,1,2,3,4,5,6],[],[],[]),([0,1,2,3,4,5,6,7],[],[],[]),([0,1,2,3,4,5,6,7,8],[],[],[])] rfl rfl (by kernel_rfl) ?_ _
 |refine db 5 8 hf [([],[],[54],[]),([0],[],[54],[]),([0,1],[],[54],[]),([],[],[51,52,53],[]),([0,1,2,3],[],[],[]),([0,1,2,3,4],[],[],[]),([0,1,2,3,4,5],[],[],[])] rfl rfl (by kernel_rfl) ?_ _
 |refine db 5 14 hf [([],[],[68,71,72,73,74],[]),([],[],[67,71,72,73,74],[]),([0,1],[],[71,72,73,74],[]),([0,1,2],[],[71,72,73,74],[]),([],[],[67,68,69,70,72],[]),([],[],[67,68,69,70,71],[]),([4,5],[],[67,68,69,70],[]),([4,5,6],[],[67,68,69,70],[]),([0,1,2,3,4,5,6,7],[],[],[])] rfl rfl (by kernel_rfl) ?_ _
 |refine db 5 18 hf [([],[],[88],[]),([],[],[87],[]),([0,1],[],[],[]),([0,1,2],[],[],[]),([0,1,2,3],[],[93],[]),([0,1,2,3,4],[5056],[93],[]),([0,1,2,3],[],[91,92],[5056]),([0,1,2,3,4,5,6],[],[],[]),([0,1,2,3,4,5,6,7],[],[],[]),([0,1,2,3,4,5,6,7,8],[],[],[])] rfl rfl (by kernel_rfl) ?_ _
 |(refine some_e hr ?_;rintro rfl;with_reducible refine ret_k ?_)
 |exact no_e hr
 |((first|refine bc_e (c:=true) hr rfl ?_|refine bc_e (c:=false) hr rfl ?_|refine bc_e hr (by assumption) ?_);intro hr)
 |fail)
end Go.Sx
