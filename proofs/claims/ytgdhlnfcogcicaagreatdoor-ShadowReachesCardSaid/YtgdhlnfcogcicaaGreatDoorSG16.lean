import Derived.Test.YtgdhlnfcogcicaaGreatDoorSF
import Derived.Test.YtgdhlnfcogcicaaGreatDoorSG5
import Derived.Test.YtgdhlnfcogcicaaGreatDoorSG7
import Derived.Test.YtgdhlnfcogcicaaGreatDoorSG10
import Derived.Test.YtgdhlnfcogcicaaGreatDoorSG12
import Derived.Test.YtgdhlnfcogcicaaGreatDoorSG13
import Derived.Test.YtgdhlnfcogcicaaGreatDoorSG14
import Derived.Test.YtgdhlnfcogcicaaGreatDoorSG15
set_option linter.all false
namespace Go.Sx
open Go.Proofs
set_option maxRecDepth 10000
set_option maxHeartbeats 100000000
theorem g27:(∀ N (a0:TWorld) (a1:Int) (a2:Int) (a3:Int) (a4:Int) (a5:Bool),OK (Qet N a0 a1 a2 a3 a4 a5) 43 [.agg (e36 a0),.v (.int .i64 a1),.v (.int .u64 a2),.v (.int .u64 a3),.v (.int .u64 a4),.v (.bool a5)] [] (fun r=>.v (.int .i64 r)) fun r=>[])∧(∀ N (a0:THeap) (a1:Int),OK (Qfp N a0 a1) 279 [.agg (e42 a0),.v (.int .i64 a1)] [] (fun r=>.agg (e330 r)) fun r=>[])∧(∀ N (a0:THeap) (a1:Int) (a2:Int) (a3:Int),OK (QbP N a0 a1 a2 a3) 219 [.agg (e42 a0),.v (.int .u64 a1),.v (.int .i64 a2),.v (.int .u64 a3)] [] (fun r=>.tup [.agg (e42 r.1),.v (.int .i64 r.2)]) fun r=>[])∧(∀ N (a0:TWorld) (a1:TThing),OK (QcB N a0 a1) 116 [.agg (e61 a0),.agg (e77 a1)] [] (fun r=>.v (.bool r)) fun r=>[])∧(∀ N (a0:Tasked),OK (QfK N a0) 149 [.agg (e173 a0)] [] (fun r=>.v (.int .i64 r)) fun r=>[]):=by
 refine ⟨fun N _ _ _ _ _ _=>rn Tryz.f43 [.tmp 12] [] 78 (by kernel_rfl) ?_,fun N _ _=>rn Tryz.f279 [.cell 4 330] [] 57 (by kernel_rfl) ?_,fun N _ _ _ _=>rn Tryz.f219 [.cell 8 42,.tmp 9] [] 37 (by kernel_rfl) ?_,fun N _ _=>rn Tryz.f116 [.tmp 4] [] 30 (by kernel_rfl) ?_,fun N _=>rn Tryz.f149 [.tmp 2] [] 5 (by kernel_rfl) ?_⟩<;>(rintro _ hw r hr C _ rfl hwf hf;simp only[Tryz.f43,Tryz.f279,Tryz.f219,Tryz.f116,Tryz.f149,Option.get!];(first|rw[Qet] at hr|rw[Qfp] at hr|rw[QbP] at hr|rw[QcB] at hr|rw[QfK] at hr);repeat' first
 |(refine El.el hr ?_;intro hr)
 |(with_reducible intro h;refine bc_e hr h ?_;intro hr)
 |with_reducible intro _
 |simp only[go_sem,simprocAttr,hl306]
 |(with_reducible first|apply guard_of_f|apply guard_of_t|apply cond_of|apply doT_of_t|apply doT_of_f)
 |((first|with_reducible refine idx_s hr (by assumption) ?_ ?_|(with_reducible refine idx_e hr ?_ ?_;rotate_left;intro p;rotate_right));(·simp only[go_sem,simprocAttr]);intro hp hn hd hr;(try have hl306:=hd _ e306);(try simp only[go_sem,simprocAttr] at hl306))
 |(refine and_of' ?_ ?_;·first|assumption|omega)
 |with_reducible refine CallX.c ?_ _
 |with_reducible refine OK.c hr hw ?_ (fun y hr=>?_) _
 |refine db 279 1 hf [([],[],[11],[]),([0],[],[11],[]),([],[],[9,10],[]),([0,1,2],[],[],[]),([0,1,2,3],[],[],[]),([0,1,2,3,4],[],[],[]),([0,1,2,3,4,5],[],[],[]),([0,1,2,3,4,5,6],[],[],[]),([0,1,2,3,4,5,6,7],[],[19,23,24],[]),([0,1,2,3,4,5,6,7,8],[],[19,23,24],[]),([0,1,2,3,4,5,6,7],[],[17,18,23,24],[]),([0,1,2,3,4,5,6,7,8,9,10],[],[23,24],[]),([0,1,2,3,4,5,6,7,8,9,10,11],[],[23,24],[]),([0,1,2,3,4,5,6,7,8,9,10,11,12],[],[23,24],[]),([0,1,2,3,4,5,6,7],[],[17,18,19,20,21,22],[]),([0,1,2,3,4,5,6,7,14],[],[17,18,19,20,21,22],[]),([0,1,2,3,4,5,6,7,8,9,10,11,12,13,14,15],[],[],[]),([0,1,2,3,4,5,6,7,8,9,10,11,12,13,14,15,16],[],[],[])] rfl rfl (by kernel_rfl) ?_ _
 |(refine some_e hr ?_;rintro rfl;with_reducible refine ret_k ?_)
 |exact no_e hr
 |fail)
@[reducible,instance] def Qkm:=g27.1
@[reducible,instance] def Qmv:=g27.2.1
@[reducible,instance] def Qj0:=g27.2.2.1
@[reducible,instance] def QjF:=g27.2.2.2.1
@[reducible,instance] def Qkn:=g27.2.2.2.2
abbrev Qg7:=fun N (a0:THeap) (y1:List Int × Int) (Q:(List Int)→Prop) n (st:St)=>∃ (v2:Int) (v3:List Int) (ex:_),QaB N a0 y1 n v2 v3=some ex∧Q ex∧((∃ w2496 w64,st.n=42∧st.s 2496=some (w2496,.arr false 37 1 (v3.map e37) 0)∧st.t 1=.ept 64 w64 6 0 0∧st.t 4=.isl 37 1 (y1.1.map e37)∧st.t 5=.v (.int .i64 y1.2)∧st.t 6=.osl 2496 w2496 1 0 v3.length∧st.t 7=.v (.int .i64 v2)∧st.s 64=some (w64,.arr true 42 6 [e42 a0] 0))∨(∃ w64,(st.n=42∧st.t 1=.ept 64 w64 6 0 0∧st.t 4=.isl 37 1 (y1.1.map e37)∧st.t 5=.v (.int .i64 y1.2)∧st.t 6=.nsl∧st.t 7=.v (.int .i64 v2)∧st.s 64=some (w64,.arr true 42 6 [e42 a0] 0))∧v3=[]))
instance Qko:∀ N (a0:THeap),OK (Qa7 N a0) 241 [.agg (e42 a0)] [] (fun r=>.tup [.isl 37 1 (r.1.map e37),.v (.int .i64 r.2)]) fun r=>[]:=by
 refine fun N _=>rn Tryz.f241 [.tmp 2,.tmp 3] [] 42 (by kernel_rfl) ?_<;>(rintro _ hw r hr C _ rfl hwf hf;simp only[Tryz.f241,Option.get!];(rw[Qa7] at hr);repeat' first
 |(refine El.el hr ?_;intro hr)
 |(with_reducible intro h;refine bc_e hr h ?_;intro hr)
 |with_reducible intro _
 |(refine some_e hr ?_;rintro rfl;have hr:=hk;clear hk)
 |simp only[go_sem,simprocAttr,E,hl37]
 |(with_reducible first|apply guard_of_f|apply guard_of_t|apply cond_of|apply doT_of_t|apply doT_of_f)
 |((first|with_reducible refine idx_s hr (by assumption) ?_ ?_|(with_reducible refine idx_e hr ?_ ?_;rotate_left;intro p;rotate_right));(·simp only[go_sem,simprocAttr]);intro hp hn hd hr;(try have hl37:=hd _ e37);(try simp only[go_sem,simprocAttr] at hl37))
 |(refine and_of' ?_ ?_;·first|assumption|omega)
 |with_reducible refine CallX.c ?_ _
 |with_reducible refine OK.c hr hw ?_ (fun y hr=>?_) _
 |with_reducible refine OK.d hr hw ?_ (fun y hr=>?_) _
 |(with_reducible refine loop_e (I:=Qg7 N _ _) hr 1000 N (fun ex hq hk=>⟨_,_,ex,hq,hk,?_⟩) ?_ _;rotate_left;clear hr;(try clear E);rintro n1 st ⟨v2,v3,ex,hr,hk,(⟨_,_,E⟩|⟨_,E,z0⟩)⟩<;>(try subst z0)<;>(obtain _|n1:=n1<;>rw[QaB] at hr))
 |refine ⟨_,Nat.lt_succ_self _,_,_,_,hr,hk,?_⟩
 |refine db 241 6 hf [([],[],[8,23,24,25,26],[512]),([],[],[8,22,24],[512]),([],[],[8,22,23],[512]),([1,2],[],[8,22],[512]),([1,2,3],[],[8,22],[512]),([0,1,2,3,4],[],[8],[512]),([0,1,2,3,4,5],[],[8],[512]),([0,1,2,3,4,5,6],[],[8,29],[512]),([0,1,2,3,4,5,6],[],[8,28],[512]),([],[512],[21,22,23,24,25,26,27,28,29],[]),([0,1,2,3,4,5,6,7,9],[512],[29],[]),([0,1,2,3,4,5,6,7,8,9,10],[],[],[])] rfl rfl (by kernel_rfl) ?_ _
 |(refine some_e hr ?_;rintro rfl;with_reducible refine ret_k ?_)
 |exact no_e hr
 |((first|refine bc_e (c:=true) hr rfl ?_|refine bc_e (c:=false) hr rfl ?_|refine bc_e hr (by assumption) ?_);intro hr)
 |fail)
end Go.Sx
