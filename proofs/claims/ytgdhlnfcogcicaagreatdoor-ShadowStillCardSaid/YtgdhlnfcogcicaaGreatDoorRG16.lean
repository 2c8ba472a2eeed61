import Derived.Test.YtgdhlnfcogcicaaGreatDoorRF
import Derived.Test.YtgdhlnfcogcicaaGreatDoorRG7
import Derived.Test.YtgdhlnfcogcicaaGreatDoorRG11
import Derived.Test.YtgdhlnfcogcicaaGreatDoorRG12
import Derived.Test.YtgdhlnfcogcicaaGreatDoorRG13
import Derived.Test.YtgdhlnfcogcicaaGreatDoorRG15
set_option linter.all false
namespace Go.Sx
open Go.Proofs
set_option maxRecDepth 10000
set_option maxHeartbeats 100000000
abbrev QiH:=fun N (a0:THeap) (Q:(Ex TFinding Unit)→Prop) n (st:St)=>∃ (v2:Int) (ex:_),QdH N a0 n v2=some ex∧Q ex∧((∃ w64 w128,st.n=65∧st.t 1=.ept 64 w64 6 0 0∧st.t 2=.ept 128 w128 3 0 0∧st.t 3=.v (.int .i64 v2)∧st.s 64=some (w64,.arr true 42 6 [e42 a0] 0)∧st.s 128=some (w128,.arr true 330 3 [[.v (.int .i64 0),.v (.int .i64 0),.v (.int .u64 0)]] 0)))
abbrev QiI:=fun N (a0:THeap) (Q:Int→Prop) n (st:St)=>∃ (v6:Int) (v7:Int) (ex:_),Qb8 N a0 n v6 v7=some ex∧Q ex∧((∃ w64 w128,st.n=65∧st.t 1=.ept 64 w64 6 0 0∧st.t 2=.ept 128 w128 3 0 0∧st.t 6=.v (.int .i64 v6)∧st.t 7=.v (.int .i64 v7)∧st.s 64=some (w64,.arr true 42 6 [e42 a0] 0)∧st.s 128=some (w128,.arr true 330 3 [[.v (.int .i64 0),.v (.int .i64 0),.v (.int .u64 0)]] 0)))
instance QmQ:∀ N (a0:THeap),OK (Qgu N a0) 264 [.agg (e42 a0)] [] (fun r=>.agg (e330 r)) fun r=>[]:=by
 refine fun N _=>rn Tryz.f264 [.cell 2 330] [] 65 (by kernel_rfl) ?_<;>(rintro _ hw r hr C _ rfl hwf hf;simp only[Tryz.f264,Option.get!];(rw[Qgu] at hr);repeat' first
 |(refine El.el hr ?_;intro hr)
 |(with_reducible intro h;refine bc_e hr h ?_;intro hr)
 |with_reducible intro _
 |(refine some_e hr ?_;rintro rfl;have hr:=hk;clear hk)
 |simp only[go_sem,simprocAttr,E,hl306]
 |(with_reducible first|apply guard_of_f|apply guard_of_t|apply cond_of)
 |((first|with_reducible refine idx_s hr (by assumption) ?_ ?_|(with_reducible refine idx_e hr ?_ ?_;rotate_left;intro p;rotate_right));(·simp only[go_sem,simprocAttr]);intro hp hn hd hr;(try have hl306:=hd _ e306);(try simp only[go_sem,simprocAttr] at hl306))
 |(refine and_of' ?_ ?_;·first|assumption|omega)
 |with_reducible refine CallX.c ?_ _
 |with_reducible refine OK.c hr hw ?_ (fun y hr=>?_) _
 |(with_reducible refine loop_e (I:=QiH N _) hr 1000 N (fun ex hq hk=>⟨_,ex,hq,hk,?_⟩) ?_ _;rotate_left;clear hr;(try clear E);rintro n1 st ⟨v2,ex,hr,hk,⟨_,_,E⟩⟩<;>(obtain _|n1:=n1<;>rw[QdH] at hr))
 |refine ⟨_,Nat.lt_succ_self _,_,_,hr,hk,?_⟩
 |(with_reducible refine loop_e (I:=QiI N _) hr 1000 N (fun ex hq hk=>⟨_,_,ex,hq,hk,?_⟩) ?_ _;rotate_left;clear hr;(try clear E);rintro n2 st ⟨v6,v7,ex,hr,hk,⟨_,_,E⟩⟩<;>(obtain _|n2:=n2<;>rw[Qb8] at hr))
 |refine ⟨_,Nat.lt_succ_self _,_,_,_,hr,hk,?_⟩
 |(refine some_e hr ?_;rintro rfl;with_reducible refine ret_k ?_)
 |exact no_e hr
 |((first|refine bc_e (c:=true) hr rfl ?_|refine bc_e (c:=false) hr rfl ?_|refine bc_e hr (by assumption) ?_);intro hr)
 |fail)
theorem g35:(∀ N (a0:Tasked),OK (Qcx N a0) 142 [.agg (e173 a0)] [] (fun r=>.v (.int .i64 r)) fun r=>[])∧(∀ N (a0:Tasked),OK (QcY N a0) 150 [.agg (e173 a0)] [] (fun r=>.v (.int .i64 r)) fun r=>[])∧(∀ N (a0:Tasked),OK (Qfg N a0) 151 [.agg (e173 a0)] [] (fun r=>.v (.int .i64 r)) fun r=>[])∧(∀ N (a0:Tasked),OK (Qfj N a0) 155 [.agg (e173 a0)] [] (fun r=>.v (.int .i64 r)) fun r=>[])∧(∀ N (a0:Tasked),OK (QeG N a0) 157 [.agg (e173 a0)] [] (fun r=>.v (.int .i64 r)) fun r=>[])∧(∀ N (a0:TWorld) (a1:Int),OK (Qaf N a0 a1) 40 [.agg (e61 a0),.v (.int .u64 a1)] [] (fun r=>.tup [.v (.int .u64 r.1),.v (.int .i64 r.2)]) fun r=>[]):=by
 refine ⟨fun N _=>rn Tryz.f142 [.tmp 2] [] 11 (by kernel_rfl) ?_,fun N _=>rn Tryz.f150 [.tmp 2] [] 23 (by kernel_rfl) ?_,fun N _=>rn Tryz.f151 [.tmp 2] [] 21 (by kernel_rfl) ?_,fun N _=>rn Tryz.f155 [.tmp 2] [] 8 (by kernel_rfl) ?_,fun N _=>rn Tryz.f157 [.tmp 2] [] 8 (by kernel_rfl) ?_,fun N _ _=>rn Tryz.f40 [.tmp 4,.tmp 5] [] 14 (by kernel_rfl) ?_⟩<;>(rintro _ hw r hr C _ rfl hwf hf;simp only[Tryz.f142,Tryz.f150,Tryz.f151,Tryz.f155,Tryz.f157,Tryz.f40,Option.get!];(first|rw[Qcx] at hr|rw[QcY] at hr|rw[Qfg] at hr|rw[Qfj] at hr|rw[QeG] at hr|rw[Qaf] at hr);repeat' first
 |(refine El.el hr ?_;intro hr)
 |(with_reducible intro h;refine bc_e hr h ?_;intro hr)
 |with_reducible intro _
 |simp only[go_sem,simprocAttr,hl37]
 |(with_reducible first|apply guard_of_f|apply guard_of_t|apply cond_of|apply doT_of_t|apply doT_of_f)
 |((first|with_reducible refine idx_s hr (by assumption) ?_ ?_|(with_reducible refine idx_e hr ?_ ?_;rotate_left;intro p;rotate_right));(·simp only[go_sem,simprocAttr]);intro hp hn hd hr;(try have hl37:=hd _ e37);(try simp only[go_sem,simprocAttr] at hl37))
 |(refine and_of' ?_ ?_;·first|assumption|omega)
 |with_reducible refine CallX.c ?_ _
 |with_reducible refine OK.c hr hw ?_ (fun y hr=>?_) _
 |with_reducible refine OK.d hr hw ?_ (fun y hr=>?_) _
 |refine db 150 4 hf [([],[],[16,17,18,19,20,21],[]),([0],[],[16,17,18,19,20,21],[]),([0,1],[],[16,17,18,19,20,21],[]),([],[],[13,14,15,18,19],[]),([3],[],[13,14,15,18,19],[]),([],[],[13,14,15,16,17],[]),([5],[],[13,14,15,16,17],[]),([3,4,5,6],[],[13,14,15],[]),([3,4,5,6,7],[],[13,14,15],[]),([0,1,2,3,4,5,6,7,8],[],[],[]),([0,1,2,3,4,5,6,7,8,9],[],[],[])] rfl rfl (by kernel_rfl) ?_ _
 |(refine some_e hr ?_;rintro rfl;with_reducible refine ret_k ?_)
 |exact no_e hr
 |fail)
@[reducible,instance] def Qlv:=g35.1
@[reducible,instance] def Qkd:=g35.2.1
@[reducible,instance] def Qlw:=g35.2.2.1
@[reducible,instance] def Qlx:=g35.2.2.2.1
@[reducible,instance] def QkV:=g35.2.2.2.2.1
@[reducible,instance] def Qly:=g35.2.2.2.2.2
end Go.Sx
