import Derived.Test.YtgdhlnfcogcicaaGreatDoorRF
import Derived.Test.YtgdhlnfcogcicaaGreatDoorRG4
import Derived.Test.YtgdhlnfcogcicaaGreatDoorRG5
import Derived.Test.YtgdhlnfcogcicaaGreatDoorRG6
import Derived.Test.YtgdhlnfcogcicaaGreatDoorRG7
import Derived.Test.YtgdhlnfcogcicaaGreatDoorRG9
import Derived.Test.YtgdhlnfcogcicaaGreatDoorRG10
import Derived.Test.YtgdhlnfcogcicaaGreatDoorRG11
import Derived.Test.YtgdhlnfcogcicaaGreatDoorRG12
set_option linter.all false
namespace Go.Sx
open Go.Proofs
set_option maxRecDepth 10000
set_option maxHeartbeats 100000000
theorem g29:(∀ N (a0:TWorld) (a1:Int) (a2:Int) (a3:Int) (a4:Int) (a5:Bool),OK (Qfa N a0 a1 a2 a3 a4 a5) 43 [.agg (e36 a0),.v (.int .i64 a1),.v (.int .u64 a2),.v (.int .u64 a3),.v (.int .u64 a4),.v (.bool a5)] [] (fun r=>.v (.int .i64 r)) fun r=>[])∧(∀ N (a0:THeap) (a1:Int) (a2:Int) (a3:Int),OK (Qca N a0 a1 a2 a3) 219 [.agg (e42 a0),.v (.int .u64 a1),.v (.int .i64 a2),.v (.int .u64 a3)] [] (fun r=>.tup [.agg (e42 r.1),.v (.int .i64 r.2)]) fun r=>[])∧(∀ N (a0:Tasked),OK (QaT N a0) 145 [.agg (e173 a0)] [] (fun r=>.tup [.v (.int .u64 r.1),.agg (e75 r.2.1),.v (.int .i64 r.2.2)]) fun r=>[])∧(∀ N (a0:Tasked),OK (Qfe N a0) 148 [.agg (e173 a0)] [] (fun r=>.v (.int .i64 r)) fun r=>[])∧(∀ N (a0:Tasked),OK (Qfh N a0) 152 [.agg (e173 a0)] [] (fun r=>.v (.int .i64 r)) fun r=>[])∧(∀ N (a0:Tasked) (a1:Int),OK (Qbs N a0 a1) 159 [.agg (e173 a0),.v (.int .i64 a1)] [] (fun r=>.v (.int .i64 r)) fun r=>[]):=by
 refine ⟨fun N _ _ _ _ _ _=>rn Tryz.f43 [.tmp 12] [] 78 (by kernel_rfl) ?_,fun N _ _ _ _=>rn Tryz.f219 [.cell 8 42,.tmp 9] [] 37 (by kernel_rfl) ?_,fun N _=>rn Tryz.f145 [.tmp 2,.cell 3 75,.tmp 4] [] 33 (by kernel_rfl) ?_,fun N _=>rn Tryz.f148 [.tmp 2] [] 5 (by kernel_rfl) ?_,fun N _=>rn Tryz.f152 [.tmp 2] [] 24 (by kernel_rfl) ?_,fun N _ _=>rn Tryz.f159 [.tmp 4] [] 33 (by kernel_rfl) ?_⟩<;>(rintro _ hw r hr C _ rfl hwf hf;simp only[Tryz.f43,Tryz.f219,Tryz.f145,Tryz.f148,Tryz.f152,Tryz.f159,Option.get!];(first|rw[Qfa] at hr|rw[Qca] at hr|rw[QaT] at hr|rw[Qfe] at hr|rw[Qfh] at hr|rw[Qbs] at hr);repeat' first
 |(refine El.el hr ?_;intro hr)
 |(with_reducible intro h;refine bc_e hr h ?_;intro hr)
 |with_reducible intro _
 |simp only[go_sem,simprocAttr,hl77]
 |(with_reducible first|apply guard_of_f|apply guard_of_t|apply cond_of|apply doT_of_t|apply doT_of_f)
 |((first|with_reducible refine idx_s hr (by assumption) ?_ ?_|(with_reducible refine idx_e hr ?_ ?_;rotate_left;intro p;rotate_right));(·simp only[go_sem,simprocAttr]);intro hp hn hd hr;(try have hl77:=hd _ e77);(try simp only[go_sem,simprocAttr] at hl77))
 |(refine and_of' ?_ ?_;·first|assumption|omega)
 |with_reducible refine CallX.c ?_ _
 |with_reducible refine OK.c hr hw ?_ (fun y hr=>?_) _
 |refine db 145 6 hf [([],[],[25,26,27,28,29,30,31,32],[]),([],[],[2,24,28,29],[]),([1],[],[2,24,28,29],[]),([1,2],[],[2,24,28,29],[]),([],[],[2,24,25,26,27],[]),([4],[],[2,24,25,26,27],[]),([1,2,3,4,5],[],[2,24],[]),([1,2,3,4,5,6],[],[2,24],[]),([1,2,3,4,5,6,7],[],[2,24],[]),([0],[],[25,26,27,28,29,30,31,32],[]),([0,1,2,3,4,5,6,7,8,9],[192],[],[]),([0,1,2,3,4,5,6,7,8,9,10],[],[],[])] rfl rfl (by kernel_rfl) ?_ _
 |(refine some_e hr ?_;rintro rfl;with_reducible refine ret_k ?_)
 |exact no_e hr
 |fail)
@[reducible,instance] def Qln:=g29.1
@[reducible,instance] def QkO:=g29.2.1
@[reducible,instance] def Qka:=g29.2.2.1
@[reducible,instance] def Qlo:=g29.2.2.2.1
@[reducible,instance] def Qlp:=g29.2.2.2.2.1
@[reducible,instance] def Qj7:=g29.2.2.2.2.2
theorem g30:(∀ N (a0:THeap) (a1:Int),OK (Qgh N a0 a1) 279 [.agg (e42 a0),.v (.int .i64 a1)] [] (fun r=>.agg (e330 r)) fun r=>[])∧(∀ N (a0:TWorld) (a1:TThing),OK (QcW N a0 a1) 116 [.agg (e61 a0),.agg (e77 a1)] [] (fun r=>.v (.bool r)) fun r=>[])∧(∀ N (a0:Tasked),OK (Qfd N a0) 146 [.agg (e173 a0)] [] (fun r=>.v (.int .i64 r)) fun r=>[])∧(∀ N (a0:Tasked),OK (Qff N a0) 149 [.agg (e173 a0)] [] (fun r=>.v (.int .i64 r)) fun r=>[])∧(∀ N (a0:Tasked),OK (Qfi N a0) 153 [.agg (e173 a0)] [] (fun r=>.v (.int .i64 r)) fun r=>[])∧(∀ N (a0:Tasked),OK (Qem N a0) 163 [.agg (e173 a0)] [] (fun r=>.v (.int .i64 r)) fun r=>[]):=by
 refine ⟨fun N _ _=>rn Tryz.f279 [.cell 4 330] [] 57 (by kernel_rfl) ?_,fun N _ _=>rn Tryz.f116 [.tmp 4] [] 30 (by kernel_rfl) ?_,fun N _=>rn Tryz.f146 [.tmp 2] [] 5 (by kernel_rfl) ?_,fun N _=>rn Tryz.f149 [.tmp 2] [] 5 (by kernel_rfl) ?_,fun N _=>rn Tryz.f153 [.tmp 2] [] 21 (by kernel_rfl) ?_,fun N _=>rn Tryz.f163 [.tmp 2] [] 30 (by kernel_rfl) ?_⟩<;>(rintro _ hw r hr C _ rfl hwf hf;simp only[Tryz.f279,Tryz.f116,Tryz.f146,Tryz.f149,Tryz.f153,Tryz.f163,Option.get!];(first|rw[Qgh] at hr|rw[QcW] at hr|rw[Qfd] at hr|rw[Qff] at hr|rw[Qfi] at hr|rw[Qem] at hr);repeat' first
 |(refine El.el hr ?_;intro hr)
 |(with_reducible intro h;refine bc_e hr h ?_;intro hr)
 |with_reducible intro _
 |simp only[go_sem,simprocAttr,hl306]
 |(with_reducible first|apply guard_of_f|apply guard_of_t|apply cond_of|apply doT_of_t|apply doT_of_f)
 |((first|with_reducible refine idx_s hr (by assumption) ?_ ?_|(with_reducible refine idx_e hr ?_ ?_;rotate_left;intro p;rotate_right));(·simp only[go_sem,simprocAttr]);intro hp hn hd hr;(try have hl306:=hd _ e306);(try simp only[go_sem,simprocAttr] at hl306))
 |(refine and_of' ?_ ?_;·first|assumption|omega)
 |with_reducible refine CallX.c ?_ _
 |with_reducible refine OK.c hr hw ?_ (fun y hr=>?_) _
 |refine db 279 1 hf [([],[],[11],[]),([0],[],[11],[]),([],[],[9,10],[]),([0,1,2],[],[],[]),([0,1,2,3],[],[],[]),([0,1,2,3,4],[],[],[]),([0,1,2,3,4,5],[],[],[]),([0,1,2,3,4,5,6],[],[],[]),([0,1,2,3,4,5,6,7],[],[19,23,24],[]),([0,1,2,3,4,5,6,7,8],[],[19,23,24],[]),([0,1,2,3,4,5,6,7],[],[17,18,23,24],[]),([0,1,2,3,4,5,6,7,8,9,10],[],[23,24],[]),([0,1,2,3,4,5,6,7,8,9,10,11],[],[23,24],[]),([0,1,2,3,4,5,6,7,8,9,10,11,12],[],[23,24],[]),([0,1,2,3,4,5,6,7],[],[17,18,19,20,21,22],[]),([0,1,2,3,4,5,6,7,14],[],[17,18,19,20,21,22],[]),([0,1,2,3,4,5,6,7,8,9,10,11,12,13,14,15],[],[],[]),([0,1,2,3,4,5,6,7,8,9,10,11,12,13,14,15,16],[],[],[])] rfl rfl (by kernel_rfl) ?_ _
 |(refine some_e hr ?_;rintro rfl;with_reducible refine ret_k ?_)
 |exact no_e hr
 |fail)
@[reducible,instance] def QnE:=g30.1
@[reducible,instance] def Qkb:=g30.2.1
@[reducible,instance] def Qlq:=g30.2.2.1
@[reducible,instance] def Qlr:=g30.2.2.2.1
@[reducible,instance] def Qls:=g30.2.2.2.2.1
@[reducible,instance] def Qks:=g30.2.2.2.2.2
abbrev QhL:=fun N (a0:THeap) (y1:List Int × Int) (Q:(List Int)→Prop) n (st:St)=>∃ (v2:Int) (v3:List Int) (ex:_),QaO N a0 y1 n v2 v3=some ex∧Q ex∧((∃ w2496 w64,st.n=42∧st.s 2496=some (w2496,.arr false 37 1 (v3.map e37) 0)∧st.t 1=.ept 64 w64 6 0 0∧st.t 4=.isl 37 1 (y1.1.map e37)∧st.t 5=.v (.int .i64 y1.2)∧st.t 6=.osl 2496 w2496 1 0 v3.length∧st.t 7=.v (.int .i64 v2)∧st.s 64=some (w64,.arr true 42 6 [e42 a0] 0))∨(∃ w64,(st.n=42∧st.t 1=.ept 64 w64 6 0 0∧st.t 4=.isl 37 1 (y1.1.map e37)∧st.t 5=.v (.int .i64 y1.2)∧st.t 6=.nsl∧st.t 7=.v (.int .i64 v2)∧st.s 64=some (w64,.arr true 42 6 [e42 a0] 0))∧v3=[]))
instance Qlt:∀ N (a0:THeap),OK (Qbi N a0) 241 [.agg (e42 a0)] [] (fun r=>.tup [.isl 37 1 (r.1.map e37),.v (.int .i64 r.2)]) fun r=>[]:=by
 refine fun N _=>rn Tryz.f241 [.tmp 2,.tmp 3] [] 42 (by kernel_rfl) ?_<;>(rintro _ hw r hr C _ rfl hwf hf;simp only[Tryz.f241,Option.get!];(rw[Qbi] at hr);repeat' first
 |(refine El.el hr ?_;intro hr)
 |(with_reducible intro h;refine bc_e hr h ?_;intro hr)
 |with_reducible intro _
 |(refine some_e hr ?_;rintro rfl;have hr:=hk;clear hk)
 |simp only[go_sem,simprocAttr,E,hl37]
 |(with_reducible first|apply guard_of_f|apply guard_of_t|apply cond_of|apply doT_of_t|apply doT_of_f)
 |((first|with_reducible refine idx_s hr (by assumption) ?_ ?_|(with_reducible refine idx_e hr ?_ ?_;rotate_left;intro p;rotate_right));(·simp only[go_sem,simprocAttr]);intro hp hn hd hr;(try have hl37:=hd _ e37);(try simp only[go_sem,simprocAttr] at hl37))
 |(refine and_of' ?_ ?_;·first|assumption|omega)
 |with_reducible refine CallX.c ?_ _
 |with_reducible refine OK.c hr hw ?_ (fun y hr=>?_) _
 |with_reducible refine OK.d hr hw ?_ (fun y hr=>?_) _
 |(with_reducible refine loop_e (I:=QhL N _ _) hr 1000 N (fun ex hq hk=>⟨_,_,ex,hq,hk,?_⟩) ?_ _;rotate_left;clear hr;(try clear E);rintro n1 st ⟨v2,v3,ex,hr,hk,(⟨_,_,E⟩|⟨_,E,z0⟩)⟩<;>(try subst z0)<;>(obtain _|n1:=n1<;>rw[QaO] at hr))
 |refine ⟨_,Nat.lt_succ_self _,_,_,_,hr,hk,?_⟩
 |refine db 241 6 hf [([],[],[8,23,24,25,26],[512]),([],[],[8,22,24],[512]),([],[],[8,22,23],[512]),([1,2],[],[8,22],[512]),([1,2,3],[],[8,22],[512]),([0,1,2,3,4],[],[8],[512]),([0,1,2,3,4,5],[],[8],[512]),([0,1,2,3,4,5,6],[],[8,29],[512]),([0,1,2,3,4,5,6],[],[8,28],[512]),([],[512],[21,22,23,24,25,26,27,28,29],[]),([0,1,2,3,4,5,6,7,9],[512],[29],[]),([0,1,2,3,4,5,6,7,8,9,10],[],[],[])] rfl rfl (by kernel_rfl) ?_ _
 |(refine some_e hr ?_;rintro rfl;with_reducible refine ret_k ?_)
 |exact no_e hr
 |((first|refine bc_e (c:=true) hr rfl ?_|refine bc_e (c:=false) hr rfl ?_|refine bc_e hr (by assumption) ?_);intro hr)
 |fail)
end Go.Sx
