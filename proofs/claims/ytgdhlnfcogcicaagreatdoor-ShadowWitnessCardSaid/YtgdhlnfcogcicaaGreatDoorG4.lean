import Derived.Test.YtgdhlnfcogcicaaGreatDoorF
import Derived.Test.YtgdhlnfcogcicaaGreatDoorG0
import Derived.Test.YtgdhlnfcogcicaaGreatDoorG1
import Derived.Test.YtgdhlnfcogcicaaGreatDoorG2
import Derived.Test.YtgdhlnfcogcicaaGreatDoorG3
set_option linter.all false
namespace Go.Sx
open Go.Proofs
set_option maxRecDepth 10000
set_option maxHeartbeats 100000000
theorem g9:(∀ N (a0:TTape),OK (made_Tape_Start N a0) 32 [.ept 1000000 0 2 0 0] [.arr true 51 2 [[.isl 3 1 (a0.L.map e3),.v (.int .i64 a0.at_)]] 0] (fun r=>.agg (e47 r.1)) fun r=>[.arr true 51 2 [[.isl 3 1 (r.2.L.map e3),.v (.int .i64 r.2.at_)]] 0])∧(∀ N (a0:TTable),OK (slots_Valid N a0) 114 [.agg (e32 a0)] [] (fun r=>.v (.bool r)) fun r=>[])∧(∀ N (a0:TWorld) (a1:List Int),OK (rules_World_known N a0 a1) 117 [.agg (e61 a0),.isl 37 1 (a1.map e37)] [] (fun r=>.v (.bool r)) fun r=>[])∧(∀ N (a0:TConf) (a1:THeader),OK (alloc_Asks N a0 a1) 224 [.agg (e23 a0),.agg (e75 a1)] [] (fun r=>.v (.bool r)) fun r=>[])∧(∀ N (a0:THandle),OK (handle_Encode N a0) 175 [.agg (e193 a0)] [] (fun r=>.tup [.v (.int .u64 r.1),.v (.int .i64 r.2)]) fun r=>[]):=by
 refine ⟨fun N _=>rn Tryz.f32 [.cell 2 47] [] 36 (by kernel_rfl) ?_,fun N _=>rn Tryz.f114 [.tmp 2] [] 13 (by kernel_rfl) ?_,fun N _ _=>rn Tryz.f117 [.tmp 4] [] 9 (by kernel_rfl) ?_,fun N _ _=>rn Tryz.f224 [.tmp 4] [] 19 (by kernel_rfl) ?_,fun N _=>rn Tryz.f175 [.tmp 2,.tmp 3] [] 35 (by kernel_rfl) ?_⟩<;>(rintro _ hw r hr C _ rfl hwf hf;have hgw:=hw;unfold GW at hgw;simp only[Tryz.f32,Tryz.f114,Tryz.f117,Tryz.f224,Tryz.f175,Option.get!];(first|rw[made_Tape_Start] at hr|rw[slots_Valid] at hr|rw[rules_World_known] at hr|rw[alloc_Asks] at hr|rw[handle_Encode] at hr);repeat' first
 |(refine El.el hr ?_;intro hr)
 |(with_reducible intro h;refine bc_e hr h ?_;intro hr)
 |with_reducible intro _
 |simp only[go_sem,simprocAttr,wI_n,hgw]
 |(with_reducible first|apply guard_of_f|apply guard_of_t|apply cond_of|apply doT_of_t|apply doT_of_f)
 |(refine and_of' ?_ ?_;·first|assumption|omega)
 |with_reducible refine CallX.c ?_ _
 |with_reducible refine OK.c hr hw ?_ (fun y hr=>?_) _
 |with_reducible refine OK.d hr hw ?_ (fun y hr=>?_) _
 |with_reducible refine LoopG.u 6 ?_ _
 |with_reducible refine LoopU.s 1000 ?_ _
 |refine db 224 1 hf [([],[],[],[]),([0],[],[],[]),([0,1],[],[],[]),([0,1,2],[],[],[]),([0,1,2,3],[],[],[]),([0,1,2,3,4],[],[],[]),([0,1,2,3,4,5],[],[],[]),([0,1,2,3,4,5,6],[],[],[]),([0,1,2,3,4,5,6,7],[],[14,15],[]),([0,1,2,3,4,5,6,7],[],[13],[]),([0,1,2,3,4,5,6,7,9],[],[13],[]),([0,1,2,3,4,5,6,7,8,9,10],[],[],[]),([0,1,2,3,4,5,6,7,8,9,10,11],[],[],[]),([0,1,2,3,4,5,6,7,8,9,10,11,12],[],[],[]),([0,1,2,3,4,5,6,7,8,9,10,11,12,13],[],[],[])] rfl rfl (by kernel_rfl) ?_ _
 |(refine some_e hr ?_;rintro rfl;with_reducible refine ret_k ?_)
 |exact no_e hr
 |fail)
@[reducible,instance] def made_Tape_Start_i:=g9.1
@[reducible,instance] def slots_Valid_i:=g9.2.1
@[reducible,instance] def rules_World_known_i:=g9.2.2.1
@[reducible,instance] def alloc_Asks_i:=g9.2.2.2.1
@[reducible,instance] def handle_Encode_i:=g9.2.2.2.2
abbrev I_scope_Valid_l1:=fun N (a0:TLocals) (Q:(Ex Bool Unit)→Prop) n (st:St)=>∃ (v4:Int) (ex:_),scope_Valid_l1 N a0 n v4=some ex∧Q ex∧((∃ w192,st.n=41∧st.t 3=.ept 192 w192 3 0 0∧st.t 27=.isl 159 3 (a0.Scopes.map e159)∧st.t 28=.v (.int .i64 ((a0.Scopes.length:Nat):Int))∧st.t 29=.v (.int .i64 v4)∧st.s 192=some (w192,.arr true 255 3 [[.isl 210 3 (a0.Slots.map e210),.isl 159 3 (a0.Scopes.map e159),.isl 3 1 (a0.Issued.map e3)]] 0)))
abbrev I_header_Pointers_l1:=fun N (a0:THeader) (y1:Int) (Q:(List Int)→Prop) n (st:St)=>∃ (v2:Int) (v3:List Int) (ex:_),header_Pointers_l1 N a0 y1 n v2 v3=some ex∧Q ex∧((∃ w1024 w64,st.n=19∧st.s 1024=some (w1024,.arr false 3 1 (v3.map e3) 0)∧st.t 1=.ept 64 w64 3 0 0∧st.t 3=.osl 1024 w1024 1 0 v3.length∧st.t 6=.v (.int .i64 y1)∧st.t 7=.v (.int .i64 v2)∧st.s 64=some (w64,.arr true 75 3 [[.v (.int .i64 a0.Kind),.v (.int .i64 a0.Length),.v (.int .u32 a0.Map)]] 0))∨(∃ w64,(st.n=19∧st.t 1=.ept 64 w64 3 0 0∧st.t 3=.nsl∧st.t 6=.v (.int .i64 y1)∧st.t 7=.v (.int .i64 v2)∧st.s 64=some (w64,.arr true 75 3 [[.v (.int .i64 a0.Kind),.v (.int .i64 a0.Length),.v (.int .u32 a0.Map)]] 0))∧v3=[]))
theorem g10:(∀ N (a0:TLocals),OK (scope_Valid N a0) 113 [.agg (e29 a0)] [] (fun r=>.v (.bool r)) fun r=>[])∧(∀ N (a0:THeader),OK (header_Pointers N a0) 64 [.agg (e75 a0)] [] (fun r=>.isl 3 1 (r.map e3)) fun r=>[]):=by
 refine ⟨fun N _=>rn Tryz.f113 [.tmp 2] [] 41 (by kernel_rfl) ?_,fun N _=>rn Tryz.f64 [.tmp 2] [] 19 (by kernel_rfl) ?_⟩<;>(rintro _ hw r hr C _ rfl hwf hf;simp only[Tryz.f113,Tryz.f64,Option.get!];(first|rw[scope_Valid] at hr|rw[header_Pointers] at hr);repeat' first
 |(refine El.el hr ?_;intro hr)
 |(with_reducible intro h;refine bc_e hr h ?_;intro hr)
 |with_reducible intro _
 |(refine some_e hr ?_;rintro rfl;have hr:=hk;clear hk)
 |simp only[go_sem,simprocAttr,E,hl159]
 |(with_reducible first|apply guard_of_f|apply guard_of_t|apply cond_of|apply doT_of_t|apply doT_of_f)
 |((first|with_reducible refine idx_s hr (by assumption) ?_ ?_|(with_reducible refine idx_e hr ?_ ?_;rotate_left;intro p;rotate_right));(·simp only[go_sem,simprocAttr]);intro hp hn hd hr;(try have hl159:=hd _ e159);(try simp only[go_sem,simprocAttr] at hl159))
 |(refine and_of' ?_ ?_;·first|assumption|omega)
 |with_reducible refine CallX.c ?_ _
 |with_reducible refine OK.c hr hw ?_ (fun y hr=>?_) _
 |with_reducible refine OK.d hr hw ?_ (fun y hr=>?_) _
 |(with_reducible refine loop_e (I:=I_scope_Valid_l1 N _) hr 1000 N (fun ex hq hk=>⟨_,ex,hq,hk,?_⟩) ?_ _;rotate_left;clear hr;(try clear E);rintro n1 st ⟨v4,ex,hr,hk,⟨_,E⟩⟩<;>(obtain _|n1:=n1<;>rw[scope_Valid_l1] at hr))
 |refine ⟨_,Nat.lt_succ_self _,_,_,hr,hk,?_⟩
 |(with_reducible refine loop_e (I:=I_header_Pointers_l1 N _ _) hr 1000 N (fun ex hq hk=>⟨_,_,ex,hq,hk,?_⟩) ?_ _;rotate_left;clear hr;(try clear E);rintro n1 st ⟨v2,v3,ex,hr,hk,(⟨_,_,E⟩|⟨_,E,z0⟩)⟩<;>(try subst z0)<;>(obtain _|n1:=n1<;>rw[header_Pointers_l1] at hr))
 |refine ⟨_,Nat.lt_succ_self _,_,_,_,hr,hk,?_⟩
 |refine db 113 9 hf [([],[],[35,37,38],[]),([],[],[34,37,38],[]),([0,1],[],[37,38],[]),([],[],[34,35,36],[]),([3],[],[34,35,36],[]),([0,1,2,3,4],[],[],[])] rfl rfl (by kernel_rfl) ?_ _
 |(refine some_e hr ?_;rintro rfl;with_reducible refine ret_k ?_)
 |exact no_e hr
 |((first|refine bc_e (c:=true) hr rfl ?_|refine bc_e (c:=false) hr rfl ?_|refine bc_e hr (by assumption) ?_);intro hr)
 |fail)
@[reducible,instance] def scope_Valid_i:=g10.1
@[reducible,instance] def header_Pointers_i:=g10.2
end Go.Sx
