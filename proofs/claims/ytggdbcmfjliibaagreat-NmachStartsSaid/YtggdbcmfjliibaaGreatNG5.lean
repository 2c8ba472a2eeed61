import Derived.Test.YtggdbcmfjliibaaGreatNF
import Derived.Test.YtggdbcmfjliibaaGreatNG0
import Derived.Test.YtggdbcmfjliibaaGreatNG1
import Derived.Test.YtggdbcmfjliibaaGreatNG2
import Derived.Test.YtggdbcmfjliibaaGreatNG3
import Derived.Test.YtggdbcmfjliibaaGreatNG4
set_option linter.all false
namespace Go.Sx
open Go.Proofs
set_option maxRecDepth 10000
set_option maxHeartbeats 100000000
abbrev I_ncode_Encode_l1:=fun N (a0:TCode) (Q:(Ex (List Int × Int) (List Int))→Prop) n (st:St)=>∃ (v2:Int) (v3:List Int) (ex:_),ncode_Encode_l1 N a0 n v2 v3=some ex∧Q ex∧((∃ w960,st.n=55∧st.s 960=some (w960,.arr false 38 1 (v3.map e38) 0)∧st.t 4=.osl 960 w960 1 0 v3.length∧st.t 17=.isl 40 5 (a0.Ins.map e40)∧st.t 18=.v (.int .i64 ((a0.Ins.length:Nat):Int))∧st.t 19=.v (.int .i64 v2)))
abbrev I_header_Pointers_l1:=fun N (a0:THeader) (y1:Int) (Q:(List Int)→Prop) n (st:St)=>∃ (v2:Int) (v3:List Int) (ex:_),header_Pointers_l1 N a0 y1 n v2 v3=some ex∧Q ex∧((∃ w1024 w64,st.n=19∧st.s 1024=some (w1024,.arr false 3 1 (v3.map e3) 0)∧st.t 1=.ept 64 w64 3 0 0∧st.t 3=.osl 1024 w1024 1 0 v3.length∧st.t 6=.v (.int .i64 y1)∧st.t 7=.v (.int .i64 v2)∧st.s 64=some (w64,.arr true 204 3 [e204 a0] 0))∨(∃ w64,(st.n=19∧st.t 1=.ept 64 w64 3 0 0∧st.t 3=.nsl∧st.t 6=.v (.int .i64 y1)∧st.t 7=.v (.int .i64 v2)∧st.s 64=some (w64,.arr true 204 3 [e204 a0] 0))∧v3=[]))
abbrev I_scope_Valid_l1:=fun N (a0:TLocals) (Q:(Ex Bool Unit)→Prop) n (st:St)=>∃ (v4:Int) (ex:_),scope_Valid_l1 N a0 n v4=some ex∧Q ex∧((∃ w192,st.n=41∧st.t 3=.ept 192 w192 3 0 0∧st.t 27=.isl 134 3 (a0.Scopes.map e134)∧st.t 28=.v (.int .i64 ((a0.Scopes.length:Nat):Int))∧st.t 29=.v (.int .i64 v4)∧st.s 192=some (w192,.arr true 156 3 [e64 a0] 0)))
theorem g10:(∀ N (a0:TCode),OK (ncode_Encode N a0) 12 [.agg (e34 a0)] [] (fun r=>.tup [.isl 38 1 (r.1.map e38),.v (.int .i64 r.2)]) fun r=>[])∧(∀ N (a0:THeader),OK (header_Pointers N a0) 215 [.agg (e204 a0)] [] (fun r=>.isl 3 1 (r.map e3)) fun r=>[])∧(∀ N (a0:TLocals),OK (scope_Valid N a0) 32 [.agg (e64 a0)] [] (fun r=>.v (.bool r)) fun r=>[]):=by
 refine ⟨fun N _=>rn Tryz.f12 [.tmp 2,.tmp 3] [] 55 (by kernel_rfl) ?_,fun N _=>rn Tryz.f215 [.tmp 2] [] 19 (by kernel_rfl) ?_,fun N _=>rn Tryz.f32 [.tmp 2] [] 41 (by kernel_rfl) ?_⟩<;>(rintro _ hw r hr C _ rfl hwf hf;simp only[Tryz.f12,Tryz.f215,Tryz.f32,Option.get!];(first|rw[ncode_Encode] at hr|rw[header_Pointers] at hr|rw[scope_Valid] at hr);repeat' first
 |(refine El.el hr ?_;intro hr)
 |(with_reducible intro h;refine bc_e hr h ?_;intro hr)
 |with_reducible intro _
 |(refine some_e hr ?_;rintro rfl;have hr:=hk;clear hk)
 |simp only[go_sem,simprocAttr,E,hl40,hl134]
 |(with_reducible first|apply guard_of_f|apply guard_of_t|apply cond_of|apply doT_of_t|apply doT_of_f)
 |((first|with_reducible refine idx_s hr (by assumption) ?_ ?_|(with_reducible refine idx_e hr ?_ ?_;rotate_left;intro p;rotate_right));(·simp only[go_sem,simprocAttr]);intro hp hn hd hr;(try have hl40:=hd _ e40);(try simp only[go_sem,simprocAttr] at hl40);(try have hl134:=hd _ e134);(try simp only[go_sem,simprocAttr] at hl134))
 |(refine and_of' ?_ ?_;·first|assumption|omega)
 |(with_reducible first|refine CallX.c ?_ _|refine OK.c hr hw ?_ (fun y hr=>?_) _|refine OK.d hr hw ?_ (fun y hr=>?_) _)
 |(with_reducible refine loop_e (I:=I_ncode_Encode_l1 N _) hr 1000 N (fun ex hq hk=>⟨_,_,ex,hq,hk,?_⟩) ?_ _;rotate_left;clear hr;(try clear E);rintro n1 st ⟨v2,v3,ex,hr,hk,⟨_,E⟩⟩<;>(obtain _|n1:=n1<;>rw[ncode_Encode_l1] at hr))
 |refine ⟨_,Nat.lt_succ_self _,_,_,_,hr,hk,?_⟩
 |(with_reducible refine loop_e (I:=I_header_Pointers_l1 N _ _) hr 1000 N (fun ex hq hk=>⟨_,_,ex,hq,hk,?_⟩) ?_ _;rotate_left;clear hr;(try clear E);rintro n1 st ⟨v2,v3,ex,hr,hk,(⟨_,_,E⟩|⟨_,E,z0⟩)⟩<;>(try subst z0)<;>(obtain _|n1:=n1<;>rw[header_Pointers_l1] at hr))
 |(with_reducible refine loop_e (I:=I_scope_Valid_l1 N _) hr 1000 N (fun ex hq hk=>⟨_,ex,hq,hk,?_⟩) ?_ _;rotate_left;clear hr;(try clear E);rintro n1 st ⟨v4,ex,hr,hk,⟨_,E⟩⟩<;>(obtain _|n1:=n1<;>rw[scope_Valid_l1] at hr))
 |refine ⟨_,Nat.lt_succ_self _,_,_,hr,hk,?_⟩
 |refine db 32 9 hf 34 [(0,26,[]),(0,25,[]),(3,24,[]),(0,7,[]),(8,7,[]),(31,0,[])] rfl rfl (by kernel_rfl) ?_ _
 |(refine some_e hr ?_;rintro rfl;with_reducible refine ret_k ?_)
 |exact no_e hr
 |((first|refine bc_e (c:=true) hr rfl ?_|refine bc_e (c:=false) hr rfl ?_|refine bc_e hr (by assumption) ?_);intro hr)
 |fail)
@[reducible,instance] def ncode_Encode_i:=g10.1
@[reducible,instance] def header_Pointers_i:=g10.2.1
@[reducible,instance] def scope_Valid_i:=g10.2.2
theorem g9:(∀ N (a0:TPage) (a1:TConf),OK (page_entry_large N a0 a1) 235 [.agg (e343 a0),.agg (e56 a1)] [] (fun r=>.v (.bool r)) fun r=>[])∧(∀ N (a0:THeap) (a1:Int),OK (object_At_1_2 N a0 a1) 244 [.ept 1000000 0 6 0 0,.ept 1000001 0 1 0 0] [.arr true 59 6 [[.v (.int .i64 a0.Conf.PageWords),.v (.int .i64 a0.Conf.Pages),.isl 38 1 (a0.Words.map e38),.isl 154 4 (a0.Pages.map e154),.v (.int .i64 a0.Space),.v (.int .i64 a0.Bump)]] 0,.arr true 38 1 [[.v (.int .u64 a1)]] 0] (fun r=>.v (.int .u64 r)) fun r=>[.arr true 59 6 [[.v (.int .i64 a0.Conf.PageWords),.v (.int .i64 a0.Conf.Pages),.isl 38 1 (a0.Words.map e38),.isl 154 4 (a0.Pages.map e154),.v (.int .i64 a0.Space),.v (.int .i64 a0.Bump)]] 0,.arr true 38 1 [[.v (.int .u64 a1)]] 0])∧(∀ N (a0:TTable),OK (slots_Valid N a0) 33 [.agg (e67 a0)] [] (fun r=>.v (.bool r)) fun r=>[])∧(∀ N (a0:Int) (a1:List Int),OK (audit_Refers_1_2 N a0 a1) 69 [.v (.int .u64 a0),.ept 1000000 0 1 0 0] [.arr true 25 1 [[.isl 38 1 (a1.map e38)]] 0] (fun r=>.v (.bool r)) fun r=>[.arr true 25 1 [[.isl 38 1 (a1.map e38)]] 0])∧(∀ N (a0:TTape),OK (made_Tape_Start N a0) 25 [.ept 1000000 0 2 0 0] [.arr true 100 2 [[.isl 3 1 (a0.L.map e3),.v (.int .i64 a0.at_)]] 0] (fun r=>.agg (e82 r.1)) fun r=>[.arr true 100 2 [[.isl 3 1 (r.2.L.map e3),.v (.int .i64 r.2.at_)]] 0]):=by
 refine ⟨fun N _ _=>rn Tryz.f235 [.tmp 4] [] 18 (by kernel_rfl) ?_,fun N _ _=>rn Tryz.f244 [.tmp 2] [] 13 (by kernel_rfl) ?_,fun N _=>rn Tryz.f33 [.tmp 2] [] 13 (by kernel_rfl) ?_,fun N _ _=>rn Tryz.f69 [.tmp 3] [] 18 (by kernel_rfl) ?_,fun N _=>rn Tryz.f25 [.cell 2 82] [] 36 (by kernel_rfl) ?_⟩<;>(rintro _ hw r hr C _ rfl hwf hf;simp only[Tryz.f235,Tryz.f244,Tryz.f33,Tryz.f69,Tryz.f25,Option.get!];(first|rw[page_entry_large] at hr|rw[object_At_1_2] at hr|rw[slots_Valid] at hr|rw[audit_Refers_1_2] at hr|rw[made_Tape_Start] at hr);repeat' first
 |(refine El.el hr ?_;intro hr)
 |(with_reducible intro h;refine bc_e hr h ?_;intro hr)
 |with_reducible intro _
 |simp only[go_sem,simprocAttr]
 |(with_reducible first|apply guard_of_f|apply guard_of_t|apply cond_of)
 |(refine and_of' ?_ ?_;·first|assumption|omega)
 |(with_reducible first|refine CallX.c ?_ _|refine OK.c hr hw ?_ (fun y hr=>?_) _)
 |(refine some_e hr ?_;rintro rfl;with_reducible refine ret_k ?_)
 |exact no_e hr
 |fail)
@[reducible,instance] def page_entry_large_i:=g9.1
@[reducible,instance] def object_At_1_2_i:=g9.2.1
@[reducible,instance] def slots_Valid_i:=g9.2.2.1
@[reducible,instance] def audit_Refers_1_2_i:=g9.2.2.2.1
@[reducible,instance] def made_Tape_Start_i:=g9.2.2.2.2
end Go.Sx
