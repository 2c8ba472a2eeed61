import Derived.Test.YtggdbcmfjliibaaGreatNF
import Derived.Test.YtggdbcmfjliibaaGreatNG2
import Derived.Test.YtggdbcmfjliibaaGreatNG4
import Derived.Test.YtggdbcmfjliibaaGreatNG5
import Derived.Test.YtggdbcmfjliibaaGreatNG8
import Derived.Test.YtggdbcmfjliibaaGreatNG9
import Derived.Test.YtggdbcmfjliibaaGreatNG10
import Derived.Test.YtggdbcmfjliibaaGreatNG11
set_option linter.all false
namespace Go.Sx
open Go.Proofs
set_option maxRecDepth 10000
set_option maxHeartbeats 100000000
abbrev I_audit_pages_l1:=fun N (a0:THeap) (Q:(Ex TFinding Unit)→Prop) n (st:St)=>∃ (v1:Int) (ex:_),audit_pages_l1 N a0 n v1=some ex∧Q ex∧((∃ w64 w128,st.n=64∧st.t 1=.ept 64 w64 6 0 0∧st.t 2=.ept 128 w128 3 0 0∧st.t 12=.isl 154 4 (a0.Pages.map e154)∧st.t 13=.v (.int .i64 ((a0.Pages.length:Nat):Int))∧st.t 14=.v (.int .i64 v1)∧st.s 64=some (w64,.arr true 59 6 [e59 a0] 0)∧st.s 128=some (w128,.arr true 218 3 [[.v (.int .i64 0),.v (.int .i64 0),.v (.int .u64 0)]] 0)))
abbrev I_audit_pointers_l1:=fun N (a0:THeap) (y1:List Int × Int) (v2:Int) (p3:Int) (y5:List Int) (Q:(Ex Int Unit)→Prop) n (st:St)=>∃ (v6:Int) (ex:_),audit_pointers_l1 N a0 y1 v2 p3 y5 n v6=some ex∧Q ex∧((∃ w64 w128,st.n=83∧st.t 1=.ept 64 w64 6 0 0∧st.t 2=.ept 128 w128 3 0 0∧st.t 3=.isl 38 1 (y1.1.map e38)∧st.t 7=.v (.int .u64 p3)∧st.t 24=.isl 38 1 (y1.1.map e38)∧st.t 25=.v (.int .i64 ((y1.1.length:Nat):Int))∧st.t 26=.v (.int .i64 v2)∧st.t 37=.isl 3 1 (y5.map e3)∧st.t 38=.v (.int .i64 ((y5.length:Nat):Int))∧st.t 39=.v (.int .i64 v6)∧st.s 64=some (w64,.arr true 59 6 [e59 a0] 0)∧st.s 128=some (w128,.arr true 218 3 [[.v (.int .i64 0),.v (.int .i64 0),.v (.int .u64 0)]] 0)))
abbrev I_audit_pointers_l2:=fun N (a0:THeap) (y1:List Int × Int) (Q:Int→Prop) n (st:St)=>∃ (v2:Int) (ex:_),audit_pointers_l2 N a0 y1 n v2=some ex∧Q ex∧((∃ w64 w128,st.n=83∧st.t 1=.ept 64 w64 6 0 0∧st.t 2=.ept 128 w128 3 0 0∧st.t 3=.isl 38 1 (y1.1.map e38)∧st.t 5=.v (.int .u64 0)∧st.t 24=.isl 38 1 (y1.1.map e38)∧st.t 25=.v (.int .i64 ((y1.1.length:Nat):Int))∧st.t 26=.v (.int .i64 v2)∧st.s 64=some (w64,.arr true 59 6 [e59 a0] 0)∧st.s 128=some (w128,.arr true 218 3 [[.v (.int .i64 0),.v (.int .i64 0),.v (.int .u64 0)]] 0)))
abbrev I_pin_list_counts_l1:=fun N (a0:List TPin) (a1:THeap) (y1:List Int × Int) (Q:(Ex (List Int × Bool) (List Int))→Prop) n (st:St)=>∃ (v2:Int) (v3:List Int) (ex:_),pin_list_counts_l1 N a0 a1 y1 n v2 v3=some ex∧Q ex∧((∃ w1600 w192,st.n=80∧st.s 1600=some (w1600,.arr false 3 1 (v3.map e3) 0)∧st.t 0=.isl 121 2 (a0.map e121)∧st.t 3=.ept 192 w192 6 0 0∧st.t 6=.clo (.func 112) [] []∧st.t 7=.isl 38 1 (y1.1.map e38)∧st.t 9=.osl 1600 w1600 1 0 v3.length∧st.t 26=.isl 121 2 (a0.map e121)∧st.t 27=.v (.int .i64 ((a0.length:Nat):Int))∧st.t 28=.v (.int .i64 v2)∧st.s 192=some (w192,.arr true 59 6 [e59 a1] 0)))
theorem g21:(∀ N (a0:THeap),OK (audit_pages N a0) 172 [.agg (e59 a0)] [] (fun r=>.agg (e218 r)) fun r=>[])∧(∀ N (a0:THeap),OK (audit_pointers N a0) 173 [.agg (e59 a0)] [] (fun r=>.agg (e218 r)) fun r=>[])∧(∀ N (a0:List TPin) (a1:THeap),OK (pin_list_counts N a0 a1) 58 [.isl 121 2 (a0.map e121),.agg (e59 a1)] [] (fun r=>.tup [.isl 3 1 (r.1.map e3),.v (.bool r.2)]) fun r=>[]):=by
 refine ⟨fun N _=>rn Tryz.f172 [.cell 2 218] [] 64 (by kernel_rfl) ?_,fun N _=>rn Tryz.f173 [.cell 2 218] [] 83 (by kernel_rfl) ?_,fun N _ _=>rn Tryz.f58 [.tmp 4,.tmp 5] [] 80 (by kernel_rfl) ?_⟩<;>(rintro _ hw r hr C _ rfl hwf hf;simp only[Tryz.f172,Tryz.f173,Tryz.f58,Option.get!];(first|rw[audit_pages] at hr|rw[audit_pointers] at hr|rw[pin_list_counts] at hr);repeat' first
 |(refine El.el hr ?_;intro hr)
 |(with_reducible intro h;refine bc_e hr h ?_;intro hr)
 |with_reducible intro _
 |(refine some_e hr ?_;rintro rfl;have hr:=hk;clear hk)
 |simp only[go_sem,simprocAttr,E,hl3,hl38,hl121,hl154]
 |(with_reducible first|apply guard_of_f|apply guard_of_t|apply cond_of|apply doT_of_t|apply doT_of_f)
 |((first|with_reducible refine idx_s hr (by assumption) ?_ ?_|(with_reducible refine idx_e hr ?_ ?_;rotate_left;intro p;rotate_right));(·simp only[go_sem,simprocAttr]);intro hp hn hd hr;(try have hl3:=hd _ e3);(try simp only[go_sem,simprocAttr] at hl3);(try have hl38:=hd _ e38);(try simp only[go_sem,simprocAttr] at hl38);(try have hl121:=hd _ e121);(try simp only[go_sem,simprocAttr] at hl121);(try have hl154:=hd _ e154);(try simp only[go_sem,simprocAttr] at hl154))
 |(refine and_of' ?_ ?_;·first|assumption|omega)
 |(with_reducible first|refine CallX.c ?_ _|refine OK.c hr hw ?_ (fun y hr=>?_) _)
 |(with_reducible refine loop_e (I:=I_audit_pages_l1 N _) hr 1000 N (fun ex hq hk=>⟨_,ex,hq,hk,?_⟩) ?_ _;rotate_left;clear hr;(try clear E);rintro n1 st ⟨v1,ex,hr,hk,⟨_,_,E⟩⟩<;>(obtain _|n1:=n1<;>rw[audit_pages_l1] at hr))
 |refine ⟨_,Nat.lt_succ_self _,_,_,hr,hk,?_⟩
 |(with_reducible refine loop_e (I:=I_audit_pointers_l1 N _ _ _ _ _) hr 1000 N (fun ex hq hk=>⟨_,ex,hq,hk,?_⟩) ?_ _;rotate_left;clear hr;(try clear E);rintro n1 st ⟨v6,ex,hr,hk,⟨_,_,E⟩⟩<;>(obtain _|n1:=n1<;>rw[audit_pointers_l1] at hr))
 |(with_reducible refine loop_e (I:=I_audit_pointers_l2 N _ _) hr 1000 N (fun ex hq hk=>⟨_,ex,hq,hk,?_⟩) ?_ _;rotate_left;clear hr;(try clear E);rintro n2 st ⟨v2,ex,hr,hk,⟨_,_,E⟩⟩<;>(obtain _|n2:=n2<;>rw[audit_pointers_l2] at hr))
 |(with_reducible refine loop_e (I:=I_pin_list_counts_l1 N _ _ _) hr 1000 N (fun ex hq hk=>⟨_,_,ex,hq,hk,?_⟩) ?_ _;rotate_left;clear hr;(try clear E);rintro n1 st ⟨v2,v3,ex,hr,hk,⟨_,_,E⟩⟩<;>(obtain _|n1:=n1<;>rw[pin_list_counts_l1] at hr))
 |refine ⟨_,Nat.lt_succ_self _,_,_,_,hr,hk,?_⟩
 |refine db 58 11 hf 70 [(0,50,[]),(0,49,[]),(3,48,[]),(7,48,[]),(0,15,[]),(16,15,[]),(63,0,[]),(127,0,[]),(255,0,[[1600],[]])] rfl rfl (by kernel_rfl) ?_ _
 |(refine some_e hr ?_;rintro rfl;with_reducible refine ret_k ?_)
 |exact no_e hr
 |((first|refine bc_e (c:=true) hr rfl ?_|refine bc_e (c:=false) hr rfl ?_|refine bc_e hr (by assumption) ?_);intro hr)
 |fail)
@[reducible,instance] def audit_pages_i:=g21.1
@[reducible,instance] def audit_pointers_i:=g21.2.1
@[reducible,instance] def pin_list_counts_i:=g21.2.2
end Go.Sx
