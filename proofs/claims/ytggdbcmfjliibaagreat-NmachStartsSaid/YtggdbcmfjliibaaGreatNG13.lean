import Derived.Test.YtggdbcmfjliibaaGreatNF
import Derived.Test.YtggdbcmfjliibaaGreatNG7
import Derived.Test.YtggdbcmfjliibaaGreatNG12
set_option linter.all false
namespace Go.Sx
open Go.Proofs
set_option maxRecDepth 10000
set_option maxHeartbeats 100000000
abbrev I_audit_Check_l1:=fun N (a0:THeap) (Q:Int→Prop) n (st:St)=>∃ (v4:Int) (v5:Int) (ex:_),audit_Check_l1 N a0 n v4 v5=some ex∧Q ex∧((∃ w64 w128,st.n=50∧st.t 1=.ept 64 w64 6 0 0∧st.t 2=.ept 128 w128 3 0 0∧st.t 5=.v (.int .i64 v4)∧st.t 25=.isl 154 4 (a0.Pages.map e154)∧st.t 26=.v (.int .i64 ((a0.Pages.length:Nat):Int))∧st.t 27=.v (.int .i64 v5)∧st.s 64=some (w64,.arr true 59 6 [e59 a0] 0)∧st.s 128=some (w128,.arr true 218 3 [[.v (.int .i64 0),.v (.int .i64 0),.v (.int .u64 0)]] 0)))
instance audit_Check_i:∀ N (a0:THeap),OK (audit_Check N a0) 111 [.agg (e59 a0)] [] (fun r=>.agg (e218 r)) fun r=>[]:=by
 refine fun N _=>rn Tryz.f111 [.cell 2 218] [] 50 (by kernel_rfl) ?_<;>(rintro _ hw r hr C _ rfl hwf hf;simp only[Tryz.f111,Option.get!];(rw[audit_Check] at hr);repeat' first
 |(refine El.el hr ?_;intro hr)
 |(with_reducible intro h;refine bc_e hr h ?_;intro hr)
 |with_reducible intro _
 |(refine some_e hr ?_;rintro rfl;have hr:=hk;clear hk)
 |simp only[go_sem,simprocAttr,E,hl154]
 |(with_reducible first|apply guard_of_f|apply guard_of_t|apply cond_of)
 |((first|with_reducible refine idx_s hr (by assumption) ?_ ?_|(with_reducible refine idx_e hr ?_ ?_;rotate_left;intro p;rotate_right));(·simp only[go_sem,simprocAttr]);intro hp hn hd hr;(try have hl154:=hd _ e154);(try simp only[go_sem,simprocAttr] at hl154))
 |(refine and_of' ?_ ?_;·first|assumption|omega)
 |(with_reducible first|refine CallX.c ?_ _|refine OK.c hr hw ?_ (fun y hr=>?_) _)
 |(with_reducible refine loop_e (I:=I_audit_Check_l1 N _) hr 1000 N (fun ex hq hk=>⟨_,_,ex,hq,hk,?_⟩) ?_ _;rotate_left;clear hr;(try clear E);rintro n1 st ⟨v4,v5,ex,hr,hk,⟨_,_,E⟩⟩<;>(obtain _|n1:=n1<;>rw[audit_Check_l1] at hr))
 |refine ⟨_,Nat.lt_succ_self _,_,_,_,hr,hk,?_⟩
 |(refine some_e hr ?_;rintro rfl;with_reducible refine ret_k ?_)
 |exact no_e hr
 |((first|refine bc_e (c:=true) hr rfl ?_|refine bc_e (c:=false) hr rfl ?_|refine bc_e hr (by assumption) ?_);intro hr)
 |fail)
end Go.Sx
