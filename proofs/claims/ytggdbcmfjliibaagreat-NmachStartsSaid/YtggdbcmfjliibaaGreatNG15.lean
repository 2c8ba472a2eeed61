import Derived.Test.YtggdbcmfjliibaaGreatNF
import Derived.Test.YtggdbcmfjliibaaGreatNG7
import Derived.Test.YtggdbcmfjliibaaGreatNG11
import Derived.Test.YtggdbcmfjliibaaGreatNG12
import Derived.Test.YtggdbcmfjliibaaGreatNG14
set_option linter.all false
namespace Go.Sx
open Go.Proofs
set_option maxRecDepth 10000
set_option maxHeartbeats 100000000
abbrev I_pin_Match_l1:=fun N (a0:THeap) (y2:List Int × Bool) (Q:(Ex Bool Unit)→Prop) n (st:St)=>∃ (v3:Int) (ex:_),pin_Match_l1 N a0 y2 n v3=some ex∧Q ex∧((st.n=41∧st.t 5=.isl 3 1 (y2.1.map e3)∧st.t 26=.isl 154 4 (a0.Pages.map e154)∧st.t 27=.v (.int .i64 ((a0.Pages.length:Nat):Int))∧st.t 28=.v (.int .i64 v3)))
instance pin_Match_i:∀ N (a0:THeap) (a1:List TPin),OK (pin_Match N a0 a1) 31 [.agg (e59 a0),.isl 121 2 (a1.map e121)] [] (fun r=>.v (.bool r)) fun r=>[]:=by
 refine fun N _ _=>rn Tryz.f31 [.tmp 4] [] 41 (by kernel_rfl) ?_<;>(rintro _ hw r hr C _ rfl hwf hf;simp only[Tryz.f31,Option.get!];(rw[pin_Match] at hr);repeat' first
 |(refine El.el hr ?_;intro hr)
 |(with_reducible intro h;refine bc_e hr h ?_;intro hr)
 |with_reducible intro _
 |(refine some_e hr ?_;rintro rfl;have hr:=hk;clear hk)
 |simp only[go_sem,simprocAttr,E,hl3,hl154]
 |(with_reducible first|apply guard_of_f|apply guard_of_t|apply cond_of|apply doT_of_t|apply doT_of_f)
 |((first|with_reducible refine idx_s hr (by assumption) ?_ ?_|(with_reducible refine idx_e hr ?_ ?_;rotate_left;intro p;rotate_right));(·simp only[go_sem,simprocAttr]);intro hp hn hd hr;(try have hl3:=hd _ e3);(try simp only[go_sem,simprocAttr] at hl3);(try have hl154:=hd _ e154);(try simp only[go_sem,simprocAttr] at hl154))
 |(refine and_of' ?_ ?_;·first|assumption|omega)
 |(with_reducible first|refine CallX.c ?_ _|refine OK.c hr hw ?_ (fun y hr=>?_) _)
 |(with_reducible refine loop_e (I:=I_pin_Match_l1 N _ _) hr 1000 N (fun ex hq hk=>⟨_,ex,hq,hk,?_⟩) ?_ _;rotate_left;clear hr;(try clear E);rintro n1 st ⟨v3,ex,hr,hk,E⟩<;>(obtain _|n1:=n1<;>rw[pin_Match_l1] at hr))
 |refine ⟨_,Nat.lt_succ_self _,_,_,hr,hk,?_⟩
 |refine db 31 9 hf 33 [(0,60,[]),(1,60,[]),(0,11,[]),(0,7,[]),(12,3,[]),(28,3,[]),(63,0,[])] rfl rfl (by kernel_rfl) ?_ _
 |(refine some_e hr ?_;rintro rfl;with_reducible refine ret_k ?_)
 |exact no_e hr
 |((first|refine bc_e (c:=true) hr rfl ?_|refine bc_e (c:=false) hr rfl ?_|refine bc_e hr (by assumption) ?_);intro hr)
 |fail)
instance audit_Refers_i:∀ N (a0:THeap) (a1:List Int),OK (audit_Refers N a0 a1) 36 [.agg (e59 a0),.isl 38 1 (a1.map e38)] [] (fun r=>.v (.bool r)) fun r=>[]:=by
 refine fun N _ _=>rn Tryz.f36 [.tmp 4] [] 19 (by kernel_rfl) ?_<;>(rintro _ hw r hr C _ rfl hwf hf;simp only[Tryz.f36,Option.get!];(rw[audit_Refers] at hr);repeat' first
 |(refine El.el hr ?_;intro hr)
 |(with_reducible intro h;refine bc_e hr h ?_;intro hr)
 |with_reducible intro _
 |simp only[go_sem,simprocAttr]
 |(with_reducible first|apply guard_of_f|apply guard_of_t|apply cond_of)
 |(refine and_of' ?_ ?_;·first|assumption|omega)
 |(with_reducible first|refine CallX.c ?_ _|refine OK.c hr hw ?_ (fun y hr=>?_) _)
 |(refine some_e hr ?_;rintro rfl;with_reducible refine ret_k ?_)
 |exact no_e hr
 |fail)
end Go.Sx
