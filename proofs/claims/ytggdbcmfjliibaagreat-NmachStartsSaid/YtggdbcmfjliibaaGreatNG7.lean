import Derived.Test.YtggdbcmfjliibaaGreatNF
import Derived.Test.YtggdbcmfjliibaaGreatNG0
import Derived.Test.YtggdbcmfjliibaaGreatNG1
import Derived.Test.YtggdbcmfjliibaaGreatNG4
import Derived.Test.YtggdbcmfjliibaaGreatNG6
set_option linter.all false
namespace Go.Sx
open Go.Proofs
set_option maxRecDepth 10000
set_option maxHeartbeats 100000000
abbrev I_page_Proper_l1:=fun N (a0:THeap) (Q:(Ex Bool Unit)→Prop) n (st:St)=>∃ (v3:Int) (ex:_),page_Proper_l1 N a0 n v3=some ex∧Q ex∧((∃ w64,st.n=83∧st.t 1=.ept 64 w64 6 0 0∧st.t 3=.v (.int .i64 v3)∧st.s 64=some (w64,.arr true 59 6 [e59 a0] 0)))
instance page_Proper_i:∀ N (a0:THeap),OK (page_Proper N a0) 171 [.agg (e59 a0)] [] (fun r=>.v (.bool r)) fun r=>[]:=by
 refine fun N _=>rn Tryz.f171 [.tmp 2] [] 83 (by kernel_rfl) ?_<;>(rintro _ hw r hr C _ rfl hwf hf;simp only[Tryz.f171,Option.get!];(rw[page_Proper] at hr);repeat' first
 |(refine El.el hr ?_;intro hr)
 |(with_reducible intro h;refine bc_e hr h ?_;intro hr)
 |with_reducible intro _
 |(refine some_e hr ?_;rintro rfl;have hr:=hk;clear hk)
 |simp only[go_sem,simprocAttr,E,hl154]
 |(with_reducible first|apply guard_of_f|apply guard_of_t|apply cond_of)
 |((first|with_reducible refine idx_s hr (by assumption) ?_ ?_|(with_reducible refine idx_e hr ?_ ?_;rotate_left;intro p;rotate_right));(·simp only[go_sem,simprocAttr]);intro hp hn hd hr;(try have hl154:=hd _ e154);(try simp only[go_sem,simprocAttr] at hl154))
 |(refine and_of' ?_ ?_;·first|assumption|omega)
 |(with_reducible first|refine CallX.c ?_ _|refine OK.c hr hw ?_ (fun y hr=>?_) _)
 |(with_reducible refine loop_e (I:=I_page_Proper_l1 N _) hr 1000 N (fun ex hq hk=>⟨_,ex,hq,hk,?_⟩) ?_ _;rotate_left;clear hr;(try clear E);rintro n1 st ⟨v3,ex,hr,hk,⟨_,E⟩⟩<;>(obtain _|n1:=n1<;>rw[page_Proper_l1] at hr))
 |refine ⟨_,Nat.lt_succ_self _,_,_,hr,hk,?_⟩
 |(refine some_e hr ?_;rintro rfl;with_reducible refine ret_k ?_)
 |exact no_e hr
 |((first|refine bc_e (c:=true) hr rfl ?_|refine bc_e (c:=false) hr rfl ?_|refine bc_e hr (by assumption) ?_);intro hr)
 |fail)
theorem g14:(∀ N (a0:List Int) (c0:List Int),OK (slices_ContainsFunc_uint64_uint64_Refers1 N a0 c0) 68 [.isl 38 1 (a0.map e38),.clo (.func 69) [] [.ept 1000000 0 1 0 0]] [.arr true 25 1 [[.isl 38 1 (c0.map e38)]] 0] (fun r=>.v (.bool r)) fun r=>[.arr true 25 1 [[.isl 38 1 (c0.map e38)]] 0])∧(∀ N (a0:TEnv),OK (env_Strong N a0) 38 [.agg (e70 a0)] [] (fun r=>.isl 38 1 (r.map e38)) fun r=>[]):=by
 refine ⟨fun N _ _=>rn Tryz.f68 [.tmp 4] [] 9 (by kernel_rfl) ?_,fun N _=>rn Tryz.f38 [.tmp 2] [] 15 (by kernel_rfl) ?_⟩<;>(rintro _ hw r hr C _ rfl hwf hf;simp only[Tryz.f68,Tryz.f38,Option.get!];(first|rw[slices_ContainsFunc_uint64_uint64_Refers1] at hr|rw[env_Strong] at hr);repeat' first
 |(refine El.el hr ?_;intro hr)
 |(with_reducible intro h;refine bc_e hr h ?_;intro hr)
 |with_reducible intro _
 |simp only[go_sem,simprocAttr]
 |(with_reducible first|apply guard_of_f|apply guard_of_t|apply cond_of|apply doT_of_t|apply doT_of_f)
 |(refine and_of' ?_ ?_;·first|assumption|omega)
 |(with_reducible first|refine CallX.c ?_ _|refine OK.c hr hw ?_ (fun y hr=>?_) _|refine OK.d hr hw ?_ (fun y hr=>?_) _)
 |refine db 38 1 hf 3 [(0,1020,[]),(1,1020,[]),(0,355,[]),(4,355,[]),(12,355,[]),(0,287,[]),(32,287,[]),(124,259,[]),(0,255,[]),(508,3,[]),(1023,0,[[832],[]]),(2047,0,[[832],[]]),(4095,0,[])] rfl rfl (by kernel_rfl) ?_ _
 |(refine some_e hr ?_;rintro rfl;with_reducible refine ret_k ?_)
 |exact no_e hr
 |fail)
@[reducible,instance] def slices_ContainsFunc_uint64_uint64_Refers1_i:=g14.1
@[reducible,instance] def env_Strong_i:=g14.2
end Go.Sx
