import Derived.Test.YtggdbcmfjliibaaGreatNF
import Derived.Test.YtggdbcmfjliibaaGreatNG0
import Derived.Test.YtggdbcmfjliibaaGreatNG7
import Derived.Test.YtggdbcmfjliibaaGreatNG9
set_option linter.all false
namespace Go.Sx
open Go.Proofs
set_option maxRecDepth 10000
set_option maxHeartbeats 100000000
abbrev I_walk_all_l1:=fun N (a0:THeap) (Q:(Ex (List Tfound × Int) (List Tfound))→Prop) n (st:St)=>∃ (v2:Int) (v3:List Tfound) (ex:_),walk_all_l1 N a0 n v2 v3=some ex∧Q ex∧((∃ w1792 w64,st.n=31∧st.s 1792=some (w1792,.arr false 233 4 (v3.map e233) 0)∧st.t 1=.ept 64 w64 6 0 0∧st.t 4=.osl 1792 w1792 4 0 v3.length∧st.t 13=.v (.int .i64 ((a0.Pages.length:Nat):Int))∧st.t 14=.v (.int .i64 v2)∧st.s 64=some (w64,.arr true 59 6 [e59 a0] 0))∨(∃ w64,(st.n=31∧st.t 1=.ept 64 w64 6 0 0∧st.t 4=.nsl∧st.t 13=.v (.int .i64 ((a0.Pages.length:Nat):Int))∧st.t 14=.v (.int .i64 v2)∧st.s 64=some (w64,.arr true 59 6 [e59 a0] 0))∧v3=[]))
instance walk_all_i:∀ N (a0:THeap),OK (walk_all N a0) 117 [.agg (e59 a0)] [] (fun r=>.tup [.fsl 233 4 (r.1.map e233),.v (.int .i64 r.2)]) fun r=>[]:=by
 refine fun N _=>rn Tryz.f117 [.tmp 2,.tmp 3] [1792] 31 (by kernel_rfl) ?_<;>(rintro _ hw r hr C _ rfl hwf hf;simp only[Tryz.f117,Option.get!];(rw[walk_all] at hr);repeat' first
 |(refine El.el hr ?_;intro hr)
 |(with_reducible intro h;refine bc_e hr h ?_;intro hr)
 |with_reducible intro _
 |(refine some_e hr ?_;rintro rfl;have hr:=hk;clear hk)
 |simp only[go_sem,simprocAttr,E]
 |(with_reducible first|apply guard_of_f|apply guard_of_t|apply cond_of)
 |(refine and_of' ?_ ?_;·first|assumption|omega)
 |(with_reducible first|refine CallX.c ?_ _|refine OK.c hr hw ?_ (fun y hr=>?_) _)
 |(with_reducible refine loop_e (I:=I_walk_all_l1 N _) hr 1000 N (fun ex hq hk=>⟨_,_,ex,hq,hk,?_⟩) ?_ _;rotate_left;clear hr;(try clear E);rintro n1 st ⟨v2,v3,ex,hr,hk,(⟨_,_,E⟩|⟨_,E,z0⟩)⟩<;>(try subst z0)<;>(obtain _|n1:=n1<;>rw[walk_all_l1] at hr))
 |refine ⟨_,Nat.lt_succ_self _,_,_,_,hr,hk,?_⟩
 |(refine some_e hr ?_;rintro rfl;with_reducible refine ret_k ?_)
 |exact no_e hr
 |((first|refine bc_e (c:=true) hr rfl ?_|refine bc_e (c:=false) hr rfl ?_|refine bc_e hr (by assumption) ?_);intro hr)
 |fail)
instance walk_Page_i:∀ N (a0:THeap) (a1:Int),OK (walk_Page N a0 a1) 211 [.agg (e59 a0),.v (.int .i64 a1)] [] (fun r=>.tup [.isl 38 1 (r.1.map e38),.v (.int .i64 r.2)]) fun r=>[]:=by
 refine fun N _ _=>rn Tryz.f211 [.tmp 4,.tmp 5] [] 33 (by kernel_rfl) ?_<;>(rintro _ hw r hr C _ rfl hwf hf;simp only[Tryz.f211,Option.get!];(rw[walk_Page] at hr);repeat' first
 |(refine El.el hr ?_;intro hr)
 |(with_reducible intro h;refine bc_e hr h ?_;intro hr)
 |with_reducible intro _
 |simp only[go_sem,simprocAttr]
 |(with_reducible first|apply guard_of_f|apply guard_of_t|apply cond_of)
 |(refine and_of' ?_ ?_;·first|assumption|omega)
 |(with_reducible first|refine CallX.c ?_ _|refine OK.c hr hw ?_ (fun y hr=>?_) _)
 |(refine some_e hr ?_;rintro rfl;with_reducible refine ret_k ?_)
 |exact no_e hr
 |fail)
end Go.Sx
