import Derived.Test.YtggdbcmfjliibaaGreatNF
import Derived.Test.YtggdbcmfjliibaaGreatNG13
set_option linter.all false
namespace Go.Sx
open Go.Proofs
set_option maxRecDepth 10000
set_option maxHeartbeats 100000000
instance audit_Good_i:∀ N (a0:THeap),OK (audit_Good N a0) 57 [.agg (e59 a0)] [] (fun r=>.v (.bool r)) fun r=>[]:=by
 refine fun N _=>rn Tryz.f57 [.tmp 2] [] 7 (by kernel_rfl) ?_<;>(rintro _ hw r hr C _ rfl hwf hf;simp only[Tryz.f57,Option.get!];(rw[audit_Good] at hr);repeat' first
 |(refine El.el hr ?_;intro hr)
 |(with_reducible intro h;refine bc_e hr h ?_;intro hr)
 |with_reducible intro _
 |simp only[go_sem,simprocAttr]
 |(with_reducible first|apply guard_of_f|apply guard_of_t|apply cond_of)
 |(refine and_of' ?_ ?_;·first|assumption|omega)
 |(with_reducible first|refine CallX.c ?_ _|refine OK.c hr hw ?_ (fun y hr=>?_) _)
 |(refine some_e hr ?_;rintro rfl;with_reducible refine ret_k ?_)
 |exact no_e hr
 |fail)
end Go.Sx
