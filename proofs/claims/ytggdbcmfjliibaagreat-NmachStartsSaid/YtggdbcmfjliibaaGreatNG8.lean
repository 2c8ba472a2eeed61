import Derived.Test.YtggdbcmfjliibaaGreatNF
import Derived.Test.YtggdbcmfjliibaaGreatNG2
import Derived.Test.YtggdbcmfjliibaaGreatNG4
import Derived.Test.YtggdbcmfjliibaaGreatNG5
import Derived.Test.YtggdbcmfjliibaaGreatNG7
set_option linter.all false
namespace Go.Sx
open Go.Proofs
set_option maxRecDepth 10000
set_option maxHeartbeats 100000000
instance object_At_i:∀ N (a0:THeap) (a1:Int),OK (object_At N a0 a1) 214 [.agg (e59 a0),.v (.int .u64 a1)] [] (fun r=>.tup [.agg (e204 r.1),.v (.int .i64 r.2)]) fun r=>[]:=by
 refine fun N _ _=>rn Tryz.f214 [.cell 4 204,.tmp 5] [] 79 (by kernel_rfl) ?_<;>(rintro _ hw r hr C _ rfl hwf hf;simp only[Tryz.f214,Option.get!];(rw[object_At] at hr);repeat' first
 |(refine El.el hr ?_;intro hr)
 |(with_reducible intro h;refine bc_e hr h ?_;intro hr)
 |with_reducible intro _
 |simp only[go_sem,simprocAttr,hl154]
 |(with_reducible first|apply guard_of_f|apply guard_of_t|apply cond_of)
 |((first|with_reducible refine idx_s hr (by assumption) ?_ ?_|(with_reducible refine idx_e hr ?_ ?_;rotate_left;intro p;rotate_right));(·simp only[go_sem,simprocAttr]);intro hp hn hd hr;(try have hl154:=hd _ e154);(try simp only[go_sem,simprocAttr] at hl154))
 |(refine and_of' ?_ ?_;·first|assumption|omega)
 |(with_reducible first|refine CallX.c ?_ _|refine OK.c hr hw ?_ (fun y hr=>?_) _)
 |(refine some_e hr ?_;rintro rfl;with_reducible refine ret_k ?_)
 |exact no_e hr
 |fail)
end Go.Sx
