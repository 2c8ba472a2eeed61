import Derived.Test.YtggdbcmfjliibaaGreatNF
import Derived.Test.YtggdbcmfjliibaaGreatNG2
import Derived.Test.YtggdbcmfjliibaaGreatNG4
import Derived.Test.YtggdbcmfjliibaaGreatNG5
import Derived.Test.YtggdbcmfjliibaaGreatNG6
import Derived.Test.YtggdbcmfjliibaaGreatNG7
import Derived.Test.YtggdbcmfjliibaaGreatNG15
set_option linter.all false
namespace Go.Sx
open Go.Proofs
set_option maxRecDepth 10000
set_option maxHeartbeats 100000000
instance env_Valid_i:∀ N (a0:TEnv),OK (env_Valid N a0) 22 [.agg (e70 a0)] [] (fun r=>.v (.bool r)) fun r=>[]:=by
 refine fun N _=>rn Tryz.f22 [.tmp 2] [] 43 (by kernel_rfl) ?_<;>(rintro _ hw r hr C _ rfl hwf hf;simp only[Tryz.f22,Option.get!];(rw[env_Valid] at hr);repeat' first
 |(refine El.el hr ?_;intro hr)
 |(with_reducible intro h;refine bc_e hr h ?_;intro hr)
 |with_reducible intro _
 |simp only[go_sem,simprocAttr]
 |(with_reducible first|apply guard_of_f|apply guard_of_t|apply cond_of|apply doT_of_t|apply doT_of_f)
 |(refine and_of' ?_ ?_;·first|assumption|omega)
 |(with_reducible first|refine CallX.c ?_ _|refine OK.c hr hw ?_ (fun y hr=>?_) _|refine OK.d hr hw ?_ (fun y hr=>?_) _)
 |refine db 22 3 hf 33 [(0,508,[[],[2560]]),(1,508,[[],[2560]]),(0,51,[]),(4,51,[]),(0,15,[]),(16,15,[]),(60,3,[]),(124,3,[[2560],[]]),(252,3,[[2560],[]]),(511,0,[]),(1023,0,[])] rfl rfl (by kernel_rfl) ?_ _
 |(refine some_e hr ?_;rintro rfl;with_reducible refine ret_k ?_)
 |exact no_e hr
 |fail)
end Go.Sx
