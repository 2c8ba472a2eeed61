import Derived.Test.YtggdbcmfjliibaaGreatNF
import Derived.Test.YtggdbcmfjliibaaGreatNG0
import Derived.Test.YtggdbcmfjliibaaGreatNG1
import Derived.Test.YtggdbcmfjliibaaGreatNG2
import Derived.Test.YtggdbcmfjliibaaGreatNG3
import Derived.Test.YtggdbcmfjliibaaGreatNG6
import Derived.Test.YtggdbcmfjliibaaGreatNG18
set_option linter.all false
namespace Go.Sx
open Go.Proofs
set_option maxRecDepth 10000
set_option maxHeartbeats 100000000
instance law23_NmachStarts_i:∀ N (a0:TCode) (a1:List Int) (a2:TFrame),OK (law23_NmachStarts N a0 a1 a2) 3 [.agg (e24 a0),.isl 38 1 (a1.map e38),.agg (e28 a2)] [] (fun r=>.v (.bool r)) fun r=>[]:=by
 refine fun N _ _ _=>rn Tryz.f3 [.tmp 6] [] 108 (by kernel_rfl) ?_<;>(rintro _ hw r hr C _ rfl hwf hf;simp only[Tryz.f3,Option.get!];(rw[law23_NmachStarts] at hr);repeat' first
 |(refine El.el hr ?_;intro hr)
 |(with_reducible intro h;refine bc_e hr h ?_;intro hr)
 |with_reducible intro _
 |simp only[go_sem,simprocAttr]
 |(with_reducible first|apply guard_of_f|apply guard_of_t|apply cond_of|apply doT_of_t|apply doT_of_f)
 |(refine and_of' ?_ ?_;·first|assumption|omega)
 |(with_reducible first|refine CallX.c ?_ _|refine OK.c hr hw ?_ (fun y hr=>?_) _|refine OK.d hr hw ?_ (fun y hr=>?_) _)
 |refine db 3 5 hf 11 [(0,34359738369,[[],[704]]),(1,34359738369,[[],[704]]),(0,25769803777,[[],[704]]),(7,1,[[],[704]]),(15,1,[[],[704]]),(31,1,[[],[704]]),(63,549755813889,[[],[704]]),(63,274877906945,[[],[704]]),(0,1095216660480,[[704],[]]),(383,549755813888,[[704],[]]),(1023,0,[])] rfl rfl (by kernel_rfl) ?_ _
 |(refine some_e hr ?_;rintro rfl;with_reducible refine ret_k ?_)
 |exact no_e hr
 |fail)
end Go.Sx
