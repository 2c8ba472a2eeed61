import Derived.Test.YtgdhlnfcogcicaaGreatDoorRF
import Derived.Test.YtgdhlnfcogcicaaGreatDoorRG0
import Derived.Test.YtgdhlnfcogcicaaGreatDoorRG23
import Derived.Test.YtgdhlnfcogcicaaGreatDoorRG30
set_option linter.all false
namespace Go.Sx
open Go.Proofs
set_option maxRecDepth 10000
set_option maxHeartbeats 100000000
instance Qm0:∀ N ,OK (Qft N) 16 [] [] (fun r=>.v (.bool r)) fun r=>[]:=by
 refine fun N=>rn Tryz.f16 [.tmp 0] [] 36 (by kernel_rfl) ?_<;>(rintro _ hw r hr C _ rfl hwf hf;simp only[Tryz.f16,Option.get!];(rw[Qft] at hr);repeat' first
 |(refine El.el hr ?_;intro hr)
 |(with_reducible intro h;refine bc_e hr h ?_;intro hr)
 |with_reducible intro _
 |simp only[go_sem,simprocAttr,hl77]
 |(with_reducible first|apply guard_of_f|apply guard_of_t|apply cond_of)
 |((first|with_reducible refine idx_s hr (by assumption) ?_ ?_|(with_reducible refine idx_e hr ?_ ?_;rotate_left;intro p;rotate_right));(·simp only[go_sem,simprocAttr]);intro hp hn hd hr;(try have hl77:=hd _ e77);(try simp only[go_sem,simprocAttr] at hl77))
 |(refine and_of' ?_ ?_;·first|assumption|omega)
 |(with_reducible refine idl_e hr ?_ ?_;(·simp only[go_sem]);intro p hp hn hd hr;(try have hl77:=hd _ e77);(try simp only[go_sem,simprocAttr] at hl77))
 |with_reducible refine CallX.c ?_ _
 |with_reducible refine OK.c hr hw ?_ (fun y hr=>?_) _
 |(refine some_e hr ?_;rintro rfl;with_reducible refine ret_k ?_)
 |exact no_e hr
 |fail)
end Go.Sx
