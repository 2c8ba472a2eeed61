import Derived.Test.YtgdhlnfcogcicaaGreatDoorSF
import Derived.Test.YtgdhlnfcogcicaaGreatDoorSG0
import Derived.Test.YtgdhlnfcogcicaaGreatDoorSG2
import Derived.Test.YtgdhlnfcogcicaaGreatDoorSG5
import Derived.Test.YtgdhlnfcogcicaaGreatDoorSG21
import Derived.Test.YtgdhlnfcogcicaaGreatDoorSG29
set_option linter.all false
namespace Go.Sx
open Go.Proofs
set_option maxRecDepth 10000
set_option maxHeartbeats 100000000
theorem g48:(∀ N (a0:TWorld) (a1:List Int) (a2:List Int),OK (QeL N a0 a1 a2) 10 [.agg (e36 a0),.isl 3 1 (a1.map e3),.isl 3 1 (a2.map e3)] [] (fun r=>.isl 36 10 (r.map e36)) fun r=>[])∧(∀ N ,OK (QfH N) 16 [] [] (fun r=>.v (.bool r)) fun r=>[]):=by
 refine ⟨fun N _ _ _=>rn Tryz.f10 [.tmp 6] [] 26 (by kernel_rfl) ?_,fun N=>rn Tryz.f16 [.tmp 0] [] 36 (by kernel_rfl) ?_⟩<;>(rintro _ hw r hr C _ rfl hwf hf;simp only[Tryz.f10,Tryz.f16,Option.get!];(first|rw[QeL] at hr|rw[QfH] at hr);repeat' first
 |(refine El.el hr ?_;intro hr)
 |(with_reducible intro h;refine bc_e hr h ?_;intro hr)
 |with_reducible intro _
 |simp only[go_sem,simprocAttr,hl77]
 |(with_reducible first|apply guard_of_f|apply guard_of_t|apply cond_of|apply doT_of_t|apply doT_of_f)
 |((first|with_reducible refine idx_s hr (by assumption) ?_ ?_|(with_reducible refine idx_e hr ?_ ?_;rotate_left;intro p;rotate_right));(·simp only[go_sem,simprocAttr]);intro hp hn hd hr;(try have hl77:=hd _ e77);(try simp only[go_sem,simprocAttr] at hl77))
 |(refine and_of' ?_ ?_;·first|assumption|omega)
 |(with_reducible refine idl_e hr ?_ ?_;(·simp only[go_sem]);intro p hp hn hd hr;(try have hl77:=hd _ e77);(try simp only[go_sem,simprocAttr] at hl77))
 |with_reducible refine CallX.c ?_ _
 |with_reducible refine OK.c hr hw ?_ (fun y hr=>?_) _
 |with_reducible refine OK.d hr hw ?_ (fun y hr=>?_) _
 |refine db 10 2 hf [([],[],[13,14,15,16,17],[1024]),([],[],[12,14,15,16],[1024]),([],[],[12,13],[]),([2],[],[12,13],[]),([2,3],[1024],[12,13],[]),([1,2,3,4],[1024],[12],[]),([0,1,2,3,4,5],[1152],[],[]),([0,1,2,3,4,5,6],[],[],[])] rfl rfl (by kernel_rfl) ?_ _
 |(refine some_e hr ?_;rintro rfl;with_reducible refine ret_k ?_)
 |exact no_e hr
 |fail)
@[reducible,instance] def QkY:=g48.1
@[reducible,instance] def QlN:=g48.2
end Go.Sx
