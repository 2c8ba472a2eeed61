import Derived.Test.YtgdnaekdnmegbaaGreatDoorF
import Derived.Test.YtgdnaekdnmegbaaGreatDoorG0
import Derived.Test.YtgdnaekdnmegbaaGreatDoorG4
import Derived.Test.YtgdnaekdnmegbaaGreatDoorG16
import Derived.Test.YtgdnaekdnmegbaaGreatDoorG18
import Derived.Test.YtgdnaekdnmegbaaGreatDoorG27
set_option linter.all false
namespace Go.Sx
open Go.Proofs
set_option maxRecDepth 10000
set_option maxHeartbeats 100000000
theorem g48:(∀ N (a0:TWorld) (a1:List Int) (a2:List Int),OK (law20_worlds N a0 a1 a2) 9 [.agg (e36 a0),.isl 3 1 (a1.map e3),.isl 3 1 (a2.map e3)] [] (fun r=>.isl 36 10 (r.map e36)) fun r=>[])∧(∀ N ,OK (law20_awake N) 13 [] [] (fun r=>.v (.bool r)) fun r=>[]):=by
 refine ⟨fun N _ _ _=>rn Tryz.f9 [.tmp 6] [] 26 (by kernel_rfl) ?_,fun N=>rn Tryz.f13 [.tmp 0] [] 12 (by kernel_rfl) ?_⟩<;>(rintro _ hw r hr C rfl hwf hf;simp only[Tryz.f9,Tryz.f13,Option.get!];(first|rw[law20_worlds] at hr|rw[law20_awake] at hr);repeat' first
 |(refine El.el hr ?_;intro hr)
 |(with_reducible intro h;refine bc_e hr h ?_;intro hr)
 |with_reducible intro _
 |simp only[go_sem,simprocAttr]
 |(with_reducible first|apply guard_of_f|apply guard_of_t|apply cond_of|apply doT_of_t|apply doT_of_f)
 |(refine and_of' ?_ ?_;·first|assumption|omega)
 |with_reducible refine OK.c hr hw ?_ (fun y hr=>?_) _
 |with_reducible refine OK.d hr hw ?_ (fun y hr=>?_) _
 |refine db 9 2 hf [([],[],[13,14,15,16,17],[1024]),([],[],[12,14,15,16],[1024]),([],[],[12,13],[]),([2],[],[12,13],[]),([2,3],[1024],[12,13],[]),([1,2,3,4],[1024],[12],[]),([0,1,2,3,4,5],[1152],[],[]),([0,1,2,3,4,5,6],[],[],[])] rfl rfl (by kernel_rfl) ?_ _
 |(refine some_e hr ?_;rintro rfl;with_reducible refine ret_k ?_)
 |exact no_e hr
 |fail)
@[reducible,instance] def law20_worlds_i:=g48.1
@[reducible,instance] def law20_awake_i:=g48.2
end Go.Sx
