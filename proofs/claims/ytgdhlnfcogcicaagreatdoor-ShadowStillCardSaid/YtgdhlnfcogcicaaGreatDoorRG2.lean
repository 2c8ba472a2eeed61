import Derived.Test.YtgdhlnfcogcicaaGreatDoorRF
set_option linter.all false
namespace Go.Sx
open Go.Proofs
set_option maxRecDepth 10000
set_option maxHeartbeats 100000000
instance Qjx:∀ N (a0:List Int),OK (QaH N a0) 82 [.isl 37 1 (a0.map e37)] [] (fun r=>.fsl 37 1 (r.map e37)) fun r=>[]:=by
 refine fun N a0=>⟨fun G hw r hr=>?_⟩
 rw[QaH] at hr
 obtain rfl:=Option.some.inj hr
 obtain _|⟨x,l⟩:=a0
 refine acalls_empty fun a cap=>?_
 obtain _|a:=a
 all_goals
  refine acalls_of_run (fn:=Tryz.f82) (body:=(Tryz.f82.body).get!) (rs:=[.tmp 2]) 1000 [320] 8 (by kernel_rfl) (by kernel_rfl) (by kernel_rfl) (by kernel_rfl) (by kernel_rfl) (by simp) fun C _ hG hwf=>?_;subst hG;have hw2:=hwf;simp only[WfL,Wf,List.length_map,and_true,List.length_cons,bytes37,top47] at hw2;simp only[Tryz.f82,Option.get!]
  simp only[go_sem,simprocAttr]
  try refine ⟨by omega,?_⟩
  with_reducible refine ret_k ?_
  simp only[go_sem,simprocAttr]
end Go.Sx
