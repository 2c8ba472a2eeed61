import Derived.Test.YtgdhlnfcogcicaaGreatDoorQF
set_option linter.all false
namespace Go.Sx
open Go.Proofs
set_option maxRecDepth 10000
set_option maxHeartbeats 100000000
instance slices_Clone_int_int_i:∀ N (a0:List Int),OK (slices_Clone_int_int N a0) 172 [.isl 3 1 (a0.map e3)] [] (fun r=>.fsl 3 1 (r.map e3)) fun r=>[]:=by
 refine fun N a0=>⟨fun G hw r hr=>?_⟩
 rw[slices_Clone_int_int] at hr
 obtain rfl:=Option.some.inj hr
 obtain _|⟨x,l⟩:=a0
 refine acalls_empty fun a cap=>?_
 obtain _|a:=a
 all_goals
  refine acalls_of_run (fn:=Tryz.f172) (body:=(Tryz.f172.body).get!) (rs:=[.tmp 2]) 1000 [320] 8 (by kernel_rfl) (by kernel_rfl) (by kernel_rfl) (by kernel_rfl) (by kernel_rfl) (by simp) fun C _ hG hwf=>?_;subst hG;have hw2:=hwf;simp only[WfL,Wf,List.length_map,and_true,List.length_cons,bytes3,top47] at hw2;simp only[Tryz.f172,Option.get!]
  simp only[go_sem,simprocAttr]
  try refine ⟨by omega,?_⟩
  with_reducible refine ret_k ?_
  simp only[go_sem,simprocAttr]
instance slices_Clone_rules_Mark_rules_Mark_i:∀ N (a0:List TMark),OK (slices_Clone_rules_Mark_rules_Mark N a0) 85 [.isl 116 3 (a0.map e116)] [] (fun r=>.fsl 116 3 (r.map e116)) fun r=>[]:=by
 refine fun N a0=>⟨fun G hw r hr=>?_⟩
 rw[slices_Clone_rules_Mark_rules_Mark] at hr
 obtain rfl:=Option.some.inj hr
 obtain _|⟨x,l⟩:=a0
 refine acalls_empty fun a cap=>?_
 obtain _|a:=a
 all_goals
  refine acalls_of_run (fn:=Tryz.f85) (body:=(Tryz.f85.body).get!) (rs:=[.tmp 2]) 1000 [320] 8 (by kernel_rfl) (by kernel_rfl) (by kernel_rfl) (by kernel_rfl) (by kernel_rfl) (by simp) fun C _ hG hwf=>?_;subst hG;have hw2:=hwf;simp only[WfL,Wf,List.length_map,and_true,List.length_cons,bytes116,top47] at hw2;simp only[Tryz.f85,Option.get!]
  simp only[go_sem,simprocAttr]
  try refine ⟨by omega,?_⟩
  with_reducible refine ret_k ?_
  simp only[go_sem,simprocAttr]
end Go.Sx
