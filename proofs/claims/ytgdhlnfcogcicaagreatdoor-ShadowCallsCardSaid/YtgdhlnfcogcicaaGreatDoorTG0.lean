import Derived.Test.YtgdhlnfcogcicaaGreatDoorTF
set_option linter.all false
namespace Go.Sx
open Go.Proofs
set_option maxRecDepth 10000
set_option maxHeartbeats 100000000
instance Qih:∀ N (a0:List UV),OK (QaB N a0) 171 [.isl 159 3 (a0.map X9)] [] (λ r=>.fsl 159 3 (r.map X9)) λ r=>[]:=by
 refine λ N a0=>⟨λ G hw r hr=>?_⟩
 rw[QaB] at hr
 obtain rfl:=Ww hr
 obtain _|⟨x,l⟩:=a0
 refine Yy λ a cap=>?_
 obtain _|a:=a
 all_goals
  refine X6 (fn:=Tryz.f171) (body:=(Tryz.f171.body).get!) (rs:=[.tmp 2]) 1000 [320] 8 (by kernel_rfl) (by kernel_rfl) (by kernel_rfl) (by kernel_rfl) (by kernel_rfl) (by simp) λ C _ hG hwf=>?_;subst hG;have hw2:=hwf;simp only[WfL,Wf,Wt,and_true,WM,Xca,Xn] at hw2;simp only[Tryz.f171,Option.get!]
  simp only[go_sem,simprocAttr]
  try refine ⟨by omega,?_⟩
  with_reducible refine XG ?_
  simp only[go_sem,simprocAttr]
end Go.Sx
