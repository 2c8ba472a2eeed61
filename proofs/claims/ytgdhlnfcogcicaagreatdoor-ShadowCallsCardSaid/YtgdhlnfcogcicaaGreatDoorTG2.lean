import Derived.Test.YtgdhlnfcogcicaaGreatDoorTF
set_option linter.all false
namespace Go.Sx
open Go.Proofs
set_option maxRecDepth 10000
set_option maxHeartbeats 100000000
instance QkA:∀ N (a0:List Int),OK (QbS N a0) 172 [.isl 3 1 (a0.map e3)] [] (λ r=>.fsl 3 1 (r.map e3)) λ r=>[]:=by
 refine λ N a0=>⟨λ G hw r hr=>?_⟩
 rw[QbS] at hr
 obtain rfl:=Ww hr
 obtain _|⟨x,l⟩:=a0
 refine Yy λ a cap=>?_
 obtain _|a:=a
 all_goals
  refine X6 (fn:=Tryz.f172) (body:=(Tryz.f172.body).get!) (rs:=[.tmp 2]) 1000 [320] 8 (by kernel_rfl) (by kernel_rfl) (by kernel_rfl) (by kernel_rfl) (by kernel_rfl) (by simp) λ C _ hG hwf=>?_;subst hG;have hw2:=hwf;simp only[WfL,Wf,Wt,and_true,WM,XfR,Xn] at hw2;simp only[Tryz.f172,Option.get!]
  simp only[go_sem,simprocAttr]
  try refine ⟨by omega,?_⟩
  with_reducible refine XG ?_
  simp only[go_sem,simprocAttr]
instance Qh5:∀ N (a0:List Uz),OK (QaM N a0) 85 [.isl 116 3 (a0.map Yv)] [] (λ r=>.fsl 116 3 (r.map Yv)) λ r=>[]:=by
 refine λ N a0=>⟨λ G hw r hr=>?_⟩
 rw[QaM] at hr
 obtain rfl:=Ww hr
 obtain _|⟨x,l⟩:=a0
 refine Yy λ a cap=>?_
 obtain _|a:=a
 all_goals
  refine X6 (fn:=Tryz.f85) (body:=(Tryz.f85.body).get!) (rs:=[.tmp 2]) 1000 [320] 8 (by kernel_rfl) (by kernel_rfl) (by kernel_rfl) (by kernel_rfl) (by kernel_rfl) (by simp) λ C _ hG hwf=>?_;subst hG;have hw2:=hwf;simp only[WfL,Wf,Wt,and_true,WM,Xb8,Xn] at hw2;simp only[Tryz.f85,Option.get!]
  simp only[go_sem,simprocAttr]
  try refine ⟨by omega,?_⟩
  with_reducible refine XG ?_
  simp only[go_sem,simprocAttr]
end Go.Sx
