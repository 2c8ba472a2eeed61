import Derived.Test.YtgdhlnfcogcicaaGreatDoorTF
set_option linter.all false
namespace Go.Sx
open Go.Proofs
set_option maxRecDepth 10000
set_option maxHeartbeats 100000000
instance Qij:∀ N (a0:List WP),OK (Qat N a0) 173 [.isl 132 3 (a0.map XC)] [] (λ r=>.fsl 132 3 (r.map XC)) λ r=>[]:=by
 refine λ N a0=>⟨λ G hw r hr=>?_⟩
 rw[Qat] at hr
 obtain rfl:=Ww hr
 obtain _|⟨x,l⟩:=a0
 refine Yy λ a cap=>?_
 obtain _|a:=a
 all_goals
  refine X6 (fn:=Tryz.f173) (body:=(Tryz.f173.body).get!) (rs:=[.tmp 2]) 1000 [320] 8 (by kernel_rfl) (by kernel_rfl) (by kernel_rfl) (by kernel_rfl) (by kernel_rfl) (by simp) λ C _ hG hwf=>?_;subst hG;have hw2:=hwf;simp only[WfL,Wf,Wt,and_true,WM,Xb9,Xn] at hw2;simp only[Tryz.f173,Option.get!]
  simp only[go_sem,simprocAttr]
  try refine ⟨by omega,?_⟩
  with_reducible refine XG ?_
  simp only[go_sem,simprocAttr]
instance QhS:∀ N (a0:List W5),OK (QaE N a0) 81 [.isl 77 4 (a0.map e77)] [] (λ r=>.fsl 77 4 (r.map e77)) λ r=>[]:=by
 refine λ N a0=>⟨λ G hw r hr=>?_⟩
 rw[QaE] at hr
 obtain rfl:=Ww hr
 obtain _|⟨x,l⟩:=a0
 refine Yy λ a cap=>?_
 obtain _|a:=a
 all_goals
  refine X6 (fn:=Tryz.f81) (body:=(Tryz.f81.body).get!) (rs:=[.tmp 2]) 1000 [320] 8 (by kernel_rfl) (by kernel_rfl) (by kernel_rfl) (by kernel_rfl) (by kernel_rfl) (by simp) λ C _ hG hwf=>?_;subst hG;have hw2:=hwf;simp only[WfL,Wf,Wt,and_true,WM,XdK,Xn] at hw2;simp only[Tryz.f81,Option.get!]
  simp only[go_sem,simprocAttr]
  try refine ⟨by omega,?_⟩
  with_reducible refine XG ?_
  simp only[go_sem,simprocAttr]
instance Qj4:∀ N (a0:List Int),OK (QaJ N a0) 82 [.isl 37 1 (a0.map e37)] [] (λ r=>.fsl 37 1 (r.map e37)) λ r=>[]:=by
 refine λ N a0=>⟨λ G hw r hr=>?_⟩
 rw[QaJ] at hr
 obtain rfl:=Ww hr
 obtain _|⟨x,l⟩:=a0
 refine Yy λ a cap=>?_
 obtain _|a:=a
 all_goals
  refine X6 (fn:=Tryz.f82) (body:=(Tryz.f82.body).get!) (rs:=[.tmp 2]) 1000 [320] 8 (by kernel_rfl) (by kernel_rfl) (by kernel_rfl) (by kernel_rfl) (by kernel_rfl) (by simp) λ C _ hG hwf=>?_;subst hG;have hw2:=hwf;simp only[WfL,Wf,Wt,and_true,WM,Xa7,Xn] at hw2;simp only[Tryz.f82,Option.get!]
  simp only[go_sem,simprocAttr]
  try refine ⟨by omega,?_⟩
  with_reducible refine XG ?_
  simp only[go_sem,simprocAttr]
end Go.Sx
