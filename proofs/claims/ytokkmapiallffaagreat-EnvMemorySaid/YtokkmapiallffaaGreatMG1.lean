import Derived.Test.YtokkmapiallffaaGreatMF
set_option linter.all false
namespace Go.Sx
open Go.Proofs Tryz
set_option maxRecDepth 10000
set_option maxHeartbeats 100000000
instance QiY:∀N(a0:List UF),OK (QaF N a0) 144 [.isl 158 3 (a0.map XaX)] [] (λr=>.fsl 158 3 (r.map XaX)) λr=>[]:=by
 refineλN a0=>⟨λG hw r hr=>?_⟩
 rw[QaF]at hr;obtain rfl:=Wz hr;obtain _|⟨x,l⟩:=a0;refine Ze λa cap=>?_;obtain _|a:=a
 all_goals
  refine Yq (fn:=f144) (body:=(f144.body).get!) (rs:=[.tmp 2]) 1000 [320] 8 ae ae ae ae ae ac λC _ hG hwf=>?_;subst hG;have hw2:=hwf;simp only[WfL,Wf,Uf,and_true,Ul,XiT,Xv]at hw2;simp only[f144,Option.get!]
  simp only[go_sem,simprocAttr]
  try refine⟨ab,?_⟩
  with_reducible refine ZS ?_
  simp only[go_sem,simprocAttr]
instance QjY:∀N(a0:List UB),OK (QbG N a0) 75 [.isl 93 2 (a0.map e93)] [] (λr=>.fsl 93 2 (r.map e93)) λr=>[]:=by
 refineλN a0=>⟨λG hw r hr=>?_⟩
 rw[QbG]at hr;obtain rfl:=Wz hr;obtain _|⟨x,l⟩:=a0;refine Ze λa cap=>?_;obtain _|a:=a
 all_goals
  refine Yq (fn:=f75) (body:=(f75.body).get!) (rs:=[.tmp 2]) 1000 [320] 8 ae ae ae ae ae ac λC _ hG hwf=>?_;subst hG;have hw2:=hwf;simp only[WfL,Wf,Uf,and_true,Ul,Xlm,Xv]at hw2;simp only[f75,Option.get!]
  simp only[go_sem,simprocAttr]
  try refine⟨ab,?_⟩
  with_reducible refine ZS ?_
  simp only[go_sem,simprocAttr]
end Go.Sx
