import Derived.Test.YtlneiohchomcfaaGreatDoorSF
set_option linter.all false
namespace Go.Sx
open Go.Proofs Tryz
set_option maxRecDepth 10000
set_option maxHeartbeats 100000000
def g1:(∀N a0 a1,OK (Qaj N a0 a1) 19 [.ept 1000000 0 2 0 0,vi a1] [.arr true 48 2 [[s3 a0.L,vi a0.at_]] 0] (λr=>vi r.1) λr=>[.arr true 48 2 [[s3 r.2.L,vi r.2.at_]] 0])/\(∀N(a0:Int),O1 (QgZ N a0) 161 [vi a0] (λr=>.v (.bool r)))/\(∀N(a0:Wk)(a1:Int)(a2:Int),O1 (QfV N a0 a1 a2) 317 [.agg (e28 a0),vi a1,vi a2] (λr=>vu r))/\(∀N(a0:Ww)(a1:Int),O1 (QcY N a0 a1) 247 [.agg (JG a0),vu a1] (λr=>.agg (JG r)))/\(∀N(a0:Int)(a1:Int)(a2:Int),O1 (Qcs N a0 a1 a2) 112 [vi a0,vu a1,vu a2] (λr=>.tup [.agg (Z7 r.1),.v (.bool r.2)]))/\(∀N(a0:Wp)(a1:Int),O1 (QgS N a0 a1) 205 [.agg (e32 a0),vi a1] (λr=>.agg (e32 r)))/\(∀N(a0:WN),O1 (Qcw N a0) 268 [.agg (e24 a0)] (λr=>.v (.bool r)))/\(∀N(a0:Ws),O1 (Qdq N a0) 346 [.agg (Xh8 a0)] (λr=>.v (.bool r)))/\(∀N(a0:Int),O1 (Qg7 N a0) 329 [vu a0] (λr=>.v (.bool r)))/\(∀N(a0:Int),O1 (QdB N a0) 219 [vu a0] (λr=>.v (.bool r)))/\(∀N(a0:Int),O1 (Qf1 N a0) 123 [vi a0] (λr=>.v (.bool r)))/\(∀N(a0:Int),O1 (Qam N a0) 337 [vi a0] (λr=>.tup [])):=by
 refine⟨λN _ _=>rk f19 ?_,λN _=>rk f161 ?_,λN _ _ _=>rk f317 ?_,λN _ _=>rk f247 ?_,λN _ _ _=>rk f112 ?_,λN _ _=>rk f205 ?_,λN _=>rk f268 ?_,λN _=>rk f346 ?_,λN _=>rk f329 ?_,λN _=>rk f219 ?_,λN _=>rk f123 ?_,λN _=>rk f337 ?_⟩<;>(rintro _ hw r hr C _ rfl hwf hf;simp only[f19,f161,f317,f247,f112,f205,f268,f346,f329,f219,f123,f337,Option.get!,Qaj,QgZ,QfV,QcY,Qcs,QgS,Qcw,Qdq,Qg7,QdB,Qf1,Qam]at hr⊢;repeat' first
 |(refine El.el hr ?_;clear hr;intro hr)
 |(with_reducible intro h;refine XH hr h ?_;clear hr;intro hr)
 |with_reducible intro _
 |simp only[go_sem,simprocAttr,hl3,Y9,Wl,Wn,Wz]
 |(with_reducible first|apply Xi|apply Xh|apply Xt|apply Xx|apply Xy)
 |((first|with_reducible refine Yy hr ag ?_ ?_|(with_reducible refine Yt hr ?_ ?_;rotate_left;intro p;rotate_right));(·simp only[go_sem,simprocAttr,Wl,Wn,Wz]);intro hp hn hd hr;(try have hl3:=hd _ e3;simp only[go_sem,simprocAttr]at hl3);(try have Y9:=hd _ Vh;simp only[go_sem,simprocAttr]at Y9))
 |(refine Xu ?_ ?_;.first|assumption|omega)
 |refine dq 205 1 hf [(0,[320],[]),(1,[],[320]),(2,[],[320]),(3,[],[320]),(4,[],[320]),(5,[],[320]),(6,[],[320]),(7,[],[320]),(8,[],[320]),(9,[],[320]),(10,[320],[]),(12,[128],[])] ?_
 |refine dp ?_
 |(refine Xq hr ?_;rintro rfl;with_reducible refine XQ ?_)
 |exact YE hr)
abbrev Qi5:=g1.1
abbrev QmL:=g1.2.1
abbrev Qj1:=g1.2.2.1
abbrev QmM:=g1.2.2.2.1
abbrev QlI:=g1.2.2.2.2.1
abbrev QnC:=g1.2.2.2.2.2.1
abbrev Qi6:=g1.2.2.2.2.2.2.1
abbrev QhT:=g1.2.2.2.2.2.2.2.1
abbrev QkW:=g1.2.2.2.2.2.2.2.2.1
abbrev QhG:=g1.2.2.2.2.2.2.2.2.2.1
abbrev Qj2:=g1.2.2.2.2.2.2.2.2.2.2.1
abbrev QkX:=g1.2.2.2.2.2.2.2.2.2.2.2
attribute [instance] Qi5 QmL Qj1 QmM QlI QnC Qi6 QhT QkW QhG Qj2 QkX
instance Qi7:∀N(a0:List UB),OK (Qaq N a0) 138 [.isl 141 3 (a0.map KN)] [] (λr=>.fsl 141 3 (r.map KN)) λr=>[]:=by
 refineλN a0=>⟨λG hw r hr=>?_⟩
 rw[Qaq]at hr;obtain rfl:=WA hr;obtain _|⟨x,l⟩:=a0;refine Zp λa cap=>?_;obtain _|a:=a
 all_goals
  refine Ys (fn:=f138) (body:=(f138.body).get!) (rs:=[.tmp 2]) 1000 [320] 8 ac ac ac ac ac ab λC _ hG hwf=>?_;subst hG;have hw2:=hwf;simp only[WfL,Wf,Um,and_true,Uz,Xh6,XE]at hw2;simp only[f138,Option.get!]
  simp only[go_sem,simprocAttr]
  try refine⟨aa,?_⟩
  with_reducible refine XQ ?_
  simp only[go_sem,simprocAttr]
instance QnD:∀N(a0:List Int),OK (QaA N a0) 140 [.isl 3 1 (a0.map e3)] [] (λr=>.fsl 3 1 (r.map e3)) λr=>[]:=by
 refineλN a0=>⟨λG hw r hr=>?_⟩
 rw[QaA]at hr;obtain rfl:=WA hr;obtain _|⟨x,l⟩:=a0;refine Zp λa cap=>?_;obtain _|a:=a
 all_goals
  refine Ys (fn:=f140) (body:=(f140.body).get!) (rs:=[.tmp 2]) 1000 [320] 8 ac ac ac ac ac ab λC _ hG hwf=>?_;subst hG;have hw2:=hwf;simp only[WfL,Wf,Um,and_true,Uz,Xjc,XE]at hw2;simp only[f140,Option.get!]
  simp only[go_sem,simprocAttr]
  try refine⟨aa,?_⟩
  with_reducible refine XQ ?_
  simp only[go_sem,simprocAttr]
instance Qj3:∀N(a0:List UE),OK (Qba N a0) 58 [.isl 101 2 (a0.map VD)] [] (λr=>.fsl 101 2 (r.map VD)) λr=>[]:=by
 refineλN a0=>⟨λG hw r hr=>?_⟩
 rw[Qba]at hr;obtain rfl:=WA hr;obtain _|⟨x,l⟩:=a0;refine Zp λa cap=>?_;obtain _|a:=a
 all_goals
  refine Ys (fn:=f58) (body:=(f58.body).get!) (rs:=[.tmp 2]) 1000 [320] 8 ac ac ac ac ac ab λC _ hG hwf=>?_;subst hG;have hw2:=hwf;simp only[WfL,Wf,Um,and_true,Uz,Xh3,XE]at hw2;simp only[f58,Option.get!]
  simp only[go_sem,simprocAttr]
  try refine⟨aa,?_⟩
  with_reducible refine XQ ?_
  simp only[go_sem,simprocAttr]
instance Qix:∀N(a0:List W5),OK (Qau N a0) 141 [.isl 145 3 (a0.map Z6)] [] (λr=>.fsl 145 3 (r.map Z6)) λr=>[]:=by
 refineλN a0=>⟨λG hw r hr=>?_⟩
 rw[Qau]at hr;obtain rfl:=WA hr;obtain _|⟨x,l⟩:=a0;refine Zp λa cap=>?_;obtain _|a:=a
 all_goals
  refine Ys (fn:=f141) (body:=(f141.body).get!) (rs:=[.tmp 2]) 1000 [320] 8 ac ac ac ac ac ab λC _ hG hwf=>?_;subst hG;have hw2:=hwf;simp only[WfL,Wf,Um,and_true,Uz,Xh7,XE]at hw2;simp only[f141,Option.get!]
  simp only[go_sem,simprocAttr]
  try refine⟨aa,?_⟩
  with_reducible refine XQ ?_
  simp only[go_sem,simprocAttr]
end Go.Sx
