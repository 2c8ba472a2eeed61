import Derived.Test.YtmpbhfnjjaocoaaGreatCF
set_option linter.all false
namespace Go.Sx
open Go.Proofs
set_option maxRecDepth 10000
set_option maxHeartbeats 100000000
def g1:(∀N a0 a1,OK (Qaa N a0 a1) 11 [.ept 1000000 0 2 0 0,vi a1] [.arr true 54 2 [[s3 a0.L,vi a0.at_]] 0] (λr=>vi r.1) λr=>[.arr true 54 2 [[s3 r.2.L,vi r.2.at_]] 0])/\(∀N a0 a1,OK (QhP N a0 a1) 142 [.agg (e32 a0),vi a1] [] (λr=>vi r) λr=>[])/\(∀N a0 a1 a2,OK (Qdr N a0 a1 a2) 229 [s58 a0,vu a1,vi a2] [] (λr=>.tup [vi r.1,.v (.bool r.2)]) λr=>[])/\(∀N a0 a1,OK (Qds N a0 a1) 220 [.agg (K0 a0),vu a1] [] (λr=>.agg (K0 r)) λr=>[])/\(∀N a0 a1 a2,OK (Qcv N a0 a1 a2) 184 [vi a0,vu a1,vu a2] [] (λr=>.tup [.agg (e51 r.1),.v (.bool r.2)]) λr=>[])/\(∀N a0 a1,OK (QgS N a0 a1) 272 [.agg (e32 a0),vi a1] [] (λr=>.agg (e32 r)) λr=>[])/\(∀N a0,OK (Qir N a0) 48 [.agg (e27 a0)] [] (λr=>.v (.bool r)) λr=>[])/\(∀N a0,OK (QfO N a0) 111 [vi a0] [] (λr=>.v (.bool r)) λr=>[])/\(∀N a0 a1,OK (Qf2 N a0 a1) 230 [.agg (Xgn a0),.agg (e23 a1)] [] (λr=>.v (.bool r)) λr=>[])/\(∀N a0 a1,OK (Qfc N a0 a1) 233 [.agg (Xgn a0),.agg (Xgn a1)] [] (λr=>.v (.bool r)) λr=>[])/\(∀N a0,OK (Qes N a0) 201 [.agg (Vp a0)] [] (λr=>.v (.bool r)) λr=>[])/\(∀N a0 a1,OK (Qfd N a0 a1) 277 [.agg (e84 a0),.ept 1000000 0 1 0 0] [.arr true 58 1 [[vu a1]] 0] (λr=>.v (.bool r)) λr=>[.arr true 58 1 [[vu a1]] 0])/\(∀N a0,OK (QiT N a0) 155 [vi a0] [] (λr=>.tup [s58 r.1,vi r.2]) λr=>[]):=by
 refine⟨λN _ _=>rk Tryz.f11 [.tmp 4] [] 48 ?_,λN _ _=>rk Tryz.f142 [.tmp 4] [] 21 ?_,λN _ _ _=>rk Tryz.f229 [.tmp 6,.tmp 7] [] 29 ?_,λN _ _=>rk Tryz.f220 [.cell 4 138] [] 20 ?_,λN _ _ _=>rk Tryz.f184 [.cell 6 51,.tmp 7] [] 29 ?_,λN _ _=>rk Tryz.f272 [.cell 4 32] [] 25 ?_,λN _=>rk Tryz.f48 [.tmp 2] [] 13 ?_,λN _=>rk Tryz.f111 [.tmp 2] [] 9 ?_,λN _ _=>rk Tryz.f230 [.tmp 4] [] 8 ?_,λN _ _=>rk Tryz.f233 [.tmp 4] [] 10 ?_,λN _=>rk Tryz.f201 [.tmp 2] [] 7 ?_,λN _ _=>rk Tryz.f277 [.tmp 3] [] 8 ?_,λN _=>rk Tryz.f155 [.tmp 2,.tmp 3] [] 12 ?_⟩<;>(rintro _ hw r hr C _ rfl hwf hf;simp only[Tryz.f11,Tryz.f142,Tryz.f229,Tryz.f220,Tryz.f184,Tryz.f272,Tryz.f48,Tryz.f111,Tryz.f230,Tryz.f233,Tryz.f201,Tryz.f277,Tryz.f155,Option.get!];(first|rw[Qaa]at hr|rw[QhP]at hr|rw[Qdr]at hr|rw[Qds]at hr|rw[Qcv]at hr|rw[QgS]at hr|rw[Qir]at hr|rw[QfO]at hr|rw[Qf2]at hr|rw[Qfc]at hr|rw[Qes]at hr|rw[Qfd]at hr|rw[QiT]at hr);repeat' first
 |(refine El.el hr ?_;clear hr;intro hr)
 |(with_reducible intro h;refine Xz hr h ?_;clear hr;intro hr)
 |with_reducible intro _
 |simp only[go_sem,simprocAttr,hl3,YD,Wj,Wk,Wz]
 |(with_reducible first|apply Xi|apply Xh|apply Xq|apply Xs|apply Xt)
 |((first|with_reducible refine Yo hr ag ?_ ?_|(with_reducible refine Yk hr ?_ ?_;rotate_left;intro p;rotate_right));(·simp only[go_sem,simprocAttr,Wj,Wk,Wz]);intro hp hn hd hr;(try have hl3:=hd _ e3);(try simp only[go_sem,simprocAttr]at hl3);(try have YD:=hd _ K2);(try simp only[go_sem,simprocAttr]at YD))
 |(refine Xr ?_ ?_;.first|assumption|omega)
 |refine dc 11 4 hf 14 [(0,496,[]),(1,496,[]),(3,496,[]),(7,496,[]),(0,15,[]),(16,15,[]),(48,15,[]),(112,15,[]),(240,15,[]),(511,0,[])] ?_
 |refine dc 11 5 hf 24 [(0,240,[]),(1,240,[]),(3,240,[]),(7,240,[]),(0,15,[]),(16,15,[]),(48,15,[]),(112,15,[]),(255,0,[]),(511,0,[]),(1023,0,[])] ?_
 |refine dc 272 1 hf 5 [(0,1022,[[320],[]]),(0,505,[[],[320]]),(2,505,[[],[320]]),(0,39,[[],[320]]),(8,39,[[],[320]]),(0,31,[[],[320]]),(56,7,[[],[320]]),(120,7,[[],[320]]),(248,7,[[],[320]]),(510,1,[[],[320]]),(1023,0,[[320],[]]),(2047,0,[]),(4095,0,[[128],[]])] ?_
 |(refine Xn hr ?_;rintro rfl;with_reducible refine XN ?_)
 |exact Yv hr
 |fail)
abbrev Qj6:=g1.1
abbrev QpP:=g1.2.1
abbrev Qoo:=g1.2.2.1
abbrev Qop:=g1.2.2.2.1
abbrev Qnb:=g1.2.2.2.2.1
abbrev Qph:=g1.2.2.2.2.2.1
abbrev Qoq:=g1.2.2.2.2.2.2.1
abbrev Qle:=g1.2.2.2.2.2.2.2.1
abbrev Qjq:=g1.2.2.2.2.2.2.2.2.1
abbrev QiI:=g1.2.2.2.2.2.2.2.2.2.1
abbrev Qj7:=g1.2.2.2.2.2.2.2.2.2.2.1
abbrev QiJ:=g1.2.2.2.2.2.2.2.2.2.2.2.1
abbrev Qpi:=g1.2.2.2.2.2.2.2.2.2.2.2.2
attribute [instance] Qj6 QpP Qoo Qop Qnb Qph Qoq Qle Qjq QiI Qj7 QiJ Qpi
instance Qlf:∀N(a0:List UG),OK (Qcg N a0) 68 [.isl 84 2 (a0.map e84)] [] (λr=>.fsl 84 2 (r.map e84)) λr=>[]:=by
 refineλN a0=>⟨λG hw r hr=>?_⟩
 rw[Qcg]at hr;obtain rfl:=WK hr;obtain _|⟨x,l⟩:=a0;refine YW λa cap=>?_;obtain _|a:=a
 all_goals
  refine Yr (fn:=Tryz.f68) (body:=(Tryz.f68.body).get!) (rs:=[.tmp 2]) 1000 [320] 8 ac ac ac ac ac ab λC _ hG hwf=>?_;subst hG;have hw2:=hwf;simp only[WfL,Wf,W4,and_true,Uo,XeV,Xp]at hw2;simp only[Tryz.f68,Option.get!]
  simp only[go_sem,simprocAttr]
  try refine⟨aa,?_⟩
  with_reducible refine XN ?_
  simp only[go_sem,simprocAttr]
end Go.Sx
