import Derived.Test.YtmpbhfnjjaocoaaGreatAF
set_option linter.all false
namespace Go.Sx
open Go.Proofs
set_option maxRecDepth 10000
set_option maxHeartbeats 100000000
def g1:(∀N a0 a1,OK (Qaa N a0 a1) 11 [.ept 1000000 0 2 0 0,vi a1] [.arr true 54 2 [[s3 a0.L,vi a0.at_]] 0] (λr=>vi r.1) λr=>[.arr true 54 2 [[s3 r.2.L,vi r.2.at_]] 0])/\(∀N a0 a1,OK (QhV N a0 a1) 142 [.agg (e32 a0),vi a1] [] (λr=>vi r) λr=>[])/\(∀N a0 a1 a2,OK (Qdv N a0 a1 a2) 229 [s58 a0,vu a1,vi a2] [] (λr=>.tup [vi r.1,.v (.bool r.2)]) λr=>[])/\(∀N a0 a1,OK (Qdw N a0 a1) 220 [.agg (K4 a0),vu a1] [] (λr=>.agg (K4 r)) λr=>[])/\(∀N a0 a1 a2,OK (Qcy N a0 a1 a2) 184 [vi a0,vu a1,vu a2] [] (λr=>.tup [.agg (e51 r.1),.v (.bool r.2)]) λr=>[])/\(∀N a0 a1,OK (QgZ N a0 a1) 272 [.agg (e32 a0),vi a1] [] (λr=>.agg (e32 r)) λr=>[])/\(∀N a0,OK (Qiv N a0) 48 [.agg (e27 a0)] [] (λr=>.v (.bool r)) λr=>[])/\(∀N a0,OK (QfV N a0) 111 [vi a0] [] (λr=>.v (.bool r)) λr=>[])/\(∀N a0 a1,OK (Qf8 N a0 a1) 230 [.agg (XgM a0),.agg (e23 a1)] [] (λr=>.v (.bool r)) λr=>[])/\(∀N a0 a1,OK (Qfi N a0 a1) 233 [.agg (XgM a0),.agg (XgM a1)] [] (λr=>.v (.bool r)) λr=>[])/\(∀N a0,OK (Qex N a0) 201 [.agg (Vw a0)] [] (λr=>.v (.bool r)) λr=>[])/\(∀N a0 a1,OK (Qfj N a0 a1) 277 [.agg (e84 a0),.ept 1000000 0 1 0 0] [.arr true 58 1 [[vu a1]] 0] (λr=>.v (.bool r)) λr=>[.arr true 58 1 [[vu a1]] 0])/\(∀N a0,OK (QiX N a0) 155 [vi a0] [] (λr=>.tup [s58 r.1,vi r.2]) λr=>[]):=by
 refine⟨λN _ _=>rk Tryz.f11 [.tmp 4] [] 48 ?_,λN _ _=>rk Tryz.f142 [.tmp 4] [] 21 ?_,λN _ _ _=>rk Tryz.f229 [.tmp 6,.tmp 7] [] 29 ?_,λN _ _=>rk Tryz.f220 [.cell 4 138] [] 20 ?_,λN _ _ _=>rk Tryz.f184 [.cell 6 51,.tmp 7] [] 29 ?_,λN _ _=>rk Tryz.f272 [.cell 4 32] [] 25 ?_,λN _=>rk Tryz.f48 [.tmp 2] [] 13 ?_,λN _=>rk Tryz.f111 [.tmp 2] [] 9 ?_,λN _ _=>rk Tryz.f230 [.tmp 4] [] 8 ?_,λN _ _=>rk Tryz.f233 [.tmp 4] [] 10 ?_,λN _=>rk Tryz.f201 [.tmp 2] [] 7 ?_,λN _ _=>rk Tryz.f277 [.tmp 3] [] 8 ?_,λN _=>rk Tryz.f155 [.tmp 2,.tmp 3] [] 12 ?_⟩<;>(rintro _ hw r hr C _ rfl hwf hf;simp only[Tryz.f11,Tryz.f142,Tryz.f229,Tryz.f220,Tryz.f184,Tryz.f272,Tryz.f48,Tryz.f111,Tryz.f230,Tryz.f233,Tryz.f201,Tryz.f277,Tryz.f155,Option.get!];(first|rw[Qaa]at hr|rw[QhV]at hr|rw[Qdv]at hr|rw[Qdw]at hr|rw[Qcy]at hr|rw[QgZ]at hr|rw[Qiv]at hr|rw[QfV]at hr|rw[Qf8]at hr|rw[Qfi]at hr|rw[Qex]at hr|rw[Qfj]at hr|rw[QiX]at hr);repeat' first
 |(refine El.el hr ?_;clear hr;intro hr)
 |(with_reducible intro h;refine XB hr h ?_;clear hr;intro hr)
 |with_reducible intro _
 |simp only[go_sem,simprocAttr,hl3,YE,Wj,Wl,WA]
 |(with_reducible first|apply Xi|apply Xh|apply Xs|apply Xq|apply Xr)
 |((first|with_reducible refine Yq hr ag ?_ ?_|(with_reducible refine Yn hr ?_ ?_;rotate_left;intro p;rotate_right));(·simp only[go_sem,simprocAttr,Wj,Wl,WA]);intro hp hn hd hr;(try have hl3:=hd _ e3);(try simp only[go_sem,simprocAttr]at hl3);(try have YE:=hd _ K6);(try simp only[go_sem,simprocAttr]at YE))
 |(refine Xt ?_ ?_;.first|assumption|omega)
 |refine dc 11 4 hf 14 [(0,496,[]),(1,496,[]),(3,496,[]),(7,496,[]),(0,15,[]),(16,15,[]),(48,15,[]),(112,15,[]),(240,15,[]),(511,0,[])] ?_
 |refine dc 11 5 hf 24 [(0,240,[]),(1,240,[]),(3,240,[]),(7,240,[]),(0,15,[]),(16,15,[]),(48,15,[]),(112,15,[]),(255,0,[]),(511,0,[]),(1023,0,[])] ?_
 |refine dc 272 1 hf 5 [(0,1022,[[320],[]]),(0,505,[[],[320]]),(2,505,[[],[320]]),(0,39,[[],[320]]),(8,39,[[],[320]]),(0,31,[[],[320]]),(56,7,[[],[320]]),(120,7,[[],[320]]),(248,7,[[],[320]]),(510,1,[[],[320]]),(1023,0,[[320],[]]),(2047,0,[]),(4095,0,[[128],[]])] ?_
 |(refine Xn hr ?_;rintro rfl;with_reducible refine XP ?_)
 |exact Yw hr
 |fail)
abbrev Qkb:=g1.1
abbrev QpV:=g1.2.1
abbrev Qot:=g1.2.2.1
abbrev Qou:=g1.2.2.2.1
abbrev Qng:=g1.2.2.2.2.1
abbrev Qpm:=g1.2.2.2.2.2.1
abbrev Qov:=g1.2.2.2.2.2.2.1
abbrev Qlj:=g1.2.2.2.2.2.2.2.1
abbrev Qjv:=g1.2.2.2.2.2.2.2.2.1
abbrev QiN:=g1.2.2.2.2.2.2.2.2.2.1
abbrev Qkc:=g1.2.2.2.2.2.2.2.2.2.2.1
abbrev QiO:=g1.2.2.2.2.2.2.2.2.2.2.2.1
abbrev Qpn:=g1.2.2.2.2.2.2.2.2.2.2.2.2
attribute [instance] Qkb QpV Qot Qou Qng Qpm Qov Qlj Qjv QiN Qkc QiO Qpn
instance Qlk:∀N(a0:List UH),OK (Qby N a0) 68 [.isl 84 2 (a0.map e84)] [] (λr=>.fsl 84 2 (r.map e84)) λr=>[]:=by
 refineλN a0=>⟨λG hw r hr=>?_⟩
 rw[Qby]at hr;obtain rfl:=WK hr;obtain _|⟨x,l⟩:=a0;refine YY λa cap=>?_;obtain _|a:=a
 all_goals
  refine Ys (fn:=Tryz.f68) (body:=(Tryz.f68.body).get!) (rs:=[.tmp 2]) 1000 [320] 8 ac ac ac ac ac ab λC _ hG hwf=>?_;subst hG;have hw2:=hwf;simp only[WfL,Wf,W4,and_true,Uo,Xfe,Xp]at hw2;simp only[Tryz.f68,Option.get!]
  simp only[go_sem,simprocAttr]
  try refine⟨aa,?_⟩
  with_reducible refine XP ?_
  simp only[go_sem,simprocAttr]
end Go.Sx
