import Derived.Test.YtgbmffljpneflaaGreatDoorBF
set_option linter.all false
namespace Go.Sx
open Go.Proofs
set_option maxRecDepth 10000
set_option maxHeartbeats 100000000
def g2:(∀N a0,OK (QaX N a0) 106 [.agg (e23 a0)] [] (λr=>.v (.bool r)) λr=>[])/\(∀N a0,OK (QdH N a0) 164 [.agg (ZS a0)] [] (λr=>.v (.bool r)) λr=>[])/\(∀N a0 a1,OK (QiI N a0 a1) 163 [.agg (e32 a0),vi a1] [] (λr=>vi r) λr=>[])/\(∀N a0,OK (Qc5 N a0) 250 [vu a0] [] (λr=>.tup [vu r.1,.v (.bool r.2)]) λr=>[])/\(∀N a0,OK (Qhx N a0) 175 [.agg (XiL a0)] [] (λr=>.v (.bool r)) λr=>[])/\(∀N a0 a1 a2 a3 a4,OK (Qfw N a0 a1 a2 a3 a4) 42 [.agg (e38 a0),.agg (e38 a1),vi a2,vu a3,vi a4] [] (λr=>.agg (XrH r)) λr=>[])/\(∀N a0,OK (QcD N a0) 261 [.agg (e23 a0)] [] (λr=>.v (.bool r)) λr=>[])/\(∀N a0,OK (QdX N a0) 347 [.agg (XhD a0)] [] (λr=>.v (.bool r)) λr=>[])/\(∀N a0,OK (Qh2 N a0) 327 [vu a0] [] (λr=>.v (.bool r)) λr=>[])/\(∀N a0,OK (Qd5 N a0) 212 [vu a0] [] (λr=>.v (.bool r)) λr=>[])/\(∀N a0,OK (QgF N a0) 123 [vi a0] [] (λr=>.v (.bool r)) λr=>[])/\(∀N a0,OK (Qak N a0) 335 [vi a0] [] (λr=>.tup []) λr=>[]):=by
 refine⟨λN _=>rk Tryz.f106 ?_,λN _=>rk Tryz.f164 ?_,λN _ _=>rk Tryz.f163 ?_,λN _=>rk Tryz.f250 ?_,λN _=>rk Tryz.f175 ?_,λN _ _ _ _ _=>rk Tryz.f42 ?_,λN _=>rk Tryz.f261 ?_,λN _=>rk Tryz.f347 ?_,λN _=>rk Tryz.f327 ?_,λN _=>rk Tryz.f212 ?_,λN _=>rk Tryz.f123 ?_,λN _=>rk Tryz.f335 ?_⟩<;>(rintro _ hw r hr C _ rfl hwf hf;simp only[Tryz.f106,Tryz.f164,Tryz.f163,Tryz.f250,Tryz.f175,Tryz.f42,Tryz.f261,Tryz.f347,Tryz.f327,Tryz.f212,Tryz.f123,Tryz.f335,Option.get!];(first|rw[QaX]at hr|rw[QdH]at hr|rw[QiI]at hr|rw[Qc5]at hr|rw[Qhx]at hr|rw[Qfw]at hr|rw[QcD]at hr|rw[QdX]at hr|rw[Qh2]at hr|rw[Qd5]at hr|rw[QgF]at hr|rw[Qak]at hr);repeat' first
 |(refine El.el hr ?_;clear hr;intro hr)
 |(with_reducible intro h;refine Xx hr h ?_;clear hr;intro hr)
 |with_reducible intro _
 |simp only[go_sem,simprocAttr,Kj]
 |(with_reducible first|apply Xi|apply Xh|apply Xs)
 |((first|with_reducible refine Yo hr ag ?_ ?_|(with_reducible refine Ye hr ?_ ?_;rotate_left;intro p;rotate_right));(·simp only[go_sem,simprocAttr]);intro hp hn hd hr;(try have Kj:=hd _ e78);(try simp only[go_sem,simprocAttr]at Kj))
 |(refine Xt ?_ ?_;.first|assumption|omega)
 |(refine Xn hr ?_;rintro rfl;with_reducible refine XK ?_)
 |exact Yr hr
 |fail)
abbrev Qkx:=g2.1
abbrev Qou:=g2.2.1
abbrev Qrn:=g2.2.2.1
abbrev Qnt:=g2.2.2.2.1
abbrev Qov:=g2.2.2.2.2.1
abbrev Qmm:=g2.2.2.2.2.2.1
abbrev Qle:=g2.2.2.2.2.2.2.1
abbrev Qjz:=g2.2.2.2.2.2.2.2.1
abbrev Qnu:=g2.2.2.2.2.2.2.2.2.1
abbrev Qjj:=g2.2.2.2.2.2.2.2.2.2.1
abbrev Qmn:=g2.2.2.2.2.2.2.2.2.2.2.1
abbrev Qnv:=g2.2.2.2.2.2.2.2.2.2.2.2
attribute [instance] Qkx Qou Qrn Qnt Qov Qmm Qle Qjz Qnu Qjj Qmn Qnv
def g1:(∀N a0 a1,OK (Qaa N a0 a1) 16 [.ept 1000000 0 2 0 0,vi a1] [.arr true 49 2 [[s3 a0.L,vi a0.at_]] 0] (λr=>vi r.1) λr=>[.arr true 49 2 [[s3 r.2.L,vi r.2.at_]] 0])/\(∀N a0,OK (QhU N a0) 245 [vi a0] [] (λr=>.v (.bool r)) λr=>[])/\(∀N a0 a1 a2,OK (QgA N a0 a1 a2) 345 [.agg (e27 a0),vi a1,vi a2] [] (λr=>vu r) λr=>[])/\(∀N a0 a1 a2,OK (QbQ N a0 a1 a2) 84 [vi a0,vu a1,vu a2] [] (λr=>.tup [.agg (ZS r.1),.v (.bool r.2)]) λr=>[])/\(∀N a0,OK (Qdh N a0) 291 [vu a0] [] (λr=>.tup [vu r.1,vi r.2]) λr=>[])/\(∀N a0 a1,OK (QhN N a0 a1) 178 [.agg (e32 a0),vi a1] [] (λr=>.agg (e32 r)) λr=>[])/\(∀N a0,OK (Qjm N a0) 18 [.agg (e27 a0)] [] (λr=>.v (.bool r)) λr=>[])/\(∀N a0,OK (Qci N a0) 346 [.agg (XhD a0)] [] (λr=>.v (.bool r)) λr=>[])/\(∀N a0 a1 a2,OK (QfW N a0 a1 a2) 341 [s39 a0,vu a1,vi a2] [] (λr=>.tup [vi r.1,.v (.bool r.2)]) λr=>[])/\(∀N a0,OK (Qfk N a0) 264 [vu a0] [] (λr=>.v (.bool r)) λr=>[])/\(∀N a0 a1,OK (Qex N a0 a1) 204 [.agg (XnV a0),vi a1] [] (λr=>s72 r) λr=>[])/\(∀N a1,OK (QbC N a1) 213 [.nsl,vi a1] [] (λr=>.fsl 39 1 (r.map e39)) λr=>[]):=by
 refine⟨λN _ _=>rk Tryz.f16 ?_,λN _=>rk Tryz.f245 ?_,λN _ _ _=>rk Tryz.f345 ?_,λN _ _ _=>rk Tryz.f84 ?_,λN _=>rk Tryz.f291 ?_,λN _ _=>rk Tryz.f178 ?_,λN _=>rk Tryz.f18 ?_,λN _=>rk Tryz.f346 ?_,λN _ _ _=>rk Tryz.f341 ?_,λN _=>rk Tryz.f264 ?_,λN _ _=>rk Tryz.f204 ?_,λN _=>rq Tryz.f213 [1408] ?_⟩<;>(rintro _ hw r hr C _ rfl hwf hf;simp only[Tryz.f16,Tryz.f245,Tryz.f345,Tryz.f84,Tryz.f291,Tryz.f178,Tryz.f18,Tryz.f346,Tryz.f341,Tryz.f264,Tryz.f204,Tryz.f213,Option.get!];(first|rw[Qaa]at hr|rw[QhU]at hr|rw[QgA]at hr|rw[QbQ]at hr|rw[Qdh]at hr|rw[QhN]at hr|rw[Qjm]at hr|rw[Qci]at hr|rw[QfW]at hr|rw[Qfk]at hr|rw[Qex]at hr|rw[QbC]at hr);repeat' first
 |(refine El.el hr ?_;clear hr;intro hr)
 |(with_reducible intro h;refine Xx hr h ?_;clear hr;intro hr)
 |with_reducible intro _
 |simp only[go_sem,simprocAttr,hl3,Kj,Wl,Wn,Wz]
 |(with_reducible first|apply Xi|apply Xh|apply Xs|apply Xq|apply Xr)
 |((first|with_reducible refine Yo hr ag ?_ ?_|(with_reducible refine Ye hr ?_ ?_;rotate_left;intro p;rotate_right));(·simp only[go_sem,simprocAttr,Wl,Wn,Wz]);intro hp hn hd hr;(try have hl3:=hd _ e3);(try simp only[go_sem,simprocAttr]at hl3);(try have Kj:=hd _ e78);(try simp only[go_sem,simprocAttr]at Kj))
 |(refine Xt ?_ ?_;.first|assumption|omega)
 |refine dc 16 4 hf 14 [(0,496,[]),(1,496,[]),(3,496,[]),(7,496,[]),(0,15,[]),(16,15,[]),(48,15,[]),(112,15,[]),(240,15,[]),(511,0,[])] ?_
 |refine dc 16 5 hf 24 [(0,240,[]),(1,240,[]),(3,240,[]),(7,240,[]),(0,15,[]),(16,15,[]),(48,15,[]),(112,15,[]),(255,0,[]),(511,0,[]),(1023,0,[])] ?_
 |refine dc 178 1 hf 5 [(0,1022,[[320],[]]),(0,505,[[],[320]]),(2,505,[[],[320]]),(0,39,[[],[320]]),(8,39,[[],[320]]),(0,31,[[],[320]]),(56,7,[[],[320]]),(120,7,[[],[320]]),(248,7,[[],[320]]),(510,1,[[],[320]]),(1023,0,[[320],[]]),(2047,0,[]),(4095,0,[[128],[]])] ?_
 |refine dc 204 2 hf 12 [(0,262136,[]),(1,262136,[]),(3,262136,[]),(0,261191,[]),(8,261191,[]),(24,261191,[]),(0,261183,[]),(120,261127,[]),(248,261127,[]),(504,261127,[]),(0,25599,[]),(1024,25599,[]),(3072,25599,[]),(0,8191,[]),(8192,8191,[]),(31744,1023,[]),(64512,1023,[]),(130048,1023,[]),(262143,0,[]),(524287,0,[])] ?_
 |refine dc 204 3 hf 31 [(0,1016,[]),(1,1016,[]),(3,1016,[]),(0,71,[]),(8,71,[]),(24,71,[]),(0,63,[]),(120,7,[]),(248,7,[]),(504,7,[]),(1023,0,[]),(2047,0,[])] ?_
 |(refine Xn hr ?_;rintro rfl;with_reducible refine XK ?_)
 |exact Yr hr
 |fail)
abbrev Qlf:=g1.1
abbrev QpN:=g1.2.1
abbrev Qmo:=g1.2.2.1
abbrev Qow:=g1.2.2.2.1
abbrev Qmp:=g1.2.2.2.2.1
abbrev QqI:=g1.2.2.2.2.2.1
abbrev QpO:=g1.2.2.2.2.2.2.1
abbrev QjA:=g1.2.2.2.2.2.2.2.1
abbrev Qox:=g1.2.2.2.2.2.2.2.2.1
abbrev Qj3:=g1.2.2.2.2.2.2.2.2.2.1
abbrev Qjo:=g1.2.2.2.2.2.2.2.2.2.2.1
abbrev QhS:=g1.2.2.2.2.2.2.2.2.2.2.2
attribute [instance] Qlf QpN Qmo Qow Qmp QqI QpO QjA Qox Qj3 Qjo QhS
def g3:(∀N a0,OK (Qhe N a0) 14 [.ept 1000000 0 2 0 0] [.arr true 49 2 [[s3 a0.L,vi a0.at_]] 0] (λr=>.v (.bool r)) λr=>[.arr true 49 2 [[s3 a0.L,vi a0.at_]] 0])/\(∀N a0 a1 a2,OK (Qej N a0 a1 a2) 287 [s39 a0,vu a1,vi a2] [] (λr=>.tup [vi r.1,.v (.bool r.2)]) λr=>[])/\(∀N a0,OK (Qae N a0) 24 [vi a0] [] (λr=>.tup [.agg (e38 r.1),vu r.2.1,vi r.2.2]) λr=>[])/\(∀N a0 a1,OK (Qek N a0 a1) 288 [.agg (JC a0),vu a1] [] (λr=>.agg (JC r)) λr=>[])/\(∀N a0 a1 a2,OK (QhM N a0 a1 a2) 176 [.agg (e35 a0),vi a1,.agg (e74 a2)] [] (λr=>.agg (e35 r)) λr=>[])/\(∀N a0 a1 a2 a3,OK (Qgk N a0 a1 a2 a3) 116 [.agg (e43 a0),vu a1,vi a2,vu a3] [] (λr=>.agg (e43 r)) λr=>[])/\(∀N a0 a1,OK (QgU N a0 a1) 321 [.agg (XhD a0),.agg (e23 a1)] [] (λr=>.v (.bool r)) λr=>[])/\(∀N a0 a1,OK (Qf4 N a0 a1) 324 [.agg (XhD a0),.agg (XhD a1)] [] (λr=>.v (.bool r)) λr=>[])/\(∀N a0,OK (Qfe N a0) 209 [.agg (V1 a0)] [] (λr=>.v (.bool r)) λr=>[])/\(∀N a0 a1,OK (Qf5 N a0 a1) 260 [.agg (e76 a0),.ept 1000000 0 1 0 0] [.arr true 39 1 [[vu a1]] 0] (λr=>.v (.bool r)) λr=>[.arr true 39 1 [[vu a1]] 0])/\(∀N a0,OK (QgG N a0) 128 [.agg (e74 a0)] [] (λr=>.v (.bool r)) λr=>[])/\(∀N a0 a1,OK (QeB N a0 a1) 306 [vi a0,.ept 1000000 0 1 0 0] [.arr true 24 1 [[s39 a1]] 0] (λr=>s39 r.1) λr=>[.arr true 24 1 [[s39 r.2]] 0]):=by
 refine⟨λN _=>rk Tryz.f14 ?_,λN _ _ _=>rk Tryz.f287 ?_,λN _=>rk Tryz.f24 ?_,λN _ _=>rk Tryz.f288 ?_,λN _ _ _=>rk Tryz.f176 ?_,λN _ _ _ _=>rk Tryz.f116 ?_,λN _ _=>rk Tryz.f321 ?_,λN _ _=>rk Tryz.f324 ?_,λN _=>rk Tryz.f209 ?_,λN _ _=>rk Tryz.f260 ?_,λN _=>rk Tryz.f128 ?_,λN _ _=>rk Tryz.f306 ?_⟩<;>(rintro _ hw r hr C _ rfl hwf hf;simp only[Tryz.f14,Tryz.f287,Tryz.f24,Tryz.f288,Tryz.f176,Tryz.f116,Tryz.f321,Tryz.f324,Tryz.f209,Tryz.f260,Tryz.f128,Tryz.f306,Option.get!];(first|rw[Qhe]at hr|rw[Qej]at hr|rw[Qae]at hr|rw[Qek]at hr|rw[QhM]at hr|rw[Qgk]at hr|rw[QgU]at hr|rw[Qf4]at hr|rw[Qfe]at hr|rw[Qf5]at hr|rw[QgG]at hr|rw[QeB]at hr);repeat' first
 |(refine El.el hr ?_;clear hr;intro hr)
 |(with_reducible intro h;refine Xx hr h ?_;clear hr;intro hr)
 |with_reducible intro _
 |simp only[go_sem,simprocAttr,Xz,YN,KJ,Wl,Wn,Wz]
 |(with_reducible first|apply Xi|apply Xh|apply Xs|apply Xq|apply Xr)
 |((first|with_reducible refine Yo hr ag ?_ ?_|(with_reducible refine Ye hr ?_ ?_;rotate_left;intro p;rotate_right));(·simp only[go_sem,simprocAttr,Wl,Wn,Wz]);intro hp hn hd hr;(try have Xz:=hd _ e39);(try simp only[go_sem,simprocAttr]at Xz);(try have YN:=hd _ e74);(try simp only[go_sem,simprocAttr]at YN);(try have KJ:=hd _ Xb5);(try simp only[go_sem,simprocAttr]at KJ))
 |(refine Xt ?_ ?_;.first|assumption|omega)
 |refine dc 14 1 hf 3 [(0,496,[]),(1,496,[]),(3,496,[]),(7,496,[]),(0,15,[]),(16,15,[]),(48,15,[]),(112,15,[]),(240,15,[]),(511,0,[]),(1023,0,[])] ?_
 |(refine Xn hr ?_;rintro rfl;with_reducible refine XK ?_)
 |exact Yr hr
 |fail)
abbrev Qlg:=g3.1
abbrev QpP:=g3.2.1
abbrev Qnw:=g3.2.2.1
abbrev QpQ:=g3.2.2.2.1
abbrev QqJ:=g3.2.2.2.2.1
abbrev QqK:=g3.2.2.2.2.2.1
abbrev Qky:=g3.2.2.2.2.2.2.1
abbrev QjB:=g3.2.2.2.2.2.2.2.1
abbrev Qlh:=g3.2.2.2.2.2.2.2.2.1
abbrev QjC:=g3.2.2.2.2.2.2.2.2.2.1
abbrev Qmq:=g3.2.2.2.2.2.2.2.2.2.2.1
abbrev Qkz:=g3.2.2.2.2.2.2.2.2.2.2.2
attribute [instance] Qlg QpP Qnw QpQ QqJ QqK Qky QjB Qlh QjC Qmq Qkz
instance Qmr:∀N(a0:List Ux),OK (Qar N a0) 55 [.isl 76 2 (a0.map e76)] [] (λr=>.fsl 76 2 (r.map e76)) λr=>[]:=by
 refineλN a0=>⟨λG hw r hr=>?_⟩
 rw[Qar]at hr;obtain rfl:=WG hr;obtain _|⟨x,l⟩:=a0;refine Zg λa cap=>?_;obtain _|a:=a
 all_goals
  refine Yq (fn:=Tryz.f55) (body:=(Tryz.f55.body).get!) (rs:=[.tmp 2]) 1000 [320] 8 ac ac ac ac ac ab λC _ hG hwf=>?_;subst hG;have hw2:=hwf;simp only[WfL,Wf,W4,and_true,Um,XfV,Xy]at hw2;simp only[Tryz.f55,Option.get!]
  simp only[go_sem,simprocAttr]
  try refine⟨aa,?_⟩
  with_reducible refine XK ?_
  simp only[go_sem,simprocAttr]
instance QkA:∀N(a0:List WT),OK (Qap N a0) 141 [.isl 74 3 (a0.map e74)] [] (λr=>.fsl 74 3 (r.map e74)) λr=>[]:=by
 refineλN a0=>⟨λG hw r hr=>?_⟩
 rw[Qap]at hr;obtain rfl:=WG hr;obtain _|⟨x,l⟩:=a0;refine Zg λa cap=>?_;obtain _|a:=a
 all_goals
  refine Yq (fn:=Tryz.f141) (body:=(Tryz.f141.body).get!) (rs:=[.tmp 2]) 1000 [320] 8 ac ac ac ac ac ab λC _ hG hwf=>?_;subst hG;have hw2:=hwf;simp only[WfL,Wf,W4,and_true,Um,XfU,Xy]at hw2;simp only[Tryz.f141,Option.get!]
  simp only[go_sem,simprocAttr]
  try refine⟨aa,?_⟩
  with_reducible refine XK ?_
  simp only[go_sem,simprocAttr]
instance Qnx:∀N(a0:List Int),OK (Qad N a0) 56 [.isl 39 1 (a0.map e39)] [] (λr=>.fsl 39 1 (r.map e39)) λr=>[]:=by
 refineλN a0=>⟨λG hw r hr=>?_⟩
 rw[Qad]at hr;obtain rfl:=WG hr;obtain _|⟨x,l⟩:=a0;refine Zg λa cap=>?_;obtain _|a:=a
 all_goals
  refine Yq (fn:=Tryz.f56) (body:=(Tryz.f56.body).get!) (rs:=[.tmp 2]) 1000 [320] 8 ac ac ac ac ac ab λC _ hG hwf=>?_;subst hG;have hw2:=hwf;simp only[WfL,Wf,W4,and_true,Um,XfS,Xy]at hw2;simp only[Tryz.f56,Option.get!]
  simp only[go_sem,simprocAttr]
  try refine⟨aa,?_⟩
  with_reducible refine XK ?_
  simp only[go_sem,simprocAttr]
instance QqL:∀N(a0:List Int),OK (QaF N a0) 140 [.isl 3 1 (a0.map e3)] [] (λr=>.fsl 3 1 (r.map e3)) λr=>[]:=by
 refineλN a0=>⟨λG hw r hr=>?_⟩
 rw[QaF]at hr;obtain rfl:=WG hr;obtain _|⟨x,l⟩:=a0;refine Zg λa cap=>?_;obtain _|a:=a
 all_goals
  refine Yq (fn:=Tryz.f140) (body:=(Tryz.f140.body).get!) (rs:=[.tmp 2]) 1000 [320] 8 ac ac ac ac ac ab λC _ hG hwf=>?_;subst hG;have hw2:=hwf;simp only[WfL,Wf,W4,and_true,Um,XiJ,Xy]at hw2;simp only[Tryz.f140,Option.get!]
  simp only[go_sem,simprocAttr]
  try refine⟨aa,?_⟩
  with_reducible refine XK ?_
  simp only[go_sem,simprocAttr]
instance Qli:∀N(a0:List UE),OK (Qas N a0) 138 [.isl 72 3 (a0.map e72)] [] (λr=>.fsl 72 3 (r.map e72)) λr=>[]:=by
 refineλN a0=>⟨λG hw r hr=>?_⟩
 rw[Qas]at hr;obtain rfl:=WG hr;obtain _|⟨x,l⟩:=a0;refine Zg λa cap=>?_;obtain _|a:=a
 all_goals
  refine Yq (fn:=Tryz.f138) (body:=(Tryz.f138.body).get!) (rs:=[.tmp 2]) 1000 [320] 8 ac ac ac ac ac ab λC _ hG hwf=>?_;subst hG;have hw2:=hwf;simp only[WfL,Wf,W4,and_true,Um,XfT,Xy]at hw2;simp only[Tryz.f138,Option.get!]
  simp only[go_sem,simprocAttr]
  try refine⟨aa,?_⟩
  with_reducible refine XK ?_
  simp only[go_sem,simprocAttr]
instance QkB:∀N(a0:List UJ),OK (Qao N a0) 139 [.isl 78 3 (a0.map e78)] [] (λr=>.fsl 78 3 (r.map e78)) λr=>[]:=by
 refineλN a0=>⟨λG hw r hr=>?_⟩
 rw[Qao]at hr;obtain rfl:=WG hr;obtain _|⟨x,l⟩:=a0;refine Zg λa cap=>?_;obtain _|a:=a
 all_goals
  refine Yq (fn:=Tryz.f139) (body:=(Tryz.f139.body).get!) (rs:=[.tmp 2]) 1000 [320] 8 ac ac ac ac ac ab λC _ hG hwf=>?_;subst hG;have hw2:=hwf;simp only[WfL,Wf,W4,and_true,Um,XfW,Xy]at hw2;simp only[Tryz.f139,Option.get!]
  simp only[go_sem,simprocAttr]
  try refine⟨aa,?_⟩
  with_reducible refine XK ?_
  simp only[go_sem,simprocAttr]
open Go.Proofs
set_option maxRecDepth 10000
set_option maxHeartbeats 4000000
def Y9:XaZ Tryz.prog 345=some (.i64,4):=by rfl
def XrU:Tryz.prog.underlying 345=some (.map 3 4):=by rfl
def XbA(e:WT):Bool:=!(e.V||(e.G==4294967295))
def frU(l:List WT)(j:Nat):Bool:=match l[j]? with|some e=>XbA e|none=>false
def Zc(xs:List Nat):List (Int×D):=xs.map λ(j:Nat)=>((j:Int),D.v (.bool true))
def Xn1{xs:List Nat}{k:Nat}(h:k∉xs):Xa0 (Zc xs) (k:Int) (.v (.bool true))=Zc (xs++[k]):=by
 induction xs with
 |nil=>rfl
 |cons x xs ih=>simp at h;have:¬((k:Int)=(x:Int)):=aa;simp_all[Zc,Ub,Xa0,Wk,this,IO]
def XhE{xs:List Nat}{k:Nat}(h:xs.Nodup):Xam (Zc xs) (k:Int)=Zc (xs.filter (·!= k)):=by
 induction xs with
 |nil=>rfl
 |cons x xs ih=>
  simp at h;by_cases hx:k=x
  .subst hx;simp only[Zc,Ub,Xam,if_true,List.filter_cons,bne_self_eq_false,U9,if_false];have:xs.filter (·!= k)=xs:=Ie.2 λy hy=>by simp;rintro rfl;exact h.1 hy
   grind
  have h1:¬((k:Int)=(x:Int)):=aa;have h2:(x != k)=true:=by simp;omega
  simp_all[Zc,Ub,Xam,Wk,h1,List.filter_cons,h2,if_true]
def lef(l:List WT)(k:Nat):List Nat:=(List.range l.length).filter λj=>decide (k<=j)||frU l j
def Xe0(l:List WT):lef l 0=List.range l.length:=Ie.2 λj _=>by simp
def Xd0(l:List WT)(k:Nat):(lef l k).Nodup:=List.Pairwise.filter _ List.nodup_range
def XhF{l:List WT}{k:Nat}(h:frU l k=false):(lef l k).filter (·!= k)=lef l (k+1):=by unfold lef;rw[List.filter_filter];grind
def Xk0{l:List WT}{k:Nat}(h:frU l k=true):lef l k=lef l (k+1):=by unfold lef;grind
def Xn2(l:List WT):lef l l.length=(List.range l.length).filter (frU l):=List.filter_congr λj hj=>by grind
def Xe1(l:List WT):(l.findIdx? XbA=none/\lef l l.length=[])\/∃k,l.findIdx? XbA=some k/\k∈lef l l.length/\∀j∈lef l l.length,k<=j:=by
 rw[Xn2];cases h:l.findIdx? XbA with
 |none=>
  refine .inl ⟨rfl,?_⟩;refine List.filter_eq_nil_iff.2 λj hj=>?_;have hl:j<l.length:=by simpa using hj
  simp only[frU,Wc hl];simp_all
 |some k=>
  have⟨hk,h1,h2⟩:=UK.1 h;refine .inr ⟨k,rfl,UB.2 ⟨by simpa using hk,by simp[frU,hk,h1]⟩,λj hj=>?_⟩;have⟨hj1,hj2⟩:=UB.1 hj;rcases Ur j k with hlt|hge
  .have:=h2 j hlt;simp only[frU,Wc (show j<l.length by omega)]at hj2;rw[hj2]at this;simp at this
  omega
theorem EntL.keys{P:Program}{M:Mem}{xs:List Nat}:∀{l:List MapEntry},EntL P M .i64 l (Zc xs)->l.map (·.key)=xs.map λ(j:Nat)=>Value.int .i64 (j:Int):=by
 intro l;induction l generalizing xs with
 |nil=>simp[EntL,Zc,List.map_eq_nil_iff]
 |cons e l ih=>
  intro h;have⟨x,d,es',h1,h2,h3,h4⟩:=h;cases xs with
  |nil=>simp_all[Zc]
  |cons y ys=>obtain⟨⟨rfl,rfl⟩,rfl⟩:=h1;simp only[Ub,h2,List.cons.injEq,true_and];exact ih h4
def XrV{P:Program}{M:Mem}{l:List WT}{ents:List MapEntry}(h:EntL P M .i64 ents (Zc (lef l l.length))){x:Int}(hx:Xqf (l.length:Int) ents x):x=(((l.findIdx? XbA).getD l.length:Nat):Int):=by
 have hk:=h.keys;have⟨h1,h2,h3⟩:=hx;have mem:∀j,j∈lef l l.length->∃e∈ents,e.key=.int .i64 (j:Int):=λj hj=>by
  have:Value.int .i64 (j:Int)∈ents.map (·.key):=by rw[hk];exact UM.2 ⟨j,hj,rfl⟩
  grind
 have mem2:∀e∈ents,∀n,e.key=.int .i64 n->∃j∈lef l l.length,n=(j:Int):=λe he n hn=>by have:e.key∈ents.map (·.key):=UM.2 ⟨e,he,rfl⟩;grind
 rcases Xe1 l with⟨g1,g2⟩|⟨k,g1,g2,g3⟩
 .grind
 rw[g1];have⟨e,he,hn⟩:=mem k g2;have:=h3 e he _ hn;rcases h1 with h1|⟨e2,he2,hn2⟩
 .have hl:k<l.length:=by have:=(UB.1 g2).1;simpa using this
  omega
 grind
def Xn3(l:List WT):decide (((Zc (lef l l.length)).length:Int)>0)=(l.findIdx? XbA).isSome:=by
 rcases Xe1 l with⟨g1,g2⟩|⟨k,g1,g2,g3⟩
 .rw[g1,g2];rfl
 grind[Zc,W4,Option.isSome_some]
def Q1(l:List WT)(st:St):Prop:=∃v,st.n=54/\st.t 4=.omp 640 v/\st.s 640=some (v,.mp .i64 (Zc (lef l l.length)))/\st.t 8=.v (.int .i64 (l.length:Int))
def U1(l:List WT)(n:Nat)(st:St):Prop:=∃(k v w1:Nat),k<=l.length/\n=l.length-k/\st.n=54/\st.t 14=.v (.int .i64 (k:Int))/\st.t 13=.v (.int .i64 (l.length:Int))/\st.t 4=.omp 640 v/\st.s 640=some (v,.mp .i64 (Zc (List.range k))) /\
 st.t 1=.ept 64 w1 1 0 0/\st.s 64=some (w1,.arr true 35 1 [[.isl 74 3 (l.map e74)]] 0)
def U2(l:List WT)(n:Nat)(st:St):Prop:=∃(k v w1:Nat),k<=l.length/\n=l.length-k/\st.n=54/\st.t 23=.v (.int .i64 (k:Int))/\st.t 22=.v (.int .i64 (l.length:Int))/\st.t 21=.isl 74 3 (l.map e74)/\st.t 4=.omp 640 v/\st.s 640=some (v,.mp .i64 (Zc (lef l k))) /\
 st.t 1=.ept 64 w1 1 0 0/\st.s 64=some (w1,.arr true 35 1 [[.isl 74 3 (l.map e74)]] 0)
def Qms(G:Nat->Option (List D))(hw:GW G)(N:Nat)(a0:Ws)(r:Int×Bool)(hr:QiK N a0=some r):YS Tryz.prog G 278 [.agg (e35 a0)] [] (Eqs (.tup [.v (.int .i64 r.1),.v (.bool r.2)]) []):=by
 obtain rfl:=WG hr;have⟨l⟩:=a0;refine Xas (fn:=Tryz.f278) (body:=(Tryz.f278.body).get!) (rs:=[.tmp 2,.tmp 3]) [] 54 (by rfl) (by rfl) (by rfl) (by rfl) (by rfl) ab λC _ hG _ hwf a w hrel=>?_;have hlen:l.length<=140737488355328:=by have h:=hwf;simp only[WfL,Wf,e35,W4]at h;exact h.1.1.2.1
 simp only[Tryz.f278,Option.get!];refine Jo 6 _ none a w ?_;simp only[XbK,Ub,Uy,IO,Uk];refine Xbb (Q:=Q1 l) ?_ [_,_,_,_,_] none a w ?_;rotate_left
 .refine Ym 1000 _ hrel ?_;simp only[go_sem,simprocAttr,Y9];refine LoopG.of (U1 l) 1000 l.length ?_ ?_ _
  .exact⟨0,4,1,UP _,rfl,by rfl,by rfl,by rfl,by rfl,by rfl,by rfl,by rfl⟩
  rintro n st ⟨k,v,w1,hk,rfl,e0,e1,e2,e3,e4,e5,e6⟩;by_cases h:k<l.length
  .have hd:decide ((k:Int)<(l.length:Int))=true:=Wd aa;have hm:Xa0 (Zc (List.range k)) (k:Int) (D.v (.bool true))=Zc (List.range (k+1)):=by rw[Xn1 ab,List.range_succ]
   have hkl:(Zc (List.range k)).length=k:=by simp[Zc]
   have hwI:wI ((k:Int)+1)=((k+1:Nat):Int):=by simp only[wI,IntKind.wrap,IntKind.bits,IntKind.signed];simp;omega
   simp only[go_sem,simprocAttr,Y9,e0,e1,e2,e3,e4,e5,e6,hd,hm,hkl,hwI];refine⟨aa,l.length-(k+1),aa,k+1,v,w1,aa,rfl,?_,?_,?_,?_,?_,?_,?_⟩<;>(first|rfl|(simp only[go_sem,simprocAttr,Y9,e0,e1,e2,e3,e4,e5,e6,hwI,hm];done)|(simp only[go_sem,simprocAttr,Y9,e0,e1,e2,e3,e4,e5,e6,hwI,hm];rfl))
  obtain rfl:k=l.length:=aa;have hd:decide ((l.length:Int)<(l.length:Int))=false:=Wh aa;simp only[go_sem,simprocAttr,Y9,e0,e1,e2,e3,e4,e5,e6,hd];refine LoopG.of (U2 l) 1000 l.length ?_ ?_ _
  .refine⟨0,v,w1,UP _,rfl,?_,?_,?_,?_,?_,?_,?_,?_⟩<;>(first|rfl|(simp only[Xe0,go_sem,simprocAttr,Y9,e0,e1,e2,e3,e4,e5,e6];done)|(simp only[Xe0,go_sem,simprocAttr,Y9,e0,e1,e2,e3,e4,e5,e6];rfl))
  clear e0 e1 e2 e3 e4 e5 e6 hk h hd;rintro n st ⟨k,v,w1,hk,rfl,e0,e1,e2,e3,e4,e5,e6,e7⟩;by_cases h:k<l.length
  .have hd:decide ((k:Int)<(l.length:Int))=true:=Wd aa;have hwI:wI ((k:Int)+1)=((k+1:Nat):Int):=by simp only[wI,IntKind.wrap,IntKind.bits,IntKind.signed];simp;omega
   have hg:(l.map e74).getD k []=e74 l[k]:=by simp[h]
   have h0:(0:Int)<=(k:Int):=aa;have h1:(k:Int)<(l.length:Int):=aa;cases hL:l[k].V with
   |true=>
    have hf:frU l k=false:=by simp[frU,h,XbA,hL]
    have hm:Xam (Zc (lef l k)) (k:Int)=Zc (lef l (k+1)):=by rw[XhE (Xd0 l k),XhF hf]
    simp only[go_sem,simprocAttr,Y9,e0,e1,e2,e3,e4,e5,e6,e7,hd,hm,hwI,hg,h0,h1,hL];refine⟨l.length-(k+1),aa,k+1,v,w1,aa,rfl,?_,?_,?_,?_,?_,?_,?_,?_⟩<;>(first|rfl|(simp only[go_sem,simprocAttr,Y9,e0,e1,e2,e3,e4,e5,e6,e7,hwI,hm];done)|(simp only[go_sem,simprocAttr,Y9,e0,e1,e2,e3,e4,e5,e6,e7,hwI,hm];rfl))
   |false=>
    cases hG:(l[k].G==4294967295)with
    |true=>
     have hf:frU l k=false:=by simp only[frU,h,Wc,XbA,hL,hG];rfl
     have hm:Xam (Zc (lef l k)) (k:Int)=Zc (lef l (k+1)):=by rw[XhE (Xd0 l k),XhF hf]
     simp only[go_sem,simprocAttr,Y9,e0,e1,e2,e3,e4,e5,e6,e7,hd,hm,hwI,hg,h0,h1,hL,hG];refine⟨l.length-(k+1),aa,k+1,v,w1,aa,rfl,?_,?_,?_,?_,?_,?_,?_,?_⟩<;>(first|rfl|(simp only[go_sem,simprocAttr,Y9,e0,e1,e2,e3,e4,e5,e6,e7,hwI,hm];done)|(simp only[go_sem,simprocAttr,Y9,e0,e1,e2,e3,e4,e5,e6,e7,hwI,hm];rfl))
    |false=>
     have hf:frU l k=true:=by simp only[frU,h,Wc,XbA,hL,hG];rfl
     have hm:Zc (lef l k)=Zc (lef l (k+1)):=by rw[Xk0 hf]
     rw[hm]at e5;simp only[go_sem,simprocAttr,Y9,e0,e1,e2,e3,e4,e5,e6,e7,hd,hwI,hg,h0,h1,hL,hG];refine⟨l.length-(k+1),aa,k+1,v,w1,aa,rfl,?_,?_,?_,?_,?_,?_,?_,?_⟩<;>(first|rfl|(simp only[go_sem,simprocAttr,Y9,e0,e1,e2,e3,e4,e5,e6,e7,hwI];done)|(simp only[go_sem,simprocAttr,Y9,e0,e1,e2,e3,e4,e5,e6,e7,hwI];rfl))
  obtain rfl:k=l.length:=aa;have hd:decide ((l.length:Int)<(l.length:Int))=false:=Wh aa;simp only[go_sem,simprocAttr,Y9,e0,e1,e2,e3,e4,e5,e6,e7,hd];refine⟨v,?_,?_,?_,?_⟩<;>(first|rfl|(simp only[go_sem,simprocAttr,Y9,e0,e1,e2,e3,e4,e5,e6,e7];done)|(simp only[go_sem,simprocAttr,Y9,e0,e1,e2,e3,e4,e5,e6,e7];rfl))
 rintro st a w hrel ⟨v,q1,q2,q3,q4⟩;have⟨h1,h2,M,β,h0,h3,I⟩:=id hrel;have m4:=h3 4;have m8:=h3 8;rw[q2]at m4;rw[q4]at m8;have⟨b,cb,hb,he⟩:=m4;have⟨x0,hx0,hob⟩:=I.obs 640 v _ q3;obtain rfl:some (b,cb)=x0:=by simp_all
 obtain⟨rfl,l1,l2,ents,clock,g3,g4,g5,g6⟩:=hob;have hkeys:∀e∈ents.toList,∃n,e.key=.int .i64 n:=λe hee=>by have:e.key∈ents.toList.map (·.key):=UM.2 ⟨e,hee,rfl⟩;grind[g4.keys]
 refine Xkj XrU h1 (by simp_all) ae he m8.1 g3 g5 g6 hkeys ?_;intro a' w' x hd' hs' hm' hf' hmin hsame;have hx:=XrV g4 hmin;have hle:0<=x/\x<=l.length:=⟨aa,hmin.2.1⟩
 have hr2:=hrel.same hsame hd' hs' (t':=λi=>if i=4 then .omp 640 v else if i=8 then .v (.int .i64 x)else .any) (λM β hall i=>by
  by_cases h4:i=4
  .grind
  .rw[Wk h4]
   by_cases h8:i=8
   .subst h8
    rw[Wq rfl,hf']
    simp only[Rep]
    exact⟨trivial,by rw[hx];exact Vf (by simp only[Xy];omega)⟩
   simp[Wk,h8,Rep])
 refine Ym 1000 _ hr2 ?_;have hl:=Xn3 l;subst hx;simp only[go_sem,simprocAttr,Y9,q1,q3];with_reducible refine XK ?_
 rw[hl];simp only[go_sem,simprocAttr,Xqr];exact⟨rfl,rfl⟩
@[reducible,instance] def Qry(N:Nat)(a0:Ws):=OK.mk λG hw r hr=>Qms G hw N a0 r hr
end Go.Sx
