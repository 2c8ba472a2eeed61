import Derived.Test.YtmpbhfnjjaocoaaGreatAG0
import Derived.Test.YtmpbhfnjjaocoaaGreatAG1
import Derived.Test.YtmpbhfnjjaocoaaGreatAG2
set_option linter.all false
namespace Go.Sx
open Go.Proofs
set_option maxRecDepth 10000
set_option maxHeartbeats 100000000
def g8:(∀N a0,OK (Qge N a0) 102 [.agg (e23 a0)] [] (λr=>.tup [.agg (e65 r.1),vi r.2]) λr=>[])/\(∀N a0 a1,OK (Qf1 N a0 a1) 227 [s58 a0,vu a1] [] (λr=>.tup [vi r.1,vi r.2]) λr=>[])/\(∀N a0 a1 a2,OK (Qbq N a0 a1 a2) 308 [.agg (e23 a0),vi a1,vi a2] [] (λr=>.tup [vu r.1,vi r.2]) λr=>[])/\(∀N a0 a1,OK (QcW N a0 a1) 150 [.agg (K4 a0),vi a1] [] (λr=>.v (.bool r)) λr=>[])/\(∀N a0,OK (Qb1 N a0) 256 [.agg (XoY a0)] [] (λr=>.tup [vu r.1,vi r.2]) λr=>[])/\(∀N a0 a1,OK (QbP N a0 a1) 107 [.agg (e67 a0),.ept 1000000 0 2 0 0] [.arr true 54 2 [[s3 a1.L,vi a1.at_]] 0] (λr=>vu r.1) λr=>[.arr true 54 2 [[s3 r.2.L,vi r.2.at_]] 0])/\(∀N a0 a1,OK (Qds N a0 a1) 231 [.agg (XgM a0),.agg (e23 a1)] [] (λr=>.v (.bool r)) λr=>[])/\(∀N a0 a1,OK (Qch N a0 a1) 194 [.agg (e23 a0),vu a1] [] (λr=>.tup [vi r.1,vi r.2.1,vi r.2.2]) λr=>[])/\(∀N a0 a1,OK (Qf9 N a0 a1) 203 [vu a0,vu a1] [] (λr=>.v (.bool r)) λr=>[])/\(∀N a0 a1 a2,OK (Qg2 N a0 a1 a2) 238 [Yg a0,vi a1,Yg a2] [] (λr=>.tup [.fsl 175 4 (r.1.map XS),vi r.2]) λr=>[])/\(∀N a0 a1 a2,OK (Qgy N a0 a1 a2) 164 [.agg (e27 a0),s58 a1,vi a2] [] (λr=>.tup [.agg (e27 r.1),vi r.2]) λr=>[])/\(∀N a0,OK (Qfv N a0) 67 [.agg (e35 a0)] [] (λr=>.agg (e35 r)) λr=>[])/\(∀N a0,OK (QhQ N a0) 235 [.agg (e23 a0)] [] (λr=>vi r) λr=>[]):=by
 refine⟨λN _=>rk Tryz.f102 [.cell 2 65,.tmp 3] [] 10 ?_,λN _ _=>rk Tryz.f227 [.tmp 4,.tmp 5] [] 17 ?_,λN _ _ _=>rk Tryz.f308 [.tmp 6,.tmp 7] [] 37 ?_,λN _ _=>rk Tryz.f150 [.tmp 4] [] 39 ?_,λN _=>rk Tryz.f256 [.tmp 2,.tmp 3] [] 20 ?_,λN _ _=>rk Tryz.f107 [.tmp 4] [] 53 ?_,λN _ _=>rk Tryz.f231 [.tmp 4] [] 23 ?_,λN _ _=>rk Tryz.f194 [.tmp 4,.tmp 5,.tmp 6] [] 37 ?_,λN _ _=>rk Tryz.f203 [.tmp 4] [] 17 ?_,λN _ _ _=>rk Tryz.f238 [.tmp 6,.tmp 7] [1920] 37 ?_,λN _ _ _=>rk Tryz.f164 [.cell 6 27,.tmp 7] [] 19 ?_,λN _=>rk Tryz.f67 [.cell 2 35] [] 7 ?_,λN _=>rk Tryz.f235 [.tmp 2] [] 9 ?_⟩<;>(rintro _ hw r hr C _ rfl hwf hf;have hse:=@Zw _ hw;simp only[Tryz.f102,Tryz.f227,Tryz.f308,Tryz.f150,Tryz.f256,Tryz.f107,Tryz.f231,Tryz.f194,Tryz.f203,Tryz.f238,Tryz.f164,Tryz.f67,Tryz.f235,Option.get!];(first|rw[Qge]at hr|rw[Qf1]at hr|rw[Qbq]at hr|rw[QcW]at hr|rw[Qb1]at hr|rw[QbP]at hr|rw[Qds]at hr|rw[Qch]at hr|rw[Qf9]at hr|rw[Qg2]at hr|rw[Qgy]at hr|rw[Qfv]at hr|rw[QhQ]at hr);repeat' first
 |(refine El.el hr ?_;clear hr;intro hr)
 |(with_reducible intro h;refine XB hr h ?_;clear hr;intro hr)
 |with_reducible intro _
 |simp only[go_sem,simprocAttr,Xu,Xj,hse,Wj,Wl,WA]
 |(with_reducible first|apply Xi|apply Xh|apply Xs|apply Xq|apply Xr)
 |((first|with_reducible refine Yq hr ag ?_ ?_|(with_reducible refine Yn hr ?_ ?_;rotate_left;intro p;rotate_right));(·simp only[go_sem,simprocAttr,hse,Wj,Wl,WA]);intro hp hn hd hr;(try have Xu:=hd _ e58);(try simp only[go_sem,simprocAttr]at Xu);(try have Xj:=hd _ XS);(try simp only[go_sem,simprocAttr]at Xj))
 |(refine Xt ?_ ?_;.first|assumption|omega)
 |(with_reducible first|refine CallX.c ?_ _|refine OK.c hr hw ?_ (λy hr=>?_) _|refine IM hr hw ?_ (λy hr=>?_) _)
 |refine dc 107 6 hf 20 [(0,924,[[],[1000000]]),(1,924,[[],[1000000]]),(0,139,[]),(0,135,[]),(12,131,[[1000000],[]]),(31,896,[[],[1000000]]),(63,896,[[],[1000000]]),(0,127,[[],[1000000]]),(156,99,[[1000000],[]]),(412,99,[]),(1023,0,[]),(2047,0,[])] ?_
 |refine dc 107 10 hf 35 [(0,28,[[],[1000000]]),(1,28,[[],[1000000]]),(0,11,[]),(0,7,[]),(12,3,[[1000000],[]]),(31,0,[]),(63,0,[]),(127,0,[])] ?_
 |refine dc 107 11 hf 42 [(0,508,[[],[1000000]]),(1,508,[[],[1000000]]),(0,243,[[],[1000000]]),(4,243,[[],[1000000]]),(0,111,[]),(0,31,[]),(32,31,[]),(112,15,[[1000000],[]]),(252,3,[]),(511,0,[]),(1023,0,[]),(2047,0,[])] ?_
 |refine dc 194 6 hf 4 [(0,8254390272,[]),(0,8086618112,[]),(2,8086618112,[]),(7,8053063680,[]),(0,3724541953,[]),(0,1040187393,[]),(32,1040187393,[]),(112,503316481,[]),(15,8053063680,[]),(511,0,[]),(1023,0,[])] ?_
 |(refine Xn hr ?_;rintro rfl;with_reducible refine XP ?_)
 |exact Yw hr
 |rw[Uj ah]
 |omega
 |rw[Uj (by simp only[WQ,W4,Wl];omega)]
 |fail)
abbrev Qps:=g8.1
abbrev Qnp:=g8.2.1
abbrev Qlq:=g8.2.2.1
abbrev Qkm:=g8.2.2.2.1
abbrev Qmq:=g8.2.2.2.2.1
abbrev Qkn:=g8.2.2.2.2.2.1
abbrev Qi8:=g8.2.2.2.2.2.2.1
abbrev Qp2:=g8.2.2.2.2.2.2.2.1
abbrev Qjw:=g8.2.2.2.2.2.2.2.2.1
abbrev Qpt:=g8.2.2.2.2.2.2.2.2.2.1
abbrev Qko:=g8.2.2.2.2.2.2.2.2.2.2.1
abbrev Qmr:=g8.2.2.2.2.2.2.2.2.2.2.2.1
abbrev Qoz:=g8.2.2.2.2.2.2.2.2.2.2.2.2
attribute [instance] Qps Qnp Qlq Qkm Qmq Qkn Qi8 Qp2 Qjw Qpt Qko Qmr Qoz
def g7:(∀N a0,OK (Qgd N a0) 171 [.agg (e23 a0)] [] (λr=>.tup [.agg (e27 r.1),vi r.2]) λr=>[])/\(∀N a0,OK (QcG N a0) 95 [.agg (e51 a0)] [] (λr=>vi r) λr=>[])/\(∀N a0,OK (Qcq N a0) 152 [.agg (e51 a0)] [] (λr=>.tup [vu r.1,vi r.2]) λr=>[])/\(∀N a0 a1 a2,OK (Qc5 N a0 a1 a2) 289 [s58 a0,vu a1,vi a2] [] (λr=>.tup [s58 r.1,vi r.2]) λr=>[])/\(∀N a0,OK (Qf2 N a0) 166 [.agg (e23 a0)] [] (λr=>vi r) λr=>[])/\(∀N a0 a1,OK (Qhc N a0 a1) 273 [.agg (e65 a0),vu a1] [] (λr=>vi r) λr=>[])/\(∀N a0,OK (Qe0 N a0) 157 [.agg (e23 a0)] [] (λr=>vi r) λr=>[])/\(∀N a0 a1 a2,OK (Qdb N a0 a1 a2) 92 [.agg (e23 a0),vi a1,vi a2] [] (λr=>.tup [vu r.1,vi r.2]) λr=>[])/\(∀N a0 a1 a2,OK (Qhd N a0 a1 a2) 309 [s58 a0,vu a1,vi a2] [] (λr=>.tup [.fsl 58 1 (r.1.map e58),vi r.2]) λr=>[])/\(∀N a0 a1,OK (Qa6 N a0 a1) 281 [s3 a0,vi a1] [] (λr=>.v (.bool r)) λr=>[])/\(∀N a0 a1 a2,OK (QgO N a0 a1 a2) 163 [s58 a0,vu a1,s58 a2] [] (λr=>.tup [s58 r.1,vi r.2]) λr=>[])/\(∀N a0,OK (QfZ N a0) 66 [.agg (e32 a0)] [] (λr=>.agg (e32 r)) λr=>[])/\(∀N a0,OK (QhE N a0) 71 [.agg (e35 a0)] [] (λr=>.agg [.fsl 109 3 (r.e.map Zv)]) λr=>[]):=by
 refine⟨λN _=>rk Tryz.f171 [.cell 2 27,.tmp 3] [] 19 ?_,λN _=>rk Tryz.f95 [.tmp 2] [] 9 ?_,λN _=>rk Tryz.f152 [.tmp 2,.tmp 3] [] 22 ?_,λN _ _ _=>rk Tryz.f289 [.tmp 6,.tmp 7] [] 29 ?_,λN _=>rk Tryz.f166 [.tmp 2] [] 9 ?_,λN _ _=>rk Tryz.f273 [.tmp 4] [] 8 ?_,λN _=>rk Tryz.f157 [.tmp 2] [] 9 ?_,λN _ _ _=>rk Tryz.f92 [.tmp 6,.tmp 7] [] 39 ?_,λN _ _ _=>rk Tryz.f309 [.tmp 6,.tmp 7] [1728] 28 ?_,λN _ _=>rk Tryz.f281 [.tmp 4] [] 9 ?_,λN _ _ _=>rk Tryz.f163 [.tmp 6,.tmp 7] [] 29 ?_,λN _=>rk Tryz.f66 [.cell 2 32] [] 13 ?_,λN _=>rk Tryz.f71 [.cell 2 35] [320] 7 ?_⟩<;>(rintro _ hw r hr C _ rfl hwf hf;have hse:=@Zw _ hw;simp only[Tryz.f171,Tryz.f95,Tryz.f152,Tryz.f289,Tryz.f166,Tryz.f273,Tryz.f157,Tryz.f92,Tryz.f309,Tryz.f281,Tryz.f163,Tryz.f66,Tryz.f71,Option.get!];(first|rw[Qgd]at hr|rw[QcG]at hr|rw[Qcq]at hr|rw[Qc5]at hr|rw[Qf2]at hr|rw[Qhc]at hr|rw[Qe0]at hr|rw[Qdb]at hr|rw[Qhd]at hr|rw[Qa6]at hr|rw[QgO]at hr|rw[QfZ]at hr|rw[QhE]at hr);repeat' first
 |(refine El.el hr ?_;clear hr;intro hr)
 |(with_reducible intro h;refine XB hr h ?_;clear hr;intro hr)
 |with_reducible intro _
 |simp only[go_sem,simprocAttr,hse,Wj,Wl,WA]
 |(with_reducible first|apply Xi|apply Xh|apply Xs|apply Xq|apply Xr)
 |(refine Xt ?_ ?_;.first|assumption|omega)
 |(with_reducible first|refine CallX.c ?_ _|refine OK.c hr hw ?_ (λy hr=>?_) _|refine IM hr hw ?_ (λy hr=>?_) _)
 |refine dc 171 3 hf 8 [(0,1022,[[],[896,1088]]),(0,921,[[],[1088]]),(2,921,[[],[1088]]),(0,903,[[],[1088]]),(8,903,[[],[1088]]),(30,897,[[],[1088]]),(62,897,[[896],[1088]]),(0,127,[[],[896]]),(128,127,[[],[896]]),(384,127,[[1088],[896]]),(1023,0,[]),(2047,0,[[128],[]]),(4095,0,[])] ?_
 |refine dc 66 1 hf 3 [(0,216,[]),(1,216,[]),(3,216,[[320],[]]),(0,199,[[],[320]]),(8,199,[[],[320]]),(31,192,[[512],[]]),(0,63,[[],[320,512]]),(64,63,[[],[320,512]]),(255,0,[[704],[]]),(511,0,[]),(1023,0,[[128],[]])] ?_
 |(refine Xn hr ?_;rintro rfl;with_reducible refine XP ?_)
 |exact Yw hr
 |rw[Uj ah]
 |omega
 |rw[Uj (by simp only[WQ,W4,Wl];omega)]
 |fail)
abbrev Qpu:=g7.1
abbrev QoA:=g7.2.1
abbrev Qms:=g7.2.2.1
abbrev QoB:=g7.2.2.2.1
abbrev Qnq:=g7.2.2.2.2.1
abbrev Qmt:=g7.2.2.2.2.2.1
abbrev Qjx:=g7.2.2.2.2.2.2.1
abbrev Qmu:=g7.2.2.2.2.2.2.2.1
abbrev QoC:=g7.2.2.2.2.2.2.2.2.1
abbrev QhT:=g7.2.2.2.2.2.2.2.2.2.1
abbrev Qnr:=g7.2.2.2.2.2.2.2.2.2.2.1
abbrev Qlr:=g7.2.2.2.2.2.2.2.2.2.2.2.1
abbrev Qns:=g7.2.2.2.2.2.2.2.2.2.2.2.2
attribute [instance] Qpu QoA Qms QoB Qnq Qmt Qjx Qmu QoC QhT Qnr Qlr Qns
end Go.Sx
