import Derived.Test.YtgbmffljpneflaaGreatDoorSG0
import Derived.Test.YtgbmffljpneflaaGreatDoorSG1
import Derived.Test.YtgbmffljpneflaaGreatDoorSG2
set_option linter.all false
namespace Go.Sx
open Go.Proofs
set_option maxRecDepth 10000
set_option maxHeartbeats 100000000
def g6:(∀N a0 a1,OK (QbX N a0 a1) 19 [.agg (e45 a0),.ept 1000000 0 2 0 0] [.arr true 49 2 [[s3 a1.L,vi a1.at_]] 0] (λr=>vu r.1) λr=>[.arr true 49 2 [[s3 r.2.L,vi r.2.at_]] 0])/\(∀N a0,OK (QgV N a0) 39 [.agg (e23 a0)] [] (λr=>.tup [.agg (e43 r.1),vi r.2]) λr=>[])/\(∀N a0 a1,OK (QgG N a0 a1) 243 [s39 a0,vu a1] [] (λr=>.tup [vi r.1,vi r.2]) λr=>[])/\(∀N a0 a1 a2,OK (Qbv N a0 a1 a2) 317 [.agg (e23 a0),vi a1,vi a2] [] (λr=>.tup [vu r.1,vi r.2]) λr=>[])/\(∀N a0 a1,OK (Qdq N a0 a1) 251 [.agg (Jo a0),vi a1] [] (λr=>.v (.bool r)) λr=>[])/\(∀N a0,OK (Qbd N a0) 96 [.agg (Xh9 a0)] [] (λr=>.tup [vu r.1,vi r.2]) λr=>[])/\(∀N a0,OK (QfE N a0) 301 [.agg (e23 a0)] [] (λr=>vi r) λr=>[])/\(∀N a0 a1,OK (Qb2 N a0 a1) 202 [.agg (e23 a0),vu a1] [] (λr=>.tup [vi r.1,vi r.2.1,vi r.2.2]) λr=>[])/\(∀N a0 a1 a2,OK (QhT N a0 a1 a2) 325 [s39 a0,vu a1,vi a2] [] (λr=>.tup [.fsl 39 1 (r.1.map e39),vi r.2]) λr=>[])/\(∀N a0,OK (QgL N a0) 52 [.agg (e27 a0)] [] (λr=>.agg (e27 r)) λr=>[])/\(∀N a0,OK (QdB N a0) 225 [.agg (e32 a0)] [] (λr=>.agg [.fsl 72 3 (r.S.map e72),.fsl 78 3 (r.x.map e78),.fsl 3 1 (r.i.map e3)]) λr=>[])/\(∀N a0 a1 a2,OK (Qe8 N a0 a1 a2) 274 [.agg (e27 a0),s39 a1,vi a2] [] (λr=>.tup [.agg (e27 r.1),vi r.2]) λr=>[])/\(∀N a0 a1,OK (Qbj N a0 a1) 368 [s3 a0,vi a1] [] (λr=>.v (.bool r)) λr=>[]):=by
 refine⟨λN _ _=>rk Tryz.f19 ?_,λN _=>rk Tryz.f39 ?_,λN _ _=>rk Tryz.f243 ?_,λN _ _ _=>rk Tryz.f317 ?_,λN _ _=>rk Tryz.f251 ?_,λN _=>rk Tryz.f96 ?_,λN _=>rk Tryz.f301 ?_,λN _ _=>rk Tryz.f202 ?_,λN _ _ _=>rq Tryz.f325 [1728] ?_,λN _=>rk Tryz.f52 ?_,λN _=>rq Tryz.f225 [320,512,704] ?_,λN _ _ _=>rk Tryz.f274 ?_,λN _ _=>rk Tryz.f368 ?_⟩<;>(rintro _ hw r hr C _ rfl hwf hf;have hse:=@Zn _ hw;simp only[Tryz.f19,Tryz.f39,Tryz.f243,Tryz.f317,Tryz.f251,Tryz.f96,Tryz.f301,Tryz.f202,Tryz.f325,Tryz.f52,Tryz.f225,Tryz.f274,Tryz.f368,Option.get!];(first|rw[QbX]at hr|rw[QgV]at hr|rw[QgG]at hr|rw[Qbv]at hr|rw[Qdq]at hr|rw[Qbd]at hr|rw[QfE]at hr|rw[Qb2]at hr|rw[QhT]at hr|rw[QgL]at hr|rw[QdB]at hr|rw[Qe8]at hr|rw[Qbj]at hr);repeat' first
 |(refine El.el hr ?_;clear hr;intro hr)
 |(with_reducible intro h;refine Xv hr h ?_;clear hr;intro hr)
 |with_reducible intro _
 |simp only[go_sem,simprocAttr,Xw,Xk,hse,Wj,Wl,Ww]
 |(with_reducible first|apply Xi|apply Xh|apply Xo|apply Xr|apply Xs)
 |((first|with_reducible refine Yn hr ag ?_ ?_|(with_reducible refine Yj hr ?_ ?_;rotate_left;intro p;rotate_right));(·simp only[go_sem,simprocAttr,hse,Wj,Wl,Ww]);intro hp hn hd hr;(try have Xw:=hd _ e39);(try simp only[go_sem,simprocAttr]at Xw);(try have Xk:=hd _ XW);(try simp only[go_sem,simprocAttr]at Xk))
 |(refine Xp ?_ ?_;.first|assumption|omega)
 |(with_reducible first|refine CallX.c ?_ _|refine OK.c hr hw ?_ (λy hr=>?_) _|refine IK hr hw ?_ (λy hr=>?_) _)
 |refine dc 19 6 hf 20 [(0,924,[[],[1000000]]),(1,924,[[],[1000000]]),(0,139,[]),(0,135,[]),(12,131,[[1000000],[]]),(31,896,[[],[1000000]]),(63,896,[[],[1000000]]),(0,127,[[],[1000000]]),(156,99,[[1000000],[]]),(412,99,[]),(1023,0,[]),(2047,0,[])] ?_
 |refine dc 19 10 hf 35 [(0,28,[[],[1000000]]),(1,28,[[],[1000000]]),(0,11,[]),(0,7,[]),(12,3,[[1000000],[]]),(31,0,[]),(63,0,[]),(127,0,[])] ?_
 |refine dc 19 11 hf 42 [(0,508,[[],[1000000]]),(1,508,[[],[1000000]]),(0,243,[[],[1000000]]),(4,243,[[],[1000000]]),(0,111,[]),(0,31,[]),(32,31,[]),(112,15,[[1000000],[]]),(252,3,[]),(511,0,[]),(1023,0,[]),(2047,0,[])] ?_
 |refine dc 202 6 hf 4 [(0,8254390272,[]),(0,8086618112,[]),(2,8086618112,[]),(7,8053063680,[]),(0,3724541953,[]),(0,1040187393,[]),(32,1040187393,[]),(112,503316481,[]),(15,8053063680,[]),(511,0,[]),(1023,0,[])] ?_
 |refine dc 52 1 hf 3 [(0,24,[]),(1,24,[]),(3,24,[[320],[]]),(0,7,[[],[320]]),(8,7,[[],[320]]),(31,64,[[512],[]]),(31,32,[[],[512]]),(127,0,[[64],[]]),(255,0,[]),(511,0,[[64],[]])] ?_
 |refine dc 225 1 hf 3 [(0,216,[]),(1,216,[]),(3,216,[[320],[]]),(0,199,[[],[320]]),(8,199,[[],[320]]),(31,192,[[512],[]]),(0,63,[[],[320,512]]),(64,63,[[],[320,512]]),(255,0,[[704],[]]),(511,0,[]),(1023,0,[[128],[]])] ?_
 |(refine Xm hr ?_;rintro rfl;with_reducible refine XI ?_)
 |exact Ym hr
 |fail)
abbrev Qk7:=g6.1
abbrev Qqy:=g6.2.1
abbrev Qol:=g6.2.2.1
abbrev Qmh:=g6.2.2.2.1
abbrev Qk8:=g6.2.2.2.2.1
abbrev Qnl:=g6.2.2.2.2.2.1
abbrev Qkq:=g6.2.2.2.2.2.2.1
abbrev Qrc:=g6.2.2.2.2.2.2.2.1
abbrev QpC:=g6.2.2.2.2.2.2.2.2.1
abbrev Qom:=g6.2.2.2.2.2.2.2.2.2.1
abbrev Qon:=g6.2.2.2.2.2.2.2.2.2.2.1
abbrev Qk9:=g6.2.2.2.2.2.2.2.2.2.2.2.1
abbrev Qiy:=g6.2.2.2.2.2.2.2.2.2.2.2.2
attribute [instance] Qk7 Qqy Qol Qmh Qk8 Qnl Qkq Qrc QpC Qom Qon Qk9 Qiy
def g7:(∀N a0,OK (Qg7 N a0) 37 [.ept 1000000 0 2 0 0] [.arr true 49 2 [[s3 a0.L,vi a0.at_]] 0] (λr=>.agg (e23 r.1)) λr=>[.arr true 49 2 [[s3 r.2.L,vi r.2.at_]] 0])/\(∀N a0,OK (QdZ N a0) 239 [.agg (e23 a0)] [] (λr=>vi r) λr=>[])/\(∀N a0 a1,OK (Qc8 N a0 a1) 238 [.agg (e23 a0),vu a1] [] (λr=>.tup [vi r.1,vi r.2.1,vi r.2.2]) λr=>[])/\(∀N a0 a1,OK (Qcf N a0 a1) 168 [.agg (ZM a0),vi a1] [] (λr=>.v (.bool r)) λr=>[])/\(∀N a0 a1 a2,OK (QbJ N a0 a1 a2) 285 [Ya a0,vi a1,vi a2] [] (λr=>.tup [.fsl 114 4 (r.1.map XW),vi r.2]) λr=>[])/\(∀N a0 a1 a2,OK (Qel N a0 a1 a2) 171 [.agg (e35 a0),vi a1,vi a2] [] (λr=>.tup [vu r.1,vi r.2]) λr=>[])/\(∀N a0 a1,OK (Qd6 N a0 a1) 322 [.agg (Xg3 a0),.agg (e23 a1)] [] (λr=>.v (.bool r)) λr=>[])/\(∀N a0 a1,OK (Qih N a0 a1) 311 [s39 a0,vu a1] [] (λr=>.tup [vi r.1,vi r.2]) λr=>[])/\(∀N a0 a1,OK (QgQ N a0 a1) 211 [vu a0,vu a1] [] (λr=>.v (.bool r)) λr=>[])/\(∀N a0,OK (Qfs N a0) 53 [.agg (e32 a0)] [] (λr=>.agg (e32 r)) λr=>[])/\(∀N a0 a1 a2,OK (QhH N a0 a1 a2) 351 [Ya a0,vi a1,Ya a2] [] (λr=>.tup [.fsl 114 4 (r.1.map XW),vi r.2]) λr=>[])/\(∀N a0 a1 a2,OK (QgM N a0 a1 a2) 312 [s39 a0,vu a1,s39 a2] [] (λr=>.tup [s39 r.1,vi r.2]) λr=>[])/\(∀N a0,OK (Qe3 N a0) 228 [.agg (e35 a0)] [] (λr=>.agg [.fsl 74 3 (r.e.map e74)]) λr=>[]):=by
 refine⟨λN _=>rk Tryz.f37 ?_,λN _=>rk Tryz.f239 ?_,λN _ _=>rk Tryz.f238 ?_,λN _ _=>rk Tryz.f168 ?_,λN _ _ _=>rq Tryz.f285 [1216] ?_,λN _ _ _=>rk Tryz.f171 ?_,λN _ _=>rk Tryz.f322 ?_,λN _ _=>rk Tryz.f311 ?_,λN _ _=>rk Tryz.f211 ?_,λN _=>rk Tryz.f53 ?_,λN _ _ _=>rq Tryz.f351 [1920] ?_,λN _ _ _=>rk Tryz.f312 ?_,λN _=>rq Tryz.f228 [320] ?_⟩<;>(rintro _ hw r hr C _ rfl hwf hf;have hse:=@Zn _ hw;simp only[Tryz.f37,Tryz.f239,Tryz.f238,Tryz.f168,Tryz.f285,Tryz.f171,Tryz.f322,Tryz.f311,Tryz.f211,Tryz.f53,Tryz.f351,Tryz.f312,Tryz.f228,Option.get!];(first|rw[Qg7]at hr|rw[QdZ]at hr|rw[Qc8]at hr|rw[Qcf]at hr|rw[QbJ]at hr|rw[Qel]at hr|rw[Qd6]at hr|rw[Qih]at hr|rw[QgQ]at hr|rw[Qfs]at hr|rw[QhH]at hr|rw[QgM]at hr|rw[Qe3]at hr);repeat' first
 |(refine El.el hr ?_;clear hr;intro hr)
 |(with_reducible intro h;refine Xv hr h ?_;clear hr;intro hr)
 |with_reducible intro _
 |simp only[go_sem,simprocAttr,hl3,YJ,hse,Wj,Wl,Ww]
 |(with_reducible first|apply Xi|apply Xh|apply Xo|apply Xr|apply Xs)
 |((first|with_reducible refine Yn hr ag ?_ ?_|(with_reducible refine Yj hr ?_ ?_;rotate_left;intro p;rotate_right));(·simp only[go_sem,simprocAttr,hse,Wj,Wl,Ww]);intro hp hn hd hr;(try have hl3:=hd _ e3);(try simp only[go_sem,simprocAttr]at hl3);(try have YJ:=hd _ e74);(try simp only[go_sem,simprocAttr]at YJ))
 |(refine Xp ?_ ?_;.first|assumption|omega)
 |(with_reducible first|refine CallX.c ?_ _|refine OK.c hr hw ?_ (λy hr=>?_) _|refine IK hr hw ?_ (λy hr=>?_) _)
 |refine dc 37 1 hf 3 [(0,998,[[192],[512,1000000]]),(0,97,[[],[192,512]]),(2,97,[[1000000],[192,512]]),(7,992,[[],[512,1000000]]),(15,992,[[],[512,1000000]]),(0,223,[[512],[192,1000000]]),(0,63,[[],[192,512,1000000]]),(70,57,[[1000000],[192,512]]),(230,25,[[],[192]]),(486,25,[[],[192]]),(1023,0,[]),(2047,0,[[128],[]])] ?_
 |refine dc 238 6 hf 4 [(0,2063597568,[]),(0,2021654528,[]),(2,2021654528,[]),(7,2013265920,[]),(0,931135489,[]),(0,260046849,[]),(32,260046849,[]),(112,125829121,[]),(15,2013265920,[]),(511,0,[]),(1023,0,[])] ?_
 |refine dc 53 1 hf 3 [(0,216,[]),(1,216,[]),(3,216,[[320],[]]),(0,199,[[],[320]]),(8,199,[[],[320]]),(31,192,[[512],[]]),(0,63,[[],[320,512]]),(64,63,[[],[320,512]]),(255,0,[[704],[]]),(511,0,[]),(1023,0,[[128],[]])] ?_
 |(refine Xm hr ?_;rintro rfl;with_reducible refine XI ?_)
 |exact Ym hr
 |rw[Ur ah]
 |omega
 |rw[Ur (by simp only[WO,Ug,Wl];omega)]
 |fail)
abbrev Qla:=g7.1
abbrev QjS:=g7.2.1
abbrev Qq7:=g7.2.2.1
abbrev Qmi:=g7.2.2.2.1
abbrev Qoo:=g7.2.2.2.2.1
abbrev Qqz:=g7.2.2.2.2.2.1
abbrev QjT:=g7.2.2.2.2.2.2.1
abbrev Qop:=g7.2.2.2.2.2.2.2.1
abbrev Qkr:=g7.2.2.2.2.2.2.2.2.1
abbrev Qmj:=g7.2.2.2.2.2.2.2.2.2.1
abbrev QqA:=g7.2.2.2.2.2.2.2.2.2.2.1
abbrev Qoq:=g7.2.2.2.2.2.2.2.2.2.2.2.1
abbrev Qor:=g7.2.2.2.2.2.2.2.2.2.2.2.2
attribute [instance] Qla QjS Qq7 Qmi Qoo Qqz QjT Qop Qkr Qmj QqA Qoq Qor
end Go.Sx
