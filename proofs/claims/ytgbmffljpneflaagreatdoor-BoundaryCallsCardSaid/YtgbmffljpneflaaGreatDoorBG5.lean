import Derived.Test.YtgbmffljpneflaaGreatDoorBG2
import Derived.Test.YtgbmffljpneflaaGreatDoorBG3
set_option linter.all false
namespace Go.Sx
open Go.Proofs
set_option maxRecDepth 10000
set_option maxHeartbeats 100000000
def g13:(∀N a0,OK (QfF N a0) 38 [.agg (e23 a0)] [] (λr=>.tup [.agg (e38 r.1),vi r.2]) λr=>[])/\(∀N a0 a1,OK (Qgp N a0 a1) 161 [.agg (e27 a0),vu a1] [] (λr=>vi r) λr=>[])/\(∀N a0 a1,OK (Qc6 N a0 a1) 289 [.agg (JC a0),vi a1] [] (λr=>.tup [.agg (JC r.1),vu r.2.1,.v (.bool r.2.2)]) λr=>[])/\(∀N a0,OK (Qc8 N a0) 97 [vu a0] [] (λr=>.tup [.agg (XiL r.1),vi r.2]) λr=>[])/\(∀N a0 a1 a2,OK (Qhh N a0 a1 a2) 177 [.agg (e32 a0),vi a1,.v (.bool a2)] [] (λr=>.tup [.agg (e32 r.1),vi r.2]) λr=>[])/\(∀N a0 a1 a2 a3,OK (Qgt N a0 a1 a2 a3) 119 [.agg (e43 a0),vi a1,vu a2,vu a3] [] (λr=>.tup [.agg (e43 r.1),vu r.2]) λr=>[])/\(∀N a0,OK (QbA N a0) 267 [.agg (ZS a0)] [] (λr=>vi r) λr=>[])/\(∀N a0 a1,OK (QcG N a0 a1) 219 [.agg (ZS a0),vi a1] [] (λr=>.v (.bool r)) λr=>[])/\(∀N a0,OK (QaQ N a0) 127 [s74 a0,.clo (.func 128) [] []] [] (λr=>.v (.bool r)) λr=>[])/\(∀N a0 a1 a2,OK (Qeq N a0 a1 a2) 330 [Yj a0,vi a1,vi a2] [] (λr=>.tup [.fsl 114 4 (r.1.map XU),vi r.2]) λr=>[])/\(∀N a0,OK (Qd3 N a0) 222 [vu a0] [] (λr=>.tup [.agg (XiL r.1),vi r.2]) λr=>[])/\(∀N a0 a1 a2,OK (QfQ N a0 a1 a2) 234 [.agg (e27 a0),vu a1,vi a2] [] (λr=>.agg (e27 r)) λr=>[]):=by
 refine⟨λN _=>rk Tryz.f38 ?_,λN _ _=>rk Tryz.f161 ?_,λN _ _=>rk Tryz.f289 ?_,λN _=>rk Tryz.f97 ?_,λN _ _ _=>rk Tryz.f177 ?_,λN _ _ _ _=>rk Tryz.f119 ?_,λN _=>rk Tryz.f267 ?_,λN _ _=>rk Tryz.f219 ?_,λN _=>rk Tryz.f127 ?_,λN _ _ _=>rq Tryz.f330 [1152] ?_,λN _=>rk Tryz.f222 ?_,λN _ _ _=>rk Tryz.f234 ?_⟩<;>(rintro _ hw r hr C _ rfl hwf hf;have hgw:=hw.1;have hse:=@Za _ hw;simp only[Tryz.f38,Tryz.f161,Tryz.f289,Tryz.f97,Tryz.f177,Tryz.f119,Tryz.f267,Tryz.f219,Tryz.f127,Tryz.f330,Tryz.f222,Tryz.f234,Option.get!];(first|rw[QfF]at hr|rw[Qgp]at hr|rw[Qc6]at hr|rw[Qc8]at hr|rw[Qhh]at hr|rw[Qgt]at hr|rw[QbA]at hr|rw[QcG]at hr|rw[QaQ]at hr|rw[Qeq]at hr|rw[Qd3]at hr|rw[QfQ]at hr);repeat' first
 |(refine El.el hr ?_;clear hr;intro hr)
 |(with_reducible intro h;refine Xx hr h ?_;clear hr;intro hr)
 |with_reducible intro _
 |simp only[go_sem,simprocAttr,XtK,hl3,Xz,Xk,KU,hgw,hse,Wl,Wn,Wz]
 |(with_reducible first|apply Xi|apply Xh|apply Xs|apply Xq|apply Xr)
 |((first|with_reducible refine Yo hr ag ?_ ?_|(with_reducible refine Ye hr ?_ ?_;rotate_left;intro p;rotate_right));(·simp only[go_sem,simprocAttr,hgw,hse,Wl,Wn,Wz]);intro hp hn hd hr;(try have hl3:=hd _ e3);(try simp only[go_sem,simprocAttr]at hl3);(try have Xz:=hd _ e39);(try simp only[go_sem,simprocAttr]at Xz);(try have Xk:=hd _ XU);(try simp only[go_sem,simprocAttr]at Xk);(try have KU:=hd _ Xec);(try simp only[go_sem,simprocAttr]at KU))
 |(refine Xt ?_ ?_;.first|assumption|omega)
 |(with_reducible refine XcK hr ?_ ?_;(·simp only[go_sem]);intro p hp hn hd hr;(try have hl3:=hd _ e3);(try simp only[go_sem,simprocAttr]at hl3);(try have Xz:=hd _ e39);(try simp only[go_sem,simprocAttr]at Xz);(try have Xk:=hd _ XU);(try simp only[go_sem,simprocAttr]at Xk);(try have KU:=hd _ Xec);(try simp only[go_sem,simprocAttr]at KU))
 |(with_reducible first|refine CallX.c ?_ _|refine OK.c hr hw ?_ (λy hr=>?_) _|refine IK hr hw ?_ (λy hr=>?_) _)
 |with_reducible refine OH 6 ?_ _
 |with_reducible refine LoopU.s 1000 ?_ _
 |refine dc 289 4 hf 23 [(0,0,[]),(1,0,[]),(3,0,[]),(7,250360,[]),(15,250360,[]),(31,250360,[]),(7,249959,[]),(71,249959,[]),(7,249887,[]),(263,249887,[]),(967,249863,[]),(1991,249863,[]),(4095,249856,[]),(8191,249856,[]),(16383,249856,[]),(7,249855,[]),(65535,245760,[]),(7,16383,[]),(131079,16383,[]),(393223,16383,[]),(917511,16383,[]),(2097151,0,[]),(4194303,0,[])] ?_
 |refine dc 289 11 hf 78 [(0,16286,[]),(0,16257,[]),(2,16257,[]),(6,16257,[]),(14,16257,[]),(31,16256,[]),(63,16256,[]),(0,1151,[]),(128,1151,[]),(384,1151,[]),(0,1023,[]),(1920,127,[]),(3968,127,[]),(8064,127,[]),(16383,0,[]),(32767,0,[]),(65535,0,[])] ?_
 |refine dc 289 12 hf 94 [(0,8184,[]),(1,8184,[]),(3,8184,[]),(0,8183,[]),(0,2191,[]),(16,2191,[]),(48,2191,[]),(0,2175,[]),(240,2063,[]),(496,2063,[]),(1008,2063,[]),(0,2047,[]),(4080,15,[]),(8191,0,[]),(16383,0,[]),(32767,0,[[640,4160],[]])] ?_
 |refine dc 177 7 hf 34 [(0,2038,[[2176],[2816]]),(0,2033,[[],[2176,2816]]),(2,2033,[[],[2176,2816]]),(7,2032,[[2176],[2816]]),(0,399,[[],[2176]]),(16,399,[[],[2176]]),(48,399,[[],[2176]]),(0,383,[[],[2176]]),(0,255,[[],[2176]]),(496,15,[[],[2176]]),(1008,15,[[2816],[2176]]),(2047,0,[[2176],[]]),(4095,0,[]),(8191,0,[[192],[]])] ?_
 |refine dc 119 6 hf 37 [(0,500,[]),(1,500,[]),(0,499,[]),(7,496,[]),(0,207,[]),(16,207,[]),(0,63,[]),(64,63,[]),(240,15,[]),(511,0,[[896],[]]),(1023,0,[]),(2047,0,[[256],[]])] ?_
 |refine dc 119 10 hf 60 [(0,126,[]),(0,9,[[],[512]]),(2,9,[[],[512]]),(0,7,[[],[512]]),(14,1,[[],[512]]),(30,1,[[],[512]]),(62,1,[[],[512]]),(1,126,[[512],[]]),(255,0,[])] ?_
 |refine dc 222 6 hf 6 [(0,33423361,[[],[384]]),(1,33423361,[[],[384]]),(3,33423361,[[],[384]]),(7,33423361,[[],[384]]),(0,31580161,[[],[384]]),(16,31580161,[[],[384]]),(48,31580161,[[],[384]]),(112,31580161,[[],[384]]),(0,2088961,[[],[384]]),(256,2088961,[[],[384]]),(768,2088961,[[],[384]]),(1792,2088961,[[],[384]]),(4095,1,[[],[384]]),(0,67100672,[[384],[]]),(16383,0,[[384],[]])] ?_
 |refine dc 234 2 hf 18 [(0,24,[]),(1,24,[]),(3,24,[[1280],[]]),(0,7,[[],[1280]]),(8,7,[[],[1280]]),(31,64,[[1472],[]]),(31,32,[[],[1472]]),(127,0,[[192],[]]),(255,0,[]),(511,0,[[192],[]])] ?_
 |(refine Xn hr ?_;rintro rfl;with_reducible refine XK ?_)
 |exact Yr hr
 |with_reducible refine Xl6 (λhi=>?_) (λhi=>?_)
 |(exfalso;omega)
 |fail)
abbrev QqU:=g13.1
abbrev Qp0:=g13.2.1
abbrev QoM:=g13.2.2.1
abbrev QnK:=g13.2.2.2.1
abbrev Qp1:=g13.2.2.2.2.1
abbrev Qp2:=g13.2.2.2.2.2.1
abbrev QoN:=g13.2.2.2.2.2.2.1
abbrev Qlw:=g13.2.2.2.2.2.2.2.1
abbrev Qfu:=g13.2.2.2.2.2.2.2.2.1
abbrev Qp3:=g13.2.2.2.2.2.2.2.2.2.1
abbrev QmB:=g13.2.2.2.2.2.2.2.2.2.2.1
abbrev Qp4:=g13.2.2.2.2.2.2.2.2.2.2.2
attribute [instance] QqU Qp0 QoM QnK Qp1 Qp2 QoN Qlw Qfu Qp3 QmB Qp4
def g14:(∀N a0 a1,OK (Qbs N a0 a1) 169 [s39 a0,vu a1] [] (λr=>.tup [vu r.1,vi r.2]) λr=>[])/\(∀N a0 a1,OK (Qes N a0 a1) 86 [.agg (e32 a0),vu a1] [] (λr=>.tup [.agg (e32 r.1),vi r.2.1,vi r.2.2.1,vi r.2.2.2]) λr=>[])/\(∀N a0 a1 a2 a3,OK (Qgq N a0 a1 a2 a3) 290 [s39 a0,vu a1,vu a2,vi a3] [] (λr=>.tup [s39 r.1,vi r.2]) λr=>[])/\(∀N a0 a1 a2,OK (Qe7 N a0 a1 a2) 170 [.agg (e32 a0),vi a1,vi a2] [] (λr=>.tup [vu r.1,vi r.2]) λr=>[])/\(∀N a0,OK (QfJ N a0) 101 [.agg (e32 a0)] [] (λr=>.tup [.agg (e32 r.1),vi r.2]) λr=>[])/\(∀N a0 a1,OK (Qg4 N a0 a1) 6 [.agg (e38 a0),.ept 1000000 0 2 0 0] [.arr true 49 2 [[s3 a1.L,vi a1.at_]] 0] (λr=>.agg (e38 r.1)) λr=>[.arr true 49 2 [[s3 r.2.L,vi r.2.at_]] 0])/\(∀N a0,OK (QeH N a0) 310 [vu a0] [] (λr=>.tup [.agg (ZS r.1),.v (.bool r.2)]) λr=>[])/\(∀N a0 a1,OK (QeJ N a0 a1) 201 [s76 a0,vu a1] [] (λr=>vi r) λr=>[])/\(∀N a0,OK (Qhk N a0) 50 [s24 a0] [] (λr=>s39 r) λr=>[])/\(∀N a0,OK (QfC N a0) 362 [vu a0] [] (λr=>.tup [vu r.1,.v (.bool r.2)]) λr=>[])/\(∀N a0 a1 a2,OK (QhC N a0 a1 a2) 273 [s39 a0,vu a1,vu a2] [] (λr=>.tup [s39 r.1,vi r.2]) λr=>[])/\(∀N a0 a1,OK (Qib N a0 a1) 11 [.agg (e38 a0),.agg (e38 a1)] [] (λr=>.v (.bool r)) λr=>[]):=by
 refine⟨λN _ _=>rk Tryz.f169 ?_,λN _ _=>rk Tryz.f86 ?_,λN _ _ _ _=>rk Tryz.f290 ?_,λN _ _ _=>rk Tryz.f170 ?_,λN _=>rk Tryz.f101 ?_,λN _ _=>rk Tryz.f6 ?_,λN _=>rk Tryz.f310 ?_,λN _ _=>rk Tryz.f201 ?_,λN _=>rk Tryz.f50 ?_,λN _=>rk Tryz.f362 ?_,λN _ _ _=>rk Tryz.f273 ?_,λN _ _=>rk Tryz.f11 ?_⟩<;>(rintro _ hw r hr C _ rfl hwf hf;have hse:=@Za _ hw;simp only[Tryz.f169,Tryz.f86,Tryz.f290,Tryz.f170,Tryz.f101,Tryz.f6,Tryz.f310,Tryz.f201,Tryz.f50,Tryz.f362,Tryz.f273,Tryz.f11,Option.get!];(first|rw[Qbs]at hr|rw[Qes]at hr|rw[Qgq]at hr|rw[Qe7]at hr|rw[QfJ]at hr|rw[Qg4]at hr|rw[QeH]at hr|rw[QeJ]at hr|rw[Qhk]at hr|rw[QfC]at hr|rw[QhC]at hr|rw[Qib]at hr);repeat' first
 |(refine El.el hr ?_;clear hr;intro hr)
 |(with_reducible intro h;refine Xx hr h ?_;clear hr;intro hr)
 |with_reducible intro _
 |simp only[go_sem,simprocAttr,hl3,Xz,YL,Kj,hse]
 |(with_reducible first|apply Xi|apply Xh|apply Xs|apply Xq|apply Xr)
 |((first|with_reducible refine Yo hr ag ?_ ?_|(with_reducible refine Ye hr ?_ ?_;rotate_left;intro p;rotate_right));(·simp only[go_sem,simprocAttr,hse]);intro hp hn hd hr;(try have hl3:=hd _ e3);(try simp only[go_sem,simprocAttr]at hl3);(try have Xz:=hd _ e39);(try simp only[go_sem,simprocAttr]at Xz);(try have YL:=hd _ e72);(try simp only[go_sem,simprocAttr]at YL);(try have Kj:=hd _ e78);(try simp only[go_sem,simprocAttr]at Kj))
 |(refine Xt ?_ ?_;.first|assumption|omega)
 |(with_reducible refine XcK hr ?_ ?_;(·simp only[go_sem]);intro p hp hn hd hr;(try have hl3:=hd _ e3);(try simp only[go_sem,simprocAttr]at hl3);(try have Xz:=hd _ e39);(try simp only[go_sem,simprocAttr]at Xz);(try have YL:=hd _ e72);(try simp only[go_sem,simprocAttr]at YL);(try have Kj:=hd _ e78);(try simp only[go_sem,simprocAttr]at Kj))
 |(with_reducible first|refine CallX.c ?_ _|refine OK.c hr hw ?_ (λy hr=>?_) _|refine IK hr hw ?_ (λy hr=>?_) _)
 |refine dc 86 6 hf 25 [(0,522238,[]),(0,522009,[]),(2,522009,[]),(0,521991,[]),(8,521991,[]),(30,521985,[]),(62,521985,[]),(126,521985,[]),(0,520447,[]),(256,520447,[]),(768,520447,[]),(2047,520192,[]),(0,53247,[]),(4096,53247,[]),(0,16383,[]),(16384,16383,[]),(61440,4095,[]),(126976,4095,[]),(258048,4095,[]),(524287,0,[])] ?_
 |refine dc 86 10 hf 9 [(0,527765581332480,[]),(1,527765581332480,[]),(3,527765581332480,[]),(0,30786325577729,[]),(8,30786325577729,[]),(24,30786325577729,[]),(56,30786325577729,[]),(7,527765581332480,[]),(255,0,[])] ?_
 |refine dc 6 11 hf 46 [(0,3640,[[],[1000000]]),(1,3640,[[],[1000000]]),(3,3640,[[],[1000000]]),(0,535,[]),(0,527,[]),(24,519,[[1000000],[]]),(63,3584,[[],[1000000]]),(127,3584,[[],[1000000]]),(255,3584,[[],[1000000]]),(0,511,[[],[1000000]]),(568,455,[[1000000],[]]),(1592,455,[]),(4095,0,[]),(8191,0,[]),(16383,0,[]),(32767,0,[[2496],[]])] ?_
 |refine dc 310 4 hf 6 [(0,267386881,[[],[384]]),(1,267386881,[[],[384]]),(3,267386881,[[],[384]]),(7,267386881,[[],[384]]),(0,252641281,[[],[384]]),(16,252641281,[[],[384]]),(48,252641281,[[],[384]]),(112,252641281,[[],[384]]),(0,16711681,[[],[384]]),(256,16711681,[[],[384]]),(768,16711681,[[],[384]]),(1792,16711681,[[],[384]]),(4095,1,[[],[384]]),(0,536805376,[[384],[]]),(16383,0,[[384],[]])] ?_
 |(refine Xn hr ?_;rintro rfl;with_reducible refine XK ?_)
 |exact Yr hr
 |fail)
abbrev Qp5:=g14.1
abbrev QqV:=g14.2.1
abbrev Qp6:=g14.2.2.1
abbrev QqW:=g14.2.2.2.1
abbrev QqX:=g14.2.2.2.2.1
abbrev QqY:=g14.2.2.2.2.2.1
abbrev QmC:=g14.2.2.2.2.2.2.1
abbrev QmD:=g14.2.2.2.2.2.2.2.1
abbrev Qp7:=g14.2.2.2.2.2.2.2.2.1
abbrev QmE:=g14.2.2.2.2.2.2.2.2.2.1
abbrev QoO:=g14.2.2.2.2.2.2.2.2.2.2.1
abbrev Qp8:=g14.2.2.2.2.2.2.2.2.2.2.2
attribute [instance] Qp5 QqV Qp6 QqW QqX QqY QmC QmD Qp7 QmE QoO Qp8
end Go.Sx
