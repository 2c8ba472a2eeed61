import Derived.Test.YtmpbhfnjjaocoaaGreatCG3
import Derived.Test.YtmpbhfnjjaocoaaGreatCG4
import Derived.Test.YtmpbhfnjjaocoaaGreatCG5
set_option linter.all false
namespace Go.Sx
open Go.Proofs
set_option maxRecDepth 10000
set_option maxHeartbeats 100000000
def g14:(∀N a0,OK (Qco N a0) 221 [vu a0] [] (λr=>.tup [.agg (e51 r.1),.v (.bool r.2)]) λr=>[])/\(∀N a0 a1 a2 a3,OK (Qfx N a0 a1 a2 a3) 223 [s58 a0,vu a1,vu a2,vi a3] [] (λr=>.tup [s58 r.1,vi r.2]) λr=>[])/\(∀N a0 a1,OK (Qek N a0 a1) 247 [.agg (e32 a0),vu a1] [] (λr=>.tup [.agg (e32 r.1),vi r.2.1,vi r.2.2.1,vi r.2.2.2]) λr=>[])/\(∀N a0 a1 a2,OK (Qcy N a0 a1 a2) 259 [.agg (e35 a0),vi a1,vi a2] [] (λr=>.tup [.agg (e35 r.1),vi r.2]) λr=>[])/\(∀N a0 a1 a2,OK (QeG N a0 a1 a2) 187 [.agg (e65 a0),vi a1,vu a2] [] (λr=>.tup [.agg (e65 r.1),vu r.2]) λr=>[])/\(∀N a0 a1,OK (QgT N a0 a1) 15 [.agg (e38 a0),.ept 1000000 0 2 0 0] [.arr true 54 2 [[s3 a1.L,vi a1.at_]] 0] (λr=>.agg (e38 r.1)) λr=>[.arr true 54 2 [[s3 r.2.L,vi r.2.at_]] 0])/\(∀N a0,OK (Qgo N a0) 54 [s24 a0] [] (λr=>s58 r) λr=>[])/\(∀N a0,OK (QdW N a0) 210 [vu a0] [] (λr=>.tup [.agg (e51 r.1),.v (.bool r.2)]) λr=>[])/\(∀N a0 a1,OK (QfP N a0 a1) 193 [s84 a0,vu a1] [] (λr=>vi r) λr=>[])/\(∀N a0 a1,OK (Qeb N a0 a1) 128 [.agg (XeW a0),vi a1] [] (λr=>.v (.bool r)) λr=>[])/\(∀N a0,OK (QlZ N a0) 38 [.agg (e23 a0)] [] (λr=>.tup [.agg (e38 r.1),vi r.2]) λr=>[]):=by
 refine⟨λN _=>rk Tryz.f221 [.cell 2 51,.tmp 3] [] 33 ?_,λN _ _ _ _=>rk Tryz.f223 [.tmp 8,.tmp 9] [] 28 ?_,λN _ _=>rk Tryz.f247 [.cell 4 32,.tmp 5,.tmp 6,.tmp 7] [] 79 ?_,λN _ _ _=>rk Tryz.f259 [.cell 6 35,.tmp 7] [] 26 ?_,λN _ _ _=>rk Tryz.f187 [.cell 6 65,.tmp 7] [] 46 ?_,λN _ _=>rk Tryz.f15 [.cell 4 38] [] 129 ?_,λN _=>rk Tryz.f54 [.tmp 2] [] 5 ?_,λN _=>rk Tryz.f210 [.cell 2 51,.tmp 3] [] 40 ?_,λN _ _=>rk Tryz.f193 [.tmp 4] [] 8 ?_,λN _ _=>rk Tryz.f128 [.tmp 4] [] 9 ?_,λN _=>rk Tryz.f38 [.cell 2 38,.tmp 3] [] 17 ?_⟩<;>(rintro _ hw r hr C _ rfl hwf hf;have hse:=@Zx _ hw;simp only[Tryz.f221,Tryz.f223,Tryz.f247,Tryz.f259,Tryz.f187,Tryz.f15,Tryz.f54,Tryz.f210,Tryz.f193,Tryz.f128,Tryz.f38,Option.get!];(first|rw[Qco]at hr|rw[Qfx]at hr|rw[Qek]at hr|rw[Qcy]at hr|rw[QeG]at hr|rw[QgT]at hr|rw[Qgo]at hr|rw[QdW]at hr|rw[QfP]at hr|rw[Qeb]at hr|rw[QlZ]at hr);repeat' first
 |(refine El.el hr ?_;clear hr;intro hr)
 |(with_reducible intro h;refine Xz hr h ?_;clear hr;intro hr)
 |with_reducible intro _
 |simp only[go_sem,simprocAttr,Xu,XU,YD,Xj,hse]
 |(with_reducible first|apply Xi|apply Xh|apply Xq|apply Xs|apply Xt)
 |((first|with_reducible refine Yo hr ag ?_ ?_|(with_reducible refine Yk hr ?_ ?_;rotate_left;intro p;rotate_right));(·simp only[go_sem,simprocAttr,hse]);intro hp hn hd hr;(try have Xu:=hd _ e58);(try simp only[go_sem,simprocAttr]at Xu);(try have XU:=hd _ ZN);(try simp only[go_sem,simprocAttr]at XU);(try have YD:=hd _ K2);(try simp only[go_sem,simprocAttr]at YD);(try have Xj:=hd _ XQ);(try simp only[go_sem,simprocAttr]at Xj))
 |(refine Xr ?_ ?_;.first|assumption|omega)
 |(with_reducible refine Xdj hr ?_ ?_;(·simp only[go_sem]);intro p hp hn hd hr;(try have Xu:=hd _ e58);(try simp only[go_sem,simprocAttr]at Xu);(try have XU:=hd _ ZN);(try simp only[go_sem,simprocAttr]at XU);(try have YD:=hd _ K2);(try simp only[go_sem,simprocAttr]at YD);(try have Xj:=hd _ XQ);(try simp only[go_sem,simprocAttr]at Xj))
 |(refine CallX.inl (f:=207) 1600 (fn:=Tryz.f207) (rs:=[.tmp 4]) (nt:=45) 1000 ac (λx=>?_) _;simp only[Tryz.f207,Option.get!])
 |(refine CallX.inl (f:=209) 2400 (fn:=Tryz.f209) (rs:=[.tmp 2]) (nt:=9) 1000 ac (λx=>?_) _;simp only[Tryz.f209,Option.get!])
 |(with_reducible first|refine CallX.c ?_ _|refine OK.c hr hw ?_ (λy hr=>?_) _|refine IO hr hw ?_ (λy hr=>?_) _)
 |refine dc 247 6 hf 25 [(0,522238,[]),(0,522009,[]),(2,522009,[]),(0,521991,[]),(8,521991,[]),(30,521985,[]),(62,521985,[]),(126,521985,[]),(0,520447,[]),(256,520447,[]),(768,520447,[]),(2047,520192,[]),(0,53247,[]),(4096,53247,[]),(0,16383,[]),(16384,16383,[]),(61440,4095,[]),(126976,4095,[]),(258048,4095,[]),(524287,0,[])] ?_
 |refine dc 247 10 hf 9 [(0,527765581332480,[]),(1,527765581332480,[]),(3,527765581332480,[]),(0,30786325577729,[]),(8,30786325577729,[]),(24,30786325577729,[]),(56,30786325577729,[]),(7,527765581332480,[]),(255,0,[])] ?_
 |refine dc 15 11 hf 46 [(0,3640,[[],[1000000]]),(1,3640,[[],[1000000]]),(3,3640,[[],[1000000]]),(0,535,[]),(0,527,[]),(24,519,[[1000000],[]]),(63,3584,[[],[1000000]]),(127,3584,[[],[1000000]]),(255,3584,[[],[1000000]]),(0,511,[[],[1000000]]),(568,455,[[1000000],[]]),(1592,455,[]),(4095,0,[]),(8191,0,[]),(16383,0,[]),(32767,0,[[2496],[]])] ?_
 |refine dc 210 4 hf 6 [(0,267386881,[[],[384]]),(1,267386881,[[],[384]]),(3,267386881,[[],[384]]),(7,267386881,[[],[384]]),(0,252641281,[[],[384]]),(16,252641281,[[],[384]]),(48,252641281,[[],[384]]),(112,252641281,[[],[384]]),(0,16711681,[[],[384]]),(256,16711681,[[],[384]]),(768,16711681,[[],[384]]),(1792,16711681,[[],[384]]),(4095,1,[[],[384]]),(0,536805376,[[384],[]]),(16383,0,[[384],[]])] ?_
 |refine db 207 4 ⟨⟩ 30 [(0,0,[]),(1,0,[]),(3,0,[]),(7,0,[]),(15,12,[]),(31,12,[]),(15,3,[]),(79,3,[]),(255,0,[]),(511,0,[]),(1023,0,[]),(2047,2048,[]),(4095,2048,[]),(8191,2048,[]),(16383,2048,[]),(2047,1920,[]),(65535,0,[]),(131071,0,[]),(262143,0,[]),(524287,0,[])] rfl rfl ac ?_ _
 |(refine Xn hr ?_;rintro rfl;with_reducible refine XN ?_)
 |exact Yv hr
 |(with_reducible apply XbK;(·simp only[go_sem,simprocAttr,Xu,XU,YD,Xj,hse];repeat' first|rfl|refine⟨?_,?_⟩);(·simp only[Zt,snap,go_sem,simprocAttr,Xu,XU,YD,Xj,hse];repeat' first|rfl|refine⟨?_,?_⟩);(·simp only[go_sem,simprocAttr,Xu,XU,YD,Xj,hse];first|done|omega|(simp;omega)))
 |fail)
abbrev Qmq:=g14.1
abbrev QoB:=g14.2.1
abbrev Qps:=g14.2.2.1
abbrev Qmr:=g14.2.2.2.1
abbrev Qln:=g14.2.2.2.2.1
abbrev Qpt:=g14.2.2.2.2.2.1
abbrev QoC:=g14.2.2.2.2.2.2.1
abbrev Qlo:=g14.2.2.2.2.2.2.2.1
abbrev Qlp:=g14.2.2.2.2.2.2.2.2.1
abbrev QiL:=g14.2.2.2.2.2.2.2.2.2.1
abbrev QpY:=g14.2.2.2.2.2.2.2.2.2.2
attribute [instance] Qmq QoB Qps Qmr Qln Qpt QoC Qlo Qlp QiL QpY
def g12:(∀N a0,OK (QeL N a0) 101 [.agg (e23 a0)] [] (λr=>.tup [.agg (e38 r.1),vi r.2]) λr=>[])/\(∀N a0 a1,OK (Qfw N a0 a1) 140 [.agg (e27 a0),vu a1] [] (λr=>vi r) λr=>[])/\(∀N a0 a1 a2,OK (Qdu N a0 a1 a2) 225 [s58 a0,vu a1,vu a2] [] (λr=>.tup [s58 r.1,vi r.2]) λr=>[])/\(∀N a0,OK (Qcx N a0) 257 [vu a0] [] (λr=>.tup [.agg (XoL r.1),vi r.2]) λr=>[])/\(∀N a0 a1 a2,OK (Qgn N a0 a1 a2) 271 [.agg (e32 a0),vi a1,.v (.bool a2)] [] (λr=>.tup [.agg (e32 r.1),vi r.2]) λr=>[])/\(∀N a0 a1 a2 a3,OK (QfB N a0 a1 a2 a3) 191 [.agg (e65 a0),vi a1,vu a2,vu a3] [] (λr=>.tup [.agg (e65 r.1),vu r.2]) λr=>[])/\(∀N a0,OK (QaC N a0) 115 [K1 a0,.clo (.func 116) [] []] [] (λr=>.v (.bool r)) λr=>[])/\(∀N a0 a1,OK (QeV N a0 a1) 88 [.agg (e23 a0),vi a1] [] (λr=>vi r) λr=>[])/\(∀N a0 a1,OK (Qgq N a0 a1) 216 [s58 a0,vu a1] [] (λr=>.tup [vu r.1,vi r.2]) λr=>[])/\(∀N a0,OK (QeJ N a0) 206 [vu a0] [] (λr=>.tup [vu r.1,.v (.bool r.2)]) λr=>[])/\(∀N a0,OK (Qg8 N a0) 21 [.agg (e38 a0)] [] (λr=>.agg [vi r.h.c.W,vi r.h.c.p,s58 r.h.w,Ye r.h.p,vi r.h.s,vi r.h.b,Xbp r.l.S,Xbq r.l.x,s3 r.l.i,K1 r.g.e,K1 r.v.e,.fsl 84 2 (r.P.map e84),.fsl 58 1 (r.R.map e58)]) λr=>[]):=by
 refine⟨λN _=>rk Tryz.f101 [.cell 2 38,.tmp 3] [] 14 ?_,λN _ _=>rk Tryz.f140 [.tmp 4] [] 17 ?_,λN _ _ _=>rk Tryz.f225 [.tmp 6,.tmp 7] [] 15 ?_,λN _=>rk Tryz.f257 [.cell 2 338,.tmp 3] [] 35 ?_,λN _ _ _=>rk Tryz.f271 [.cell 6 32,.tmp 7] [] 48 ?_,λN _ _ _ _=>rk Tryz.f191 [.cell 8 65,.tmp 9] [] 77 ?_,λN _=>rk Tryz.f115 [.tmp 4] [] 9 ?_,λN _ _=>rk Tryz.f88 [.tmp 4] [] 33 ?_,λN _ _=>rk Tryz.f216 [.tmp 4,.tmp 5] [] 21 ?_,λN _=>rk Tryz.f206 [.tmp 2,.tmp 3] [] 23 ?_,λN _=>rk Tryz.f21 [.cell 2 38] [1088,1280] 22 ?_⟩<;>(rintro _ hw r hr C _ rfl hwf hf;have hse:=@Zx _ hw;simp only[Tryz.f101,Tryz.f140,Tryz.f225,Tryz.f257,Tryz.f271,Tryz.f191,Tryz.f115,Tryz.f88,Tryz.f216,Tryz.f206,Tryz.f21,Option.get!];(first|rw[QeL]at hr|rw[Qfw]at hr|rw[Qdu]at hr|rw[Qcx]at hr|rw[Qgn]at hr|rw[QfB]at hr|rw[QaC]at hr|rw[QeV]at hr|rw[Qgq]at hr|rw[QeJ]at hr|rw[Qg8]at hr);repeat' first
 |(refine El.el hr ?_;clear hr;intro hr)
 |(with_reducible intro h;refine Xz hr h ?_;clear hr;intro hr)
 |with_reducible intro _
 |simp only[go_sem,simprocAttr,Xu,Ku,hse,Wj,Wk,Wz]
 |(with_reducible first|apply Xi|apply Xh|apply Xq|apply Xs|apply Xt)
 |((first|with_reducible refine Yo hr ag ?_ ?_|(with_reducible refine Yk hr ?_ ?_;rotate_left;intro p;rotate_right));(·simp only[go_sem,simprocAttr,hse,Wj,Wk,Wz]);intro hp hn hd hr;(try have Xu:=hd _ e58);(try simp only[go_sem,simprocAttr]at Xu);(try have Ku:=hd _ Xdi);(try simp only[go_sem,simprocAttr]at Ku))
 |(refine Xr ?_ ?_;.first|assumption|omega)
 |(with_reducible refine Xdj hr ?_ ?_;(·simp only[go_sem]);intro p hp hn hd hr;(try have Xu:=hd _ e58);(try simp only[go_sem,simprocAttr]at Xu);(try have Ku:=hd _ Xdi);(try simp only[go_sem,simprocAttr]at Ku))
 |(with_reducible first|refine CallX.c ?_ _|refine OK.c hr hw ?_ (λy hr=>?_) _|refine IO hr hw ?_ (λy hr=>?_) _)
 |refine dc 271 7 hf 34 [(0,2038,[[2176],[2816]]),(0,2033,[[],[2176,2816]]),(2,2033,[[],[2176,2816]]),(7,2032,[[2176],[2816]]),(0,399,[[],[2176]]),(16,399,[[],[2176]]),(48,399,[[],[2176]]),(0,383,[[],[2176]]),(0,255,[[],[2176]]),(496,15,[[],[2176]]),(1008,15,[[2816],[2176]]),(2047,0,[[2176],[]]),(4095,0,[]),(8191,0,[[192],[]])] ?_
 |refine dc 191 6 hf 37 [(0,500,[]),(1,500,[]),(0,499,[]),(7,496,[]),(0,207,[]),(16,207,[]),(0,63,[]),(64,63,[]),(240,15,[]),(511,0,[[896],[]]),(1023,0,[]),(2047,0,[[256],[]])] ?_
 |refine dc 191 10 hf 60 [(0,126,[]),(0,9,[[],[512]]),(2,9,[[],[512]]),(0,7,[[],[512]]),(14,1,[[],[512]]),(30,1,[[],[512]]),(62,1,[[],[512]]),(1,126,[[512],[]]),(255,0,[])] ?_
 |refine dc 21 1 hf 3 [(0,112344,[]),(1,112344,[]),(3,112344,[]),(0,112327,[]),(8,112327,[]),(31,112320,[]),(0,112191,[]),(64,112191,[]),(255,112128,[]),(0,111103,[]),(512,111103,[]),(2047,110592,[]),(0,102399,[]),(4096,102399,[]),(16383,98304,[[1088],[]]),(0,32767,[[],[1088]]),(32768,32767,[[],[1088]]),(131071,0,[[1280],[]]),(262143,0,[]),(524287,0,[[128],[]])] ?_
 |(refine Xn hr ?_;rintro rfl;with_reducible refine XN ?_)
 |exact Yv hr
 |with_reducible refine XoX (λhi=>?_) (λhi=>?_)
 |(exfalso;omega)
 |fail)
abbrev Qpu:=g12.1
abbrev QoD:=g12.2.1
abbrev Qnr:=g12.2.2.1
abbrev Qms:=g12.2.2.2.1
abbrev QoE:=g12.2.2.2.2.1
abbrev QoF:=g12.2.2.2.2.2.1
abbrev QeD:=g12.2.2.2.2.2.2.1
abbrev Qpv:=g12.2.2.2.2.2.2.2.1
abbrev QoG:=g12.2.2.2.2.2.2.2.2.1
abbrev Qlq:=g12.2.2.2.2.2.2.2.2.2.1
abbrev QoH:=g12.2.2.2.2.2.2.2.2.2.2
attribute [instance] Qpu QoD Qnr Qms QoE QoF QeD Qpv QoG Qlq QoH
end Go.Sx
